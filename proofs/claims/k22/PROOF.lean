import PyProof.Rows.All
import Wide.All
import OpenK.AllK
import Wide.FinOn
import HandS.ForMost
import HandS.Exc
import HandS.Lambda
import KE.KDictKeyed
import HandS.List
import HandS.TupAny
import HandS.TupMul
import HandS.Conv
import KE.DataCmp
import HandS.Deep
import HandS.Style
import HandS.IsInst
import HandS.NoneIn
import HandS.SortInts
import KE.KTupSum
import HandS.Dict
import HandS.RaiseMore
import KE.KDictPairs
import HandS.TupSets
import PyProof.CallFns
import KE.SortKeyHeap
import HandS.Flow
import HandS.CallSlots
import HandS.DictComp
import HandS.Iter
import KE.KDictWalk
import HandS.ExcInit
import HandS.ExcField
import KE.KExcSuper
import HandS.Star
import KE.KExcIs
import KE.GoesMore
import HandS.Zip
import HandS.TryMany
import HandS.HeadHook4
import HandS.HeadWalk
import HandS.HeadEnd
import HandS.Head2
import PySem.Challenge.RW_plainstore_k22_whole_walks_that_miss_or
section
set_option Elab.async false
set_option linter.all false
set_option maxRecDepth 100000
set_option maxHeartbeats 4000000
set_option autoImplicit false
namespace E2
open PySem L2

/-! ### values -/
inductive Ty where
  | non | bool | int | str | list | tuple | dict
  deriving DecidableEq
def Ty.name : Ty → String
  | .non => "NoneType" | .bool => "bool" | .int => "int" | .str => "str" | .list => "list" | .tuple => "tuple" | .dict => "dict"
inductive PV where
  | non | bl (b : Bool) | int (i : Int) | str (x : Str)
  | tup (xs : List PV) | pr (xs : List PV) | lst (xs : List PV) | dct (kvs : List (PV × PV)) | dtt (kvs : List (List Key × PV))
  | dts (ks : List PV)
  | obj (c : Nat) (fs : List (Str × PV))
  | ref (n : Nat)
  | fn (i : Nat)
  | scr (ns : List Int)
  | ty (t : Ty)
  | cls (c : Nat)
  | thk
  deriving Inhabited

/-! keys of any depth: ints, and tuples of such -/
mutual
def nk : PV → Option NestedKey
  | .int i => some (.num i)
  | .tup xs => (match nkL xs with
    | some ks => some (.tup ks)
    | none => none)
  | _ => none
def nkL : List PV → Option (List NestedKey)
  | [] => some []
  | x :: xs => (match nk x, nkL xs with
    | some k, some ks => some (k :: ks)
    | _, _ => none)
end
abbrev Store := List (Bool × PV)
abbrev Frame := List (Option PV)

inductive Res (α : Type) where
  | ok (a : α) (S : Store)
  | exc (c : Nat) (told : PV) (S : Store)
  | fail
namespace Res
@[inline] def bind {α β : Type} (r : Res α) (k : α → Store → Res β) : Res β :=
  match r with
  | .ok a S => k a S
  | .exc c t S => .exc c t S
  | .fail => .fail
end Res

/-! ### what stands still: the written part, the defs' addresses, the exception classes, the tables of code objects -/
structure Base where
  K : PySem.W.Frag
  fa : Nat → Option Addr
  ec : Nat → Option Addr
  ea : Nat → Str
  cl : Nat → Option Addr
  T : List (Addr × Str)

/-- m: what no value by value may stand on; f: what the thunk that was handed in is -/
structure Mx where
  m : Addr → Prop
  f : V → Prop
instance : CoeFun Mx (fun _ => Addr → Prop) := ⟨Mx.m⟩

def KL (K : PySem.W.Frag) (a : Addr) (xs : List V) : Prop := ∃ (o : Obj) (its : Array Value) (n : Nat), K.lookup a = some o ∧ o.cls = .type "list" ∧ o.dict = none ∧ o.data = .seq its n ∧ its.size ≤ sizeLine ∧ Vals xs its.toList

def KT (K : PySem.W.Frag) (a : Addr) (xs : List V) : Prop := ∃ (o : Obj) (its : Array Value) (n : Nat), K.lookup a = some o ∧ o.cls = .type "tuple" ∧ o.dict = none ∧ o.data = .seq its n ∧ its.size ≤ sizeLine ∧ Vals xs its.toList
/-- a tuple whose object is known to have no dict of its own -/
def TupAt (K : PySem.W.Frag) (H : Hp) (a : Addr) (xs : List V) : Prop := (∃ o : Obj, H a = some (.frz o (.tup xs)) ∧ o.dict = none) ∨ KT K a xs
theorem TupAt.sq {K : PySem.W.Frag} {H : Hp} {a : Addr} {xs : List V} (h : TupAt K H a xs) : SqT K H a xs := h.elim (fun ⟨o, z, _⟩ => .inl (.inr ⟨o, z⟩)) fun ⟨o, its, n, h1, h2, _, h4, h5, h6⟩ => .inr ⟨o, its, n, h1, h2, h4, h5, h6⟩

section
variable (B : Base) (μ : List Addr) (M : Mx) (H : Hp)
mutual
inductive Rp : PV → V → Prop
  | non : Rp .non .non
  | bl (b : Bool) : Rp (.bl b) (.bl b)
  | int (i : Int) : Rp (.int i) (.int i)
  | str (x : Str) : Rp (.str x) (.str x)
  | tup {a : Addr} {xs : List PV} {vs : List V} : TupAt B.K H a vs → RpL xs vs → Rp (.tup xs) (.ref a)
  | pr {a : Addr} {xs : List PV} {vs : List V} : H a = some (.tup vs) → RpL xs vs → Rp (.pr xs) (.ref a)
  | lst {a : Addr} {xs : List PV} {vs : List V} : H a = some (.lst vs) → ¬ M a → RpL xs vs → Rp (.lst xs) (.ref a)
  | dK {a : Addr} {kvs : List (PV × PV)} {qs : List (Key × V)} : Rd H a (.dK qs) → ¬ M a → RpK kvs qs → Rp (.dct kvs) (.ref a)
  | dT {a : Addr} {kvs : List (List Key × PV)} {qs : List (List Key × V)} : Rd H a (.dT qs) → ¬ M a → RpT kvs qs → Rp (.dtt kvs) (.ref a)
  | obj {a dx C : Addr} {c : Nat} {fs : List (Str × PV)} {gs : List (Str × V)} : B.cl c = some C → H a = some (.ins C dx gs) → ¬ M a → RpF fs gs → Rp (.obj c fs) (.ref a)
  | ref {n : Nat} {a : Addr} : μ[n]? = some a → Rp (.ref n) (.ref a)
  | fn {i : Nat} {a : Addr} : B.fa i = some a → Rp (.fn i) (.ref a)
  | ty (t : Ty) : Rp (.ty t) (.ty t.name)
  | cls {c : Nat} {C : Addr} : B.cl c = some C → Rp (.cls c) (.ref C)
  | scr {a : Addr} {ns : List Int} : (Rd H a (.lst (ns.map V.int)) ∧ ¬ M a) ∨ KL B.K a (ns.map V.int) → Rp (.scr ns) (.ref a)
inductive RpL : List PV → List V → Prop
  | nil : RpL [] []
  | cons {x : PV} {v : V} {xs : List PV} {vs : List V} : Rp x v → RpL xs vs → RpL (x :: xs) (v :: vs)
inductive RpK : List (PV × PV) → List (Key × V) → Prop
  | nil : RpK [] []
  | int {i : Int} {x : PV} {v : V} {xs : List (PV × PV)} {vs : List (Key × V)} : Rp x v → RpK xs vs → RpK ((.int i, x) :: xs) ((Sum.inl i, v) :: vs)
  | str {i : Str} {x : PV} {v : V} {xs : List (PV × PV)} {vs : List (Key × V)} : Rp x v → RpK xs vs → RpK ((.str i, x) :: xs) ((Sum.inr i, v) :: vs)
inductive RpT : List (List Key × PV) → List (List Key × V) → Prop
  | nil : RpT [] []
  | cons {k : List Key} {x : PV} {v : V} {xs : List (List Key × PV)} {vs : List (List Key × V)} : Rp x v → RpT xs vs → RpT ((k, x) :: xs) ((k, v) :: vs)
inductive RpF : List (Str × PV) → List (Str × V) → Prop
  | nil : RpF [] []
  | cons {f : Str} {x : PV} {v : V} {xs : List (Str × PV)} {vs : List (Str × V)} : Rp x v → RpF xs vs → RpF ((f, x) :: xs) ((f, v) :: vs)
end
end

def Mu (μ : List Addr) (S : Store) (a : Addr) : Prop := ∃ (n : Nat) (pv : PV), S[n]? = some (true, pv) ∧ μ[n]? = some a

/-- nothing stands there but, maybe, a table -/
def NoO (H : Hp) (b : Addr) : Prop := ∀ o, H b = some o → ∃ ps, o = .tbl ps
theorem NoO.of {H : Hp} {b : Addr} (h : H b = none) : NoO H b := fun o e => by rw [h] at e; cases e
structure Ex (μ : List Addr) (S : Store) (H : Hp) (μ' : List Addr) (S' : Store) (H' : Hp) : Prop where
  mu : ∃ r, μ' = μ ++ r
  keep : ∀ b o, H b = some o → ¬ Mu μ S b → (∀ ps, o ≠ .tbl ps) → H' b = some o
  fresh : ∀ b, Mu μ' S' b → Mu μ S b ∨ NoO H b
  newm : ∀ b, b ∈ μ' → b ∈ μ ∨ NoO H b

/-- what is fixed while a code runs: the lists that are being made; what is known of the state and stays so -/
structure Pv where
  p : Addr → Prop
  f : V → Prop
  A : List Addr → Store → Hp → Prop
  st : ∀ {μ : List Addr} {S : Store} {H : Hp} {μ' : List Addr} {S' : Store} {H' : Hp}, A μ S H → Ex μ S H μ' S' H' → A μ' S' H'
variable {P P' : Pv}
/-- what no value by value may stand on: the cells that are changed, and the lists that are being made -/
def Mz (P : Pv) (μ : List Addr) (S : Store) : Mx := ⟨fun a => Mu μ S a ∨ P.p a, P.f⟩
/-- a dict at a cell's address; it may be locked if the cell is no longer changed -/
def DkAt (m : Bool) (H : Hp) (a : Addr) (qs : List (Key × V)) : Prop := H a = some (.dK qs) ∨ (m = false ∧ ∃ o, H a = some (.frz o (.dK qs)))
def DtAt (m : Bool) (H : Hp) (a : Addr) (qs : List (List Key × V)) : Prop := H a = some (.dT qs) ∨ (m = false ∧ ∃ o, H a = some (.frz o (.dT qs)))
/-- the dict at a is o: its keys are nks, at bs, and all its values are True -/
structure DtO (a : Addr) (o : Obj) (nks : List NestedKey) (vs : List V) : Prop where
  no : (a == sysModules) = false
  len : nks.length ≤ sizeLine
  ex : o.ExactDict
  dep : ∀ k ∈ nks, k.depth ≤ 8
  nd : nks.Nodup
  es : ∃ es ep bs, o.data = .dict es ep ∧ vs = bs.map V.ref ∧ bs.length = nks.length ∧ ∀ w : World, es.toList = (nks.zip bs).map fun x => (⟨x.1.hash w, .ref x.2, .bool true⟩ : DictEntry)
abbrev IsO (a : Addr) (o : Obj) : HO := .ext fun h => h.get? a = some o
def isD (o : Obj) : Prop := ∃ es ep, o.data = .dict es ep
theorem DtO.isD {a : Addr} {o : Obj} {nks : List NestedKey} {vs : List V} (h : DtO a o nks vs) : isD o := let ⟨es, ep, _, e, _⟩ := h.es; ⟨es, ep, e⟩
theorem heap_long (o : Obj) : ∀ n : Nat, ∃ h : Heap, h.objs.size = n
  | 0 => ⟨{ objs := #[] }, rfl⟩
  | n + 1 => let ⟨h, e⟩ := heap_long o n; ⟨h.push o, by rw [Heap.size_push, e]⟩
theorem code_notO {c : Addr} {q : Str} {o : Obj} (d : isD o) : LamX.CodeO c q ≠ IsO c o := fun e => by
  obtain ⟨h, hs⟩ := heap_long o c
  obtain ⟨es, ep, z⟩ := d
  have e1 : (h.push o).get? c = some o := by rw [← hs]; exact Heap.get?_push_size _ (by cases o; simp only at z; subst z; rfl)
  unfold LamX.CodeO at e
  have e2 := congrFun (HO.ext.inj e) (h.push o)
  obtain ⟨oc, vs, t, h1, h2, h3⟩ := cast e2.symm e1
  rw [e1] at h1
  cases h1
  rw [h2] at z
  cases z
/-- what stands at a cell's address -/
def CellAt (B : Base) (m : Bool) (μ : List Addr) (M : Mx) (H : Hp) (a : Addr) : PV → Prop
  | .lst xs => ∃ vs, H a = some (.lst vs) ∧ RpL B μ M H xs vs
  | .dct kvs => ∃ qs, DkAt m H a qs ∧ RpK B μ M H kvs qs
  | .dtt kvs => ∃ qs, DtAt m H a qs ∧ RpT B μ M H kvs qs
  | .dts ks => ∃ o nks vs, H a = some (IsO a o) ∧ nkL ks = some nks ∧ DtO a o nks vs ∧ RpL B μ M H ks vs
  | .obj c fs => ∃ C dx gs, B.cl c = some C ∧ H a = some (.ins C dx gs) ∧ RpF B μ M H fs gs
  | _ => False

structure SR (B : Base) (P : Pv) (μ : List Addr) (S : Store) (H : Hp) : Prop where
  len : μ.length = S.length
  nd : μ.Nodup
  cell : ∀ (n : Nat) (m : Bool) (pv : PV) (a : Addr), S[n]? = some (m, pv) → μ[n]? = some a → CellAt B m μ (Mz P μ S) H a pv
  tabs : LamX.Tabs B.T H
  pd : ∀ a, P.p a → a ∉ μ
  pt : ∀ a, P.p a → (∃ vs, H a = some (.lst vs)) ∨ (∃ qs, H a = some (.dK qs)) ∨ ∃ o, H a = some (IsO a o) ∧ isD o
  anc : P.A μ S H

theorem Ex.refl {μ : List Addr} {S : Store} {H : Hp} : Ex μ S H μ S H := ⟨⟨[], by simp⟩, fun _ _ h _ _ => h, fun _ h => .inl h, fun _ h => .inl h⟩
theorem DkAt.rd {m : Bool} {H : Hp} {a : Addr} {qs : List (Key × V)} (h : DkAt m H a qs) : Rd H a (.dK qs) := h.imp id fun z => z.2
theorem DkAt.eq {m : Bool} {H H' : Hp} {a : Addr} {qs : List (Key × V)} (h : DkAt m H a qs) (k : H' a = H a) : DkAt m H' a qs := by
  unfold DkAt at *
  rw [k]
  exact h
theorem DkAt.ex {H : Hp} {a : Addr} {qs : List (Key × V)} (h : DkAt true H a qs) : H a = some (.dK qs) := h.elim id fun z => nomatch z.1
theorem DkAt.off {m : Bool} {H : Hp} {a : Addr} {qs : List (Key × V)} (h : DkAt m H a qs) : DkAt false H a qs := h.imp id fun z => ⟨rfl, z.2⟩
theorem DtAt.rd {m : Bool} {H : Hp} {a : Addr} {qs : List (List Key × V)} (h : DtAt m H a qs) : Rd H a (.dT qs) := h.imp id fun z => z.2
theorem DtAt.eq {m : Bool} {H H' : Hp} {a : Addr} {qs : List (List Key × V)} (h : DtAt m H a qs) (k : H' a = H a) : DtAt m H' a qs := by
  unfold DtAt at *
  rw [k]
  exact h
theorem DtAt.ex {H : Hp} {a : Addr} {qs : List (List Key × V)} (h : DtAt true H a qs) : H a = some (.dT qs) := h.elim id fun z => nomatch z.1
theorem DtAt.off {m : Bool} {H : Hp} {a : Addr} {qs : List (List Key × V)} (h : DtAt m H a qs) : DtAt false H a qs := h.imp id fun z => ⟨rfl, z.2⟩
theorem CellAt.there {B : Base} {m : Bool} {μ : List Addr} {M : Mx} {H : Hp} {a : Addr} {pv : PV} (h : CellAt B m μ M H a pv) : ∃ o, H a = some o ∧ ∀ ps, o ≠ .tbl ps := by
  cases pv with
  | lst xs => obtain ⟨vs, e, _⟩ := h; exact ⟨_, e, fun _ z => nomatch z⟩
  | dct kvs => obtain ⟨qs, e | ⟨_, o, e⟩, _⟩ := h <;> exact ⟨_, e, fun _ z => nomatch z⟩
  | dtt kvs => obtain ⟨qs, e | ⟨_, o, e⟩, _⟩ := h <;> exact ⟨_, e, fun _ z => nomatch z⟩
  | dts ks => obtain ⟨o, nks, vs, e, _⟩ := h; exact ⟨_, e, fun _ z => nomatch z⟩
  | obj c fs => obtain ⟨C, dx, gs, _, e, _⟩ := h; exact ⟨_, e, fun _ z => nomatch z⟩
  | _ => exact h.elim
theorem CellAt.off {B : Base} {m : Bool} {μ : List Addr} {M : Mx} {H : Hp} {a : Addr} {pv : PV} (h : CellAt B m μ M H a pv) : CellAt B false μ M H a pv := by
  cases pv with
  | dct kvs => obtain ⟨qs, e, l⟩ := h; exact ⟨qs, e.off, l⟩
  | dtt kvs => obtain ⟨qs, e, l⟩ := h; exact ⟨qs, e.off, l⟩
  | _ => exact h
theorem CellAt.tracked {B : Base} {μ : List Addr} {M : Mx} {H : Hp} {a : Addr} {pv : PV} (h : CellAt B true μ M H a pv) : (∃ vs, H a = some (.lst vs)) ∨ (∃ qs, H a = some (.dK qs)) ∨ (∃ C dx gs, H a = some (.ins C dx gs)) ∨ (∃ qs, H a = some (.dT qs)) ∨ ∃ o, H a = some (IsO a o) ∧ isD o := by
  cases pv with
  | lst xs => obtain ⟨vs, e, _⟩ := h; exact .inl ⟨vs, e⟩
  | dct kvs => obtain ⟨qs, e, _⟩ := h; exact .inr (.inl ⟨qs, e.ex⟩)
  | dtt kvs => obtain ⟨qs, e, _⟩ := h; exact .inr (.inr (.inr (.inl ⟨qs, e.ex⟩)))
  | dts ks => obtain ⟨o, _, _, e, _, d, _⟩ := h; exact .inr (.inr (.inr (.inr ⟨o, e, d.isD⟩)))
  | obj c fs => obtain ⟨C, dx, gs, _, e, _⟩ := h; exact .inr (.inr (.inl ⟨C, dx, gs, e⟩))
  | non => exact h.elim
  | bl b => exact h.elim
  | int i => exact h.elim
  | str x => exact h.elim
  | tup xs => exact h.elim
  | pr xs => exact h.elim
  | ref n => exact h.elim
  | fn i => exact h.elim
  | scr ns => exact h.elim
  | ty n => exact h.elim
  | cls c => exact h.elim
  | thk => exact h.elim
theorem SR.mut {B : Base} {μ : List Addr} {S : Store} {H : Hp} (sr : SR B P μ S H) {a : Addr} (h : Mu μ S a) : (∃ vs, H a = some (.lst vs)) ∨ (∃ qs, H a = some (.dK qs)) ∨ (∃ C dx gs, H a = some (.ins C dx gs)) ∨ (∃ qs, H a = some (.dT qs)) ∨ ∃ o, H a = some (IsO a o) ∧ isD o := by
  obtain ⟨n, pv, h1, h2⟩ := h
  exact (sr.cell n true pv a h1 h2).tracked
theorem SR.notTup {B : Base} {μ : List Addr} {S : Store} {H : Hp} (sr : SR B P μ S H) {a : Addr} {o : HO} (e : H a = some o) (h1 : ∀ vs, o ≠ .lst vs) (h2 : ∀ qs, o ≠ .dK qs) (h3 : ∀ C dx gs, o ≠ .ins C dx gs) (h4 : ∀ qs, o ≠ .dT qs) (h5 : ∀ o', isD o' → o ≠ IsO a o' := by intro _ _ z; cases z) : ¬ Mu μ S a := fun h => by
  rcases sr.mut h with ⟨vs, q⟩ | ⟨qs, q⟩ | ⟨C, dx, gs, q⟩ | ⟨qs, q⟩ | ⟨ob, q, dd⟩ <;> rw [e] at q <;> cases q
  · exact h1 _ rfl
  · exact h2 _ rfl
  · exact h3 _ _ _ rfl
  · exact h4 _ rfl
  · exact h5 _ dd rfl
theorem SR.notIn {B : Base} {μ : List Addr} {S : Store} {H : Hp} (sr : SR B P μ S H) {a : Addr} (e : H a = none) : a ∉ μ := fun h => by
  obtain ⟨n, hn, q⟩ := List.mem_iff_getElem.mp h
  have hn' : n < S.length := by rw [← sr.len]; exact hn
  have hc := sr.cell n (S[n]).1 (S[n]).2 a (by simp [hn']) (by rw [List.getElem?_eq_getElem hn, q])
  obtain ⟨o, q, _⟩ := hc.there
  rw [e] at q
  cases q
theorem Ex.trans {B : Base} {μ μ1 μ2 : List Addr} {S S1 S2 : Store} {H H1 H2 : Hp} (a : Ex μ S H μ1 S1 H1) (b : Ex μ1 S1 H1 μ2 S2 H2) : Ex μ S H μ2 S2 H2 := by
  have nm : ∀ b o, H b = some o → (∀ ps, o ≠ .tbl ps) → ¬ Mu μ S b → ¬ Mu μ1 S1 b := fun b o e t n z => (a.fresh b z).elim n (fun q => by obtain ⟨ps, r⟩ := q o e; exact t ps r)
  have back : ∀ c, NoO H1 c → Mu μ S c ∨ NoO H c := fun c h1 => by
    by_cases m : Mu μ S c
    · exact .inl m
    · refine .inr fun o q => ?_
      by_cases t : ∃ ps, o = .tbl ps
      · exact t
      · exact h1 o (a.keep c o q m (fun ps z => t ⟨ps, z⟩))
  refine ⟨?_, fun c o e n t => b.keep c o (a.keep c o e n t) (nm c o e t n) t, fun c h => ?_, fun c h => ?_⟩
  · obtain ⟨r, e1⟩ := a.mu; obtain ⟨r', e2⟩ := b.mu
    exact ⟨r ++ r', by rw [e2, e1, List.append_assoc]⟩
  · rcases b.fresh c h with h1 | h1
    · exact a.fresh c h1
    · exact back c h1
  · rcases b.newm c h with h1 | h1
    · exact a.newm c h1
    · exact (back c h1).imp (fun ⟨n, pv, _, q⟩ => List.mem_of_getElem? q) id

section
variable {B : Base} {μ μ' : List Addr} {S S' : Store} {H H' : Hp}
theorem Ex.rd (sr : SR B P μ S H) (x : Ex μ S H μ' S' H') {a : Addr} {u : HO} (h : Rd H a u) (n : ¬ Mu μ S a) (ht : ∀ ps, u ≠ .tbl ps) : Rd H' a u := by
  rcases h with h | ⟨o, h⟩
  · exact .inl (x.keep a u h n ht)
  · exact .inr ⟨o, x.keep a _ h n (fun ps z => nomatch z)⟩
theorem Ex.notM (x : Ex μ S H μ' S' H') {a : Addr} {o : HO} (h : H a = some o) (t : ∀ ps, o ≠ .tbl ps) (n : ¬ Mu μ S a) : ¬ Mu μ' S' a := fun z => (x.fresh a z).elim n (fun q => by obtain ⟨ps, r⟩ := q o h; exact t ps r)
theorem nMu {μ : List Addr} {S : Store} {a : Addr} (n : ¬ Mz P μ S a) : ¬ Mu μ S a := fun z => n (.inl z)
theorem Ex.notZ (x : Ex μ S H μ' S' H') (hp : ∀ a, P'.p a → P.p a ∨ H a = none) {a : Addr} {o : HO} (h : H a = some o) (t : ∀ ps, o ≠ .tbl ps) (n : ¬ Mz P μ S a) : ¬ Mz P' μ' S' a := fun z => z.elim (x.notM h t (nMu n)) (fun q => (hp a q).elim (fun r => n (.inr r)) (fun r => by rw [h] at r; cases r))
theorem Ex.notMR (x : Ex μ S H μ' S' H') (hp : ∀ a, P'.p a → P.p a ∨ H a = none) {a : Addr} {u : HO} (h : Rd H a u) (t : ∀ ps, u ≠ .tbl ps) (n : ¬ Mz P μ S a) : ¬ Mz P' μ' S' a := by
  rcases h with h | ⟨o, h⟩
  · exact x.notZ hp h t n
  · exact x.notZ hp h (fun ps z => nomatch z) n
theorem Ex.get (x : Ex μ S H μ' S' H') {n : Nat} {a : Addr} (h : μ[n]? = some a) : μ'[n]? = some a := by
  obtain ⟨r, e⟩ := x.mu
  rw [e]
  rw [List.getElem?_append_left (List.getElem?_eq_some_iff.mp h).1]
  exact h
theorem Ex.sqT (sr : SR B P μ S H) (x : Ex μ S H μ' S' H') {a : Addr} {vs : List V} (h : TupAt B.K H a vs) : TupAt B.K H' a vs := by
  rcases h with h | h
  · obtain ⟨o, h, d⟩ := h
    exact .inl ⟨o, x.keep a _ h (sr.notTup h (fun _ z => nomatch z) (fun _ z => nomatch z) (fun _ _ _ z => nomatch z) (fun _ z => nomatch z)) (fun ps z => nomatch z), d⟩
  · exact .inr h
mutual
theorem Rp.monoP (sr : SR B P μ S H) (x : Ex μ S H μ' S' H') (hp : ∀ a, P'.p a → P.p a ∨ H a = none) : ∀ {pv : PV} {v : V}, Rp B μ (Mz P μ S) H pv v → Rp B μ' (Mz P' μ' S') H' pv v
  | _, _, .non => .non
  | _, _, .bl b => .bl b
  | _, _, .int i => .int i
  | _, _, .str y => .str y
  | _, _, .tup h l => .tup (x.sqT sr h) (RpL.monoP sr x hp l)
  | _, _, .pr h l => .pr (x.keep _ _ h (sr.notTup h (fun _ z => nomatch z) (fun _ z => nomatch z) (fun _ _ _ z => nomatch z) (fun _ z => nomatch z)) (fun ps z => nomatch z)) (RpL.monoP sr x hp l)
  | _, _, .lst h n l => .lst (x.keep _ _ h (nMu n) (fun ps z => nomatch z)) (x.notZ hp h (fun ps z => nomatch z) n) (RpL.monoP sr x hp l)
  | _, _, .dK h n l => .dK (x.rd sr h (nMu n) (fun ps z => nomatch z)) (x.notMR hp h (fun ps z => nomatch z) n) (RpK.monoP sr x hp l)
  | _, _, .dT h n l => .dT (x.rd sr h (nMu n) (fun ps z => nomatch z)) (x.notMR hp h (fun ps z => nomatch z) n) (RpT.monoP sr x hp l)
  | _, _, .obj c h n l => .obj c (x.keep _ _ h (nMu n) (fun ps z => nomatch z)) (x.notZ hp h (fun ps z => nomatch z) n) (RpF.monoP sr x hp l)
  | _, _, .ref h => .ref (x.get h)
  | _, _, .fn h => .fn h
  | _, _, .ty n => .ty n
  | _, _, .cls h => .cls h
  | _, _, .scr h => .scr (h.elim (fun z => .inl ⟨x.rd sr z.1 (nMu z.2) (fun ps z => nomatch z), x.notMR hp z.1 (fun ps z => nomatch z) z.2⟩) .inr)
theorem RpL.monoP (sr : SR B P μ S H) (x : Ex μ S H μ' S' H') (hp : ∀ a, P'.p a → P.p a ∨ H a = none) : ∀ {pv : List PV} {v : List V}, RpL B μ (Mz P μ S) H pv v → RpL B μ' (Mz P' μ' S') H' pv v
  | _, _, .nil => .nil
  | _, _, .cons h t => .cons (Rp.monoP sr x hp h) (RpL.monoP sr x hp t)
theorem RpK.monoP (sr : SR B P μ S H) (x : Ex μ S H μ' S' H') (hp : ∀ a, P'.p a → P.p a ∨ H a = none) : ∀ {pv : List (PV × PV)} {v : List (Key × V)}, RpK B μ (Mz P μ S) H pv v → RpK B μ' (Mz P' μ' S') H' pv v
  | _, _, .nil => .nil
  | _, _, .int h t => .int (Rp.monoP sr x hp h) (RpK.monoP sr x hp t)
  | _, _, .str h t => .str (Rp.monoP sr x hp h) (RpK.monoP sr x hp t)
theorem RpT.monoP (sr : SR B P μ S H) (x : Ex μ S H μ' S' H') (hp : ∀ a, P'.p a → P.p a ∨ H a = none) : ∀ {pv : List (List Key × PV)} {v : List (List Key × V)}, RpT B μ (Mz P μ S) H pv v → RpT B μ' (Mz P' μ' S') H' pv v
  | _, _, .nil => .nil
  | _, _, .cons h t => .cons (Rp.monoP sr x hp h) (RpT.monoP sr x hp t)
theorem RpF.monoP (sr : SR B P μ S H) (x : Ex μ S H μ' S' H') (hp : ∀ a, P'.p a → P.p a ∨ H a = none) : ∀ {pv : List (Str × PV)} {v : List (Str × V)}, RpF B μ (Mz P μ S) H pv v → RpF B μ' (Mz P' μ' S') H' pv v
  | _, _, .nil => .nil
  | _, _, .cons h t => .cons (Rp.monoP sr x hp h) (RpF.monoP sr x hp t)
end
theorem Rp.mono (sr : SR B P μ S H) (x : Ex μ S H μ' S' H') {pv : PV} {v : V} (h : Rp B μ (Mz P μ S) H pv v) : Rp B μ' (Mz P μ' S') H' pv v := h.monoP sr x fun _ => .inl
theorem RpL.mono (sr : SR B P μ S H) (x : Ex μ S H μ' S' H') {pv : List PV} {v : List V} (h : RpL B μ (Mz P μ S) H pv v) : RpL B μ' (Mz P μ' S') H' pv v := h.monoP sr x fun _ => .inl
theorem RpT.mono (sr : SR B P μ S H) (x : Ex μ S H μ' S' H') {pv : List (List Key × PV)} {v : List (List Key × V)} (h : RpT B μ (Mz P μ S) H pv v) : RpT B μ' (Mz P μ' S') H' pv v := h.monoP sr x fun _ => .inl
theorem RpK.mono (sr : SR B P μ S H) (x : Ex μ S H μ' S' H') {pv : List (PV × PV)} {v : List (Key × V)} (h : RpK B μ (Mz P μ S) H pv v) : RpK B μ' (Mz P μ' S') H' pv v := h.monoP sr x fun _ => .inl
theorem RpF.mono (sr : SR B P μ S H) (x : Ex μ S H μ' S' H') {pv : List (Str × PV)} {v : List (Str × V)} (h : RpF B μ (Mz P μ S) H pv v) : RpF B μ' (Mz P μ' S') H' pv v := h.monoP sr x fun _ => .inl
end

/-- the def's names -/
def FR (B : Base) (μ : List Addr) (M : Mx) (H : Hp) (fr : Frame) (σ : St) : Prop := fr.length = σ.length ∧ ∀ (i : Nat) (pv : PV), fr[i]? = some (some pv) → ∃ v, σ[i]? = some (some v) ∧ (Rp B μ M H pv v ∨ (pv = .thk ∧ M.f v))
theorem FR.get {B : Base} {μ : List Addr} {M : Mx} {H : Hp} {fr : Frame} {σ : St} (h : FR B μ M H fr σ) {i : Nat} {pv : PV} (e : fr[i]? = some (some pv)) (n : pv ≠ .thk) : ∃ v, σ[i]? = some (some v) ∧ Rp B μ M H pv v :=
  let ⟨v, e1, e2⟩ := h.2 i pv e; ⟨v, e1, e2.elim id fun z => absurd z.1 n⟩
theorem FR.monoP {B : Base} {μ μ' : List Addr} {S S' : Store} {H H' : Hp} {fr : Frame} {σ : St} (sr : SR B P μ S H) (x : Ex μ S H μ' S' H') (hp : ∀ a, P'.p a → P.p a ∨ H a = none) (hf : P'.f = P.f) (h : FR B μ (Mz P μ S) H fr σ) : FR B μ' (Mz P' μ' S') H' fr σ :=
  ⟨h.1, fun i pv e => let ⟨v, e1, e2⟩ := h.2 i pv e; ⟨v, e1, e2.imp (fun r => r.monoP sr x hp) fun z => ⟨z.1, by show P'.f v; rw [hf]; exact z.2⟩⟩⟩
theorem FR.mono {B : Base} {μ μ' : List Addr} {S S' : Store} {H H' : Hp} {fr : Frame} {σ : St} (sr : SR B P μ S H) (x : Ex μ S H μ' S' H') (h : FR B μ (Mz P μ S) H fr σ) : FR B μ' (Mz P μ' S') H' fr σ := h.monoP sr x (fun _ => .inl) rfl

/-! ### where a computation goes -/
section
variable (B : Base) (P : Pv) {α β : Type} (Rel : List Addr → Mx → Hp → α → β → Prop) (W : WX) (σ : St)
def Go (r : Res α) (μ : List Addr) (S : Store) (H : Hp) (Q : β → Hp → Prop) : Prop :=
  match r with
  | .ok a S' => ∀ μ' H' b, Ex μ S H μ' S' H' → SR B P μ' S' H' → Rel μ' (Mz P μ' S') H' a b → Q b H'
  | .exc c told S' => ∀ μ' H' C dx v, Ex μ S H μ' S' H' → SR B P μ' S' H' → B.ec c = some C → H' dx = some (.xd [(B.ea c, v)]) → Rp B μ' (Mz P μ' S') H' told v → W (.ref C) (some dx) σ H'
  | .fail => False
end
section
variable {B : Base} {α β γ δ : Type} {Rel : List Addr → Mx → Hp → α → β → Prop} {Rel' : List Addr → Mx → Hp → γ → δ → Prop} {W : WX} {σ : St} {μ μ' : List Addr} {S S' : Store} {H H' : Hp}
theorem Go.imp {r : Res α} {Q Q' : β → Hp → Prop} (g : Go B P Rel W σ r μ S H Q) (h : ∀ b H', Q b H' → Q' b H') : Go B P Rel W σ r μ S H Q' := by
  cases r with
  | ok a S' => exact fun μ' H' b x s q => h b H' (g μ' H' b x s q)
  | exc c t S' => exact g
  | fail => exact g
theorem Go.after {r : Res α} {Q : β → Hp → Prop} (x : Ex μ S H μ' S' H') (g : Go B P Rel W σ r μ S H Q) : Go B P Rel W σ r μ' S' H' Q := by
  cases r with
  | ok a S' => exact fun μ2 H2 b x2 s q => g μ2 H2 b (x.trans (B := B) x2) s q
  | exc c t S' => exact fun μ2 H2 C dx v x2 s => g μ2 H2 C dx v (x.trans (B := B) x2) s
  | fail => exact g
theorem Go.bind {r : Res α} {k : α → Store → Res γ} {Q : δ → Hp → Prop} (g : Go B P Rel' W σ (r.bind k) μ S H Q) :
    Go B P Rel W σ r μ S H (fun b H1 => ∃ μ1 S1 a, Ex μ S H μ1 S1 H1 ∧ SR B P μ1 S1 H1 ∧ Rel μ1 (Mz P μ1 S1) H1 a b ∧ r = .ok a S1 ∧ Go B P Rel' W σ (k a S1) μ1 S1 H1 Q) := by
  cases r with
  | ok a S1 => exact fun μ1 H1 b x s q => ⟨μ1, S1, a, x, s, q, rfl, Go.after x g⟩
  | exc c t S' => exact g
  | fail => exact g
theorem Go.done {a : α} {b : β} {Q : β → Hp → Prop} (g : Go B P Rel W σ (.ok a S) μ S H Q) (s : SR B P μ S H) (q : Rel μ (Mz P μ S) H a b) : Q b H := g μ H b .refl s q
end

abbrev DE := Frame → Store → Res PV
abbrev DT := Frame → Store → Res Bool
abbrev DA := Frame → Store → Res (List PV)

def RelP (B : Base) : List Addr → Mx → Hp → PV → V → Prop := fun μ M H a b => Rp B μ M H a b
def RelL (B : Base) : List Addr → Mx → Hp → List PV → List V → Prop := fun μ M H a b => RpL B μ M H a b
def RelB : List Addr → Mx → Hp → Bool → Bool → Prop := fun _ _ _ a b => a = b

/-- the readings -/
def tD (B : Base) (P : Pv) {α β : Type} (Rel : List Addr → Mx → Hp → α → β → Prop) (W : WX) (d : Frame → Store → Res α) : St → Hp → (β → Hp → Prop) → Prop := fun σ H Q =>
  ∃ (fr : Frame) (μ : List Addr) (S : Store), FR B μ (Mz P μ S) H fr σ ∧ SR B P μ S H ∧ Go B P Rel W σ (d fr S) μ S H Q
abbrev tE (B : Base) (P : Pv) (W : WX) (d : DE) : TE := tD B P (RelP B) W d
abbrev tT (B : Base) (P : Pv) (W : WX) (d : DT) : TT := tD B P RelB W d
abbrev tA (B : Base) (P : Pv) (W : WX) (d : DA) : TA := tD B P (RelL B) W d
/-- whatever is fixed -/
def tEx (B : Base) (W : WX) (d : DE) : TE := fun σ H Q => ∃ P, tE B P W d σ H Q
def tTx (B : Base) (W : WX) (d : DT) : TT := fun σ H Q => ∃ P, tT B P W d σ H Q
theorem PE.ex {B : Base} {W : WX} {d : DE} {X : Cx} {e : Expr} (h : ∀ P, PE X e (tE B P W d)) : PE X e (tEx B W d) := ⟨fun pins s σ H Q I ⟨P, q⟩ => (h P).run pins s σ H Q I q⟩
theorem PT.ex {B : Base} {W : WX} {d : DT} {X : Cx} {e : Expr} (h : ∀ P, PT X e (tT B P W d)) : PT X e (tTx B W d) := ⟨fun pins s σ H Q I ⟨P, q⟩ => (h P).run pins s σ H Q I q⟩
theorem PE.imp {X : Cx} {e : Expr} {t t' : TE} (h : PE X e t) (i : ∀ σ H Q, t' σ H Q → t σ H Q) : PE X e t' := ⟨fun pins s σ H Q I q => h.run pins s σ H Q I (i σ H Q q)⟩
theorem PT.imp {X : Cx} {e : Expr} {t t' : TT} (h : PT X e t) (i : ∀ σ H Q, t' σ H Q → t σ H Q) : PT X e t' := ⟨fun pins s σ H Q I q => h.run pins s σ H Q I (i σ H Q q)⟩
theorem PA.imp {X : Cx} {e : List Expr} {t t' : TA} (h : PA X e t) (i : ∀ σ H Q, t' σ H Q → t σ H Q) : PA X e t' := ⟨fun pos pins s σ H Q I q => h.run pos pins s σ H Q I (i σ H Q q)⟩
end E2
end
section
set_option Elab.async false
set_option linter.all false
set_option maxRecDepth 100000
set_option maxHeartbeats 4000000
set_option autoImplicit false
/-! new tuples: their object is kept in mind, for it has no dict of its own -/
namespace E2
open PySem PySem.Spec PyProof.Rows L2
def NewT (H : Hp) (xs : List V) (Q : VK) : Prop := ∀ (p : Addr) (o : Obj), H p = none → o.dict = none → Q (.ref p) (upd H p (.frz o (.tup xs)))
variable {X : Cx}
/-- a tuple's object just laid -/
theorem laidT {pns : List (Addr × Obj)} {σ : L2.St} {H : Hp} {s : Shared} {h1 : Heap} {tk : Nat} {zs : List V} {us : List Value} {Q : VK} (J : Inv X pns σ H { s with heap := h1, toks := tk }) (rv : Vals zs us) (hz : zs.length ≤ sizeLine) (q : NewT H zs Q) :
    EP X pns σ Q (.ref h1.objs.size) { s with heap := h1.push { cls := .type "tuple", data := .seq us.toArray }, toks := tk } := by
  refine ⟨.ref h1.objs.size, upd H h1.objs.size (.frz { cls := .type "tuple", data := .seq us.toArray } (.tup zs)), J.laid (t' := tk) (h' := h1.push { cls := .type "tuple", data := .seq us.toArray }) (fun b u e => Heap.get?_push_of_some _ e) (Nat.le_refl _) ?_, rfl, q _ _ (J.hok.fresh (Nat.le_refl _)) rfl⟩
  exact ⟨Heap.get?_push_size _ rfl, hz, us, rv, IsTup.new _ _⟩
def tTupF (t : TA) : TE := fun σ H Q => t σ H fun zs H9 => zs.length ≤ sizeLine ∧ NewT H9 zs Q
theorem pe_tupF {es : List Expr} {t : TA} {x1 : Nat} {pos : Pos} (h : PA X es t) : PE X (.Tuple es x1 pos) (tTupF t) := by
  refine ⟨fun pns s σ H Q I hq => ?_⟩
  refine wpAny_Tuple_spliced (thn (h.run pos pns s σ H _ I hq) fun us sN ⟨zs, H9, J, r, z, q⟩ => ⟨by rw [← r.length]; exact z, ?_⟩)
  exact laidT (s := sN) (tk := sN.toks) J r z q
/-- t + u -/
def rCatF (K : PySem.W.Frag) : R2 := fun x y H Q => ∃ a b xs ys, x = .ref a ∧ y = .ref b ∧ SqT K H a xs ∧ SqT K H b ys ∧ xs.length + ys.length ≤ sizeLine ∧ (xs = [] → Q (.ref b) H) ∧ (xs ≠ [] → ys = [] → Q (.ref a) H) ∧ (xs ≠ [] → ys ≠ [] → NewT H (xs ++ ys) Q)
theorem op_catF : OpR X (binaryOp .Add) (rCatF X.K) := by
  rintro pns s σ H x y v u Q I rx ry ⟨a, b, xs, ys, rfl, rfl, ha, hb, hz, q0, q1, q2⟩
  cases rx
  cases ry
  obtain ⟨i1, r1, p1, _⟩ := I.tuple ha
  obtain ⟨i2, r2, p2, _⟩ := I.tuple hb
  by_cases hx : xs = []
  · subst hx
    cases r1
    exact cat_tup0 p1 p2 ⟨.ref b, H, I, rfl, q0 rfl⟩
  · refine HT.cat_tup p1 p2 (fun z => hx (r1.nil_iff.mp z)) (fun z => ⟨.ref a, H, I, rfl, q1 hx (r2.nil_iff.mp z)⟩) (fun z => ?_) (by rw [← r1.length, ← r2.length]; exact hz)
    exact laidT (s := s) (tk := s.toks) I (r1.append r2) (by rw [List.length_append]; exact hz) (q2 hx fun w => z (r2.nil_iff.mpr w))
/-- t[lo:hi] -/
def rSlF (K : PySem.W.Frag) : V → Option Int → Option Int → Hp → VK → Prop := fun x lo hi H Q => ∃ a xs, x = .ref a ∧ SqT K H a xs ∧ (HT.sIx xs.length 0 lo = 0 ∧ HT.sIx xs.length xs.length hi = xs.length → Q (.ref a) H) ∧
  (¬ (HT.sIx xs.length 0 lo = 0 ∧ HT.sIx xs.length xs.length hi = xs.length) → NewT H (cutV xs lo hi) Q)
theorem sl_tupF : SlR X (rSlF X.K) := by
  rintro pns s σ H x v vl vu lo hi sl Q I rx hs pl pu ⟨a, xs, rfl, hx, q1, q2⟩
  cases rx
  obtain ⟨is, r, ht, hz⟩ := I.tuple hx
  have hlen : is.toArray.size = xs.length := by rw [List.size_toArray]; exact r.length.symm
  refine ⟨"tuple", _, PyProof.Rows.slot_tuple_getitem.lookup, ht.typeIs, ?_⟩
  by_cases hw : HT.sIx xs.length 0 lo = 0 ∧ HT.sIx xs.length xs.length hi = xs.length
  · exact getItem_tuple_whole ht hs pl pu (by rw [hlen]; exact hw) ⟨.ref a, H, I, rfl, q1 hw⟩
  · refine HT.getItem_tuple_cut ht hs pl pu (by rw [hlen]; exact hw) ?_ (by rw [hlen]; exact hz)
    rw [hlen]
    exact laidT (s := s) (tk := s.toks) I ((r.drop (HT.sIx xs.length 0 lo)).take (HT.sIx xs.length xs.length hi - HT.sIx xs.length 0 lo)) (Nat.le_trans (cutV_length xs lo hi) hz) (q2 hw)
/-- tuple(x) -/
def rTupF (K : PySem.W.Frag) : List V → Hp → VK → Prop := fun xs H Q => ∃ p ys, xs = [.ref p] ∧ ((SqL K H p ys ∧ NewT H ys Q) ∨ (SqT K H p ys ∧ Q (.ref p) H))
theorem call_tupF : CallR X (.type "tuple") (rTupF X.K) := by
  rintro pns s σ H xs us Q I r ⟨p, ys, rfl, h⟩
  obtain ⟨_, rfl, ⟨⟩⟩ := vals1 r
  rcases h with ⟨hs, q⟩ | ⟨hs, q⟩
  · obtain ⟨is, rv, pl, hz⟩ := I.list hs
    refine call_tuple_list pl.isList (fun h' hk => ?_) (by rw [List.size_toArray, ← rv.length]; exact hz)
    exact laidT (s := s) (tk := s.toks) (I.kept (t' := s.toks) hk) rv hz q
  · obtain ⟨is, rv, pl, hz⟩ := I.tuple hs
    exact call_tuple_tup pl ⟨.ref p, H, I, rfl, q⟩
def tTupRgF (te : L2.St → Hp → (Int → Int → Hp → Prop) → Prop) : TE := fun σ H Q => te σ H fun a b H9 => RgOk a b ∧ NewT H9 (rgV a b) Q
theorem pe_tupRgF {e : Expr} {te : L2.St → Hp → (Int → Int → Hp → Prop) → Prop} {p pos : Pos} (hc : X.calm = true) (hg : Gl X "tuple") (hm : X.mg "tuple" = none) (he : PRg X e te) (na : starEach [e] X.env = (false, eval e X.env) :: starEach [] X.env) : PE X (.Call (.Name "tuple" p) [e] [] pos) (tTupRgF te) := by
  refine ⟨fun pns s σ H Q I h => ?_⟩
  refine Call_ (ld_blt I hg hm boot_tuple (PyProof.Rows.callWith_type1 (args_cons (thn (he pns s σ H _ I h) fun x sN ⟨r, a, b, t, u, v, H9, ex, hr, J, ok, q⟩ => args_nil ?_) na) na))
  subst ex
  obtain ⟨b1, b2, b3, b4, b5⟩ := ok
  refine call_tuple_range (n := (b - a).toNat) (J.ok.hd hc) hr (small_one b1 b2 b3 b4) (rangeSize_nat a b) b5 fun h' tk acc hk hi => ?_
  have := laidT (s := sN) (tk := tk) (us := acc.toList) (J.kept hk) (vals_rg hi) (by rw [rgV_length, sizeLine_eq]; omega) q
  rw [Array.toArray_toList] at this
  exact this
/-- t * k -/
def rRepF (K : PySem.W.Frag) : R2 := fun x y H Q => ∃ l k xs, x = .ref l ∧ y = .int k ∧ SqT K H l xs ∧ xs ≠ [] ∧ 2 ≤ k ∧ k ≤ 1000 ∧ xs.length ≤ 1000 ∧ NewT H (List.replicate k.toNat xs).flatten Q
theorem op_repF : OpR X (binaryOp .Mult) (rRepF X.K) := by
  rintro pns s σ H x y v u Q I rx ry ⟨l, k, xs, rfl, rfl, hT, hne, h1, h2, hz, q⟩
  cases rx
  obtain ⟨t, rfl⟩ := ry
  obtain ⟨is, r, ⟨⟨cls, dd, data, sl⟩, ho, hc, n, hd⟩, hs⟩ := I.tuple hT
  simp only at hc hd
  subst hc hd
  have hle : is.length = xs.length := r.length.symm
  have hi : is.toArray.isEmpty = false := by
    cases is with
    | nil => exact absurd (List.eq_nil_of_length_eq_zero hle.symm) hne
    | cons a b => rfl
  have hsz0 : is.toArray.size = xs.length := by rw [List.size_toArray, hle]
  have hm : ((is.toArray.size : Nat) : Int) * k ≤ 1000000 := by
    have a1 : ((xs.length : Nat) : Int) * k ≤ 1000 * k := Int.mul_le_mul_of_nonneg_right (by omega) (by omega)
    rw [hsz0]; omega
  have kl : k.toNat * xs.length ≤ 1000 * 1000 := Nat.mul_le_mul (by omega) hz
  have flen : (List.replicate k.toNat is).flatten.length ≤ sizeLine := by rw [PyProof.Rows.lm_len_rep_flat, hle, sizeLine_eq]; omega
  have c0 : (decide (k < -(2 ^ 63)) || decide (k ≥ 2 ^ 63)) = false := by
    rw [decide_eq_false (by omega), decide_eq_false (by omega)]; rfl
  have c1 : (is.toArray.isEmpty || k == 1) = false := by rw [hi, Bool.false_or]; exact beq_eq_false_iff_ne.mpr (by omega)
  have c2 : (decide (k ≤ 0) || is.toArray.isEmpty) = false := by rw [hi, Bool.or_false]; exact decide_eq_false (by omega)
  have c4 : Builtin.Tuple.tupleTooMany (((is.toArray.size : Nat) : Int) * k) = false := by
    unfold Builtin.Tuple.tupleTooMany
    rw [sizeLine_eq]; exact decide_eq_false (by omega)
  refine wpAny_binaryOp_repeat_ref (T := "tuple") (U := "int") (by decide) ⟨_, ho, rfl⟩ (fun s' => typeIs_int s' k t) noFill_tuple_mul F.fills_int_mul F.slot_int_rmul repeat_tuple F.slot_int_index.lookup
    (call_meets F.slot_int_rmul (typeIs_int s k t) F.entry_int_rmul (F.args_int_rmul_2 _ _) (int_rmul_tuple k t l is.toArray n dd sl)
      ⟨ho, rfl, ⟨_, ho, rfl⟩, call_meets F.slot_tuple_mul ⟨_, ho, rfl⟩ F.entry_tuple_mul (F.args_tuple_mul_2 _ _) (tuple_mulW l is.toArray n dd sl k t c0 c1 c2 (by omega) c4 (by rw [size_rep, List.size_toArray]; exact flen)) ⟨ho, ?_⟩⟩)
  rw [size_rep]
  exact laidT (s := s) (tk := s.toks) I (r.rep k.toNat) (by rw [PyProof.Rows.lm_len_rep_flat, sizeLine_eq]; omega) q
end E2
end
section
set_option Elab.async false
set_option linter.all false
set_option maxRecDepth 100000
set_option maxHeartbeats 4000000
set_option autoImplicit false
/-! dicts whose keys are tuples of ints and of tuples, all values True: their rules -/
namespace E2
open PySem PySem.Spec PyProof.Rows L2
section
variable (K : PySem.W.Frag) (H : Hp)
mutual
/-- v is the key k -/
inductive Nv : NestedKey → V → Prop
  | num (i : Int) : Nv (.num i) (.int i)
  | tup {a : Addr} {xs : List V} {ks : List NestedKey} : SqT K H a xs → NvL ks xs → Nv (.tup ks) (.ref a)
inductive NvL : List NestedKey → List V → Prop
  | nil : NvL [] []
  | cons {k : NestedKey} {v : V} {ks : List NestedKey} {vs : List V} : Nv k v → NvL ks vs → NvL (k :: ks) (v :: vs)
end
end
section
variable {K : PySem.W.Frag} {H : Hp}
mutual
theorem Nv.hash : ∀ {k : NestedKey} {v : V}, Nv K H k v → ∀ w w' : World, k.hash w = k.hash w'
  | _, _, .num i, w, w' => by simp [NestedKey.hash]
  | _, _, .tup _ l, w, w' => by simp only [NestedKey.hash]; rw [NvL.hash l w w']
theorem NvL.hash : ∀ {ks : List NestedKey} {vs : List V}, NvL K H ks vs → ∀ w w' : World, NestedKey.hashes w ks = NestedKey.hashes w' ks
  | _, _, .nil, w, w' => rfl
  | _, _, .cons h t, w, w' => by simp only [NestedKey.hashes]; rw [Nv.hash h w w', NvL.hash t w w']
end
theorem NvL.length : ∀ {ks : List NestedKey} {vs : List V}, NvL K H ks vs → ks.length = vs.length
  | _, _, .nil => rfl
  | _, _, .cons _ t => by simp [NvL.length t]
theorem NvL.append : ∀ {ks ks' : List NestedKey} {vs vs' : List V}, NvL K H ks vs → NvL K H ks' vs' → NvL K H (ks ++ ks') (vs ++ vs')
  | _, _, _, _, .nil, s => s
  | _, _, _, _, .cons h t, s => .cons h (NvL.append t s)
theorem NvL.each : ∀ {ks : List NestedKey} {vs : List V}, NvL K H ks vs → ∀ x ∈ ks.zip vs, Nv K H x.1 x.2
  | _, _, .nil, x, h => by cases h
  | _, _, .cons h t, x, m => by
    rw [List.zip_cons_cons] at m
    rcases List.mem_cons.mp m with rfl | m
    · exact h
    · exact NvL.each t x m
end
section
variable {X : Cx} {pns : List (Addr × Obj)} {σ : L2.St} {H : Hp} {s : Shared}
mutual
theorem Nv.is (I : Inv X pns σ H s) : ∀ {k : NestedKey} {v : V} {u : Value}, Nv X.K H k v → RelV v u → NestedIs s.heap k u
  | _, _, _, .num i, r => by obtain ⟨t, rfl⟩ := r; exact .int i t
  | _, _, _, .tup h l, r => by
    cases r
    obtain ⟨its, rv, ⟨o, ho, hc, n, hd⟩, _⟩ := I.tuple h
    exact .tup ho hc hd (by simpa using NvL.is I l rv)
theorem NvL.is (I : Inv X pns σ H s) : ∀ {ks : List NestedKey} {vs : List V} {us : List Value}, NvL X.K H ks vs → Vals vs us → NestedAll s.heap ks us
  | _, _, _, .nil, .nil => .nil
  | _, _, _, .cons h t, .cons r q => .cons (Nv.is I h r) (NvL.is I t q)
end
end
/-- a dict's entries, all values True -/
def tru (nks : List NestedKey) (bs : List Addr) : List (NestedKey × Addr × Value) := (nks.zip bs).map fun x => (x.1, x.2, Value.bool true)
theorem tru_keys : ∀ {nks : List NestedKey} {bs : List Addr}, bs.length = nks.length → (tru nks bs).map (·.1) = nks
  | [], [], _ => rfl
  | [], _ :: _, h => by cases h
  | _ :: _, [], h => by cases h
  | k :: ks, b :: bs, h => by
    have := tru_keys (nks := ks) (bs := bs) (by simpa using h)
    unfold tru at this ⊢
    rw [List.zip_cons_cons, List.map_cons, List.map_cons, this]
theorem tru_length {nks : List NestedKey} {bs : List Addr} (h : bs.length = nks.length) : (tru nks bs).length = nks.length := by unfold tru; simp [h]
theorem tru_at {nks : List NestedKey} {bs : List Addr} (h : bs.length = nks.length) (k : NestedKey) : (atKey (tru nks bs) k).isSome = decide (k ∈ nks) := by
  have e := tru_keys h
  unfold atKey
  rw [Option.isSome_map]
  apply Bool.eq_iff_iff.mpr
  rw [List.find?_isSome, decide_eq_true_iff]
  constructor
  · rintro ⟨x, hx, hk⟩
    rw [← e]
    simp only [decide_eq_true_eq] at hk
    exact List.mem_map.mpr ⟨x, hx, hk⟩
  · intro hk
    rw [← e] at hk
    obtain ⟨x, hx, hk⟩ := List.mem_map.mp hk
    exact ⟨x, hx, by simpa using hk⟩
theorem tru_put {nks : List NestedKey} {bs : List Addr} (h : bs.length = nks.length) (k : NestedKey) (b : Addr) : storedH (tru nks bs) k b (.bool true) = tru (if k ∈ nks then nks else nks ++ [k]) (if k ∈ nks then bs else bs ++ [b]) := by
  unfold storedH
  rw [tru_at h]
  by_cases hk : k ∈ nks
  · rw [if_pos (by simpa using hk), if_pos hk, if_pos hk]
    have : ∀ x ∈ tru nks bs, putAt k (.bool true) x = x := fun x hx => by
      unfold tru at hx
      obtain ⟨y, _, rfl⟩ := List.mem_map.mp hx
      unfold putAt
      split <;> rfl
    rw [List.map_congr_left this, List.map_id']
  · rw [if_neg (by simpa using hk), if_neg hk, if_neg hk]
    unfold tru
    rw [List.zip_append h.symm, List.map_append]
    rfl
section
variable {X : Cx} {pns : List (Addr × Obj)} {σ : L2.St} {H : Hp} {s : Shared}
theorem dto_dict (I : Inv X pns σ H s) {a : Addr} {o : Obj} {nks : List NestedKey} {vs : List V} (h : H a = some (IsO a o)) (d : DtO a o nks vs) (l : NvL X.K H nks vs) :
    ∃ bs, vs = bs.map V.ref ∧ bs.length = nks.length ∧ s.heap.DictOfH (nestedKind X.prog X.w) a (tru nks bs) := by
  obtain ⟨es, ep, bs, e1, rfl, e3, e4⟩ := d.es
  refine ⟨bs, rfl, e3, o, es, ep, ?_, d.ex, e1, ?_, ?_, by rw [tru_keys e3]; exact d.nd⟩
  · exact (I.hok a _ h).1
  · rw [e4 X.w]
    unfold tru
    rw [List.map_map]
    rfl
  · intro x hx
    unfold tru at hx
    obtain ⟨y, hy, rfl⟩ := List.mem_map.mp hx
    have hz : (y.1, V.ref y.2) ∈ nks.zip (bs.map V.ref) := by
      rw [List.zip_map_right]
      exact List.mem_map.mpr ⟨y, hy, rfl⟩
    exact ⟨(l.each _ hz).is I rfl, d.dep _ (List.of_mem_zip hy).1⟩
theorem dto_of {prog : Program} {w : World} {K : PySem.W.Frag} {h : Heap} {a : Addr} {nks : List NestedKey} {bs : List Addr} (no : (a == sysModules) = false) (len : nks.length ≤ sizeLine) (dep : ∀ k ∈ nks, k.depth ≤ 8) (hl : bs.length = nks.length) (l : NvL K H nks (bs.map V.ref)) (d : h.DictOfH (nestedKind prog w) a (tru nks bs)) :
    ∃ o, h.get? a = some o ∧ DtO a o nks (bs.map V.ref) := by
  obtain ⟨o, es, ep, h1, h2, h3, h4, h5, h6⟩ := d
  rw [tru_keys hl] at h6
  refine ⟨o, h1, no, len, h2, dep, h6, es, ep, bs, h3, rfl, hl, fun w' => ?_⟩
  rw [h4]
  unfold tru
  rw [List.map_map]
  refine List.map_congr_left fun x hx => ?_
  have hz : (x.1, V.ref x.2) ∈ nks.zip (bs.map V.ref) := by
    rw [List.zip_map_right]
    exact List.mem_map.mpr ⟨x, hx, rfl⟩
  have := (l.each _ hz).hash w w'
  show (⟨x.1.hash w, _, _⟩ : DictEntry) = _
  rw [this]
theorem isO_ok {P : Program} {w : World} {H : Hp} {h : Heap} {a : Addr} {o : Obj} (e : h.get? a = some o) : ObjOk P w H h a (IsO a o) := ⟨e, ⟨o, e⟩, fun _ _ p st => st _ p⟩
/-- k in d -/
def rNIn (K : PySem.W.Frag) (neg : Bool) : R2 := fun y x H Q => ∃ a b o k nks vs, x = .ref a ∧ y = .ref b ∧ H a = some (IsO a o) ∧ DtO a o nks vs ∧ NvL K H nks vs ∧ Nv K H k y ∧ k.depth ≤ 8 ∧ Q (.bl (if neg then !decide (k ∈ nks) else decide (k ∈ nks))) H
theorem op_nIn {X : Cx} (hu : X.A.units + 9 < cLine) : OpR X (compareOp .In) (rNIn X.K false) := by
  intro pns s σ H y x v u Q I ry rx h
  obtain ⟨a, b, o, k, nks, vs, rfl, rfl, h1, h2, h3, h4, h5, q⟩ := h
  cases ry
  cases rx
  obtain ⟨bs, rfl, hl, d⟩ := dto_dict I h1 h2 h3
  refine wpAny_in_heap (knd := nestedKind X.prog X.w) (k := k) (by show X.A.units + 1 + 8 < cLine; omega) ⟨h4.is I rfl, h5⟩ h2.no d ?_
  rw [tru_at hl]
  exact ⟨.bl _, H, I.tok _, rfl, q⟩
theorem op_nNotIn {X : Cx} (hu : X.A.units + 9 < cLine) : OpR X (compareOp .NotIn) (rNIn X.K true) := by
  intro pns s σ H y x v u Q I ry rx h
  obtain ⟨a, b, o, k, nks, vs, rfl, rfl, h1, h2, h3, h4, h5, q⟩ := h
  cases ry
  cases rx
  obtain ⟨bs, rfl, hl, d⟩ := dto_dict I h1 h2 h3
  refine wpAny_bind (wpAny_contains_heap (knd := nestedKind X.prog X.w) (k := k) (by show X.A.units + 1 + 8 < cLine; omega) ⟨h4.is I rfl, h5⟩ h2.no d (wpAny_pure ?_))
  rw [tru_at hl]
  exact ⟨.bl _, H, I.tok _, rfl, q⟩
/-- d[k] = True -/
def rNPut (K : PySem.W.Frag) (H : Hp) (a b : Addr) (Q : Hp → Prop) : Prop := ∃ o k nks vs, H a = some (IsO a o) ∧ DtO a o nks vs ∧ NvL K H nks vs ∧ Nv K H k (.ref b) ∧ k.depth ≤ 8 ∧ nks.length < sizeLine ∧
  ∀ o', DtO a o' (if k ∈ nks then nks else nks ++ [k]) (if k ∈ nks then vs else vs ++ [.ref b]) → Q (upd H a (IsO a o'))
theorem put_new {h' : Heap} {tk : Nat} {a b : Addr} {o : Obj} {k : NestedKey} {nks : List NestedKey} {bs : List Addr} {Q : Hp → Prop} (I : Inv X pns σ H s) (h1 : H a = some (IsO a o)) (h2 : DtO a o nks (bs.map V.ref)) (h3 : NvL X.K H nks (bs.map V.ref)) (h4 : Nv X.K H k (.ref b)) (h5 : k.depth ≤ 8) (h6 : nks.length < sizeLine) (hl : bs.length = nks.length)
    (q : ∀ o', DtO a o' (if k ∈ nks then nks else nks ++ [k]) (if k ∈ nks then bs.map V.ref else bs.map V.ref ++ [.ref b]) → Q (upd H a (IsO a o'))) (dd : h'.DictOfH (nestedKind X.prog X.w) a (storedH (tru nks bs) k b (.bool true))) (sb : Heap.SameBut a s.heap h') :
    ∃ H', Inv X pns σ H' { s with heap := h', toks := tk } ∧ Q H' := by
  rw [tru_put hl] at dd
  have l' : NvL X.K H (if k ∈ nks then nks else nks ++ [k]) ((if k ∈ nks then bs else bs ++ [b]).map V.ref) := by
    split
    · exact h3
    · rw [List.map_append]; exact h3.append (.cons h4 .nil)
  obtain ⟨o', g1, g2⟩ := dto_of (H := H) h2.no (by
    split
    · exact h2.len
    · rw [List.length_append]; exact h6) (by
    split
    · exact h2.dep
    · intro x hx
      rcases List.mem_append.mp hx with m | m
      · exact h2.dep _ m
      · rw [List.mem_singleton] at m; subst m; exact h5) (by split <;> simp [hl]) l' dd
  refine ⟨_, d_write (ob := IsO a o') (t' := tk) I (by rw [h1]; exact True.intro) sb ⟨o', g1⟩ (isO_ok g1), q o' ?_⟩
  by_cases hk : k ∈ nks
  · rw [if_pos hk, if_pos hk] at *; exact g2
  · rw [if_neg hk, if_neg hk] at *; rw [List.map_append] at g2; exact g2
theorem set_nest (hu : X.A.units + 9 < cLine) {E : Value → Shared → Prop} {a b : Addr} {Q : Hp → Prop} (I : Inv X pns σ H s) (g : rNPut X.K H a b Q) : wpAny (model X.prog X.w) X.A (setItem (.ref a) (.ref b) (.bool true)) (fun _ s' => ∃ H', Inv X pns σ H' s' ∧ Q H') E s := by
  obtain ⟨o, k, nks, vs, h1, h2, h3, h4, h5, h6, q⟩ := g
  obtain ⟨bs, rfl, hl, d⟩ := dto_dict I h1 h2 h3
  exact wpAny_setItem_heap (knd := nestedKind X.prog X.w) (k := k) (by show X.A.units + 1 + 8 < cLine; omega) ⟨h4.is I rfl, h5⟩ d (fun h' dd sb => put_new I h1 h2 h3 h4 h5 h6 hl q dd sb) (by rw [tru_length hl]; omega)
theorem dset_nest (hu : X.A.units + 9 < cLine) {E : Value → Shared → Prop} {a b : Addr} {Q : Hp → Prop} (I : Inv X pns σ H s) (g : rNPut X.K H a b Q) : wpAny (model X.prog X.w) X.A (dictSet a (.ref b) (.bool true)) (fun _ s' => ∃ H', Inv X pns σ H' s' ∧ Q H') E s := by
  obtain ⟨o, k, nks, vs, h1, h2, h3, h4, h5, h6, q⟩ := g
  obtain ⟨bs, rfl, hl, d⟩ := dto_dict I h1 h2 h3
  exact wpAny_dictSet_heap (knd := nestedKind X.prog X.w) (k := k) (by show X.A.units + 8 < cLine; omega) ⟨h4.is I rfl, h5⟩ d (fun h' dd sb => put_new I h1 h2 h3 h4 h5 h6 hl q dd sb) (by rw [tru_length hl]; omega)
/-- list(d) -/
def rNList : List V → Hp → VK → Prop := fun xs H Q => ∃ a o nks vs, xs = [.ref a] ∧ H a = some (IsO a o) ∧ DtO a o nks vs ∧ ∀ p, H p = none → Q (.ref p) (upd H p (.lst vs))
theorem acc_keys {es : Array DictEntry} {nks : List NestedKey} {bs : List Addr} {acc : Array Value} {w : World} (hl : bs.length = nks.length) (he : es.toList = (nks.zip bs).map fun x => (⟨x.1.hash w, .ref x.2, .bool true⟩ : DictEntry))
    (it : ItemsOf (fun i v => ∃ en : DictEntry, es[i]? = some en ∧ v = en.key) acc es.size) : acc.toList = bs.map Value.ref := by
  have hs : es.size = bs.length := by rw [← Array.length_toList, he]; simp [hl]
  apply List.ext_getElem?
  intro j
  rw [List.getElem?_map]
  cases hj : acc.toList[j]? with
  | none =>
    have h1 := List.getElem?_eq_none_iff.mp hj
    rw [Array.length_toList, it.1, hs] at h1
    rw [List.getElem?_eq_none h1]
    rfl
  | some v =>
    obtain ⟨en, hen, hv⟩ := it.2 j v (by rw [← Array.getElem?_toList]; exact hj)
    rw [← Array.getElem?_toList, he, List.getElem?_map] at hen
    obtain ⟨⟨x, b⟩, hx, rfl⟩ := Option.map_eq_some_iff.mp hen
    obtain ⟨h2, h3⟩ := List.getElem?_zip_eq_some.mp hx
    simp only at h3
    rw [h3, hv]
    rfl
theorem call_listN (hc : X.calm = true) : CallR X (.type "list") rNList := by
  intro pns s σ H xs us Q I r h
  obtain ⟨a, o, nks, vs, rfl, h1, h2, q⟩ := h
  obtain ⟨u, rfl, rx⟩ := r.one
  cases rx
  obtain ⟨es, ep, bs, e1, rfl, e3, e4⟩ := h2.es
  have ho := (I.hok a _ h1).1
  have hs : es.size = nks.length := by rw [← Array.length_toList, e4 X.w]; simp [e3]
  refine PySem.W.kdl_call (kdl_raw h2.no h2.ex e1) (I.ok.hd hc) ho (by rw [hs]; exact h2.len) fun h' tk acc' c' kp e it => ?_
  have ea := acc_keys e3 (e4 X.w) it
  refine ⟨.ref s.heap.objs.size, _, I.laid (t' := tk) (o := .lst (bs.map V.ref)) kp (Nat.le_refl _) ?_, rfl, q _ (I.hok.fresh (Nat.le_refl _))⟩
  exact ⟨by rw [List.length_map, e3]; exact h2.len, acc'.toList, c', by rw [ea]; exact vals_refs _, by rw [Array.toArray_toList]; exact e⟩
end
section
variable {B : Base} {μ : List Addr} {M : Mx} {H : Hp}
mutual
theorem Rp.nv : ∀ {pv : PV} {v : V} {k : NestedKey}, Rp B μ M H pv v → nk pv = some k → Nv B.K H k v
  | _, _, _, .int i, e => by simp only [nk, Option.some.injEq] at e; subst e; exact .num i
  | _, _, _, .tup h l, e => by
    simp only [nk] at e
    split at e
    · rename_i ks e1
      cases e
      exact .tup h.sq (RpL.nv l e1)
    · cases e
  | _, _, _, .non, e => by simp [nk] at e
  | _, _, _, .bl _, e => by simp [nk] at e
  | _, _, _, .str _, e => by simp [nk] at e
  | _, _, _, .lst _ _ _, e => by simp [nk] at e
  | _, _, _, .dK _ _ _, e => by simp [nk] at e
  | _, _, _, .dT _ _ _, e => by simp [nk] at e
  | _, _, _, .obj _ _ _ _, e => by simp [nk] at e
  | _, _, _, .ref _, e => by simp [nk] at e
  | _, _, _, .pr _ _, e => by simp [nk] at e
  | _, _, _, .fn _, e => by simp [nk] at e
  | _, _, _, .scr _, e => by simp [nk] at e
  | _, _, _, .ty _, e => by simp [nk] at e
  | _, _, _, .cls _, e => by simp [nk] at e
theorem RpL.nv : ∀ {pv : List PV} {v : List V} {k : List NestedKey}, RpL B μ M H pv v → nkL pv = some k → NvL B.K H k v
  | _, _, _, .nil, e => by simp only [nkL, Option.some.injEq] at e; subst e; exact .nil
  | _, _, _, .cons r t, e => by
    simp only [nkL] at e
    split at e
    · rename_i d ds e1 e2
      cases e
      exact .cons (Rp.nv r e1) (RpL.nv t e2)
    · cases e
end
end
/-- the key of a tuple -/
def nkT (x : PV) : Option NestedKey := match x with
  | .tup xs => (match nk (.tup xs) with
    | some k => if k.depth ≤ 8 then some k else none
    | none => none)
  | _ => none
theorem nkT_ok {B : Base} {μ : List Addr} {M : Mx} {H : Hp} {x : PV} {v : V} {k : NestedKey} (r : Rp B μ M H x v) (e : nkT x = some k) : nk x = some k ∧ k.depth ≤ 8 ∧ Nv B.K H k v ∧ ∃ b, v = .ref b := by
  unfold nkT at e
  split at e
  · split at e
    · rename_i k' e1
      split at e
      · cases e
        cases r with
        | tup h l => exact ⟨e1, by assumption, (Rp.tup h l).nv e1, _, rfl⟩
      · cases e
    · cases e
  · cases e
theorem nkL_snoc : ∀ {xs : List PV} {ks : List NestedKey} {x : PV} {k : NestedKey}, nkL xs = some ks → nk x = some k → nkL (xs ++ [x]) = some (ks ++ [k])
  | [], ks, x, k, e, h => by simp only [nkL, Option.some.injEq] at e; subst e; simp [nkL, h]
  | y :: ys, ks, x, k, e, h => by
    simp only [nkL] at e
    split at e
    · rename_i d ds e1 e2
      cases e
      have := nkL_snoc e2 h
      simp only [List.cons_append, nkL, e1, this]
    · cases e
/-- whether the key is among the keys -/
def hasN (xs : List PV) (k : NestedKey) : Bool := match nkL xs with
  | some ks => decide (k ∈ ks)
  | none => false
def putN (xs : List PV) (x : PV) (k : NestedKey) : List PV := if hasN xs k then xs else xs ++ [x]
end E2
end
section
set_option Elab.async false
set_option linter.all false
set_option maxRecDepth 100000
set_option maxHeartbeats 4000000
set_option autoImplicit false
namespace E2
open PySem L2
variable {P P' : Pv}

/-! ### the store, new objects -/
section
variable {B : Base} {μ : List Addr} {S : Store} {H H' : Hp}
theorem ex_ext (k : ∀ b o, H b = some o → H' b = some o) : Ex μ S H μ S H' := ⟨⟨[], by simp⟩, fun b o e _ _ => k b o e, fun _ h => .inl h, fun _ h => .inl h⟩
theorem CellAt.mono {m : Bool} {μ' : List Addr} {S' : Store} (sr : SR B P μ S H) (x : Ex μ S H μ' S' H') {a : Addr} {pv : PV} (h : CellAt B m μ (Mz P μ S) H a pv) (k : H' a = H a) : CellAt B m μ' (Mz P μ' S') H' a pv := by
  cases pv with
  | lst xs => obtain ⟨vs, e, l⟩ := h; exact ⟨vs, k.trans e, l.mono sr x⟩
  | dct kvs => obtain ⟨vs, e, l⟩ := h; exact ⟨vs, e.eq k, l.mono sr x⟩
  | dtt kvs => obtain ⟨vs, e, l⟩ := h; exact ⟨vs, e.eq k, l.mono sr x⟩
  | dts ks => obtain ⟨o, nks, vs, e, n, d, l⟩ := h; exact ⟨o, nks, vs, k.trans e, n, d, l.mono sr x⟩
  | obj c fs => obtain ⟨C, dx, gs, hc, e, l⟩ := h; exact ⟨C, dx, gs, hc, k.trans e, l.mono sr x⟩
  | _ => exact h.elim
theorem SR.ext (sr : SR B P μ S H) (k : ∀ b o, H b = some o → H' b = some o) : SR B P μ S H' := by
  refine ⟨sr.len, sr.nd, fun n m pv a h1 h2 => ?_, sr.tabs.ext k, sr.pd, fun a h => (sr.pt a h).imp (fun ⟨vs, q⟩ => ⟨vs, k _ _ q⟩) fun z => z.imp (fun ⟨vs, q⟩ => ⟨vs, k _ _ q⟩) fun ⟨o, q, d⟩ => ⟨o, k _ _ q, d⟩, P.st sr.anc (ex_ext k)⟩
  have c := sr.cell n m pv a h1 h2
  refine c.mono sr (ex_ext k) ?_
  obtain ⟨o, q, _⟩ := c.there
  rw [q, k _ _ q]
theorem ext_new {p : Addr} {o : HO} (hp : H p = none) : ∀ b u, H b = some u → upd H p o b = some u := fun b u e => by rw [upd_ne (ne_of_none e hp)]; exact e
theorem SR.notMu (sr : SR B P μ S H) {p : Addr} (hp : H p = none) : ¬ Mu μ S p := fun ⟨n, pv, h1, h2⟩ => sr.notIn hp (List.mem_of_getElem? h2)
theorem SR.notMz (sr : SR B P μ S H) {p : Addr} (hp : H p = none) : ¬ Mz P μ S p := fun z => z.elim (sr.notMu hp) (fun q => by
  rcases sr.pt p q with ⟨vs, e⟩ | ⟨vs, e⟩ | ⟨vs, e, _⟩ <;> rw [hp] at e <;> cases e)

def drf (S : Store) : PV → PV
  | .ref n => (match S[n]? with
    | some c => c.2
    | none => .ref n)
  | .non => .non | .bl b => .bl b | .int i => .int i | .str x => .str x | .tup xs => .tup xs | .pr xs => .pr xs | .lst xs => .lst xs | .dct k => .dct k | .dtt k => .dtt k | .dts k => .dts k | .obj c f => .obj c f | .fn i => .fn i | .scr ns => .scr ns | .ty n => .ty n | .cls c => .cls c | .thk => .thk
theorem cell_of (sr : SR B P μ S H) {n : Nat} {a : Addr} (h : μ[n]? = some a) : ∃ m pv, S[n]? = some (m, pv) ∧ drf S (.ref n) = pv ∧ CellAt B m μ (Mz P μ S) H a pv := by
  have hn : n < S.length := by rw [← sr.len]; exact (List.getElem?_eq_some_iff.mp h).1
  have e : S[n]? = some ((S[n]).1, (S[n]).2) := by rw [List.getElem?_eq_getElem hn]
  exact ⟨(S[n]).1, (S[n]).2, e, by simp only [drf, e], sr.cell n _ _ a e h⟩
theorem lstV (sr : SR B P μ S H) {pv : PV} {v : V} {xs : List PV} (r : Rp B μ (Mz P μ S) H pv v) (e : drf S pv = .lst xs) : ∃ a vs, v = .ref a ∧ H a = some (.lst vs) ∧ RpL B μ (Mz P μ S) H xs vs := by
  cases r with
  | lst h n l => cases e; exact ⟨_, _, rfl, h, l⟩
  | ref h =>
    obtain ⟨m, pv, _, h2, h3⟩ := cell_of sr h
    rw [h2] at e; subst e
    obtain ⟨vs, h4, h5⟩ := h3
    exact ⟨_, vs, rfl, h4, h5⟩
  | _ => cases e
theorem dctV (sr : SR B P μ S H) {pv : PV} {v : V} {xs : List (PV × PV)} (r : Rp B μ (Mz P μ S) H pv v) (e : drf S pv = .dct xs) : ∃ a vs, v = .ref a ∧ Rd H a (.dK vs) ∧ RpK B μ (Mz P μ S) H xs vs := by
  cases r with
  | dK h n l => cases e; exact ⟨_, _, rfl, h, l⟩
  | ref h =>
    obtain ⟨m, pv, _, h2, h3⟩ := cell_of sr h
    rw [h2] at e; subst e
    obtain ⟨vs, h4, h5⟩ := h3
    exact ⟨_, vs, rfl, h4.rd, h5⟩
  | _ => cases e
theorem dttV (sr : SR B P μ S H) {pv : PV} {v : V} {xs : List (List Key × PV)} (r : Rp B μ (Mz P μ S) H pv v) (e : drf S pv = .dtt xs) : ∃ a vs, v = .ref a ∧ Rd H a (.dT vs) ∧ RpT B μ (Mz P μ S) H xs vs := by
  cases r with
  | dT h n l => cases e; exact ⟨_, _, rfl, h, l⟩
  | ref h =>
    obtain ⟨m, pv, _, h2, h3⟩ := cell_of sr h
    rw [h2] at e; subst e
    obtain ⟨vs, h4, h5⟩ := h3
    exact ⟨_, vs, rfl, h4.rd, h5⟩
  | _ => cases e
theorem dtsV (sr : SR B P μ S H) {pv : PV} {v : V} {ks : List PV} (r : Rp B μ (Mz P μ S) H pv v) (e : drf S pv = .dts ks) : ∃ a o nks vs, v = .ref a ∧ H a = some (IsO a o) ∧ nkL ks = some nks ∧ DtO a o nks vs ∧ RpL B μ (Mz P μ S) H ks vs := by
  cases r with
  | ref h =>
    obtain ⟨m, pv, _, h2, h3⟩ := cell_of sr h
    rw [h2] at e; subst e
    obtain ⟨o, nks, vs, h4, h5, h6, h7⟩ := h3
    exact ⟨_, o, nks, vs, rfl, h4, h5, h6, h7⟩
  | _ => cases e
theorem tupV (sr : SR B P μ S H) {pv : PV} {v : V} {xs : List PV} (r : Rp B μ (Mz P μ S) H pv v) (e : drf S pv = .tup xs) : ∃ a vs, v = .ref a ∧ TupAt B.K H a vs ∧ RpL B μ (Mz P μ S) H xs vs := by
  cases r with
  | tup h l => cases e; exact ⟨_, _, rfl, h, l⟩
  | ref h =>
    obtain ⟨m, pv, _, h2, h3⟩ := cell_of sr h
    rw [h2] at e; subst e
    exact h3.elim
  | _ => cases e
theorem prV (sr : SR B P μ S H) {pv : PV} {v : V} {xs : List PV} (r : Rp B μ (Mz P μ S) H pv v) (e : drf S pv = .pr xs) : ∃ a vs, v = .ref a ∧ H a = some (.tup vs) ∧ RpL B μ (Mz P μ S) H xs vs := by
  cases r with
  | pr h l => cases e; exact ⟨_, _, rfl, h, l⟩
  | ref h =>
    obtain ⟨m, pv, _, h2, h3⟩ := cell_of sr h
    rw [h2] at e; subst e
    exact h3.elim
  | _ => cases e
theorem intV (sr : SR B P μ S H) {pv : PV} {v : V} {i : Int} (r : Rp B μ (Mz P μ S) H pv v) (e : drf S pv = .int i) : v = .int i := by
  cases r with
  | int j => cases e; rfl
  | ref h =>
    obtain ⟨m, pv, _, h2, h3⟩ := cell_of sr h
    rw [h2] at e; subst e
    exact h3.elim
  | _ => cases e
theorem RpL.length {M : Mx} : ∀ {xs : List PV} {vs : List V}, RpL B μ M H xs vs → xs.length = vs.length
  | _, _, .nil => rfl
  | _, _, .cons _ t => by simp [RpL.length t]
theorem RpL.append {M : Mx} : ∀ {xs ys : List PV} {vs ws : List V}, RpL B μ M H xs vs → RpL B μ M H ys ws → RpL B μ M H (xs ++ ys) (vs ++ ws)
  | _, _, _, _, .nil, s => s
  | _, _, _, _, .cons r t, s => .cons r (RpL.append t s)
theorem RpL.get {M : Mx} : ∀ {xs : List PV} {vs : List V} {i : Nat} {x : PV}, RpL B μ M H xs vs → xs[i]? = some x → ∃ v, vs[i]? = some v ∧ Rp B μ M H x v
  | _, _, _, _, .nil, e => by simp at e
  | _, _, 0, _, .cons r _, e => by simp at e; subst e; exact ⟨_, rfl, r⟩
  | _, _, i + 1, x, .cons _ t, e => by
    obtain ⟨u, h1, h2⟩ := RpL.get (i := i) (x := x) t (by simpa using e)
    exact ⟨u, by simpa using h1, h2⟩
theorem RpL.set {M : Mx} {x : PV} {v : V} (r : Rp B μ M H x v) : ∀ {xs : List PV} {vs : List V} (i : Nat), RpL B μ M H xs vs → RpL B μ M H (xs.set i x) (vs.set i v)
  | _, _, _, .nil => .nil
  | _, _, 0, .cons _ t => .cons r t
  | _, _, i + 1, .cons q t => .cons q (RpL.set r i t)
theorem RpL.take {M : Mx} : ∀ {xs : List PV} {vs : List V} (n : Nat), RpL B μ M H xs vs → RpL B μ M H (xs.take n) (vs.take n)
  | _, _, 0, _ => .nil
  | _, _, _ + 1, .nil => .nil
  | _, _, n + 1, .cons r t => .cons r (RpL.take n t)
theorem RpL.drop {M : Mx} : ∀ {xs : List PV} {vs : List V} (n : Nat), RpL B μ M H xs vs → RpL B μ M H (xs.drop n) (vs.drop n)
  | _, _, 0, r => r
  | _, _, _ + 1, .nil => .nil
  | _, _, n + 1, .cons _ t => RpL.drop n t
theorem RpL.eraseIdx {M : Mx} : ∀ {xs : List PV} {vs : List V} (n : Nat), RpL B μ M H xs vs → RpL B μ M H (xs.eraseIdx n) (vs.eraseIdx n)
  | _, _, _, .nil => .nil
  | _, _, 0, .cons r t => t
  | _, _, n + 1, .cons r t => .cons r (RpL.eraseIdx n t)
theorem RpL.dropLast {M : Mx} {xs : List PV} {vs : List V} (h : RpL B μ M H xs vs) : RpL B μ M H xs.dropLast vs.dropLast := by
  rw [List.dropLast_eq_take, List.dropLast_eq_take, h.length]
  exact h.take _
theorem RpL.flat {M : Mx} {xs : List PV} {vs : List V} (h : RpL B μ M H xs vs) : ∀ k : Nat, RpL B μ M H (List.replicate k xs).flatten (List.replicate k vs).flatten
  | 0 => .nil
  | k + 1 => by
    rw [List.replicate_succ, List.replicate_succ, List.flatten_cons, List.flatten_cons]
    exact h.append (RpL.flat h k)
end

/-- a new object by value -/
theorem go_new {B : Base} {W : WX} {σ : St} {μ : List Addr} {S : Store} {H : Hp} {pv : PV} {o : HO} {Q : VK} {p : Addr} (sr : SR B P μ S H) (hp : H p = none) (r : Rp B μ (Mz P μ S) (upd H p o) pv (.ref p)) (g : Go B P (RelP B) W σ (.ok pv S) μ S H Q) : Q (.ref p) (upd H p o) :=
  g μ (upd H p o) (.ref p) (ex_ext (ext_new hp)) (sr.ext (ext_new hp)) r
theorem go_tup {B : Base} {W : WX} {σ : St} {μ : List Addr} {S : Store} {H : Hp} {xs : List PV} {vs : List V} {Q : VK} (sr : SR B P μ S H) (r : RpL B μ (Mz P μ S) H xs vs) (g : Go B P (RelP B) W σ (.ok (.tup xs) S) μ S H Q) : NewT H vs Q := fun _ o hp ho =>
  go_new sr hp (.tup (.inl ⟨o, upd_same, ho⟩) (r.mono sr (ex_ext (ext_new hp)))) g
theorem go_lst {B : Base} {W : WX} {σ : St} {μ : List Addr} {S : Store} {H : Hp} {xs : List PV} {vs : List V} {Q : VK} {p : Addr} (sr : SR B P μ S H) (hp : H p = none) (r : RpL B μ (Mz P μ S) H xs vs) (g : Go B P (RelP B) W σ (.ok (.lst xs) S) μ S H Q) : Q (.ref p) (upd H p (.lst vs)) :=
  go_new sr hp (.lst upd_same (sr.notMz hp) (r.mono sr (ex_ext (ext_new hp)))) g

/-! ### binary operators by values -/
/-- the reading r is served by op -/
def Sv2 (B : Base) (r : R2) (op : PV → PV → Store → Res PV) : Prop :=
  ∀ (P : Pv) (W : WX) (σ : St) (μ : List Addr) (S : Store) (H : Hp) (x y : PV) (v u : V) (Q : VK), SR B P μ S H → Rp B μ (Mz P μ S) H x v → Rp B μ (Mz P μ S) H y u → Go B P (RelP B) W σ (op x y S) μ S H Q → r v u H Q
def Sv1 (B : Base) (r : V → Hp → VK → Prop) (op : PV → Store → Res PV) : Prop :=
  ∀ (P : Pv) (W : WX) (σ : St) (μ : List Addr) (S : Store) (H : Hp) (x : PV) (v : V) (Q : VK), SR B P μ S H → Rp B μ (Mz P μ S) H x v → Go B P (RelP B) W σ (op x S) μ S H Q → r v H Q
def SvL (B : Base) (r : List V → Hp → VK → Prop) (op : List PV → Store → Res PV) : Prop :=
  ∀ (P : Pv) (W : WX) (σ : St) (μ : List Addr) (S : Store) (H : Hp) (xs : List PV) (vs : List V) (Q : VK), SR B P μ S H → RpL B μ (Mz P μ S) H xs vs → Go B P (RelP B) W σ (op xs S) μ S H Q → r vs H Q

def dBin (op : PV → PV → Store → Res PV) (a b : DE) : DE := fun fr S => (a fr S).bind fun x S1 => (b fr S1).bind fun y S2 => op x y S2
def dUn (op : PV → Store → Res PV) (a : DE) : DE := fun fr S => (a fr S).bind fun x S1 => op x S1
def dCallL (op : List PV → Store → Res PV) (a : DA) : DE := fun fr S => (a fr S).bind fun x S1 => op x S1
section
variable {B : Base} {W : WX}
theorem tOp_of {r : R2} {op : PV → PV → Store → Res PV} (h : Sv2 B r op) {a b : DE} : ∀ σ H Q, tE B P W (dBin op a b) σ H Q → tOp r (tE B P W a) (tE B P W b) σ H Q := by
  rintro σ H Q ⟨fr, μ, S, hf, sr, g⟩
  refine ⟨fr, μ, S, hf, sr, g.bind.imp ?_⟩
  rintro v H1 ⟨μ1, S1, x, e1, sr1, r1, _, g1⟩
  refine ⟨fr, μ1, S1, hf.mono sr e1, sr1, g1.bind.imp ?_⟩
  rintro u H2 ⟨μ2, S2, y, e2, sr2, r2, _, g2⟩
  exact h P W σ μ2 S2 H2 x y v u Q sr2 (Rp.mono sr1 e2 r1) r2 g2
theorem tUn_of {r : V → Hp → VK → Prop} {op : PV → Store → Res PV} (h : Sv1 B r op) {a : DE} : ∀ σ H Q, tE B P W (dUn op a) σ H Q → tUn r (tE B P W a) σ H Q := by
  rintro σ H Q ⟨fr, μ, S, hf, sr, g⟩
  refine ⟨fr, μ, S, hf, sr, g.bind.imp ?_⟩
  rintro v H1 ⟨μ1, S1, x, e1, sr1, r1, _, g1⟩
  exact h P W σ μ1 S1 H1 x v Q sr1 r1 g1
theorem tCB_of {r : List V → Hp → VK → Prop} {op : List PV → Store → Res PV} (h : SvL B r op) {a : DA} : ∀ σ H Q, tE B P W (dCallL op a) σ H Q → tCB r (tA B P W a) σ H Q := by
  rintro σ H Q ⟨fr, μ, S, hf, sr, g⟩
  refine ⟨fr, μ, S, hf, sr, g.bind.imp ?_⟩
  rintro v H1 ⟨μ1, S1, x, e1, sr1, r1, _, g1⟩
  exact h P W σ μ1 S1 H1 x v Q sr1 r1 g1
end

/-- arguments -/
def dNil : DA := fun _ S => .ok [] S
def dCons (a : DE) (r : DA) : DA := fun fr S => (a fr S).bind fun x S1 => (r fr S1).bind fun xs S2 => .ok (x :: xs) S2
section
variable {B : Base} {W : WX}
theorem tNil_of : ∀ σ H Q, tA B P W dNil σ H Q → tNil σ H Q := by
  rintro σ H Q ⟨fr, μ, S, hf, sr, g⟩
  exact g.done sr RpL.nil
theorem tCons_of {a : DE} {r : DA} : ∀ σ H Q, tA B P W (dCons a r) σ H Q → tCons (tE B P W a) (tA B P W r) σ H Q := by
  rintro σ H Q ⟨fr, μ, S, hf, sr, g⟩
  refine ⟨fr, μ, S, hf, sr, g.bind.imp ?_⟩
  rintro v H1 ⟨μ1, S1, x, e1, sr1, r1, _, g1⟩
  refine ⟨fr, μ1, S1, hf.mono sr e1, sr1, g1.bind.imp ?_⟩
  rintro u H2 ⟨μ2, S2, y, e2, sr2, r2, _, g2⟩
  exact g2.done sr2 (RpL.cons (Rp.mono sr1 e2 r1) r2)
/-- displays -/
def oTup (xs : List PV) (S : Store) : Res PV := if xs.length ≤ sizeLine then .ok (.tup xs) S else .fail
def oLst (xs : List PV) (S : Store) : Res PV := if xs.length ≤ sizeLine then .ok (.lst xs) S else .fail
theorem tTup_of {a : DA} : ∀ σ H Q, tE B P W (dCallL oTup a) σ H Q → tTupF (tA B P W a) σ H Q := by
  rintro σ H Q ⟨fr, μ, S, hf, sr, g⟩
  refine ⟨fr, μ, S, hf, sr, g.bind.imp ?_⟩
  rintro v H1 ⟨μ1, S1, x, e1, sr1, r1, _, g1⟩
  have r1 : RpL B μ1 (Mz P μ1 S1) H1 x v := r1
  unfold oTup at g1
  split at g1
  · exact ⟨by rw [← r1.length]; assumption, go_tup sr1 r1 g1⟩
  · exact g1.elim
theorem tLst_of {a : DA} : ∀ σ H Q, tE B P W (dCallL oLst a) σ H Q → tLst (tA B P W a) σ H Q := by
  rintro σ H Q ⟨fr, μ, S, hf, sr, g⟩
  refine ⟨fr, μ, S, hf, sr, g.bind.imp ?_⟩
  rintro v H1 ⟨μ1, S1, x, e1, sr1, r1, _, g1⟩
  have r1 : RpL B μ1 (Mz P μ1 S1) H1 x v := r1
  unfold oLst at g1
  split at g1
  · exact ⟨by rw [← r1.length]; assumption, fun p hp => go_lst sr1 hp r1 g1⟩
  · exact g1.elim
/-- a list kept as a cell of the store -/
def oLstR (xs : List PV) (S : Store) : Res PV := if xs.length ≤ sizeLine then .ok (.ref S.length) (S ++ [(true, .lst xs)]) else .fail
theorem new_cellG {μ : List Addr} {S : Store} {H : Hp} {pv0 : PV} {o0 : HO} {p : Addr} (sr : SR B P μ S H) (hp : H p = none) (new : Ex μ S H (μ ++ [p]) (S ++ [(true, pv0)]) (upd H p o0) → CellAt B true (μ ++ [p]) (Mz P (μ ++ [p]) (S ++ [(true, pv0)])) (upd H p o0) p pv0) :
    Ex μ S H (μ ++ [p]) (S ++ [(true, pv0)]) (upd H p o0) ∧ SR B P (μ ++ [p]) (S ++ [(true, pv0)]) (upd H p o0) := by
  have ex : Ex μ S H (μ ++ [p]) (S ++ [(true, pv0)]) (upd H p o0) := by
    refine ⟨⟨[p], rfl⟩, fun b o e _ _ => ext_new hp b o e, ?_, fun b hb => by
      rcases List.mem_append.mp hb with z | z
      · exact .inl z
      · rw [List.mem_singleton] at z; subst z; exact .inr (.of hp)⟩
    rintro b ⟨n, pv, h1, h2⟩
    by_cases hn : n < S.length
    · rw [List.getElem?_append_left hn] at h1
      rw [List.getElem?_append_left (by rw [sr.len]; exact hn)] at h2
      exact .inl ⟨n, pv, h1, h2⟩
    · have hn2 : n = μ.length := by
        have := (List.getElem?_eq_some_iff.mp h2).1
        simp at this
        rw [sr.len] at this ⊢
        omega
      subst hn2
      rw [List.getElem?_append_right (Nat.le_refl _)] at h2
      simp at h2
      subst h2
      exact .inr (.of hp)
  refine ⟨ex, by simp [sr.len], ?_, fun n m pv a h1 h2 => ?_, sr.tabs.ext (ext_new hp), fun a h z => ?_, fun a h => (sr.pt a h).imp (fun ⟨vs, q⟩ => ⟨vs, ext_new hp _ _ q⟩) (fun z => z.imp (fun ⟨vs, q⟩ => ⟨vs, ext_new hp _ _ q⟩) fun ⟨o, q, d⟩ => ⟨o, ext_new hp _ _ q, d⟩), P.st sr.anc ex⟩
  rotate_left 2
  · rcases List.mem_append.mp z with z | z
    · exact sr.pd a h z
    · rw [List.mem_singleton] at z; subst z
      rcases sr.pt _ h with ⟨vs, q⟩ | ⟨vs, q⟩ | ⟨vs, q, _⟩ <;> rw [hp] at q <;> cases q
  · rw [List.nodup_append]
    exact ⟨sr.nd, by simp, fun a ha b hb => by simp at hb; subst hb; intro e; subst e; exact sr.notIn hp ha⟩
  · by_cases hn : n < S.length
    · rw [List.getElem?_append_left hn] at h1
      rw [List.getElem?_append_left (by rw [sr.len]; exact hn)] at h2
      have c := sr.cell n m pv a h1 h2
      refine c.mono sr ex ?_
      obtain ⟨o', q, _⟩ := c.there
      rw [q, ext_new hp _ _ q]
    · have hn2 : n = μ.length := by
        have := (List.getElem?_eq_some_iff.mp h2).1
        simp at this
        rw [sr.len] at this ⊢
        omega
      subst hn2
      rw [List.getElem?_append_right (Nat.le_refl _)] at h2
      rw [List.getElem?_append_right (by rw [sr.len]; exact Nat.le_refl _)] at h1
      simp [sr.len] at h1 h2
      obtain ⟨rfl, rfl⟩ := h1
      subst h2
      exact new ex
theorem new_cell {μ : List Addr} {S : Store} {H : Hp} {xs : List PV} {vs : List V} {p : Addr} (sr : SR B P μ S H) (hp : H p = none) (r : RpL B μ (Mz P μ S) H xs vs) :
    Ex μ S H (μ ++ [p]) (S ++ [(true, .lst xs)]) (upd H p (.lst vs)) ∧ SR B P (μ ++ [p]) (S ++ [(true, .lst xs)]) (upd H p (.lst vs)) := new_cellG sr hp fun ex => ⟨vs, upd_same, r.mono sr ex⟩
theorem tLstR_of {a : DA} : ∀ σ H Q, tE B P W (dCallL oLstR a) σ H Q → tLst (tA B P W a) σ H Q := by
  rintro σ H Q ⟨fr, μ, S, hf, sr, g⟩
  refine ⟨fr, μ, S, hf, sr, g.bind.imp ?_⟩
  rintro v H1 ⟨μ1, S1, x, e1, sr1, r1, _, g1⟩
  have r1 : RpL B μ1 (Mz P μ1 S1) H1 x v := r1
  unfold oLstR at g1
  split at g1
  · refine ⟨by rw [← r1.length]; assumption, fun p hp => ?_⟩
    obtain ⟨ex, sr2⟩ := new_cell sr1 hp r1
    exact g1 _ _ (.ref p) ex sr2 (.ref (by rw [← sr1.len, List.getElem?_append_right (Nat.le_refl _)]; simp))
  · exact g1.elim
end
end E2
end
section
set_option Elab.async false
set_option linter.all false
set_option maxRecDepth 100000
set_option maxHeartbeats 4000000
set_option autoImplicit false
namespace E2
open PySem L2
variable {P P' : Pv}
section
variable {B : Base} {μ : List Addr} {S : Store} {H : Hp}
theorem strV (sr : SR B P μ S H) {pv : PV} {v : V} {i : Str} (r : Rp B μ (Mz P μ S) H pv v) (e : drf S pv = .str i) : v = .str i := by
  cases r with
  | str j => cases e; rfl
  | ref h =>
    obtain ⟨m, pv, _, h2, h3⟩ := cell_of sr h
    rw [h2] at e; subst e
    exact h3.elim
  | _ => cases e
theorem blV (sr : SR B P μ S H) {pv : PV} {v : V} {i : Bool} (r : Rp B μ (Mz P μ S) H pv v) (e : drf S pv = .bl i) : v = .bl i := by
  cases r with
  | bl j => cases e; rfl
  | ref h =>
    obtain ⟨m, pv, _, h2, h3⟩ := cell_of sr h
    rw [h2] at e; subst e
    exact h3.elim
  | _ => cases e
theorem nonV (sr : SR B P μ S H) {pv : PV} {v : V} (r : Rp B μ (Mz P μ S) H pv v) (e : drf S pv = .non) : v = .non := by
  cases r with
  | non => rfl
  | ref h =>
    obtain ⟨m, pv, _, h2, h3⟩ := cell_of sr h
    rw [h2] at e; subst e
    exact h3.elim
  | _ => cases e
theorem scrV (sr : SR B P μ S H) {pv : PV} {v : V} {ns : List Int} (r : Rp B μ (Mz P μ S) H pv v) (e : drf S pv = .scr ns) : ∃ a, v = .ref a ∧ SqL B.K H a (ns.map V.int) := by
  cases r with
  | scr h =>
    cases e
    rcases h with h | h
    · exact ⟨_, rfl, .inl h.1⟩
    · exact ⟨_, rfl, .inr h⟩
  | ref h =>
    obtain ⟨m, pv, _, h2, h3⟩ := cell_of sr h
    rw [h2] at e; subst e
    exact h3.elim
  | _ => cases e
end

/-! ### + - * // % ** -/
def oAdd (x y : PV) (S : Store) : Res PV := match drf S x, drf S y with
  | .int i, .int j => .ok (.int (i + j)) S
  | .str i, .str j => if i.length + j.length ≤ sizeLine then .ok (.str (i ++ j)) S else .fail
  | .lst xs, .lst ys => if xs.length + ys.length ≤ sizeLine then .ok (.lst (xs ++ ys)) S else .fail
  | .tup xs, .tup ys => if xs.length + ys.length ≤ sizeLine then .ok (.tup (xs ++ ys)) S else .fail
  | _, _ => .fail
def rAddA (K : PySem.W.Frag) : R2 := fun x y H Q => rI0 (fun i j => .int (i + j)) x y H Q ∨ (∃ i j, x = .str i ∧ y = .str j ∧ i.length + j.length ≤ sizeLine ∧ Q (.str (i ++ j)) H) ∨ rCat x y H Q ∨ rCatF K x y H Q
theorem op_addA {X : Cx} : OpR X (binaryOp .Add) (rAddA X.K) := op_add.or (op_add_str.or (op_cat.or op_catF))
theorem sv_add {B : Base} : Sv2 B (rAddA B.K) oAdd := by
  intro P W σ μ S H x y v u Q sr rx ry g
  unfold oAdd at g
  split at g
  · rename_i i j e1 e2
    exact .inl ⟨i, j, intV sr rx e1, intV sr ry e2, g.done sr (.int _)⟩
  · rename_i i j e1 e2
    split at g
    · exact .inr (.inl ⟨i, j, strV sr rx e1, strV sr ry e2, by assumption, g.done sr (.str _)⟩)
    · exact g.elim
  · rename_i xs ys e1 e2
    split at g
    · obtain ⟨a, vs, rfl, h1, l1⟩ := lstV sr rx e1
      obtain ⟨b, ws, rfl, h2, l2⟩ := lstV sr ry e2
      exact .inr (.inr (.inl ⟨a, b, vs, ws, rfl, rfl, h1, h2, by rw [← l1.length, ← l2.length]; assumption, fun p hp => go_lst sr hp (l1.append l2) g⟩))
    · exact g.elim
  · rename_i xs ys e1 e2
    split at g
    · obtain ⟨a, vs, rfl, h1, l1⟩ := tupV sr rx e1
      obtain ⟨b, ws, rfl, h2, l2⟩ := tupV sr ry e2
      refine .inr (.inr (.inr ⟨a, b, vs, ws, rfl, rfl, h1.sq, h2.sq, by rw [← l1.length, ← l2.length]; assumption, fun e => ?_, fun _ e => ?_, fun _ _ => go_tup sr (l1.append l2) g⟩))
      · subst e; cases l1
        exact g.done sr (.tup h2 l2)
      · subst e; cases l2
        rw [List.append_nil] at g
        exact g.done sr (.tup h1 l1)
    · exact g.elim
  · exact g.elim
def oSub (x y : PV) (S : Store) : Res PV := match drf S x, drf S y with
  | .int i, .int j => .ok (.int (i - j)) S
  | _, _ => .fail
theorem sv_sub {B : Base} : Sv2 B (rI0 fun i j => .int (i - j)) oSub := by
  intro P W σ μ S H x y v u Q sr rx ry g
  unfold oSub at g
  split at g
  · rename_i i j e1 e2
    exact ⟨i, j, intV sr rx e1, intV sr ry e2, g.done sr (.int _)⟩
  · exact g.elim
def mulOk (i j : Int) : Bool := (decide (-18446744073709551616 < i) && decide (i < 18446744073709551616)) || (decide (-18446744073709551616 < j) && decide (j < 18446744073709551616))
theorem mulOk_ok {i j : Int} (h : mulOk i j = true) : CMul i j := by
  unfold mulOk at h
  simp only [Bool.or_eq_true, Bool.and_eq_true, decide_eq_true_eq] at h
  unfold CMul
  have e : (2 : Int) ^ 64 = 18446744073709551616 := by decide
  rw [e]
  exact h
def oMul (x y : PV) (S : Store) : Res PV := match drf S x, drf S y with
  | .int i, .int j => if mulOk i j then .ok (.int (i * j)) S else .fail
  | .lst xs, .int k => if decide (-9223372036854775808 ≤ k) && decide (k < 9223372036854775808) && decide (xs.length * k.toNat ≤ sizeLine) then .ok (.lst (List.replicate k.toNat xs).flatten) S else .fail
  | .tup xs, .int k => if !xs.isEmpty && decide (2 ≤ k) && decide (k ≤ 1000) && decide (xs.length ≤ 1000) then .ok (.tup (List.replicate k.toNat xs).flatten) S else .fail
  | _, _ => .fail
def rMulA (K : PySem.W.Frag) : R2 := fun x y H Q => rI CMul (fun i j => .int (i * j)) x y H Q ∨ rRep x y H Q ∨ rRepF K x y H Q
theorem op_mulA {X : Cx} : OpR X (binaryOp .Mult) (rMulA X.K) := op_mul.or (op_rep.or op_repF)
theorem sv_mul {B : Base} : Sv2 B (rMulA B.K) oMul := by
  intro P W σ μ S H x y v u Q sr rx ry g
  unfold oMul at g
  split at g
  · rename_i i j e1 e2
    split at g
    · exact .inl ⟨i, j, intV sr rx e1, intV sr ry e2, mulOk_ok (by assumption), g.done sr (.int _)⟩
    · exact g.elim
  · rename_i xs k e1 e2
    split at g
    · rename_i hc
      simp only [Bool.and_eq_true, decide_eq_true_eq] at hc
      obtain ⟨a, vs, rfl, h1, l1⟩ := lstV sr rx e1
      have e3 : (2 : Int) ^ 63 = 9223372036854775808 := by decide
      exact .inr (.inl ⟨a, k, vs, rfl, intV sr ry e2, h1, by rw [e3]; exact hc.1.1, by rw [e3]; exact hc.1.2, by rw [← l1.length]; exact hc.2, fun p hp => go_lst sr hp (l1.flat _) g⟩)
    · exact g.elim
  · rename_i xs k e1 e2
    split at g
    · rename_i hc
      simp only [Bool.and_eq_true, decide_eq_true_eq] at hc
      obtain ⟨a, vs, rfl, h1, l1⟩ := tupV sr rx e1
      refine .inr (.inr ⟨a, k, vs, rfl, intV sr ry e2, h1.sq, fun z => ?_, hc.1.1.2, hc.1.2, by rw [← l1.length]; exact hc.2, go_tup sr (l1.flat _) g⟩)
      subst z; cases l1
      exact absurd hc.1.1.1 (by decide)
    · exact g.elim
  · exact g.elim
def oFdiv (x y : PV) (S : Store) : Res PV := match drf S x, drf S y with
  | .int i, .int j => if decide (0 < j) && decide (j < 1073741824) then .ok (.int (i / j)) S else .fail
  | _, _ => .fail
theorem sv_fdiv {B : Base} : Sv2 B (rI CDiv fun i j => .int (i / j)) oFdiv := by
  intro P W σ μ S H x y v u Q sr rx ry g
  unfold oFdiv at g
  split at g
  · rename_i i j e1 e2
    split at g
    · rename_i hc
      simp only [Bool.and_eq_true, decide_eq_true_eq] at hc
      exact ⟨i, j, intV sr rx e1, intV sr ry e2, hc, g.done sr (.int _)⟩
    · exact g.elim
  · exact g.elim
def oMod (x y : PV) (S : Store) : Res PV := match drf S x, drf S y with
  | .int i, .int j => if 0 < j then .ok (.int (i % j)) S else .fail
  | _, _ => .fail
theorem sv_mod {B : Base} : Sv2 B (rI (fun _ j => 0 < j) fun i j => .int (i % j)) oMod := by
  intro P W σ μ S H x y v u Q sr rx ry g
  unfold oMod at g
  split at g
  · rename_i i j e1 e2
    split at g
    · exact ⟨i, j, intV sr rx e1, intV sr ry e2, by assumption, g.done sr (.int _)⟩
    · exact g.elim
  · exact g.elim
def oPow (x y : PV) (S : Store) : Res PV := match drf S x, drf S y with
  | .int i, .int j => if decide (0 ≤ j) && decide (j ≤ 1000000) && decide (i.natAbs < 18446744073709551616) then .ok (.int (i ^ j.toNat)) S else .fail
  | _, _ => .fail
theorem sv_pow {B : Base} : Sv2 B (rI CPow fun i j => .int (i ^ j.toNat)) oPow := by
  intro P W σ μ S H x y v u Q sr rx ry g
  unfold oPow at g
  split at g
  · rename_i i j e1 e2
    split at g
    · rename_i hc
      simp only [Bool.and_eq_true, decide_eq_true_eq] at hc
      refine ⟨i, j, intV sr rx e1, intV sr ry e2, ⟨hc.1.1, hc.1.2, ?_⟩, g.done sr (.int _)⟩
      have e3 : (2 : Nat) ^ 64 = 18446744073709551616 := by decide
      rw [e3]; exact hc.2
    · exact g.elim
  · exact g.elim
def oNeg (x : PV) (S : Store) : Res PV := match drf S x with
  | .int i => .ok (.int (-i)) S
  | _ => .fail
theorem sv_neg {B : Base} : Sv1 B (rU fun i => .int (-i)) oNeg := by
  intro P W σ μ S H x v Q sr rx g
  unfold oNeg at g
  split at g
  · rename_i i e1
    exact ⟨i, intV sr rx e1, g.done sr (.int _)⟩
  · exact g.elim

/-! ### data, == and != -/
mutual
def toD : PV → Option PyData
  | .non => some .none
  | .bl b => some (.bool b)
  | .int i => some (.int i)
  | .str x => some (.str x)
  | .tup xs => (toDL xs).map .tuple
  | .lst xs => (toDL xs).map .list
  | .dct _ => none | .dtt _ => none | .dts _ => none | .obj _ _ => none | .ref _ => none | .pr _ => none | .fn _ => none | .scr _ => none | .ty _ => none | .cls _ => none | .thk => none
def toDL : List PV → Option (List PyData)
  | [] => some []
  | x :: xs => match toD x, toDL xs with
    | some d, some ds => some (d :: ds)
    | _, _ => none
end
section
variable {B : Base} {μ : List Addr} {M : Mx} {H : Hp}
mutual
theorem Rp.dp : ∀ {pv : PV} {v : V} {d : PyData}, Rp B μ M H pv v → toD pv = some d → Dp B.K H v d
  | _, _, _, .non, e => by simp only [toD, Option.some.injEq] at e; subst e; exact .non
  | _, _, _, .bl b, e => by simp only [toD, Option.some.injEq] at e; subst e; exact .bl b
  | _, _, _, .int b, e => by simp only [toD, Option.some.injEq] at e; subst e; exact .int b
  | _, _, _, .str b, e => by simp only [toD, Option.some.injEq] at e; subst e; exact .str b
  | _, _, _, .tup h l, e => by
    simp only [toD, Option.map_eq_some_iff] at e
    obtain ⟨ds, e1, rfl⟩ := e
    exact .tup h.sq (RpL.dp l e1)
  | _, _, _, .lst h n l, e => by
    simp only [toD, Option.map_eq_some_iff] at e
    obtain ⟨ds, e1, rfl⟩ := e
    exact .lst (SqL.of h) (RpL.dp l e1)
  | _, _, _, .dK _ _ _, e => by simp [toD] at e
  | _, _, _, .dT _ _ _, e => by simp [toD] at e
  | _, _, _, .obj _ _ _ _, e => by simp [toD] at e
  | _, _, _, .ref _, e => by simp [toD] at e
  | _, _, _, .pr _ _, e => by simp [toD] at e
  | _, _, _, .fn _, e => by simp [toD] at e
  | _, _, _, .scr _, e => by simp [toD] at e
  | _, _, _, .ty _, e => by simp [toD] at e
  | _, _, _, .cls _, e => by simp [toD] at e
theorem RpL.dp : ∀ {pv : List PV} {v : List V} {d : List PyData}, RpL B μ M H pv v → toDL pv = some d → DpAll B.K H v d
  | _, _, _, .nil, e => by simp only [toDL, Option.some.injEq] at e; subst e; exact .nil
  | _, _, _, .cons r t, e => by
    simp only [toDL] at e
    split at e
    · rename_i d ds e1 e2
      cases e
      exact .cons (Rp.dp r e1) (RpL.dp t e2)
    · cases e
end
end
theorem dpS {B : Base} {μ : List Addr} {S : Store} {H : Hp} (sr : SR B P μ S H) {pv : PV} {v : V} {d : PyData} (r : Rp B μ (Mz P μ S) H pv v) (e : toD (drf S pv) = some d) : Dp B.K H v d := by
  cases q : drf S pv with
  | lst xs =>
    obtain ⟨a, vs, rfl, h1, l1⟩ := lstV sr r q
    rw [q] at e
    simp only [toD, Option.map_eq_some_iff] at e
    obtain ⟨ds, e1, rfl⟩ := e
    exact .lst (SqL.of h1) (l1.dp e1)
  | tup xs =>
    obtain ⟨a, vs, rfl, h1, l1⟩ := tupV sr r q
    rw [q] at e
    simp only [toD, Option.map_eq_some_iff] at e
    obtain ⟨ds, e1, rfl⟩ := e
    exact .tup h1.sq (l1.dp e1)
  | non => rw [q] at e; simp only [toD, Option.some.injEq] at e; subst e; rw [nonV sr r q]; exact .non
  | bl b => rw [q] at e; simp only [toD, Option.some.injEq] at e; subst e; rw [blV sr r q]; exact .bl b
  | int b => rw [q] at e; simp only [toD, Option.some.injEq] at e; subst e; rw [intV sr r q]; exact .int b
  | str b => rw [q] at e; simp only [toD, Option.some.injEq] at e; subst e; rw [strV sr r q]; exact .str b
  | _ => rw [q] at e; simp [toD] at e
/-- what == may look at -/
def shD (S : Store) (x : PV) : Option PyData := match toD (drf S x) with
  | some d => if SeqAt.shaped d then some d else none
  | none => none
theorem shD_ok {S : Store} {x : PV} {d : PyData} (h : shD S x = some d) : toD (drf S x) = some d ∧ SeqAt.shaped d = true := by
  unfold shD at h
  split at h
  · rename_i d' e
    split at h
    · cases h; exact ⟨e, by assumption⟩
    · cases h
  · cases h
def oEq (x y : PV) (S : Store) : Res PV := match shD S x, shD S y with
  | some d, some e => .ok (.bl (PyData.eqv d e)) S
  | _, _ => .fail
def oNe (x y : PV) (S : Store) : Res PV := match shD S x, shD S y with
  | some d, some e => .ok (.bl (!PyData.eqv d e)) S
  | _, _ => .fail
theorem sv_eq {B : Base} : Sv2 B (rEqD B.K) oEq := by
  intro P W σ μ S H x y v u Q sr rx ry g
  unfold oEq at g
  split at g
  · rename_i d e h1 h2
    obtain ⟨a1, a2⟩ := shD_ok h1
    obtain ⟨b1, b2⟩ := shD_ok h2
    exact ⟨d, e, dpS sr rx a1, dpS sr ry b1, a2, b2, g.done sr (.bl _)⟩
  · exact g.elim
theorem sv_ne {B : Base} : Sv2 B (rNeD B.K) oNe := by
  intro P W σ μ S H x y v u Q sr rx ry g
  unfold oNe at g
  split at g
  · rename_i d e h1 h2
    obtain ⟨a1, a2⟩ := shD_ok h1
    obtain ⟨b1, b2⟩ := shD_ok h2
    exact ⟨d, e, dpS sr rx a1, dpS sr ry b1, a2, b2, g.done sr (.bl _)⟩
  · exact g.elim

/-! ### order -/
def oCmpI (p : Int → Int → Bool) (x y : PV) (S : Store) : Res PV := match drf S x, drf S y with
  | .int i, .int j => .ok (.bl (p i j)) S
  | _, _ => .fail
theorem sv_cmpI {B : Base} (p : Int → Int → Bool) : Sv2 B (rI0 fun i j => .bl (p i j)) (oCmpI p) := by
  intro P W σ μ S H x y v u Q sr rx ry g
  unfold oCmpI at g
  split at g
  · rename_i i j e1 e2
    exact ⟨i, j, intV sr rx e1, intV sr ry e2, g.done sr (.bl _)⟩
  · exact g.elim
/-- < : asInts, texts, tuples of asInts -/
def asInts : List PV → Option (List Int)
  | [] => some []
  | .int i :: r => (match asInts r with
    | some ns => some (i :: ns)
    | none => none)
  | _ :: _ => none
theorem asInts_ok {B : Base} {μ : List Addr} {M : Mx} {H : Hp} : ∀ {xs : List PV} {vs : List V} {ns : List Int}, RpL B μ M H xs vs → asInts xs = some ns → vs = ns.map V.int
  | _, _, _, .nil, e => by simp only [asInts, Option.some.injEq] at e; subst e; rfl
  | _, _, _, .cons (x := x) r t, e => by
    cases x with
    | int i =>
      simp only [asInts] at e
      split at e
      · rename_i ns e1
        cases e
        cases r
        rw [asInts_ok t e1]; rfl
      · cases e
    | _ => simp [asInts] at e
def oLt (x y : PV) (S : Store) : Res PV := match drf S x, drf S y with
  | .int i, .int j => .ok (.bl (decide (i < j))) S
  | .str i, .str j => .ok (.bl (decide (i.cps.toList < j.cps.toList))) S
  | .tup xs, .tup ys => (match asInts xs, asInts ys with
    | some ns, some ms => .ok (.bl (HT.lexLt ns ms)) S
    | _, _ => (match toDL xs, toDL ys with
      | some ds, some es => if PySem.W.alike (.tuple ds) (.tuple es) && decide ((PyData.tuple ds).depth ≤ 60) then .ok (.bl (PySem.W.dataLt (.tuple ds) (.tuple es))) S else .fail
      | _, _ => .fail))
  | _, _ => .fail
def rLtD (K : PySem.W.Frag) : R2 := fun x y H Q => ∃ d e, Dp K H x d ∧ Dp K H y e ∧ PySem.W.alike d e = true ∧ d ≠ .none ∧ d.depth ≤ 60 ∧ Q (.bl (PySem.W.dataLt d e)) H
theorem op_ltD {X : Cx} (hu : X.A.units + 64 < cLine) : OpR X (compareOp .Lt) (rLtD X.K) := by
  intro pns s σ H x y v u Q I rx ry h
  obtain ⟨d, e, h1, h2, h3, h4, h5, q⟩ := h
  obtain ⟨as, ra⟩ := Dp.reads I d x v h1 rx
  obtain ⟨bs, rb⟩ := Dp.reads I e y u h2 ry
  exact PySem.W.lt_data ra rb h3 h4 (by have := Nat.min_le_left d.depth e.depth; omega) ⟨.bl _, H, I, rfl, q⟩
def rLtA (K : PySem.W.Frag) : R2 := fun x y H Q => rI0 (fun i j => .bl (decide (i < j))) x y H Q ∨ (∃ i j, x = .str i ∧ y = .str j ∧ Q (.bl (decide (i.cps.toList < j.cps.toList))) H) ∨ rLtT K x y H Q ∨ rLtD K x y H Q
theorem op_ltA {X : Cx} (hu : X.A.units + 64 < cLine) : OpR X (compareOp .Lt) (rLtA X.K) := op_lt.or (op_lt_str.or ((op_ltT (by omega)).or (op_ltD hu)))
theorem sv_lt {B : Base} : Sv2 B (rLtA B.K) oLt := by
  intro P W σ μ S H x y v u Q sr rx ry g
  unfold oLt at g
  split at g
  · rename_i i j e1 e2
    exact .inl ⟨i, j, intV sr rx e1, intV sr ry e2, g.done sr (.bl _)⟩
  · rename_i i j e1 e2
    exact .inr (.inl ⟨i, j, strV sr rx e1, strV sr ry e2, g.done sr (.bl _)⟩)
  · rename_i xs ys e1 e2
    split at g
    · rename_i ns ms h1 h2
      obtain ⟨a, vs, rfl, q1, l1⟩ := tupV sr rx e1
      obtain ⟨b, ws, rfl, q2, l2⟩ := tupV sr ry e2
      have z1 := asInts_ok l1 h1
      have z2 := asInts_ok l2 h2
      subst z1 z2
      exact .inr (.inr (.inl ⟨a, b, ns, ms, rfl, rfl, q1.sq, q2.sq, g.done sr (.bl _)⟩))
    · split at g
      · rename_i ds es h1 h2
        split at g
        · rename_i hc
          rw [Bool.and_eq_true, decide_eq_true_eq] at hc
          obtain ⟨a, vs, rfl, q1, l1⟩ := tupV sr rx e1
          obtain ⟨b, ws, rfl, q2, l2⟩ := tupV sr ry e2
          exact .inr (.inr (.inr ⟨_, _, .tup q1.sq (l1.dp h1), .tup q2.sq (l2.dp h2), hc.1, (fun z => nomatch z), hc.2, g.done sr (.bl _)⟩))
        · exact g.elim
      · exact g.elim
  · exact g.elim

/-! ### is -/
def isLit : PV → PV → Option Bool
  | .non, .non => some true
  | .bl _, .non => some false
  | .int _, .non => some false
  | .str _, .non => some false
  | .tup _, .non => some false
  | .lst _, .non => some false
  | .dct _, .non => some false
  | .obj _ _, .non => some false
  | .ref _, .non => some false
  | .fn _, .non => some false
  | .scr _, .non => some false
  | .ty _, .non => some false
  | .cls _, .non => some false
  | .bl a, .bl b => some (a == b)
  | _, _ => none
def oIs (neg : Bool) (x y : PV) (S : Store) : Res PV := match isLit x y with
  | some b => .ok (.bl (if neg then !b else b)) S
  | none => .fail
def rIsA : R2 := fun x y H Q => (y = .non ∧ Q (.bl (decide (x = .non))) H) ∨ rIsB x y H Q
def rIsNotA : R2 := fun x y H Q => (y = .non ∧ Q (.bl (!decide (x = .non))) H) ∨ rNotB x y H Q
theorem op_isA {X : Cx} : OpR X (compareOp .Is) rIsA := op_isN.or op_isBl
theorem op_isNotA {X : Cx} : OpR X (compareOp .IsNot) rIsNotA := op_notN.or op_notBl
theorem sv_is {B : Base} : Sv2 B rIsA (oIs false) := by
  intro P W σ μ S H x y v u Q sr rx ry g
  unfold oIs at g
  split at g
  · rename_i b e
    have g1 := g.done sr (.bl _)
    cases x <;> cases y <;> simp only [isLit] at e <;> cases e <;> cases ry <;> cases rx <;>
      first
        | exact .inl ⟨rfl, g1⟩
        | (refine .inr ⟨_, _, rfl, rfl, ?_⟩; rw [← Bool.beq_eq_decide_eq]; exact g1)
  · exact g.elim
theorem sv_isNot {B : Base} : Sv2 B rIsNotA (oIs true) := by
  intro P W σ μ S H x y v u Q sr rx ry g
  unfold oIs at g
  split at g
  · rename_i b e
    have g1 := g.done sr (.bl _)
    cases x <;> cases y <;> simp only [isLit] at e <;> cases e <;> cases ry <;> cases rx <;>
      first
        | exact .inl ⟨rfl, g1⟩
        | (refine .inr ⟨_, _, rfl, rfl, ?_⟩; rw [← Bool.beq_eq_decide_eq]; exact g1)
  · exact g.elim
end E2
end
section
set_option Elab.async false
set_option linter.all false
set_option maxRecDepth 100000
set_option maxHeartbeats 4000000
set_option autoImplicit false
namespace E2
open PySem L2
variable {P P' : Pv}

/-! ### dicts by value -/
def keyOf : PV → Option Key
  | .int i => some (.inl i)
  | .str x => some (.inr x)
  | _ => none
def pkey : Key → PV
  | .inl i => .int i
  | .inr x => .str x
def lookP : List (PV × PV) → Key → Option PV
  | [], _ => none
  | p :: r, k => if keyOf p.1 = some k then some p.2 else lookP r k
def hasP : List (PV × PV) → Key → Bool
  | [], _ => false
  | p :: r, k => if keyOf p.1 = some k then true else hasP r k
def mapP : List (PV × PV) → Key → PV → List (PV × PV)
  | [], _, _ => []
  | p :: r, k, v => (if keyOf p.1 = some k then (p.1, v) else p) :: mapP r k v
def putP (kvs : List (PV × PV)) (k : Key) (v : PV) : List (PV × PV) := if hasP kvs k then mapP kvs k v else kvs ++ [(pkey k, v)]
section
variable {B : Base} {μ : List Addr} {M : Mx} {H : Hp}
theorem keyV {S : Store} (sr : SR B P μ S H) {pv : PV} {v : V} {k : Key} (r : Rp B μ (Mz P μ S) H pv v) (e : keyOf pv = some k) : v = kV k := by
  cases r with
  | int i => cases e; rfl
  | str i => cases e; rfl
  | _ => cases e
theorem RpK.length : ∀ {kvs : List (PV × PV)} {qs : List (Key × V)}, RpK B μ M H kvs qs → kvs.length = qs.length
  | _, _, .nil => rfl
  | _, _, .int _ t => by simp [RpK.length t]
  | _, _, .str _ t => by simp [RpK.length t]
theorem RpK.look : ∀ {kvs : List (PV × PV)} {qs : List (Key × V)} (k : Key), RpK B μ M H kvs qs → (∃ x v, lookP kvs k = some x ∧ valV qs k = some v ∧ Rp B μ M H x v) ∨ (lookP kvs k = none ∧ valV qs k = none)
  | _, _, k, .nil => .inr ⟨rfl, rfl⟩
  | _, _, k, .int (i := i) (x := x) (v := v) r t => by
    by_cases e : (Sum.inl i : Key) = k
    · exact .inl ⟨x, v, by simp [lookP, keyOf, e], valV_pos e, r⟩
    · rcases RpK.look k t with ⟨x, v, h1, h2, h3⟩ | ⟨h1, h2⟩
      · exact .inl ⟨x, v, by simp [lookP, keyOf, e, h1], by rw [valV_neg e]; exact h2, h3⟩
      · exact .inr ⟨by simp [lookP, keyOf, e, h1], by rw [valV_neg e]; exact h2⟩
  | _, _, k, .str (i := i) (x := x) (v := v) r t => by
    by_cases e : (Sum.inr i : Key) = k
    · exact .inl ⟨x, v, by simp [lookP, keyOf, e], valV_pos e, r⟩
    · rcases RpK.look k t with ⟨x, v, h1, h2, h3⟩ | ⟨h1, h2⟩
      · exact .inl ⟨x, v, by simp [lookP, keyOf, e, h1], by rw [valV_neg e]; exact h2, h3⟩
      · exact .inr ⟨by simp [lookP, keyOf, e, h1], by rw [valV_neg e]; exact h2⟩
theorem RpK.has : ∀ {kvs : List (PV × PV)} {qs : List (Key × V)} (k : Key), RpK B μ M H kvs qs → hasP kvs k = qs.any fun kv => decide (kv.1 = k)
  | _, _, k, .nil => rfl
  | _, _, k, .int (i := i) r t => by
    rw [List.any_cons, ← RpK.has k t]
    by_cases e : (Sum.inl i : Key) = k <;> simp [hasP, keyOf, e]
  | _, _, k, .str (i := i) r t => by
    rw [List.any_cons, ← RpK.has k t]
    by_cases e : (Sum.inr i : Key) = k <;> simp [hasP, keyOf, e]
theorem RpK.mapP {k : Key} {y : PV} {u : V} (ry : Rp B μ M H y u) : ∀ {kvs : List (PV × PV)} {qs : List (Key × V)}, RpK B μ M H kvs qs → RpK B μ M H (E2.mapP kvs k y) (qs.map fun kv => if kv.1 = k then (kv.1, u) else kv)
  | _, _, .nil => .nil
  | _, _, .int (i := i) r t => by
    by_cases e : (Sum.inl i : Key) = k
    · subst e; simp only [E2.mapP, keyOf, if_true, List.map_cons]; exact .int ry (RpK.mapP ry t)
    · simp only [E2.mapP, keyOf, Option.some.injEq, e, if_false, List.map_cons]; exact .int r (RpK.mapP ry t)
  | _, _, .str (i := i) r t => by
    by_cases e : (Sum.inr i : Key) = k
    · subst e; simp only [E2.mapP, keyOf, if_true, List.map_cons]; exact .str ry (RpK.mapP ry t)
    · simp only [E2.mapP, keyOf, Option.some.injEq, e, if_false, List.map_cons]; exact .str r (RpK.mapP ry t)
theorem RpK.snoc {k : Key} {y : PV} {u : V} (ry : Rp B μ M H y u) : ∀ {kvs : List (PV × PV)} {qs : List (Key × V)}, RpK B μ M H kvs qs → RpK B μ M H (kvs ++ [(pkey k, y)]) (qs ++ [(k, u)])
  | _, _, .nil => by cases k <;> first | exact .int ry .nil | exact .str ry .nil
  | _, _, .int r t => .int r (RpK.snoc ry t)
  | _, _, .str r t => .str r (RpK.snoc ry t)
theorem RpK.put {k : Key} {y : PV} {u : V} (ry : Rp B μ M H y u) {kvs : List (PV × PV)} {qs : List (Key × V)} (h : RpK B μ M H kvs qs) : RpK B μ M H (putP kvs k y) (putK qs k u) := by
  unfold putP putK
  rw [h.has k]
  split
  · exact h.mapP ry
  · exact h.snoc ry

/-! dicts with flat tuples as keys -/
def keysOf : List PV → Option (List Key)
  | [] => some []
  | x :: r => (match keyOf x, keysOf r with
    | some k, some ks => some (k :: ks)
    | _, _ => none)
theorem keysV {S : Store} (sr : SR B P μ S H) : ∀ {xs : List PV} {vs : List V} {ks : List Key}, RpL B μ (Mz P μ S) H xs vs → keysOf xs = some ks → vs = ks.map kV
  | _, _, _, .nil, e => by cases e; rfl
  | _, _, _, .cons r t, e => by
    unfold keysOf at e
    split at e
    · rename_i k ks h1 h2
      cases e
      rw [keyV sr r h1, keysV sr t h2]; rfl
    · cases e
theorem RpL.keys : ∀ (ks : List Key), RpL B μ M H (ks.map pkey) (ks.map kV)
  | [] => .nil
  | .inl i :: r => .cons (.int i) (RpL.keys r)
  | .inr x :: r => .cons (.str x) (RpL.keys r)
def lookT : List (List Key × PV) → List Key → Option PV
  | [], _ => none
  | p :: r, k => if p.1 = k then some p.2 else lookT r k
def hasT : List (List Key × PV) → List Key → Bool
  | [], _ => false
  | p :: r, k => if p.1 = k then true else hasT r k
def mapT : List (List Key × PV) → List Key → PV → List (List Key × PV)
  | [], _, _ => []
  | p :: r, k, v => (if p.1 = k then (p.1, v) else p) :: mapT r k v
def putT (kvs : List (List Key × PV)) (k : List Key) (v : PV) : List (List Key × PV) := if hasT kvs k then mapT kvs k v else kvs ++ [(k, v)]
theorem RpT.length : ∀ {kvs : List (List Key × PV)} {qs : List (List Key × V)}, RpT B μ M H kvs qs → kvs.length = qs.length
  | _, _, .nil => rfl
  | _, _, .cons _ t => by simp [RpT.length t]
theorem RpT.vals : ∀ {kvs : List (List Key × PV)} {qs : List (List Key × V)}, RpT B μ M H kvs qs → RpL B μ M H (kvs.map (·.2)) (qs.map (·.2))
  | _, _, .nil => .nil
  | _, _, .cons r t => .cons r (RpT.vals t)
theorem RpT.firsts : ∀ {kvs : List (List Key × PV)} {qs : List (List Key × V)}, RpT B μ M H kvs qs → kvs.map (·.1) = qs.map (·.1)
  | _, _, .nil => rfl
  | _, _, .cons r t => by simp [RpT.firsts t]
theorem RpT.look : ∀ {kvs : List (List Key × PV)} {qs : List (List Key × V)} (k : List Key), RpT B μ M H kvs qs → (∃ x v, lookT kvs k = some x ∧ valV qs k = some v ∧ Rp B μ M H x v) ∨ (lookT kvs k = none ∧ valV qs k = none)
  | _, _, k, .nil => .inr ⟨rfl, rfl⟩
  | _, _, k, .cons (k := i) (x := x) (v := v) r t => by
    by_cases e : i = k
    · exact .inl ⟨x, v, by simp [lookT, e], valV_pos e, r⟩
    · rcases RpT.look k t with ⟨x, v, h1, h2, h3⟩ | ⟨h1, h2⟩
      · exact .inl ⟨x, v, by simp [lookT, e, h1], by rw [valV_neg e]; exact h2, h3⟩
      · exact .inr ⟨by simp [lookT, e, h1], by rw [valV_neg e]; exact h2⟩
theorem RpT.has : ∀ {kvs : List (List Key × PV)} {qs : List (List Key × V)} (k : List Key), RpT B μ M H kvs qs → hasT kvs k = qs.any fun kv => decide (kv.1 = k)
  | _, _, k, .nil => rfl
  | _, _, k, .cons (k := i) r t => by
    rw [List.any_cons, ← RpT.has k t]
    by_cases e : i = k <;> simp [hasT, e]
theorem RpT.mapT {k : List Key} {y : PV} {u : V} (ry : Rp B μ M H y u) : ∀ {kvs : List (List Key × PV)} {qs : List (List Key × V)}, RpT B μ M H kvs qs → RpT B μ M H (E2.mapT kvs k y) (qs.map fun kv => if kv.1 = k then (kv.1, u) else kv)
  | _, _, .nil => .nil
  | _, _, .cons (k := i) r t => by
    by_cases e : i = k
    · subst e; simp only [E2.mapT, if_true, List.map_cons]; exact .cons ry (RpT.mapT ry t)
    · simp only [E2.mapT, e, if_false, List.map_cons]; exact .cons r (RpT.mapT ry t)
theorem RpT.snoc {k : List Key} {y : PV} {u : V} (ry : Rp B μ M H y u) : ∀ {kvs : List (List Key × PV)} {qs : List (List Key × V)}, RpT B μ M H kvs qs → RpT B μ M H (kvs ++ [(k, y)]) (qs ++ [(k, u)])
  | _, _, .nil => .cons ry .nil
  | _, _, .cons r t => .cons r (RpT.snoc ry t)
theorem RpT.put {k : List Key} {y : PV} {u : V} (ry : Rp B μ M H y u) {kvs : List (List Key × PV)} {qs : List (List Key × V)} (h : RpT B μ M H kvs qs) : RpT B μ M H (putT kvs k y) (putK qs k u) := by
  unfold putT putK
  rw [h.has k]
  split
  · exact h.mapT ry
  · exact h.snoc ry
end

/-! ### a[i] -/
def oIx (x y : PV) (S : Store) : Res PV := match drf S x with
  | .lst xs => (match drf S y with
    | .int i => (match atI xs i with | some z => .ok z S | none => .fail)
    | _ => .fail)
  | .tup xs => (match drf S y with
    | .int i => (match atI xs i with | some z => .ok z S | none => .fail)
    | _ => .fail)
  | .scr xs => (match drf S y with
    | .int i => (match atI xs i with | some z => .ok (.int z) S | none => .fail)
    | _ => .fail)
  | .str z => (match drf S y with
    | .int i => if z.length ≤ sizeLine then (match atI z.cps.toList i with | some c => .ok (.str ⟨#[c]⟩) S | none => .fail) else .fail
    | _ => .fail)
  | .dct kvs => (match keyOf y with
    | some k => (match lookP kvs k with | some z => .ok z S | none => .fail)
    | none => .fail)
  | .dtt kvs => (match y with
    | .tup ys => (match keysOf ys with
      | some k => (match lookT kvs k with | some z => .ok z S | none => .fail)
      | none => .fail)
    | _ => .fail)
  | _ => .fail
def rIxD : R2 := fun x y H Q => ∃ a v, x = .ref a ∧ DGet H a y (some v) ∧ Q v H
theorem ix_dict {X : Cx} (hu : X.A.units + 1 < cLine) : IxR X rIxD := by
  intro value slice pins s σ H x y v u Q I rx ry h hs
  obtain ⟨a, z, rfl, g, q⟩ := h
  obtain rfl : v = Value.ref a := rx
  exact PyProof.Rows.tail_any (dict_typeIs I g) PySem.F.slot_dict_getitem.lookup (d_getItem hu I g ry fun w' s3 I3 rw' => ⟨z, H, I3, rw', q⟩) hs
def rIxT (K : PySem.W.Frag) : R2 := fun x y H Q => ∃ a v kvs k b, x = .ref a ∧ y = .ref b ∧ Rd H a (.dT kvs) ∧ SqT K H b (k.map kV) ∧ some v = valV kvs k ∧ Q v H
theorem key_any {X : Cx} {pins : List (Addr × Obj)} {σ : St} {H : Hp} {s : Shared} {a : Addr} {ks : List Key} (I : Inv X pins σ H s) (e : SqT X.K H a (ks.map kV)) : (tupleKind (mixKind X.prog X.w)).is s.heap ks a := by
  obtain ⟨its, r, ⟨o, h1, h2, n, h3⟩, _⟩ := I.tuple e
  exact ⟨o, its.toArray, n, h1, h2, h3, by simpa using items_are r⟩
theorem ix_dictT {X : Cx} (hu : X.A.units + 1 < cLine) : IxR X (rIxT X.K) := by
  intro value slice pins s σ H x y v u Q I rx ry h hs
  obtain ⟨a, z, kvs, k, b, rfl, rfl, e, eb, l, q⟩ := h
  obtain rfl : v = Value.ref a := rx
  obtain rfl : u = Value.ref b := ry
  obtain ⟨z0, hd, xs, rel, dd⟩ := dt_rd I.hok e
  have ty : s.TypeIs (.ref a) "dict" := by obtain ⟨o, es, ep, h1, h2, _⟩ := dd; exact ⟨o, h1, h2.1⟩
  obtain ⟨w', hw, rw'⟩ := RelO.some_of (v := z) (o := (atKey xs k).map (·.2)) (by rw [l]; exact rel.val k)
  obtain ⟨p, hp, hp2⟩ := Option.map_eq_some_iff.mp hw
  refine PyProof.Rows.tail_any ty PySem.F.slot_dict_getitem.lookup (wpAny_getItem_heap (tupleKind_room_in1 hu) (key_any I eb) dd hp ?_) hs
  rw [hp2]
  exact ⟨z, H, I.tok _, rw', q⟩
def rIxA (K : PySem.W.Frag) : R2 := fun x y H Q => rIx K x y H Q ∨ rIxD x y H Q ∨ rIxT K x y H Q
theorem ix_any {X : Cx} (hu : X.A.units + 1 < cLine) : IxR X (rIxA X.K) := ix_seq.or ((ix_dict hu).or (ix_dictT hu))
theorem atI_rel {B : Base} {μ : List Addr} {M : Mx} {H : Hp} {xs : List PV} {vs : List V} {i : Int} {z : PV} (l : RpL B μ M H xs vs) (e : atI xs i = some z) : ∃ v, atI vs i = some v ∧ Rp B μ M H z v := by
  unfold atI at e ⊢
  rw [← l.length]
  cases q : ixN xs.length i with
  | none => rw [q] at e; cases e
  | some j =>
    rw [q] at e
    obtain ⟨v, h1, h2⟩ := l.get (show xs[j]? = some z from e)
    exact ⟨v, h1, h2⟩
theorem atI_map {α β : Type} (f : α → β) {xs : List α} {i : Int} {z : α} (e : atI xs i = some z) : atI (xs.map f) i = some (f z) := by
  unfold atI at e ⊢
  rw [List.length_map]
  cases q : ixN xs.length i with
  | none => rw [q] at e; cases e
  | some j =>
    rw [q] at e
    have e : xs[j]? = some z := e
    show (xs.map f)[j]? = some (f z)
    rw [List.getElem?_map, e]; rfl
theorem sv_ix {B : Base} : Sv2 B (rIxA B.K) oIx := by
  intro P W σ μ S H x y v u Q sr rx ry g
  unfold oIx at g
  split at g
  · rename_i xs e1
    split at g
    · rename_i i e2
      split at g
      · rename_i z e3
        obtain ⟨a, vs, rfl, h1, l1⟩ := lstV sr rx e1
        obtain ⟨w, h2, r2⟩ := atI_rel l1 e3
        exact .inl (.inl ⟨a, vs, i, w, rfl, intV sr ry e2, SqL.of h1, h2, g.done sr r2⟩)
      · exact g.elim
    · exact g.elim
  · rename_i xs e1
    split at g
    · rename_i i e2
      split at g
      · rename_i z e3
        obtain ⟨a, vs, rfl, h1, l1⟩ := tupV sr rx e1
        obtain ⟨w, h2, r2⟩ := atI_rel l1 e3
        exact .inl (.inr (.inl ⟨a, vs, i, w, rfl, intV sr ry e2, h1.sq, h2, g.done sr r2⟩))
      · exact g.elim
    · exact g.elim
  · rename_i xs e1
    split at g
    · rename_i i e2
      split at g
      · rename_i z e3
        obtain ⟨a, rfl, h1⟩ := scrV sr rx e1
        exact .inl (.inl ⟨a, _, i, .int z, rfl, intV sr ry e2, h1, atI_map V.int e3, g.done sr (.int _)⟩)
      · exact g.elim
    · exact g.elim
  · rename_i z e1
    split at g
    · rename_i i e2
      split at g
      · split at g
        · rename_i c e3
          exact .inl (.inr (.inr ⟨z, i, c, strV sr rx e1, intV sr ry e2, by assumption, e3, g.done sr (.str _)⟩))
        · exact g.elim
      · exact g.elim
    · exact g.elim
  · rename_i kvs e1
    split at g
    · rename_i k e2
      split at g
      · rename_i z e3
        obtain ⟨a, vs, rfl, h1, l1⟩ := dctV sr rx e1
        rcases l1.look k with ⟨x', v', q1, q2, q3⟩ | ⟨q1, q2⟩
        · rw [e3] at q1; cases q1
          refine .inr (.inl ⟨a, v', rfl, .inl ⟨vs, k, h1, keyV sr ry e2, q2.symm⟩, g.done sr q3⟩)
        · rw [e3] at q1; cases q1
      · exact g.elim
    · exact g.elim
  · rename_i kvs e1
    split at g
    · rename_i ys
      split at g
      · rename_i k e2
        split at g
        · rename_i z e3
          obtain ⟨a, vs, rfl, h1, l1⟩ := dttV sr rx e1
          cases ry with
          | tup ht ly =>
            rcases l1.look k with ⟨x', v', q1, q2, q3⟩ | ⟨q1, q2⟩
            · rw [e3] at q1; cases q1
              rw [keysV sr ly e2] at ht
              exact .inr (.inr ⟨a, v', vs, k, _, rfl, rfl, h1, ht.sq, q2.symm, g.done sr q3⟩)
            · rw [e3] at q1; cases q1
        · exact g.elim
      · exact g.elim
    · exact g.elim
  · exact g.elim

/-! ### in -/
theorem CallR.or {X : Cx} {f : Value} {r r' : List V → Hp → VK → Prop} (h : CallR X f r) (h' : CallR X f r') : CallR X f (fun xs H Q => r xs H Q ∨ r' xs H Q) := by
  intro pins s σ H xs us Q I rs q
  rcases q with q | q
  · exact h pins s σ H xs us Q I rs q
  · exact h' pins s σ H xs us Q I rs q
def rDIn : R2 := fun y x H Q => ∃ a o, x = .ref a ∧ DGet H a y o ∧ Q (.bl o.isSome) H
def rDNotIn : R2 := fun y x H Q => ∃ a o, x = .ref a ∧ DGet H a y o ∧ Q (.bl (!o.isSome)) H
theorem op_dIn {X : Cx} (hu : X.A.units + 1 < cLine) : OpR X (compareOp .In) rDIn := by
  intro pins s σ H y x v u Q I ry rx h
  obtain ⟨a, o, rfl, g, q⟩ := h
  obtain rfl : u = Value.ref a := rx
  exact d_in hu I g ry fun s3 I3 => ⟨.bl o.isSome, H, I3, rfl, q⟩
theorem op_dNotIn {X : Cx} (hu : X.A.units + 1 < cLine) : OpR X (compareOp .NotIn) rDNotIn := by
  intro pins s σ H y x v u Q I ry rx h
  obtain ⟨a, o, rfl, g, q⟩ := h
  obtain rfl : u = Value.ref a := rx
  exact d_notIn hu I g ry fun s3 I3 => ⟨.bl (!o.isSome), H, I3, rfl, q⟩
def flatP : PV → Bool
  | .non => true | .bl _ => true | .int _ => true | .str _ => true
  | _ => false
def eqF : PV → PV → Bool
  | .non, .non => true
  | .bl a, .bl b => a == b
  | .bl a, .int b => (if a then 1 else 0) == b
  | .int a, .bl b => a == (if b then 1 else 0)
  | .int a, .int b => a == b
  | .str a, .str b => a == b
  | _, _ => false
theorem flat_rel {B : Base} {μ : List Addr} {M : Mx} {H : Hp} {x : PV} {v : V} (r : Rp B μ M H x v) (h : flatP x = true) : flatV v = true := by
  cases r <;> first | rfl | cases h
theorem eqF_rel {B : Base} {μ : List Addr} {M : Mx} {H : Hp} {x y : PV} {v u : V} (r : Rp B μ M H x v) (r' : Rp B μ M H y u) (h : flatP x = true) (h' : flatP y = true) : eqV v u = eqF x y := by
  cases r <;> cases r' <;> first | rfl | cases h | cases h'
theorem in_rel {B : Base} {μ : List Addr} {M : Mx} {H : Hp} {y : PV} {u : V} (ry : Rp B μ M H y u) (hy : flatP y = true) : ∀ {xs : List PV} {vs : List V}, RpL B μ M H xs vs → xs.all flatP = true → vs.all flatV = true ∧ inV u vs = xs.any fun x => eqF x y
  | _, _, .nil, _ => ⟨rfl, rfl⟩
  | _, _, .cons r t, h => by
    rw [List.all_cons, Bool.and_eq_true] at h
    obtain ⟨h1, h2⟩ := in_rel ry hy t h.2
    refine ⟨by rw [List.all_cons, flat_rel r h.1, h1]; rfl, ?_⟩
    show (eqV _ u || inV u _) = _
    rw [List.any_cons, eqF_rel r ry h.1 hy, h2]
/-- whether x is in y -/
def isIn (x y : PV) (S : Store) : Option Bool := match drf S y with
  | .lst ys => if flatP x && ys.all flatP then some (ys.any fun z => eqF z x) else
      (match shD S x, shD S y with
      | some d, some (.list ds) => some (ds.any fun z => PyData.eqv z d)
      | _, _ => none)
  | .tup ys => if flatP x && ys.all flatP then some (ys.any fun z => eqF z x) else none
  | .dct kvs => (match keyOf x with
    | some k => some (lookP kvs k).isSome
    | none => none)
  | .str z => (match x with
    | .str ⟨⟨[c]⟩⟩ => some (decide (c ∈ z.cps.toList))
    | _ => none)
  | .dts ks => (match nkT x, nkL ks with
    | some k, some nks => some (decide (k ∈ nks))
    | _, _ => none)
  | _ => none
def oIn (neg : Bool) (x y : PV) (S : Store) : Res PV := match isIn x y S with
  | some b => .ok (.bl (if neg then !b else b)) S
  | none => .fail
def rInA (K : PySem.W.Frag) : R2 := fun x y H Q => rIn K false x y H Q ∨ rInD K x y H Q ∨ rDIn x y H Q ∨ (∃ (c : Nat) (z : Str), x = .str ⟨#[c]⟩ ∧ y = .str z ∧ Q (.bl (decide (c ∈ z.cps.toList))) H) ∨ rNIn K false x y H Q
def rNotInA (K : PySem.W.Frag) : R2 := fun x y H Q => rIn K true x y H Q ∨ rNotInD K x y H Q ∨ rDNotIn x y H Q ∨ (∃ (c : Nat) (z : Str), x = .str ⟨#[c]⟩ ∧ y = .str z ∧ Q (.bl (!decide (c ∈ z.cps.toList))) H) ∨ rNIn K true x y H Q
theorem op_inA {X : Cx} (hu : X.A.units + 65 < cLine) : OpR X (compareOp .In) (rInA X.K) := op_in_seq.or ((op_inD hu).or ((op_dIn (by omega)).or (op_in_sign.or (op_nIn (by omega)))))
theorem op_notInA {X : Cx} (hu : X.A.units + 65 < cLine) : OpR X (compareOp .NotIn) (rNotInA X.K) := op_notIn_seq.or ((op_notInD hu).or ((op_dNotIn (by omega)).or (op_notIn_sign.or (op_nNotIn (by omega)))))
theorem isIn_cases {B : Base} {μ : List Addr} {S : Store} {H : Hp} {x y : PV} {v u : V} {b : Bool} (sr : SR B P μ S H) (rx : Rp B μ (Mz P μ S) H x v) (ry : Rp B μ (Mz P μ S) H y u) (e : isIn x y S = some b) :
    (∃ p vs, u = .ref p ∧ (SqL B.K H p vs ∨ SqT B.K H p vs) ∧ flatV v = true ∧ vs.all flatV = true ∧ inV v vs = b) ∨
    (∃ d ds, Dp B.K H v d ∧ Dp B.K H u (.list ds) ∧ SeqAt.shaped d = true ∧ SeqAt.shaped (.list ds) = true ∧ (ds.any fun z => PyData.eqv z d) = b) ∨
    (∃ a o, u = .ref a ∧ DGet H a v o ∧ o.isSome = b) ∨ (∃ (c : Nat) (z : Str), v = .str ⟨#[c]⟩ ∧ u = .str z ∧ decide (c ∈ z.cps.toList) = b) ∨
    (∃ a c o k nks vs, u = .ref a ∧ v = .ref c ∧ H a = some (IsO a o) ∧ DtO a o nks vs ∧ NvL B.K H nks vs ∧ Nv B.K H k v ∧ k.depth ≤ 8 ∧ decide (k ∈ nks) = b) := by
  unfold isIn at e
  split at e
  · rename_i ys e1
    split at e
    · rename_i hc
      rw [Bool.and_eq_true] at hc
      cases e
      obtain ⟨a, vs, rfl, h1, l1⟩ := lstV sr ry e1
      obtain ⟨z1, z2⟩ := in_rel rx hc.1 l1 hc.2
      exact .inl ⟨a, vs, rfl, .inl (SqL.of h1), flat_rel rx hc.1, z1, z2⟩
    · split at e
      · rename_i d ds h1 h2
        cases e
        obtain ⟨a1, a2⟩ := shD_ok h1
        obtain ⟨b1, b2⟩ := shD_ok h2
        exact .inr (.inl ⟨d, ds, dpS sr rx a1, dpS sr ry b1, a2, b2, rfl⟩)
      · cases e
  · rename_i ys e1
    split at e
    · rename_i hc
      rw [Bool.and_eq_true] at hc
      cases e
      obtain ⟨a, vs, rfl, h1, l1⟩ := tupV sr ry e1
      obtain ⟨z1, z2⟩ := in_rel rx hc.1 l1 hc.2
      exact .inl ⟨a, vs, rfl, .inr h1.sq, flat_rel rx hc.1, z1, z2⟩
    · cases e
  · rename_i kvs e1
    split at e
    · rename_i k e2
      cases e
      obtain ⟨a, vs, rfl, h1, l1⟩ := dctV sr ry e1
      refine .inr (.inr (.inl ⟨a, valV vs k, rfl, .inl ⟨vs, k, h1, keyV sr rx e2, rfl⟩, ?_⟩))
      rcases l1.look k with ⟨x', v', q1, q2, q3⟩ | ⟨q1, q2⟩
      · rw [q1, q2] <;> rfl
      · rw [q1, q2] <;> rfl
    · cases e
  · rename_i z e1
    split at e
    · cases e
      cases rx
      exact .inr (.inr (.inr (.inl ⟨_, z, rfl, strV sr ry e1, rfl⟩)))
    · cases e
  · rename_i ks e1
    split at e
    · rename_i k nks e2 e3
      cases e
      obtain ⟨a, o, nks', vs, rfl, h1, h2, h3, h4⟩ := dtsV sr ry e1
      rw [e3] at h2
      cases h2
      obtain ⟨q1, q2, q3, c, q4⟩ := nkT_ok rx e2
      exact .inr (.inr (.inr (.inr ⟨a, c, o, k, nks, vs, rfl, q4, h1, h3, h4.nv e3, q3, q2, rfl⟩)))
    · cases e
  · cases e
theorem sv_in {B : Base} : Sv2 B (rInA B.K) (oIn false) := by
  intro P W σ μ S H x y v u Q sr rx ry g
  unfold oIn at g
  split at g
  · rename_i b e
    have g1 := g.done sr (.bl _)
    rcases isIn_cases sr rx ry e with ⟨p, vs, rfl, h1, h2, h3, rfl⟩ | ⟨d, ds, h1, h2, h3, h4, rfl⟩ | ⟨a, o, rfl, h1, rfl⟩ | ⟨c, z, rfl, rfl, rfl⟩ | ⟨a, c, o, k, nks, vs, rfl, rfl, h1, h2, h3, h4, h5, rfl⟩
    · exact .inl ⟨p, vs, rfl, h1, h2, h3, g1⟩
    · exact .inr (.inl ⟨d, ds, h1, h2, h3, h4, g1⟩)
    · exact .inr (.inr (.inl ⟨a, o, rfl, h1, g1⟩))
    · exact .inr (.inr (.inr (.inl ⟨c, z, rfl, rfl, g1⟩)))
    · exact .inr (.inr (.inr (.inr ⟨a, c, o, k, nks, vs, rfl, rfl, h1, h2, h3, h4, h5, g1⟩)))
  · exact g.elim
theorem sv_notIn {B : Base} : Sv2 B (rNotInA B.K) (oIn true) := by
  intro P W σ μ S H x y v u Q sr rx ry g
  unfold oIn at g
  split at g
  · rename_i b e
    have g1 := g.done sr (.bl _)
    rcases isIn_cases sr rx ry e with ⟨p, vs, rfl, h1, h2, h3, rfl⟩ | ⟨d, ds, h1, h2, h3, h4, rfl⟩ | ⟨a, o, rfl, h1, rfl⟩ | ⟨c, z, rfl, rfl, rfl⟩ | ⟨a, c, o, k, nks, vs, rfl, rfl, h1, h2, h3, h4, h5, rfl⟩
    · exact .inl ⟨p, vs, rfl, h1, h2, h3, g1⟩
    · exact .inr (.inl ⟨d, ds, h1, h2, h3, h4, g1⟩)
    · exact .inr (.inr (.inl ⟨a, o, rfl, h1, g1⟩))
    · exact .inr (.inr (.inr (.inl ⟨c, z, rfl, rfl, g1⟩)))
    · exact .inr (.inr (.inr (.inr ⟨a, c, o, k, nks, vs, rfl, rfl, h1, h2, h3, h4, h5, g1⟩)))
  · exact g.elim
end E2
end
section
set_option Elab.async false
set_option linter.all false
set_option maxRecDepth 100000
set_option maxHeartbeats 4000000
set_option autoImplicit false
namespace E2
open PySem L2
variable {P P' : Pv}
section
variable {B : Base} {μ : List Addr} {M : Mx} {H : Hp}
theorem RpL.one {xs : List PV} {v : List V} {x : PV} (h : RpL B μ M H [x] v) : ∃ w, v = [w] ∧ Rp B μ M H x w := by
  cases h with
  | cons r t => cases t; exact ⟨_, rfl, r⟩
theorem RpL.two {v : List V} {x y : PV} (h : RpL B μ M H [x, y] v) : ∃ w u, v = [w, u] ∧ Rp B μ M H x w ∧ Rp B μ M H y u := by
  cases h with
  | cons r t => cases t with
    | cons r' t => cases t; exact ⟨_, _, rfl, r, r'⟩
end

/-! ### len -/
def oLen (xs : List PV) (S : Store) : Res PV := match xs with
  | [x] => (match drf S x with
    | .lst ys => .ok (.int ys.length) S
    | .tup ys => .ok (.int ys.length) S
    | .scr ys => .ok (.int ys.length) S
    | .dct ys => .ok (.int ys.length) S
    | .str z => if z.length ≤ sizeLine then .ok (.int z.length) S else .fail
    | _ => .fail)
  | _ => .fail
def rLenA (K : PySem.W.Frag) : List V → Hp → VK → Prop := fun xs H Q => (∃ x n, xs = [x] ∧ LenV K x H n ∧ Q (.int n) H) ∨ (∃ a kvs, xs = [V.ref a] ∧ Rd H a (.dK kvs) ∧ Q (.int kvs.length) H)
theorem call_lenR {X : Cx} : CallR X (.builtin "len") (fun xs H Q => ∃ a kvs, xs = [V.ref a] ∧ Rd H a (.dK kvs) ∧ Q (.int kvs.length) H) := by
  rintro pins s σ H _ us Q I r ⟨a, kvs, rfl, ha, q⟩
  obtain ⟨_, rfl, ⟨⟩⟩ := vals1 r
  exact d_len I ha fun t s2 I2 => ⟨.int kvs.length, H, I2, ⟨t, rfl⟩, q⟩
theorem call_lenA {X : Cx} : CallR X (.builtin "len") (rLenA X.K) := call_len.or call_lenR
theorem sv_len {B : Base} : SvL B (rLenA B.K) oLen := by
  intro P W σ μ S H xs vs Q sr l g
  unfold oLen at g
  split at g
  · rename_i x
    obtain ⟨w, rfl, r⟩ := RpL.one (xs := [x]) l
    split at g
    · rename_i ys e
      obtain ⟨a, us, rfl, h1, l1⟩ := lstV sr r e
      exact .inl ⟨_, us.length, rfl, .inl ⟨us, SqL.of h1, rfl⟩, by rw [← l1.length]; exact g.done sr (.int _)⟩
    · rename_i ys e
      obtain ⟨a, us, rfl, h1, l1⟩ := tupV sr r e
      exact .inl ⟨_, us.length, rfl, .inr ⟨us, h1.sq, rfl⟩, by rw [← l1.length]; exact g.done sr (.int _)⟩
    · rename_i ys e
      obtain ⟨a, rfl, h1⟩ := scrV sr r e
      exact .inl ⟨_, _, rfl, .inl ⟨_, h1, rfl⟩, by rw [List.length_map]; exact g.done sr (.int _)⟩
    · rename_i ys e
      obtain ⟨a, us, rfl, h1, l1⟩ := dctV sr r e
      exact .inr ⟨_, us, rfl, h1, by rw [← l1.length]; exact g.done sr (.int _)⟩
    · rename_i z e
      split at g
      · rw [strV sr r e]
        exact .inl ⟨_, z.length, rfl, ⟨by assumption, rfl⟩, g.done sr (.int _)⟩
      · exact g.elim
    · exact g.elim
  · exact g.elim
/-! ### int -/
def oInt (xs : List PV) (S : Store) : Res PV := match xs with
  | [x] => (match drf S x with
    | .int i => .ok (.int i) S
    | .bl b => .ok (.int (if b then 1 else 0)) S
    | _ => .fail)
  | _ => .fail
theorem sv_int {B : Base} : SvL B (fun xs H Q => (∃ i, xs = [.int i] ∧ Q (.int i) H) ∨ ∃ k, xs = [.bl k] ∧ Q (.int (if k then 1 else 0)) H) oInt := by
  intro P W σ μ S H xs vs Q sr l g
  unfold oInt at g
  split at g
  · rename_i x
    obtain ⟨w, rfl, r⟩ := RpL.one (xs := [x]) l
    split at g
    · rename_i i e
      rw [intV sr r e]
      exact .inl ⟨i, rfl, g.done sr (.int _)⟩
    · rename_i i e
      rw [blV sr r e]
      exact .inr ⟨i, rfl, g.done sr (.int _)⟩
    · exact g.elim
  · exact g.elim
/-! ### max, min, sum, all, any -/
def lmax : Int → List Int → Int
  | a, [] => a
  | a, b :: r => lmax (if b > a then b else a) r
def lmin : Int → List Int → Int
  | a, [] => a
  | a, b :: r => lmin (if b < a then b else a) r
theorem lmax_eq : ∀ (r : List Int) (a m : Int), m ∈ a :: r → (∀ y, y ∈ a :: r → y ≤ m) → m = lmax a r
  | [], a, m, h, _ => by rw [List.mem_singleton] at h; exact h
  | b :: r, a, m, h, k => by
    refine lmax_eq r _ m ?_ ?_
    · have h2 := k a (by simp)
      have h3 := k b (by simp)
      rcases List.mem_cons.mp h with e | h
      · subst e
        split
        · exact absurd h3 (by omega)
        · simp
      · rcases List.mem_cons.mp h with e | h
        · subst e
          split
          · simp
          · have : m = a := by omega
            simp [this]
        · simp [h]
    · intro y hy
      rcases List.mem_cons.mp hy with e | hy
      · subst e
        split
        · exact k b (by simp)
        · exact k a (by simp)
      · exact k y (by simp [hy])
theorem lmin_eq : ∀ (r : List Int) (a m : Int), m ∈ a :: r → (∀ y, y ∈ a :: r → m ≤ y) → m = lmin a r
  | [], a, m, h, _ => by rw [List.mem_singleton] at h; exact h
  | b :: r, a, m, h, k => by
    refine lmin_eq r _ m ?_ ?_
    · have h2 := k a (by simp)
      have h3 := k b (by simp)
      rcases List.mem_cons.mp h with e | h
      · subst e
        split
        · exact absurd h3 (by omega)
        · simp
      · rcases List.mem_cons.mp h with e | h
        · subst e
          split
          · simp
          · have : m = a := by omega
            simp [this]
        · simp [h]
    · intro y hy
      rcases List.mem_cons.mp hy with e | hy
      · subst e
        split
        · exact k b (by simp)
        · exact k a (by simp)
      · exact k y (by simp [hy])
def oMax (xs : List PV) (S : Store) : Res PV := match xs with
  | [x] => (match drf S x with
    | .lst ys => (match asInts ys with
      | some (a :: r) => .ok (.int (lmax a r)) S
      | _ => .fail)
    | _ => .fail)
  | [x, y] => (match drf S x, drf S y with
    | .int i, .int j => .ok (.int (if j > i then j else i)) S
    | _, _ => .fail)
  | _ => .fail
def oMin (xs : List PV) (S : Store) : Res PV := match xs with
  | [x] => (match drf S x with
    | .lst ys => (match asInts ys with
      | some (a :: r) => .ok (.int (lmin a r)) S
      | _ => .fail)
    | _ => .fail)
  | [x, y] => (match drf S x, drf S y with
    | .int i, .int j => .ok (.int (if j < i then j else i)) S
    | _, _ => .fail)
  | _ => .fail
theorem sv_max {B : Base} : SvL B (fun xs H Q => rMax B.K xs H Q ∨ ∃ i j, xs = [.int i, .int j] ∧ Q (.int (if j > i then j else i)) H) oMax := by
  intro P W σ μ S H xs vs Q sr l g
  unfold oMax at g
  split at g
  · rename_i x
    obtain ⟨w, rfl, r⟩ := RpL.one (xs := [x]) l
    split at g
    · rename_i ys e
      split at g
      · rename_i a rr e2
        obtain ⟨p, us, rfl, h1, l1⟩ := lstV sr r e
        have z := asInts_ok l1 e2
        subst z
        refine .inl ⟨p, _, rfl, SqL.of h1, by simp, fun m h1 h2 => ?_⟩
        rw [lmax_eq rr a m h1 h2]
        exact g.done sr (.int _)
      · exact g.elim
    · exact g.elim
  · rename_i x y
    obtain ⟨w, u, rfl, r, r'⟩ := RpL.two l
    split at g
    · rename_i i j e1 e2
      rw [intV sr r e1, intV sr r' e2]
      exact .inr ⟨i, j, rfl, g.done sr (.int _)⟩
    · exact g.elim
  · exact g.elim
theorem sv_min {B : Base} : SvL B (fun xs H Q => rMin B.K xs H Q ∨ ∃ i j, xs = [.int i, .int j] ∧ Q (.int (if j < i then j else i)) H) oMin := by
  intro P W σ μ S H xs vs Q sr l g
  unfold oMin at g
  split at g
  · rename_i x
    obtain ⟨w, rfl, r⟩ := RpL.one (xs := [x]) l
    split at g
    · rename_i ys e
      split at g
      · rename_i a rr e2
        obtain ⟨p, us, rfl, h1, l1⟩ := lstV sr r e
        have z := asInts_ok l1 e2
        subst z
        refine .inl ⟨p, _, rfl, SqL.of h1, by simp, fun m h1 h2 => ?_⟩
        rw [lmin_eq rr a m h1 h2]
        exact g.done sr (.int _)
      · exact g.elim
    · exact g.elim
  · rename_i x y
    obtain ⟨w, u, rfl, r, r'⟩ := RpL.two l
    split at g
    · rename_i i j e1 e2
      rw [intV sr r e1, intV sr r' e2]
      exact .inr ⟨i, j, rfl, g.done sr (.int _)⟩
    · exact g.elim
  · exact g.elim
def oSum (xs : List PV) (S : Store) : Res PV := match xs with
  | [x] => (match drf S x with
    | .lst ys => (match asInts ys with
      | some ns => .ok (.int ns.sum) S
      | _ => .fail)
    | .tup ys => (match asInts ys with
      | some ns => .ok (.int ns.sum) S
      | _ => .fail)
    | _ => .fail)
  | _ => .fail
/-- sum of a tuple of ints -/
def rSumT (K : PySem.W.Frag) : List V → Hp → VK → Prop := fun vs H Q => ∃ (a : Addr) (ns : List Int), vs = [V.ref a] ∧ SqT K H a (ns.map V.int) ∧ Q (.int ns.sum) H
open PySem.Spec PySem.Calls PyProof.Rows PyProof.V in
theorem cr_sumT {X : Cx} (hc : X.calm = true) : CallR X (.builtin "sum") (rSumT X.K) := by
  intro pins s σ H vs us Q I r h
  obtain ⟨a, ns, rfl, hs, q⟩ := h
  obtain ⟨its, rv, ht, _⟩ := I.tuple hs
  rw [Vals.ref1 r]
  have hi := rv.ints
  obtain ⟨xs, hx⟩ := hi.allInts.items
  have hn : numsOf its.toArray.toList = ns := by rw [show its.toArray.toList = its from rfl, hi.numsOf]
  have ht : s.heap.IsTuple a its.toArray := ht
  rw [hx] at ht hn
  rw [nums_intItems] at hn
  refine PySem.W.ktm_sumG (I.ok.hd hc) ht fun h' tk t' hk => ?_
  rw [preSum_eq, List.take_of_length_le (by simp), hn]
  exact ⟨.int _, H, I.kept hk, ⟨_, rfl⟩, q⟩
theorem sv_sum {B : Base} : SvL B (fun vs H Q => rSum B.K vs H Q ∨ rSumT B.K vs H Q) oSum := by
  intro P W σ μ S H xs vs Q sr l g
  unfold oSum at g
  split at g
  · rename_i x
    obtain ⟨w, rfl, r⟩ := RpL.one (xs := [x]) l
    split at g
    · rename_i ys e
      split at g
      · rename_i ns e2
        obtain ⟨p, us, rfl, h1, l1⟩ := lstV sr r e
        have z := asInts_ok l1 e2
        subst z
        exact .inl ⟨p, ns, rfl, SqL.of h1, g.done sr (.int _)⟩
      · exact g.elim
    · rename_i ys e
      split at g
      · rename_i ns e2
        obtain ⟨p, us, rfl, h1, l1⟩ := tupV sr r e
        have z := asInts_ok l1 e2
        subst z
        exact .inr ⟨p, ns, rfl, h1.sq, g.done sr (.int _)⟩
      · exact g.elim
    · exact g.elim
  · exact g.elim
def asBls : List PV → Option (List Bool)
  | [] => some []
  | .bl i :: r => (match asBls r with
    | some ns => some (i :: ns)
    | none => none)
  | _ :: _ => none
theorem asBls_ok {B : Base} {μ : List Addr} {M : Mx} {H : Hp} : ∀ {xs : List PV} {vs : List V} {ns : List Bool}, RpL B μ M H xs vs → asBls xs = some ns → vs = ns.map V.bl
  | _, _, _, .nil, e => by simp only [asBls, Option.some.injEq] at e; subst e; rfl
  | _, _, _, .cons (x := x) r t, e => by
    cases x with
    | bl i =>
      simp only [asBls] at e
      split at e
      · rename_i ns e1
        cases e
        cases r
        rw [asBls_ok t e1]; rfl
      · cases e
    | _ => simp [asBls] at e
def oAll (xs : List PV) (S : Store) : Res PV := match xs with
  | [x] => (match drf S x with
    | .lst ys => (match asBls ys with
      | some ns => .ok (.bl (ns.all id)) S
      | _ => .fail)
    | _ => .fail)
  | _ => .fail
def oAny (xs : List PV) (S : Store) : Res PV := match xs with
  | [x] => (match drf S x with
    | .lst ys => (match asBls ys with
      | some ns => .ok (.bl (ns.any id)) S
      | _ => .fail)
    | _ => .fail)
  | _ => .fail
theorem sv_all {B : Base} : SvL B (rAll B.K) oAll := by
  intro P W σ μ S H xs vs Q sr l g
  unfold oAll at g
  split at g
  · rename_i x
    obtain ⟨w, rfl, r⟩ := RpL.one (xs := [x]) l
    split at g
    · rename_i ys e
      split at g
      · rename_i ns e2
        obtain ⟨p, us, rfl, h1, l1⟩ := lstV sr r e
        have z := asBls_ok l1 e2
        subst z
        exact ⟨p, ns, rfl, SqL.of h1, g.done sr (.bl _)⟩
      · exact g.elim
    · exact g.elim
  · exact g.elim
theorem sv_any {B : Base} : SvL B (rAny B.K) oAny := by
  intro P W σ μ S H xs vs Q sr l g
  unfold oAny at g
  split at g
  · rename_i x
    obtain ⟨w, rfl, r⟩ := RpL.one (xs := [x]) l
    split at g
    · rename_i ys e
      split at g
      · rename_i ns e2
        obtain ⟨p, us, rfl, h1, l1⟩ := lstV sr r e
        have z := asBls_ok l1 e2
        subst z
        exact ⟨p, ns, rfl, SqL.of h1, g.done sr (.bl _)⟩
      · exact g.elim
    · exact g.elim
  · exact g.elim
/-! ### tuple, list -/
def oTupOf (xs : List PV) (S : Store) : Res PV := match xs with
  | [x] => (match drf S x with
    | .lst ys => .ok (.tup ys) S
    | .tup ys => .ok (.tup ys) S
    | _ => .fail)
  | _ => .fail
def keysP : List (PV × PV) → List PV
  | [] => []
  | p :: r => p.1 :: keysP r
theorem RpK.keys {B : Base} {μ : List Addr} {M : Mx} {H : Hp} : ∀ {kvs : List (PV × PV)} {qs : List (Key × V)}, RpK B μ M H kvs qs → RpL B μ M H (keysP kvs) (qs.map fun kv => kV kv.1)
  | _, _, .nil => .nil
  | _, _, .int r t => .cons (.int _) (RpK.keys t)
  | _, _, .str r t => .cons (.str _) (RpK.keys t)
def oLstOf (xs : List PV) (S : Store) : Res PV := match xs with
  | [x] => (match drf S x with
    | .lst ys => .ok (.lst ys) S
    | .tup ys => .ok (.lst ys) S
    | .dct ys => .ok (.lst (keysP ys)) S
    | .dts ys => .ok (.lst ys) S
    | _ => .fail)
  | _ => .fail
theorem sv_tupOf {B : Base} : SvL B (rTupF B.K) oTupOf := by
  intro P W σ μ S H xs vs Q sr l g
  unfold oTupOf at g
  split at g
  · rename_i x
    obtain ⟨w, rfl, r⟩ := RpL.one (xs := [x]) l
    split at g
    · rename_i ys e
      obtain ⟨p, us, rfl, h1, l1⟩ := lstV sr r e
      exact ⟨p, us, rfl, .inl ⟨SqL.of h1, go_tup sr l1 g⟩⟩
    · rename_i ys e
      obtain ⟨p, us, rfl, h1, l1⟩ := tupV sr r e
      exact ⟨p, us, rfl, .inr ⟨h1.sq, g.done sr (.tup h1 l1)⟩⟩
    · exact g.elim
  · exact g.elim
/-- list(d): a dict that may be locked -/
def rListR : List V → Hp → VK → Prop := fun xs H Q => ∃ p kvs, xs = [.ref p] ∧ Rd H p (.dK kvs) ∧ ∀ q, H q = none → Q (.ref q) (upd H q (.lst (kvs.map fun kv => kV kv.1)))
theorem call_list_R {X : Cx} (hc : X.calm = true) : CallR X (.type "list") rListR := by
  rintro pins s σ H _ us Q I r ⟨p, kvs, rfl, hk, q⟩
  obtain ⟨_, rfl, ⟨⟩⟩ := vals1 r
  obtain ⟨z, lo, vs, rk, hd⟩ := dk_rd I.hok hk
  obtain ⟨ep, hat⟩ := hd.dictAt
  have hl : kvs.length = vs.length := rk.length
  have e3 : (kvs.map fun kv => kV kv.1) = (kvs.map (·.1)).map kV := by simp [List.map_map, Function.comp_def]
  refine PySem.W.kdl_call (PySem.W.kdl_dict (knd := mixKind X.prog X.w) (kvs := vs) (ep := ep) lo) (I.ok.hd hc) hat (hl ▸ z) fun h2 tk acc c2 hkeep hS hacc => ?_
  have rel : Vals (kvs.map fun kv => kV kv.1) acc.toList := by
    refine vals_of_at (by simp [hacc.1, hl]) fun j x w h1 h2 => ?_
    obtain ⟨k, y, hky, hi⟩ := hacc.2 j w (by simpa using h2)
    have e1 : (kvs.map (·.1))[j]? = some k := by rw [KV.keys rk, List.getElem?_map, hky]; rfl
    rw [e3, List.getElem?_map, e1] at h1
    cases h1
    exact keyIs_rel hi
  exact ⟨.ref s.heap.objs.size, _, I.laid (o := .lst (kvs.map fun kv => kV kv.1)) hkeep (Nat.le_refl _) ⟨by rw [List.length_map]; exact z, acc.toList, c2, rel, by rw [Array.toArray_toList]; exact hS⟩, rfl, q _ (I.hok.fresh (Nat.le_refl _))⟩
def rLstA (K : PySem.W.Frag) : List V → Hp → VK → Prop := fun xs H Q => (∃ p ys, xs = [.ref p] ∧ (SqL K H p ys ∨ SqT K H p ys) ∧ ∀ l, H l = none → Q (.ref l) (upd H l (.lst ys))) ∨ rListR xs H Q ∨ rNList xs H Q
theorem call_lstA {X : Cx} (hc : X.calm = true) : CallR X (.type "list") (rLstA X.K) := call_list_of.or ((call_list_R hc).or (call_listN hc))
theorem sv_lstOf {B : Base} : SvL B (rLstA B.K) oLstOf := by
  intro P W σ μ S H xs vs Q sr l g
  unfold oLstOf at g
  split at g
  · rename_i x
    obtain ⟨w, rfl, r⟩ := RpL.one (xs := [x]) l
    split at g
    · rename_i ys e
      obtain ⟨p, us, rfl, h1, l1⟩ := lstV sr r e
      exact .inl ⟨p, us, rfl, .inl (SqL.of h1), fun q hq => go_lst sr hq l1 g⟩
    · rename_i ys e
      obtain ⟨p, us, rfl, h1, l1⟩ := tupV sr r e
      exact .inl ⟨p, us, rfl, .inr h1.sq, fun q hq => go_lst sr hq l1 g⟩
    · rename_i ys e
      obtain ⟨p, us, rfl, h1, l1⟩ := dctV sr r e
      exact .inr (.inl ⟨p, us, rfl, h1, fun q hq => go_lst sr hq l1.keys g⟩)
    · rename_i ys e
      obtain ⟨a, o, nks, vs, rfl, h1, h2, h3, l1⟩ := dtsV sr r e
      exact .inr (.inr ⟨a, o, nks, vs, rfl, h1, h3, fun q hq => go_lst sr hq l1 g⟩)
    · exact g.elim
  · exact g.elim
/-- list(x) kept as a cell -/
def oLstOfR (xs : List PV) (S : Store) : Res PV := match xs with
  | [x] => (match drf S x with
    | .lst ys => .ok (.ref S.length) (S ++ [(true, .lst ys)])
    | .tup ys => .ok (.ref S.length) (S ++ [(true, .lst ys)])
    | .dts ys => .ok (.ref S.length) (S ++ [(true, .lst ys)])
    | _ => .fail)
  | _ => .fail
theorem go_cell {B : Base} {W : WX} {σ : St} {μ : List Addr} {S : Store} {H : Hp} {xs : List PV} {vs : List V} {Q : VK} {p : Addr} (sr : SR B P μ S H) (hp : H p = none) (r : RpL B μ (Mz P μ S) H xs vs) (g : Go B P (RelP B) W σ (.ok (.ref S.length) (S ++ [(true, .lst xs)])) μ S H Q) : Q (.ref p) (upd H p (.lst vs)) := by
  obtain ⟨ex, sr2⟩ := new_cell sr hp r
  exact g _ _ (.ref p) ex sr2 (.ref (by rw [← sr.len, List.getElem?_append_right (Nat.le_refl _)]; simp))
theorem sv_lstOfR {B : Base} : SvL B (rLstA B.K) oLstOfR := by
  intro P W σ μ S H xs vs Q sr l g
  unfold oLstOfR at g
  split at g
  · rename_i x
    obtain ⟨w, rfl, r⟩ := RpL.one (xs := [x]) l
    split at g
    · rename_i ys e
      obtain ⟨p, us, rfl, h1, l1⟩ := lstV sr r e
      exact .inl ⟨p, us, rfl, .inl (SqL.of h1), fun q hq => go_cell sr hq l1 g⟩
    · rename_i ys e
      obtain ⟨p, us, rfl, h1, l1⟩ := tupV sr r e
      exact .inl ⟨p, us, rfl, .inr h1.sq, fun q hq => go_cell sr hq l1 g⟩
    · rename_i ys e
      obtain ⟨a, o, nks, vs, rfl, h1, h2, h3, l1⟩ := dtsV sr r e
      exact .inr (.inr ⟨a, o, nks, vs, rfl, h1, h3, fun q hq => go_cell sr hq l1 g⟩)
    · exact g.elim
  · exact g.elim
/-! ### abs, str -/
def oAbs (xs : List PV) (S : Store) : Res PV := match xs with
  | [x] => (match drf S x with
    | .int i => .ok (.int (if i < 0 then -i else i)) S
    | _ => .fail)
  | _ => .fail
theorem sv_abs {B : Base} : SvL B (fun xs H Q => ∃ i, xs = [.int i] ∧ Q (.int (if i < 0 then -i else i)) H) oAbs := by
  intro P W σ μ S H xs vs Q sr l g
  unfold oAbs at g
  split at g
  · rename_i x
    obtain ⟨w, rfl, r⟩ := RpL.one (xs := [x]) l
    split at g
    · rename_i i e
      rw [intV sr r e]
      exact ⟨i, rfl, g.done sr (.int _)⟩
    · exact g.elim
  · exact g.elim
/-! ### isinstance -/
def isI : Ty → Ty → Bool
  | .bool, .int => true
  | .non, .non => true | .bool, .bool => true | .int, .int => true | .str, .str => true | .list, .list => true | .tuple, .tuple => true | .dict, .dict => true
  | _, _ => false
theorem isI_ok (a b : Ty) : kitB a.name b.name = some (isI a b) := by
  cases a <;> cases b <;> decide +kernel
def tyOf (S : Store) (x : PV) : Option Ty := match drf S x with
  | .non => some .non | .bl _ => some .bool | .int _ => some .int | .str _ => some .str
  | .lst _ => some .list | .tup _ => some .tuple | .dct _ => some .dict
  | _ => none
theorem tyOf_ok {B : Base} {μ : List Addr} {S : Store} {H : Hp} (sr : SR B P μ S H) {x : PV} {v : V} {t : Ty} (r : Rp B μ (Mz P μ S) H x v) (e : tyOf S x = some t) : TyX B.K H v (.type t.name) := by
  unfold tyOf at e
  split at e <;> rename_i q <;> cases e
  · rw [nonV sr r q]; exact .base .non
  · rw [blV sr r q]; exact .base (.bl _)
  · rw [intV sr r q]; exact .base (.int _)
  · rw [strV sr r q]; exact .base (.str _)
  · obtain ⟨p, us, rfl, h1, l1⟩ := lstV sr r q; exact .base (.lst h1)
  · obtain ⟨p, us, rfl, h1, l1⟩ := tupV sr r q
    rcases h1 with ⟨o, h1, _⟩ | ⟨o, its, n, h1, h2, _⟩
    · exact .fTuple h1
    · exact .kTuple h1 h2
  · obtain ⟨p, us, rfl, h1 | ⟨o, h1⟩, l1⟩ := dctV sr r q
    · exact .base (.dK h1)
    · exact .fDict h1
def isiTys (t : Ty) : List PV → Option Bool
  | [] => some false
  | .ty n :: r => (match isiTys t r with
    | some c => some (isI t n || c)
    | none => none)
  | _ :: _ => none
def oIsi (xs : List PV) (S : Store) : Res PV := match xs with
  | [x, .ty n] => (match tyOf S x with
    | some t => .ok (.bl (isI t n)) S
    | none => .fail)
  | [x, .tup ts] => (match tyOf S x with
    | some t => (match isiTys t ts with
      | some b => .ok (.bl b) S
      | none => .fail)
    | none => .fail)
  | _ => .fail
theorem isiTys_ok {B : Base} {μ : List Addr} {M : Mx} {H : Hp} {t : Ty} : ∀ {ts : List PV} {vs : List V} {b : Bool}, RpL B μ M H ts vs → isiTys t ts = some b → ∃ us, Paired ClsV vs us ∧ PySem.W.kitAny B.K (.type t.name) us = some b
  | _, _, b, .nil, e => by simp only [isiTys, Option.some.injEq] at e; subst e; exact ⟨[], .nil, rfl⟩
  | _, _, b, .cons (x := x) r rest, e => by
    cases x with
    | ty n =>
      cases r
      simp only [isiTys] at e
      split at e
      · rename_i c k
        obtain ⟨us, h1, h2⟩ := isiTys_ok rest k
        cases e
        refine ⟨_, .cons (.ty n.name) h1, kitAny_cons (kit_ty (isI_ok t n)) (fun z => ?_) (fun z => by rw [z]; rfl)⟩
        rw [z]; exact h2
      · cases e
    | _ => simp [isiTys] at e
/-- .. of a tuple of classes whose object is kept in mind -/
def rIsiF (K : PySem.W.Frag) : List V → Hp → VK → Prop := fun xs H Q => ∃ (x : V) (tp : Addr) (o : Obj) (cs : List V) (t : Value) (us : List Value) (b : Bool), xs = [x, .ref tp] ∧ H tp = some (.frz o (.tup cs)) ∧ Paired ClsV cs us ∧ TyX K H x t ∧ PySem.W.kitAny K t us = some b ∧ Q (.bl b) H
theorem call_isiF {X : Cx} : CallR X (.builtin "isinstance") (rIsiF X.K) := by
  rintro pns s σ H xs us Q I r ⟨x, tp, o, cs, t, ws, b, rfl, hT, k, ty, e, q⟩
  obtain ⟨u1, u2, rfl, r1, r2⟩ := vals2 r
  cases (show u2 = Value.ref tp from r2)
  obtain ⟨Pr, Z, p, hx⟩ := kit_of I r1 ty
  obtain ⟨_, _, is, rv, o', h1, h2, n, h3⟩ := (show ObjOk X.prog X.w H s.heap tp (.frz o (.tup cs)) from I.hok tp _ hT)
  have e3 := ClsV.all k rv
  subst e3
  obtain ⟨oc, od, dt, sl⟩ := o'
  simp only at h2 h3
  subst h2 h3
  exact PySem.W.kia_tup Z I.kIn p h1 e hx fun tk => ⟨.bl b, H, I.tok tk, rfl, q⟩
def rIsiA (K : PySem.W.Frag) : List V → Hp → VK → Prop := fun xs H Q => rIsi K xs H Q ∨ rIsiF K xs H Q ∨ rIsiK K xs H Q
theorem call_isiA {X : Cx} : CallR X (.builtin "isinstance") (rIsiA X.K) := call_isi.or (call_isiF.or call_isiK)
theorem sv_isi {B : Base} : SvL B (rIsiA B.K) oIsi := by
  intro P W σ μ S H xs vs Q sr l g
  unfold oIsi at g
  split at g
  · rename_i x n
    obtain ⟨w, u, rfl, r, r'⟩ := RpL.two l
    split at g
    · rename_i t e
      cases r'
      exact .inl ⟨w, _, _, _, _, rfl, .ty _, tyOf_ok sr r e, kit_ty (isI_ok t n), g.done sr (.bl _)⟩
    · exact g.elim
  · rename_i x ts
    obtain ⟨w, u, rfl, r, r'⟩ := RpL.two l
    split at g
    · rename_i t e
      split at g
      · rename_i b e2
        cases r' with
        | tup h lt =>
          obtain ⟨us, h1, h2⟩ := isiTys_ok lt e2
          rcases h with h | h
          · obtain ⟨o, h, _⟩ := h
            exact .inr (.inl ⟨w, _, o, _, _, us, b, rfl, h, h1, tyOf_ok sr r e, h2, g.done sr (.bl _)⟩)
          · obtain ⟨⟨oc, od, dt, sl⟩, its, n, k1, k2, _, k3, _, k4⟩ := h
            simp only at k2 k3
            subst k2 k3
            have z := ClsV.all h1 k4
            subst z
            exact .inr (.inr ⟨w, _, od, its.toList, n, sl, _, b, rfl, k1, tyOf_ok sr r e, h2, g.done sr (.bl _)⟩)
      · exact g.elim
    · exact g.elim
  · exact g.elim
end E2
end
section
set_option Elab.async false
set_option linter.all false
set_option maxRecDepth 100000
set_option maxHeartbeats 4000000
set_option autoImplicit false
/-! dict(t), t a tuple of pairs -/
namespace E2
open PySem L2
open PyProof.Rows (IsTup)
variable {P P' : Pv}
/-- a tuple that has no dict of its own -/
def PlT (K : PySem.W.Frag) (H : Hp) (a : Addr) (xs : List V) : Prop := TupAt K H a xs
theorem plain_of {X : Cx} {pns : List (Addr × Obj)} {σ : St} {H : Hp} {s : Shared} {a : Addr} {xs : List V} (I : Inv X pns σ H s) (h : TupAt X.K H a xs) : ∃ us : List Value, Vals xs us ∧ PySem.PlainSeq "tuple" s.heap a us.toArray ∧ xs.length ≤ sizeLine := by
  rcases h with ⟨o, h, d⟩ | ⟨o, its, n, hk, hc, hd, hs, hz, r⟩
  · obtain ⟨g, z, us, rv, o', h1, h2, n, h3⟩ := (show ObjOk X.prog X.w H s.heap a (.frz o (.tup xs)) from I.hok a _ h)
    rw [g] at h1
    cases h1
    exact ⟨us, rv, ⟨o, n, g, h2, d, h3⟩, z⟩
  · refine ⟨its.toList, r, ⟨o, n, I.kIn a o hk, hc, hd, by simpa using hs⟩, ?_⟩
    have e := r.length
    simp only [Array.length_toList] at e
    omega
theorem raw_of {X : Cx} {pns : List (Addr × Obj)} {σ : St} {H : Hp} {s : Shared} (I : Inv X pns σ H s) : ∀ {ps : List Addr} {kvs : List (Key × V)}, Paired (fun p kv => SqT X.K H p [kV kv.1, kv.2]) ps kvs →
    ∃ (prs : List (Key × Value)) (raw : List (Value × Value)), KV kvs prs ∧ prs.length = ps.length ∧ raw.length = ps.length ∧ ∀ (j : Nat) (u v : Value), raw[j]? = some (u, v) → ∃ (b : Addr) (k : Key), ps[j]? = some b ∧ prs[j]? = some (k, v) ∧ IsTup s.heap b #[u, v] ∧ keyIs k u = true
  | _, _, .nil => ⟨[], [], .nil, rfl, rfl, fun j u v e => by simp at e⟩
  | _, _, .cons (a := p) (b := kv) h t => by
    obtain ⟨prs, raw, r, l1, l2, hp⟩ := raw_of I t
    obtain ⟨is, rv, ht, _⟩ := I.tuple h
    obtain ⟨u, y, ei, ru, ry⟩ := vals2 rv
    subst ei
    refine ⟨(kv.1, y) :: prs, (u, y) :: raw, .cons ⟨rfl, ry⟩ r, by simp [l1], by simp [l2], fun j u' v' e => ?_⟩
    cases j with
    | zero =>
      simp only [List.getElem?_cons_zero, Option.some.injEq, Prod.mk.injEq] at e
      obtain ⟨rfl, rfl⟩ := e
      exact ⟨p, kv.1, rfl, rfl, ht, kV_is (P := X.prog) (w := X.w) ru⟩
    | succ j =>
      simp only [List.getElem?_cons_succ] at e ⊢
      exact hp j u' v' e
def rDictF (K : PySem.W.Frag) : List V → Hp → VK → Prop := fun xs H Q => ∃ (a : Addr) (ps : List Addr) (kvs : List (Key × V)), xs = [.ref a] ∧ TupAt K H a (ps.map V.ref) ∧ Paired (fun p kv => SqT K H p [kV kv.1, kv.2]) ps kvs ∧ ∀ p, H p = none → Q (.ref p) (upd H p (.dK (mergeK [] kvs)))
theorem call_dictF {X : Cx} (hcalm : X.calm = true) : CallR X (.type "dict") (rDictF X.K) := by
  rintro pns s σ H xs us Q I r ⟨a, ps, kvs, rfl, hq, hp, q⟩
  obtain ⟨_, rfl, ⟨⟩⟩ := vals1 r
  obtain ⟨ws, rv, pl, hz⟩ := plain_of I hq
  have ei := refs_at rv
  subst ei
  rw [List.length_map] at hz
  obtain ⟨prs, raw, rel, l1, l2, hr⟩ := raw_of I hp
  have it : PySem.PairItems s.heap (ps.map Value.ref).toArray (fun j => ps.getD j 0) raw := by
    refine ⟨by simp [l2], fun j u v e => ?_⟩
    obtain ⟨b, k, e1, e2, e3, e4⟩ := hr j u v e
    have eb : ps.getD j 0 = b := by rw [List.getD_eq_getElem?_getD, e1]; rfl
    refine ⟨by simp [e1, eb], ?_⟩
    show PySem.PairAt s.heap (ps.getD j 0) u v
    rw [eb]
    obtain ⟨o, h1, h2, n, h3⟩ := e3
    exact .inl ⟨o, h1, h2, n, h3⟩
  have hv : PySem.PairsHave (mixKind X.prog X.w) raw.length (PySem.PairRel raw) prs := by
    refine ⟨by rw [l1, l2], fun i u v e => ?_⟩
    obtain ⟨b, k, e1, e2, e3, e4⟩ := hr i u v e
    exact ⟨k, e2, e4⟩
  refine PySem.call_dict_pairs (PySem.PairArg.tuple a _ (fun j => ps.getD j 0) raw) (I.ok.hd hcalm) ⟨pl, it⟩ hv (by rw [l2]; exact hz) fun h' tk hd' k => ?_
  have hm : (s.heap.objs.size == sysModules) = false := beq_eq_false_iff_ne.mpr (Nat.ne_of_gt I.big)
  have hlen : (mergeK [] kvs).length ≤ sizeLine := by
    refine Nat.le_trans (length_mergeK kvs []) ?_
    rw [List.length_nil, Nat.zero_add, rel.length, l1]
    exact hz
  exact ⟨.ref s.heap.objs.size, upd H s.heap.objs.size (.dK (mergeK [] kvs)), I.laid (t' := tk) (fun b o e => k b o (fun z => nomatch z) e) (Nat.le_refl _) (show ObjOk X.prog X.w _ _ _ (.dK (mergeK [] kvs)) from ⟨hlen, hm, merged [] prs, KV.merge rel .nil, hd'⟩), rfl, q _ (I.hok.fresh (Nat.le_refl _))⟩
/-- the pairs of a tuple -/
def prsP : List PV → Option (List (Key × PV))
  | [] => some []
  | .tup [k, v] :: r => (match keyOf k, prsP r with
    | some k, some l => some ((k, v) :: l)
    | _, _ => none)
  | _ :: _ => none
def mergeP (acc : List (PV × PV)) : List (Key × PV) → List (PV × PV)
  | [] => acc
  | p :: r => mergeP (putP acc p.1 p.2) r
def oDictOf (xs : List PV) (S : Store) : Res PV := match xs with
  | [.tup ys] => (match prsP ys with
    | some l => .ok (.dct (mergeP [] l)) S
    | none => .fail)
  | _ => .fail
section
variable {B : Base} {μ : List Addr} {S : Store} {H : Hp}
theorem prsP_ok (sr : SR B P μ S H) : ∀ {ys : List PV} {vs : List V} {l : List (Key × PV)}, RpL B μ (Mz P μ S) H ys vs → prsP ys = some l → ∃ (ps : List Addr) (kvs : List (Key × V)), vs = ps.map V.ref ∧ Paired (fun p kv => SqT B.K H p [kV kv.1, kv.2]) ps kvs ∧ Paired (fun a b => a.1 = b.1 ∧ Rp B μ (Mz P μ S) H a.2 b.2) l kvs
  | _, _, _, .nil, e => by cases e; exact ⟨[], [], rfl, .nil, .nil⟩
  | _, _, _, .cons (x := x) r t, e => by
    unfold prsP at e
    split at e
    · rename_i h; cases h
    · rename_i k v rest hh
      cases hh
      split at e
      · rename_i kk l' h1 h2
        cases e
        obtain ⟨ps, kvs, rfl, p1, p2⟩ := prsP_ok sr t h2
        cases r with
        | @tup a _ vs ht lr =>
          obtain ⟨v1, v2, rfl, r1, r2⟩ := RpL.two lr
          rw [keyV sr r1 h1] at ht
          exact ⟨a :: ps, (kk, v2) :: kvs, rfl, .cons ht.sq p1, .cons ⟨rfl, r2⟩ p2⟩
      · cases e
    · cases e
theorem merge_ok {M : Mx} : ∀ {l : List (Key × PV)} {kvs : List (Key × V)} {acc : List (PV × PV)} {qs : List (Key × V)}, Paired (fun a b => a.1 = b.1 ∧ Rp B μ M H a.2 b.2) l kvs → RpK B μ M H acc qs → RpK B μ M H (mergeP acc l) (mergeK qs kvs)
  | _, _, _, _, .nil, h => h
  | _, _, acc, qs, .cons (a := a) (b := b) r t, h => by
    have z := merge_ok t (h.put (k := b.1) r.2)
    rw [mergeP, r.1]
    exact z
end
/-- str(x) of a text -/
def oStr (xs : List PV) (S : Store) : Res PV := match xs with
  | [.str x] => .ok (.str x) S
  | _ => .fail
theorem sv_str {B : Base} : SvL B (fun xs H Q => ∃ a, xs = [.str a] ∧ Q (.str a) H) oStr := by
  intro P W σ μ S H xs vs Q sr l g
  unfold oStr at g
  split at g
  · rename_i x
    obtain ⟨w, rfl, r⟩ := RpL.one (xs := [.str x]) l
    cases r
    exact ⟨x, rfl, g.done sr (.str x)⟩
  · exact g.elim
theorem sv_dictOf {B : Base} : SvL B (rDictF B.K) oDictOf := by
  intro P W σ μ S H xs vs Q sr l g
  unfold oDictOf at g
  split at g
  · rename_i ys
    split at g
    · rename_i m e
      obtain ⟨w, rfl, r⟩ := RpL.one (xs := [.tup ys]) l
      cases r with
      | @tup a _ ws ht lt =>
        obtain ⟨ps, kvs, rfl, p1, p2⟩ := prsP_ok sr lt e
        refine ⟨a, ps, kvs, rfl, ht, p1, fun p hp => ?_⟩
        have k := ext_new (o := .dK (mergeK [] kvs)) hp
        refine g μ _ (.ref p) (ex_ext k) (sr.ext k) (.dK (.inl upd_same) (sr.notMz hp) ?_)
        exact (merge_ok p2 .nil).mono sr (ex_ext k)
    · exact g.elim
  · exact g.elim
end E2
end
section
set_option Elab.async false
set_option linter.all false
set_option maxRecDepth 100000
set_option maxHeartbeats 4000000
set_option autoImplicit false
namespace E2
open PySem L2
variable {P P' : Pv}
/-! ### sorting by insertion -/
section
variable {α : Type} (le : α → α → Bool)
def ins (x : α) : List α → List α
  | [] => [x]
  | y :: r => if le x y then x :: y :: r else y :: ins x r
def isort : List α → List α
  | [] => []
  | x :: r => ins le x (isort r)
theorem ins_perm (x : α) : ∀ l : List α, (ins le x l).Perm (x :: l)
  | [] => .refl _
  | y :: r => by
    unfold ins
    split
    · exact .refl _
    · exact ((ins_perm x r).cons y).trans (.swap x y r)
theorem isort_perm : ∀ l : List α, (isort le l).Perm l
  | [] => .refl _
  | x :: r => (ins_perm le x (isort le r)).trans ((isort_perm r).cons x)
variable {le}
theorem ins_sorted (tot : ∀ a b, le a b = false → le b a = true) (tr : ∀ a b c, le a b = true → le b c = true → le a c = true) (x : α) : ∀ {l : List α}, l.Pairwise (fun a b => le a b = true) → (ins le x l).Pairwise (fun a b => le a b = true)
  | [], _ => List.pairwise_singleton _ _
  | y :: r, h => by
    unfold ins
    obtain ⟨h1, h2⟩ := List.pairwise_cons.mp h
    split
    · rename_i e
      refine List.pairwise_cons.mpr ⟨fun z hz => ?_, h⟩
      rcases List.mem_cons.mp hz with rfl | hz
      · exact e
      · exact tr _ _ _ e (h1 z hz)
    · rename_i e
      refine List.pairwise_cons.mpr ⟨fun z hz => ?_, ins_sorted tot tr x h2⟩
      rcases List.mem_cons.mp ((ins_perm le x r).mem_iff.mp hz) with rfl | hz
      · exact tot _ _ (by simpa using e)
      · exact h1 z hz
theorem isort_sorted (tot : ∀ a b, le a b = false → le b a = true) (tr : ∀ a b c, le a b = true → le b c = true → le a c = true) : ∀ l : List α, (isort le l).Pairwise (fun a b => le a b = true)
  | [] => .nil
  | x :: r => ins_sorted tot tr x (isort_sorted tot tr r)
theorem sorted_uniq (anti : ∀ a b, le a b = true → le b a = true → a = b) : ∀ {l m : List α}, l.Perm m → l.Pairwise (fun a b => le a b = true) → m.Pairwise (fun a b => le a b = true) → l = m
  | [], m, p, _, _ => (List.Perm.eq_nil p.symm).symm
  | a :: l, [], p, _, _ => by cases p.eq_nil
  | a :: l, b :: m, p, h, g => by
    obtain ⟨h1, h2⟩ := List.pairwise_cons.mp h
    obtain ⟨g1, g2⟩ := List.pairwise_cons.mp g
    have e : a = b := by
      rcases List.mem_cons.mp (p.mem_iff.mp (List.mem_cons_self (a := a))) with e | e
      · exact e
      · rcases List.mem_cons.mp (p.mem_iff.mpr (List.mem_cons_self (a := b))) with e' | e'
        · exact e'.symm
        · exact anti _ _ (h1 b e') (g1 a e)
    subst e
    rw [sorted_uniq anti (List.Perm.cons_inv p) h2 g2]
end
def leI (a b : Int) : Bool := decide (a ≤ b)
def leL : List Int → List Int → Bool
  | [], _ => true
  | _ :: _, [] => false
  | a :: r, b :: q => if a < b then true else if b < a then false else leL r q
theorem leL_tot : ∀ a b, leL a b = false → leL b a = true
  | [], _, h => by cases h
  | _ :: _, [], _ => rfl
  | a :: r, b :: q, h => by
    unfold leL at h ⊢
    split at h
    · cases h
    · split at h
      · rename_i h1 h2; rw [if_pos h2]
      · rename_i h1 h2; rw [if_neg h2, if_neg h1]; exact leL_tot r q h
theorem leL_anti : ∀ a b, leL a b = true → leL b a = true → a = b
  | [], [], _, _ => rfl
  | [], _ :: _, _, h => by cases h
  | _ :: _, [], h, _ => by cases h
  | a :: r, b :: q, h, g => by
    unfold leL at h g
    split at h
    · rename_i h1
      rw [if_neg (by omega), if_pos h1] at g; cases g
    · split at h
      · cases h
      · rename_i h1 h2
        rw [if_neg h2, if_neg h1] at g
        rw [leL_anti r q h g, show a = b by omega]
theorem leL_tr : ∀ a b c, leL a b = true → leL b c = true → leL a c = true
  | [], _, _, _, _ => rfl
  | _ :: _, [], _, h, _ => by cases h
  | _ :: _, _ :: _, [], _, g => by cases g
  | a :: r, b :: q, c :: t, h, g => by
    unfold leL at h g ⊢
    split at h
    · split at g
      · rw [if_pos (by omega)]
      · split at g
        · cases g
        · rw [if_pos (by omega)]
    · split at h
      · cases h
      · split at g
        · rw [if_pos (by omega)]
        · split at g
          · cases g
          · rw [if_neg (by omega), if_neg (by omega)]
            exact leL_tr r q t h g
theorem leL_code {B : Int} : ∀ {a b : List Int}, a.length = b.length → TS.Bd B a → TS.Bd B b → TS.code B a ≤ TS.code B b → leL a b = true
  | [], _, _, _, _, _ => rfl
  | _ :: _, [], e, _, _, _ => by cases e
  | a :: r, b :: q, e, ha, hb, h => by
    have e' : r.length = q.length := by simpa using e
    unfold leL
    split
    · rfl
    · split
      · rename_i h2
        have := TS.code_lt e'.symm hb.tail ha.tail h2
        omega
      · have ab : a = b := by omega
        subst ab
        refine leL_code e' ha.tail hb.tail ?_
        have := @TS.code_same B a q r e'.symm
        apply Int.not_lt.mp
        intro z
        have := this.mpr z
        omega
/-! ### sorted(xs) of ints, of tuples of ints -/
def tupP (ns : List Int) : PV := .tup (ns.map .int)
def asTups : List PV → Option (List (List Int))
  | [] => some []
  | .tup xs :: r => (match asInts xs, asTups r with
    | some ns, some q => some (ns :: q)
    | _, _ => none)
  | _ :: _ => none
theorem asInts_eq : ∀ {xs : List PV} {ns : List Int}, asInts xs = some ns → xs = ns.map .int
  | [], _, h => by cases h; rfl
  | x :: r, ns, h => by
    cases x with
    | int i =>
      simp only [asInts] at h
      split at h
      · rename_i ms h1
        cases h
        rw [asInts_eq h1]; rfl
      · cases h
    | _ => simp [asInts] at h
theorem asTups_eq : ∀ {xs : List PV} {ns : List (List Int)}, asTups xs = some ns → xs = ns.map tupP
  | [], _, h => by cases h; rfl
  | x :: r, ns, h => by
    cases x with
    | tup i =>
      simp only [asTups] at h
      split at h
      · rename_i ms q h1 h2
        cases h
        rw [asInts_eq h1, asTups_eq h2]; rfl
      · cases h
    | _ => simp [asTups] at h
def BdB (ns : List Int) : Bool := ns.all fun m => decide (0 ≤ m) && decide (m < 4611686018427387904)
theorem BdB_ok {ns : List Int} (h : BdB ns = true) : TS.Bd 4611686018427387904 ns := fun m hm => by
  have := List.all_eq_true.mp h m hm
  simpa using this
def goodT (nss : List (List Int)) : Bool := decide (nss.length < 64) && (match nss with
  | [] => true
  | n :: _ => decide (1 ≤ n.length) && nss.all fun m => decide (m.length = n.length) && BdB m)
def oSorted (xs : List PV) (S : Store) : Res PV := match xs with
  | [x] => (match drf S x with
    | .lst ys => (match asInts ys with
      | some ns => .ok (.lst ((isort leI ns).map .int)) S
      | none => (match asTups ys with
        | some nss => if goodT nss then .ok (.lst ((isort leL nss).map tupP)) S else .fail
        | none => .fail))
    | _ => .fail)
  | _ => .fail
def rSortedA (K : PySem.W.Frag) : List V → Hp → VK → Prop := fun vs H Q => rSortedI K vs H Q ∨ ∃ d B, 1 ≤ d ∧ rSortU K d B vs H Q
theorem call_sortedA {X : Cx} : CallR X (.builtin "sorted") (rSortedA X.K) := by
  intro pins s σ H vs us Q I r h
  rcases h with h | ⟨d, B, hd, h⟩
  · exact cr_sortedI pins s σ H vs us Q I r h
  · exact cr_sortT hd pins s σ H vs us Q I r h
section
variable {B : Base} {μ : List Addr} {M : Mx} {H : Hp}
theorem RpL.ints {M : Mx} : ∀ ns : List Int, RpL B μ M H (ns.map .int) (ns.map V.int)
  | [] => .nil
  | n :: r => .cons (.int n) (RpL.ints r)
theorem RpL.perm {T : List Int → PV} : ∀ {ys vs : List V}, ys.Perm vs → ∀ {nss : List (List Int)}, RpL B μ M H (nss.map T) vs → ∃ mss : List (List Int), mss.Perm nss ∧ RpL B μ M H (mss.map T) ys := by
  intro ys vs p
  induction p with
  | nil => intro nss h; exact ⟨nss, .refl _, h⟩
  | cons v p ih =>
    intro nss h
    cases nss with
    | nil => cases h
    | cons n r =>
      cases h with
      | cons q t =>
        obtain ⟨mss, p1, p2⟩ := ih t
        exact ⟨n :: mss, p1.cons n, .cons q p2⟩
  | swap v w l =>
    intro nss h
    match nss, h with
    | n :: m :: r, .cons q (.cons q' t) => exact ⟨m :: n :: r, .swap n m r, .cons q' (.cons q t)⟩
  | trans _ _ ih1 ih2 =>
    intro nss h
    obtain ⟨m1, p1, r1⟩ := ih2 h
    obtain ⟨m2, p2, r2⟩ := ih1 r1
    exact ⟨m2, p2.trans p1, r2⟩
theorem tupI_of {ns : List Int} {v : V} (r : Rp B μ M H (tupP ns) v) : TupI B.K H v ns := by
  cases r with
  | tup h l =>
    refine ⟨_, rfl, ?_⟩
    have := asInts_ok l (ns := ns) (by
      clear h l
      induction ns with
      | nil => rfl
      | cons n r ih => simp only [List.map_cons, asInts, ih])
    rw [this] at h
    exact h.sq
theorem tups_mem : ∀ {nss : List (List Int)} {vs : List V}, RpL B μ M H (nss.map tupP) vs → ∀ x ∈ vs, ∃ ns ∈ nss, TupI B.K H x ns
  | [], _, .nil, x, hx => by cases hx
  | n :: r, _, .cons q t, x, hx => by
    rcases List.mem_cons.mp hx with rfl | hx
    · exact ⟨n, List.mem_cons_self .., tupI_of q⟩
    · obtain ⟨m, h1, h2⟩ := tups_mem t x hx
      exact ⟨m, List.mem_cons_of_mem _ h1, h2⟩
theorem tups_mem2 : ∀ {nss : List (List Int)} {vs : List V}, RpL B μ M H (nss.map tupP) vs → ∀ m ∈ nss, ∃ x ∈ vs, TupI B.K H x m
  | [], _, .nil, x, hx => by cases hx
  | n :: r, _, .cons (v := v) q t, x, hx => by
    rcases List.mem_cons.mp hx with rfl | hx
    · exact ⟨v, List.mem_cons_self .., tupI_of q⟩
    · obtain ⟨m, h1, h2⟩ := tups_mem2 t x hx
      exact ⟨m, List.mem_cons_of_mem _ h1, h2⟩
theorem tups_sorted {C : Int} {d : Nat} : ∀ {nss : List (List Int)} {vs : List V}, RpL B μ M H (nss.map tupP) vs → (∀ m ∈ nss, m.length = d ∧ TS.Bd C m) → vs.Pairwise (fun x y => ∀ n m, TupI B.K H x n → TupI B.K H y m → TS.code C n ≤ TS.code C m) → nss.Pairwise (fun a b => leL a b = true)
  | [], _, _, _, _ => .nil
  | n :: r, _, .cons (v := v) q t, hb, hp => by
    obtain ⟨h1, h2⟩ := List.pairwise_cons.mp hp
    refine List.pairwise_cons.mpr ⟨fun m hm => ?_, tups_sorted t (fun m hm => hb m (List.mem_cons_of_mem _ hm)) h2⟩
    obtain ⟨x, hx, tx⟩ := tups_mem2 t m hm
    have b1 := hb n (List.mem_cons_self ..)
    have b2 := hb m (List.mem_cons_of_mem _ hm)
    exact leL_code (b1.1.trans b2.1.symm) b1.2 b2.2 (h1 x hx n m (tupI_of q) tx)
end
theorem sv_sorted {B : Base} : SvL B (rSortedA B.K) oSorted := by
  intro P W σ μ S H xs vs Q sr r g
  unfold oSorted at g
  split at g
  · rename_i x
    obtain ⟨w, rfl, rx⟩ := RpL.one (xs := []) r
    split at g
    · rename_i ys e1
      obtain ⟨a, us, rfl, h1, l⟩ := lstV sr rx e1
      split at g
      · rename_i ns e2
        have := asInts_ok l e2
        subst this
        refine .inl ⟨a, ns, rfl, SqL.of h1, fun ns' p hp hs hq => ?_⟩
        have e3 : ns' = isort leI ns := sorted_uniq (le := leI) (fun a b h1 h2 => by unfold leI at h1 h2; simp only [decide_eq_true_eq] at h1 h2; omega) (hp.trans (isort_perm leI ns).symm) (hs.imp fun h => by unfold leI; simpa using h)
          (isort_sorted (fun a b h => by unfold leI at h ⊢; simp only [decide_eq_false_iff_not, decide_eq_true_eq] at h ⊢; omega) (fun a b c h1 h2 => by unfold leI at h1 h2 ⊢; simp only [decide_eq_true_eq] at h1 h2 ⊢; omega) ns)
        subst e3
        exact go_lst sr hq (RpL.ints _) g
      · split at g
        · rename_i nss e2
          have e3 := asTups_eq e2
          subst e3
          split at g
          · rename_i hg
            unfold goodT at hg
            rw [Bool.and_eq_true] at hg
            have key : ∀ d : Nat, 1 ≤ d → (∀ m ∈ nss, m.length = d ∧ TS.Bd 4611686018427387904 m) → rSortedA B.K [.ref a] H Q := fun d hd hb => by
              refine .inr ⟨d, 4611686018427387904, hd, a, us, rfl, SqL.of h1, by rw [← l.length]; simpa using hg.1, fun x hx => ?_, fun zs p hp hs hq => ?_⟩
              · obtain ⟨m, m1, m2⟩ := tups_mem l x hx
                exact ⟨m, m2, (hb m m1).1, (hb m m1).2⟩
              · obtain ⟨mss, p1, p2⟩ := l.perm hp
                have s1 := tups_sorted p2 (fun m hm => hb m (p1.mem_iff.mp hm)) hs
                have e4 : mss = isort leL nss := sorted_uniq leL_anti (p1.trans (isort_perm leL nss).symm) s1 (isort_sorted leL_tot leL_tr nss)
                subst e4
                exact go_lst sr hq p2 g
            have h2 := hg.2
            cases nss with
            | nil => exact key 1 (Nat.le_refl 1) (fun m hm => by cases hm)
            | cons n r =>
              simp only [Bool.and_eq_true, decide_eq_true_eq, List.all_eq_true] at h2
              exact key n.length h2.1 fun m hm => ⟨(h2.2 m hm).1, BdB_ok (h2.2 m hm).2⟩
          · exact g.elim
        · exact g.elim
    · exact g.elim
  · exact g.elim
/-! ### repr of what is no container -/
def flV : V → Option PyData
  | .non => some .none
  | .bl b => some (.bool b)
  | .int i => some (.int i)
  | .str x => some (.str x)
  | _ => none
def flP : PV → Option PyData
  | .non => some .none
  | .bl b => some (.bool b)
  | .int i => some (.int i)
  | .str x => some (.str x)
  | _ => none
def kD : Key → PyData
  | .inl i => .int i
  | .inr x => .str x
def flK : List (Key × V) → Option (List (PyData × PyData))
  | [] => some []
  | q :: r => match flV q.2, flK r with
    | some d, some ds => some ((kD q.1, d) :: ds)
    | _, _ => none
def flKP : List (PV × PV) → Option (List (PyData × PyData))
  | [] => some []
  | (.int i, x) :: r => (match flP x, flKP r with
    | some d, some ds => some ((.int i, d) :: ds)
    | _, _ => none)
  | (.str i, x) :: r => (match flP x, flKP r with
    | some d, some ds => some ((.str i, d) :: ds)
    | _, _ => none)
  | _ :: _ => none
theorem flP_ok {B : Base} {μ : List Addr} {M : Mx} {H : Hp} {x : PV} {v : V} {d : PyData} (r : Rp B μ M H x v) (e : flP x = some d) : flV v = some d := by
  cases r <;> first | exact e | cases e
theorem flKP_ok {B : Base} {μ : List Addr} {M : Mx} {H : Hp} : ∀ {kvs : List (PV × PV)} {qs : List (Key × V)} {ds : List (PyData × PyData)}, RpK B μ M H kvs qs → flKP kvs = some ds → flK qs = some ds
  | _, _, _, .nil, e => e
  | _, _, _, .int r t, e => by
    simp only [flKP] at e
    split at e
    · rename_i d ds e1 e2
      cases e
      simp only [flK, flP_ok r e1, flKP_ok t e2, kD]
    · cases e
  | _, _, _, .str r t, e => by
    simp only [flKP] at e
    split at e
    · rename_i d ds e1 e2
      cases e
      simp only [flK, flP_ok r e1, flKP_ok t e2, kD]
    · cases e
theorem flV_reads {h : Heap} {v : V} {u : Value} {d : PyData} (r : RelV v u) (e : flV v = some d) : Reads h u d [] := by
  cases v <;> cases e
  · obtain rfl : u = _ := r; exact .none
  · obtain rfl : u = _ := r; exact .bool _
  · obtain ⟨t, rfl⟩ := r; exact .int _ t
  · obtain ⟨t, rfl⟩ := r; exact .str _ t
theorem flK_reads {P : Program} {w : World} {h : Heap} : ∀ {qs : List (Key × V)} {vs : List (Key × Value)} {es : List DictEntry} {ds : List (PyData × PyData)}, KV qs vs → Pairs (mixKind P w) es vs → flK qs = some ds → ReadsAll h (es.map (·.key)) (ds.map (·.1)) [] ∧ ReadsAll h (es.map (·.val)) (ds.map (·.2)) []
  | [], _, _, _, .nil, .nil, e => by cases e; exact ⟨.nil, .nil⟩
  | q :: r, _, _, ds, .cons (b := b) h1 t1, .cons (e := en) k1 k2 t2, e => by
    simp only [flK] at e
    split at e
    · rename_i d ds' e1 e2
      cases e
      obtain ⟨a1, a2⟩ := flK_reads (h := h) t1 t2 e2
      have hv : Reads h en.val d [] := by rw [k2]; exact flV_reads h1.2 e1
      have hk : Reads h en.key (kD q.1) [] := by
        rw [h1.1]
        rcases keyIs_shape k1 with ⟨i, t, z1, z2⟩ | ⟨x, t, z1, z2⟩
        · rw [z1, z2]; exact .int i t
        · rw [z1, z2]; exact .str x t
      exact ⟨.cons (as := []) (bs := []) hk a1, .cons (as := []) (bs := []) hv a2⟩
    · cases e
/-! tuples of what is flat, of tuples, and of flat dicts -/
mutual
inductive Dq (K : PySem.W.Frag) (H : Hp) : V → PyData → Prop
  | fl {v : V} {d : PyData} : flV v = some d → Dq K H v d
  | tup {a : Addr} {xs : List V} {ds : List PyData} : SqT K H a xs → DqAll K H xs ds → Dq K H (.ref a) (.tuple ds)
  | dct {a : Addr} {qs : List (Key × V)} {ds : List (PyData × PyData)} : Rd H a (.dK qs) → flK qs = some ds → Dq K H (.ref a) (.dict ds)
inductive DqAll (K : PySem.W.Frag) (H : Hp) : List V → List PyData → Prop
  | nil : DqAll K H [] []
  | cons {v : V} {vs : List V} {d : PyData} {ds : List PyData} : Dq K H v d → DqAll K H vs ds → DqAll K H (v :: vs) (d :: ds)
end
section
variable {X : Cx} {pns : List (Addr × Obj)} {σ : St} {H : Hp} {s : Shared}
mutual
theorem Dq.reads (I : Inv X pns σ H s) : ∀ {v : V} {d : PyData} {u : Value}, Dq X.K H v d → RelV v u → ∃ as, Reads s.heap u d as ∧ sysModules ∉ as
  | _, _, _, .fl e, r => ⟨[], flV_reads r e, by simp⟩
  | _, _, u, .tup (a := a) h l, r => by
    obtain rfl : u = Value.ref a := r
    obtain ⟨is, rv, ⟨o, h1, h2, n, h3⟩, _⟩ := I.tuple h
    obtain ⟨as, rd, hn⟩ := DqAll.reads I l rv
    exact ⟨as, .tuple h1 h2 h3 (by simpa using rd), hn⟩
  | _, _, u, .dct (a := a) h e, r => by
    obtain rfl : u = Value.ref a := r
    obtain ⟨_, hsys, vs, kv, o, es, ep, ho1, hex, hdt, _, hps, _⟩ := dk_rd I.hok h
    obtain ⟨r1, r2⟩ := flK_reads (h := s.heap) kv hps e
    refine ⟨a :: [] ++ [], .dict ho1 hex.1 hdt r1 r2, fun z => ?_⟩
    have z : sysModules = a := by simpa using z
    rw [z] at hsys
    simp at hsys
theorem DqAll.reads (I : Inv X pns σ H s) : ∀ {vs : List V} {ds : List PyData} {us : List Value}, DqAll X.K H vs ds → Vals vs us → ∃ as, ReadsAll s.heap us ds as ∧ sysModules ∉ as
  | _, _, _, .nil, .nil => ⟨[], .nil, by simp⟩
  | _, _, _, .cons h t, .cons r rt => by
    obtain ⟨as, r1, n1⟩ := Dq.reads I h r
    obtain ⟨bs, r2, n2⟩ := DqAll.reads I t rt
    exact ⟨as ++ bs, .cons r1 r2, by simp [n1, n2]⟩
end
end
mutual
def toE : PV → Option PyData
  | .tup xs => (toEL xs).map .tuple
  | .dct ys => (flKP ys).map .dict
  | .non => some .none
  | .bl b => some (.bool b)
  | .int i => some (.int i)
  | .str x => some (.str x)
  | .pr _ => none | .lst _ => none | .dtt _ => none | .dts _ => none | .obj _ _ => none | .ref _ => none | .fn _ => none | .scr _ => none | .ty _ => none | .cls _ => none | .thk => none
def toEL : List PV → Option (List PyData)
  | [] => some []
  | x :: xs => match toE x, toEL xs with
    | some d, some ds => some (d :: ds)
    | _, _ => none
end
section
variable {B : Base} {μ : List Addr} {M : Mx} {H : Hp}
mutual
theorem Rp.dq : ∀ {pv : PV} {v : V} {d : PyData}, Rp B μ M H pv v → toE pv = some d → Dq B.K H v d
  | _, _, _, .non, e => by simp only [toE, Option.some.injEq] at e; subst e; exact .fl rfl
  | _, _, _, .bl b, e => by simp only [toE, Option.some.injEq] at e; subst e; exact .fl rfl
  | _, _, _, .int b, e => by simp only [toE, Option.some.injEq] at e; subst e; exact .fl rfl
  | _, _, _, .str b, e => by simp only [toE, Option.some.injEq] at e; subst e; exact .fl rfl
  | _, _, _, .tup h l, e => by
    simp only [toE, Option.map_eq_some_iff] at e
    obtain ⟨ds, e1, rfl⟩ := e
    exact .tup h.sq (RpL.dq l e1)
  | _, _, _, .dK h n l, e => by
    simp only [toE, Option.map_eq_some_iff] at e
    obtain ⟨ds, e1, rfl⟩ := e
    exact .dct h (flKP_ok l e1)
  | _, _, _, .lst _ _ _, e => by simp [toE] at e
  | _, _, _, .pr _ _, e => by simp [toE] at e
  | _, _, _, .dT _ _ _, e => by simp [toE] at e
  | _, _, _, .obj _ _ _ _, e => by simp [toE] at e
  | _, _, _, .ref _, e => by simp [toE] at e
  | _, _, _, .fn _, e => by simp [toE] at e
  | _, _, _, .scr _, e => by simp [toE] at e
  | _, _, _, .ty _, e => by simp [toE] at e
  | _, _, _, .cls _, e => by simp [toE] at e
theorem RpL.dq : ∀ {pv : List PV} {v : List V} {d : List PyData}, RpL B μ M H pv v → toEL pv = some d → DqAll B.K H v d
  | _, _, _, .nil, e => by simp only [toEL, Option.some.injEq] at e; subst e; exact .nil
  | _, _, _, .cons r t, e => by
    simp only [toEL] at e
    split at e
    · rename_i d ds e1 e2
      cases e
      exact .cons (Rp.dq r e1) (RpL.dq t e2)
    · cases e
end
end
def showOkD (d : PyData) : Bool := d.showable && decide (d.shown.length ≤ sizeLine) && decide (d.depth ≤ 60)
def showOk (d : PyData) : Bool := d.showable && !d.hasDict && decide (d.shown.length ≤ sizeLine) && decide (d.depth ≤ 60)
def oRepr (xs : List PV) (S : Store) : Res PV := match xs with
  | [x] => (match drf S x with
    | .non => .ok (.str "None") S
    | .bl b => .ok (.str (if b then "True" else "False")) S
    | .int i => if i.natAbs.log2 < 1920 then .ok (.str (toString i)) S else .fail
    | .str y => if (reprText y).length ≤ sizeLine then .ok (.str (reprText y)) S else .fail
    | .lst ys => (match toD (.lst ys) with
      | some d => if showOk d then .ok (.str d.shown) S else .fail
      | none => .fail)
    | .tup ys => (match toD (.tup ys) with
      | some d => if showOk d then .ok (.str d.shown) S else .fail
      | none => (match toE (.tup ys) with
        | some d => if showOkD d then .ok (.str d.shown) S else .fail
        | none => .fail))
    | .dct ys => (match flKP ys with
      | some ds => if showOkD (.dict ds) then .ok (.str (PyData.dict ds).shown) S else .fail
      | none => .fail)
    | _ => .fail)
  | _ => .fail
def rRepr (K : PySem.W.Frag) : List V → Hp → VK → Prop := fun vs H Q => (vs = [.non] ∧ Q (.str "None") H) ∨ (∃ b, vs = [.bl b] ∧ Q (.str (if b then "True" else "False")) H) ∨ (∃ i, vs = [.int i] ∧ i.natAbs.log2 < 1920 ∧ Q (.str (toString i)) H) ∨ (∃ y, vs = [.str y] ∧ (reprText y).length ≤ sizeLine ∧ Q (.str (reprText y)) H) ∨ (∃ a d, vs = [.ref a] ∧ Dp K H (.ref a) d ∧ showOk d = true ∧ Q (.str d.shown) H) ∨ (∃ a qs ds, vs = [.ref a] ∧ Rd H a (.dK qs) ∧ flK qs = some ds ∧ showOkD (.dict ds) = true ∧ Q (.str (PyData.dict ds).shown) H) ∨ ∃ a d, vs = [.ref a] ∧ Dq K H (.ref a) d ∧ showOkD d = true ∧ Q (.str d.shown) H
theorem call_reprA {X : Cx} (hgd : X.A.guards = some []) (hu : X.A.units + 65 < cLine) : CallR X (.builtin "repr") (rRepr X.K) := by
  intro pins s σ H vs us Q I r h
  rcases h with ⟨rfl, q⟩ | ⟨b, rfl, q⟩ | ⟨i, rfl, hz, q⟩ | ⟨y, rfl, hz, q⟩ | ⟨a, d, rfl, hd, ho, q⟩ | ⟨a, qs, ds, rfl, hq, hd, ho, q⟩ | ⟨a, d, rfl, hd, ho, q⟩
  · obtain ⟨u, rfl, rfl⟩ := vals1 r
    exact PySem.P.repr_of_none ⟨.str _, H, I.tok _, ⟨_, rfl⟩, q⟩
  · obtain ⟨u, rfl, rfl⟩ := vals1 r
    exact PySem.P.repr_of_bool ⟨.str _, H, I.tok _, ⟨_, rfl⟩, q⟩
  · obtain ⟨u, rfl, t, rfl⟩ := vals1 r
    exact PySem.P.repr_of_int hz ⟨.str _, H, I.tok _, ⟨_, rfl⟩, q⟩
  · obtain ⟨u, rfl, t, rfl⟩ := vals1 r
    exact PySem.P.repr_of_str ⟨.str _, H, I.tok _, ⟨_, rfl⟩, q⟩ hz
  · obtain ⟨u, rfl, t⟩ := vals1 r
    obtain rfl : u = Value.ref a := t
    obtain ⟨as, rd⟩ := hd.reads I d _ _ rfl
    unfold showOk at ho
    simp only [Bool.and_eq_true, Bool.not_eq_true', decide_eq_true_eq] at ho
    obtain ⟨⟨⟨h1, h2⟩, h3⟩, h4⟩ := ho
    refine repr_of_reads' rd h1 (fun z => by rw [h2] at z; cases z) hgd (by omega) (fun _ _ e => e) (fun h' u tk hk => ⟨.str _, H, I.kept hk, ⟨_, rfl⟩, q⟩) h3
  · obtain ⟨u, rfl, t⟩ := vals1 r
    obtain rfl : u = Value.ref a := t
    obtain ⟨_, hsys, vs, kv, o, es, ep, ho1, hex, hdt, _, hps, _⟩ := dk_rd I.hok hq
    obtain ⟨r1, r2⟩ := flK_reads (h := s.heap) kv hps hd
    unfold showOkD at ho
    simp only [Bool.and_eq_true, decide_eq_true_eq] at ho
    obtain ⟨⟨h1, h3⟩, h4⟩ := ho
    have rd : Reads s.heap (.ref a) (.dict ds) (a :: [] ++ []) := .dict ho1 hex.1 hdt r1 r2
    refine repr_of_reads' rd h1 (fun _ z => ?_) hgd (by omega) (fun _ _ e => e) (fun h' u tk hk => ⟨.str _, H, I.kept hk, ⟨_, rfl⟩, q⟩) h3
    have z : sysModules = a := by simpa using z
    rw [z] at hsys
    simp at hsys
  · obtain ⟨u, rfl, t⟩ := vals1 r
    obtain rfl : u = Value.ref a := t
    obtain ⟨as, rd, hn⟩ := hd.reads I (u := .ref a) rfl
    unfold showOkD at ho
    simp only [Bool.and_eq_true, decide_eq_true_eq] at ho
    obtain ⟨⟨h1, h3⟩, h4⟩ := ho
    exact repr_of_reads' rd h1 (fun _ => hn) hgd (by omega) (fun _ _ e => e) (fun h' u tk hk => ⟨.str _, H, I.kept hk, ⟨_, rfl⟩, q⟩) h3
theorem sv_repr {B : Base} : SvL B (rRepr B.K) oRepr := by
  intro P W σ μ S H xs vs Q sr r g
  unfold oRepr at g
  split at g
  · obtain ⟨w, rfl, rx⟩ := RpL.one (xs := []) r
    split at g
    · rename_i e; rw [nonV sr rx e]; exact .inl ⟨rfl, g.done sr (.str _)⟩
    · rename_i b e; rw [blV sr rx e]; exact .inr (.inl ⟨b, rfl, g.done sr (.str _)⟩)
    · rename_i i e
      split at g
      · rw [intV sr rx e]; exact .inr (.inr (.inl ⟨i, rfl, by assumption, g.done sr (.str _)⟩))
      · exact g.elim
    · rename_i y e
      split at g
      · rw [strV sr rx e]; exact .inr (.inr (.inr (.inl ⟨y, rfl, by assumption, g.done sr (.str _)⟩)))
      · exact g.elim
    · rename_i ys e
      split at g
      · rename_i d ed
        split at g
        · obtain ⟨a, vs, rfl, _, _⟩ := lstV sr rx e
          exact .inr (.inr (.inr (.inr (.inl ⟨a, d, rfl, dpS sr rx (by rw [e]; exact ed), by assumption, g.done sr (.str _)⟩))))
        · exact g.elim
      · exact g.elim
    · rename_i ys e
      split at g
      · rename_i d ed
        split at g
        · obtain ⟨a, vs, rfl, _, _⟩ := tupV sr rx e
          exact .inr (.inr (.inr (.inr (.inl ⟨a, d, rfl, dpS sr rx (by rw [e]; exact ed), by assumption, g.done sr (.str _)⟩))))
        · exact g.elim
      · split at g
        · rename_i d ed
          split at g
          · obtain ⟨a, vs, rfl, h1, l1⟩ := tupV sr rx e
            refine .inr (.inr (.inr (.inr (.inr (.inr ⟨a, d, rfl, ?_, by assumption, g.done sr (.str _)⟩)))))
            simp only [toE, Option.map_eq_some_iff] at ed
            obtain ⟨ds, e1, rfl⟩ := ed
            exact .tup h1.sq (l1.dq e1)
          · exact g.elim
        · exact g.elim
    · rename_i ys e
      split at g
      · rename_i ds ed
        split at g
        · obtain ⟨a, qs, rfl, h1, l1⟩ := dctV sr rx e
          exact .inr (.inr (.inr (.inr (.inr (.inl ⟨a, qs, ds, rfl, h1, flKP_ok l1 ed, by assumption, g.done sr (.str _)⟩)))))
        · exact g.elim
      · exact g.elim
    · exact g.elim
  · exact g.elim
end E2
end
section
set_option Elab.async false
set_option linter.all false
set_option maxRecDepth 100000
set_option maxHeartbeats 4000000
set_option autoImplicit false
namespace E2
open PySem PySem.Calls PyProof.Rows L2
variable {P P' : Pv}
/-! ### sorting by data -/
theorem ins_mid {α : Type} {le : α → α → Bool} {a : α} : ∀ {l1 l2 : List α}, (∀ b ∈ l1, le a b = false) → (∀ b ∈ l2, le a b = true) → ins le a (l1 ++ l2) = l1 ++ a :: l2
  | [], [], _, _ => rfl
  | [], b :: r, _, h => by
    show ins le a (b :: r) = _
    rw [ins, if_pos (h b (List.mem_cons_self ..))]; rfl
  | b :: r, l2, h1, h2 => by
    show ins le a (b :: (r ++ l2)) = _
    rw [ins, if_neg (by rw [h1 b (List.mem_cons_self ..)]; simp), ins_mid (fun c hc => h1 c (List.mem_cons_of_mem _ hc)) h2]; rfl
theorem isort_merge {α : Type} {le : α → α → Bool} (tr : ∀ a b c, le a b = true → le b c = true → le a c = true) (tot : ∀ a b, (le a b || le b a) = true) : ∀ l : List α, isort le l = l.mergeSort le
  | [] => by simp [isort]
  | a :: l => by
    obtain ⟨l1, l2, h1, h2, h3⟩ := List.mergeSort_cons tr tot a l
    have hs := List.pairwise_mergeSort tr tot (a :: l)
    rw [h1] at hs
    rw [isort, isort_merge tr tot l, h2, h1]
    refine ins_mid (fun b hb => by simpa using h3 b hb) fun b hb => ?_
    have := (List.pairwise_append.mp hs).2.1
    exact (List.pairwise_cons.mp this).1 b hb
def leK {β : Type} (p q : PyData × β) : Bool := !W.dataLt q.1 p.1
def sortBy {β : Type} (ds : List PyData) (xs : List β) : List β := (isort leK (ds.zip xs)).map (·.2)
theorem leK_eq {β : Type} : W.dataLe false (Prod.fst : PyData × β → PyData) = leK := rfl
theorem sortBy_merge {β : Type} (l : List (PyData × β)) : isort leK l = l.mergeSort (W.dataLe false Prod.fst) := by
  have t := W.sortLe_total (listOrd itemOrd) false fun b : PyData × β => W.keyToks b.1
  exact isort_merge (le := W.dataLe false Prod.fst) (fun a b c => t.trans a b c) (fun a b => Bool.or_eq_true_iff.mpr (t.total a b)) l
theorem ins_map {α β : Type} {le : α → α → Bool} {le' : β → β → Bool} (f : α → β) (h : ∀ a b, le' (f a) (f b) = le a b) (a : α) : ∀ l : List α, ins le' (f a) (l.map f) = (ins le a l).map f
  | [] => rfl
  | b :: r => by
    show ins le' (f a) (f b :: r.map f) = _
    rw [ins, ins, h]
    split
    · rfl
    · rw [ins_map f h a r]; rfl
theorem isort_map {α β : Type} {le : α → α → Bool} {le' : β → β → Bool} (f : α → β) (h : ∀ a b, le' (f a) (f b) = le a b) : ∀ l : List α, isort le' (l.map f) = (isort le l).map f
  | [] => rfl
  | a :: r => by
    show ins le' (f a) (isort le' (r.map f)) = _
    rw [isort_map f h r, ins_map f h]; rfl
theorem sortBy_length {β : Type} {ds : List PyData} {xs : List β} (h : ds.length = xs.length) : (sortBy ds xs).length = xs.length := by
  unfold sortBy
  rw [List.length_map, (isort_perm leK _).length_eq, List.length_zip, h, Nat.min_self]
theorem sortBy_map {α β : Type} (f : α → β) (ds : List PyData) (xs : List α) : sortBy ds (xs.map f) = (sortBy ds xs).map f := by
  unfold sortBy
  have e : ds.zip (xs.map f) = (ds.zip xs).map fun p => (p.1, f p.2) := by
    rw [List.zip_map_right]
    rfl
  rw [e, isort_map (le := leK) (fun p : PyData × α => (p.1, f p.2)) (fun a b => rfl), List.map_map, List.map_map]
  rfl
theorem sortBy_mem {β : Type} {ds : List PyData} {xs : List β} {x : β} (h : x ∈ sortBy ds xs) : x ∈ xs := by
  unfold sortBy at h
  obtain ⟨p, hp, rfl⟩ := List.mem_map.mp h
  exact (List.of_mem_zip ((isort_perm leK _).mem_iff.mp hp)).2
theorem RpL.zip {B : Base} {μ : List Addr} {M : Mx} {H : Hp} : ∀ {ps : List PV} {xs : List V}, RpL B μ M H ps xs → ps = (ps.zip xs).map Prod.fst ∧ xs = (ps.zip xs).map Prod.snd ∧ ∀ t ∈ ps.zip xs, Rp B μ M H t.1 t.2
  | _, _, .nil => ⟨rfl, rfl, fun t h => by cases h⟩
  | _, _, .cons h t => by
    obtain ⟨e1, e2, e3⟩ := RpL.zip t
    refine ⟨by rw [List.zip_cons_cons, List.map_cons, ← e1], by rw [List.zip_cons_cons, List.map_cons, ← e2], fun u hu => ?_⟩
    rw [List.zip_cons_cons] at hu
    rcases List.mem_cons.mp hu with rfl | hu
    · exact h
    · exact e3 u hu
theorem RpL.pairs {B : Base} {μ : List Addr} {M : Mx} {H : Hp} : ∀ (T : List (PV × V)), (∀ t ∈ T, Rp B μ M H t.1 t.2) → RpL B μ M H (T.map Prod.fst) (T.map Prod.snd)
  | [], _ => .nil
  | t :: T, h => .cons (h t (List.mem_cons_self ..)) (RpL.pairs T fun u hu => h u (List.mem_cons_of_mem _ hu))
theorem RpL.sortBy {B : Base} {μ : List Addr} {M : Mx} {H : Hp} {ps : List PV} {xs : List V} (l : RpL B μ M H ps xs) (ds : List PyData) : RpL B μ M H (sortBy ds ps) (sortBy ds xs) := by
  obtain ⟨e1, e2, e3⟩ := l.zip
  have a1 : E2.sortBy ds ps = (E2.sortBy ds (ps.zip xs)).map Prod.fst := (congrArg (E2.sortBy ds) e1).trans (sortBy_map _ _ _)
  have a2 : E2.sortBy ds xs = (E2.sortBy ds (ps.zip xs)).map Prod.snd := (congrArg (E2.sortBy ds) e2).trans (sortBy_map _ _ _)
  rw [a1, a2]
  exact RpL.pairs _ fun t ht => e3 t (sortBy_mem ht)
def isT1 : PyData → Bool
  | .tuple (_ :: _) => true
  | _ => false
def isO1 : PyData → Bool
  | .none => false
  | .tuple _ => false
  | _ => true
def kOk (ds : List PyData) : Bool := (ds.all fun d => ds.all fun e => W.alike d e) && (ds.all isT1 || ds.all isO1) && ds.all fun d => decide (d.depth ≤ 60)
theorem kOk_ok {ds : List PyData} (h : kOk ds = true) : W.AllAlike ds ∧ W.Sortable ds ∧ ∀ d ∈ ds, d.depth ≤ 60 := by
  unfold kOk at h
  simp only [Bool.and_eq_true, Bool.or_eq_true, List.all_eq_true, decide_eq_true_eq] at h
  obtain ⟨⟨h1, h2⟩, h3⟩ := h
  refine ⟨fun d hd e he => h1 d hd e he, h2.imp (fun q d hd => ?_) (fun q d hd => ?_), h3⟩
  · have := q d hd
    unfold isT1 at this
    split at this
    · exact ⟨_, _, rfl⟩
    · cases this
  · have := q d hd
    unfold isO1 at this
    split at this
    · cases this
    · cases this
    · rename_i n1 n2
      exact ⟨n1, n2⟩
/-! ### sorted of a list or tuple, with keywords or not -/
section
variable {prog : Program} {w : World} {A : Around} {E : Value → Shared → Prop} {s : Shared}
theorem srt_any {l : Addr} {T : String} {o : Obj} {items : Array Value} {n : Nat} {kw : List (Str × Value)} {Q : Value → Shared → Prop} (hT : T = "list" ∨ T = "tuple") (ho : s.heap.get? l = some o) (hc : o.cls = .type T) (hd : o.data = .seq items n) (hL : items.size ≤ sizeLine)
    (ha1 : argsOk "sorted" ⟨[.ref l], kw⟩) (ha2 : ∀ x, argsOk "list.sort" ⟨[.ref x], kw⟩)
    (body : ∀ (h' : Heap) (E' : Value → Shared → Prop), (∀ b o, s.heap.get? b = some o → h'.get? b = some o) → wpAny (model prog w) A.in1.in1 (Builtin.«list.sort» ⟨[.ref h'.objs.size], kw⟩) (fun f s' => f = .done (.ret .none) ∧ Q (.ref h'.objs.size) s') E' { s with heap := h'.push (seqObj "list" items 0) }) :
    wpAny (model prog w) A (call (.builtin "sorted") [.ref l] kw) Q E s := by
  refine call_function_entry_kw kind_sorted plain_sorted entry_sorted ha1 ?_
  unfold Builtin.«sorted»
  refine wpAny_bind (m := checkCount "sorted" 1 1 _) (wpAny_pure ?_)
  refine wpAny_bind (wpAny_collect_seq l hT ho hc hd (fun h' kp => ?_) hL)
  refine wpAny_bind (wpAny_newList ?_ (by rw [Array.length_toList]; exact hL))
  rw [Array.toArray_toList]
  refine wpAny_bind (wpAny_holding (wpAny_call_entry_kw slot_list_sort ⟨_, Heap.get?_push_size _ rfl, rfl⟩ entry_list_sort ?go (ha2 _)))
  case go =>
    show wpAny (model prog w) A.in1.in1 (Builtin.«list.sort» ⟨[.ref h'.objs.size], kw⟩) _ _ { s with heap := h'.push (seqObj "list" items 0) }
    refine wpAny_mono (body h' _ kp) (fun f s' hf => ?_) fun _ _ e => e
    obtain ⟨rfl, hq⟩ := hf
    exact ⟨_, rfl, wpAny_pure ⟨_, rfl, hq⟩⟩
end
theorem each_of_vals {ds : List PyData} : ∀ {xs : List V} {its : List Value}, Vals xs its → W.EachIs (fun v (b : V) => RelV b v) its xs
  | _, _, .nil => .nil
  | _, _, .cons r t => .cons r (each_of_vals (ds := ds) t)
theorem each_zip : ∀ {ds : List PyData} {xs : List V} {its : List Value}, Vals xs its → ds.length = xs.length → W.EachIs (fun v (b : PyData × V) => RelV b.2 v) its (ds.zip xs)
  | [], _, _, .nil, _ => .nil
  | [], _, _, .cons _ _, h => by cases h
  | d :: ds, _, _, .nil, h => by cases h
  | d :: ds, _, _, .cons r t, h => .cons r (each_zip t (by simpa using h))
theorem vals_each : ∀ {l : List (PyData × V)} {out : List Value}, W.EachIs (fun v (b : PyData × V) => RelV b.2 v) out l → Vals (l.map (·.2)) out
  | _, _, .nil => .nil
  | _, _, .cons r t => .cons r (vals_each t)
theorem each_reads {h : Heap} : ∀ {vs : List Value} {ds : List PyData} {as : List Addr}, ReadsAll h vs ds as → W.EachIs (fun v d => ∃ as, Reads h v d as) vs ds
  | _, _, _, .nil => .nil
  | _, _, _, .cons q t => .cons ⟨_, q⟩ (each_reads t)
theorem zip_fst {β : Type} : ∀ {ds : List PyData} {xs : List β}, ds.length = xs.length → (ds.zip xs).map Prod.fst = ds
  | [], _, _ => by simp
  | d :: ds, [], h => by cases h
  | d :: ds, x :: xs, h => by rw [List.zip_cons_cons, List.map_cons, zip_fst (by simpa using h)]
theorem dpAll_length {K : PySem.W.Frag} {H : Hp} : ∀ {xs : List V} {ds : List PyData}, DpAll K H xs ds → ds.length = xs.length
  | _, _, .nil => rfl
  | _, _, .cons _ t => by simp [dpAll_length t]
theorem keepU {h : Heap} {D : Addr} {f : Obj → Obj} {b : Addr} {o : Obj} (hb : b ≠ D) (e : h.get? b = some o) : (h.update D f).get? b = some o := (Heap.get?_update_ne _ _ _ _ hb).trans e
def rSortD (K : PySem.W.Frag) : List V → Hp → VK → Prop := fun vs H Q => ∃ (a : Addr) (xs : List V) (ds : List PyData), vs = [.ref a] ∧ (SqL K H a xs ∨ SqT K H a xs) ∧ DpAll K H xs ds ∧ kOk ds = true ∧ ∀ D, H D = none → Q (.ref D) (upd H D (.lst (sortBy ds xs)))
theorem src_obj {X : Cx} {pins : List (Addr × Obj)} {σ : L2.St} {H : Hp} {s : Shared} {a : Addr} {xs : List V} (I : Inv X pins σ H s) (hs : SqL X.K H a xs ∨ SqT X.K H a xs) :
    ∃ (its : List Value) (T : String) (o : Obj) (n : Nat), Vals xs its ∧ (T = "list" ∨ T = "tuple") ∧ s.heap.get? a = some o ∧ o.cls = .type T ∧ o.data = .seq its.toArray n ∧ its.length ≤ sizeLine := by
  rcases hs with hs | hs
  · obtain ⟨its, rv, ⟨o, n, e, c, _, d⟩, hz⟩ := I.list hs
    exact ⟨its, "list", o, n, rv, .inl rfl, e, c, d, by rw [← rv.length]; exact hz⟩
  · obtain ⟨its, rv, q, hz⟩ := I.tuple hs
    obtain ⟨o, e, c, n, d⟩ := (show s.heap.IsTuple a its.toArray from q)
    exact ⟨its, "tuple", o, n, rv, .inr rfl, e, c, d, by rw [← rv.length]; exact hz⟩
theorem cr_sortD {X : Cx} (hu : X.A.units + 65 < cLine) : CallR X (.builtin "sorted") (rSortD X.K) := by
  intro pins s σ H vs us Q I r h
  obtain ⟨a, xs, ds, rfl, hs, hd, hk, q⟩ := h
  rw [Vals.ref1 r]
  obtain ⟨its, T, o, n, rv, hT, ho, hc, hdt, hz⟩ := src_obj I hs
  obtain ⟨k1, k2, k3⟩ := kOk_ok hk
  have hl := dpAll_length hd
  have hlz : (sortBy ds xs).length ≤ sizeLine := by rw [sortBy_length hl, rv.length]; exact hz
  refine srt_any hT ho hc hdt (by rw [List.size_toArray]; exact hz) (args_sorted1 _) (fun _ => args_list_sort _) fun h' E' kp => ?_
  have I1 : Inv X pins σ H { s with heap := h', toks := s.toks } := I.kept kp
  have hD := I1.hok.fresh (Nat.le_refl _)
  obtain ⟨as, rds⟩ := Dp.readsAll I1 ds xs its hd rv
  have ne : ∀ b o, h'.get? b = some o → b ≠ h'.objs.size := fun b o e => Nat.ne_of_lt (Heap.lt_size e)
  have kS : ∀ b o, h'.get? b = some o → (W.sortingHeap (h'.push (seqObj "list" its.toArray 0)) h'.objs.size its).get? b = some o := fun b o e => W.sortingHeap_old (ne b o e) (Heap.get?_push_of_some _ e)
  have er : W.EachIs (fun v d => ∃ as, Reads (W.sortingHeap (h'.push (seqObj "list" its.toArray 0)) h'.objs.size its) v d as) its ds := (each_reads rds).mono fun v d ⟨as, z⟩ => ⟨as, PyProof.Rows.Reads.keeps kS z⟩
  refine W.list_sort_vals (s := { s with heap := h'.push (seqObj "list" its.toArray 0) }) (κ := W.dataKind (W.sortingHeap (h'.push (seqObj "list" its.toArray 0)) h'.objs.size its) ds) (n := 0) (Heap.get?_push_size _ rfl)
    (W.SortsAt.data (s := { s with heap := W.sortingHeap (h'.push (seqObj "list" its.toArray 0)) h'.objs.size its }) er k1 k2 fun d hd => by have := k3 d hd; show X.A.units + 1 + 1 + d.depth < cLine; omega) hz ⟨rfl, ?_⟩
  have out := W.sortVals_data (h' := W.sortingHeap (h'.push (seqObj "list" its.toArray 0)) h'.objs.size its) (R := fun v (b : PyData × V) => RelV b.2 v) (enc := Prod.fst) (bs := ds.zip xs) false (each_zip rv hl) (W.each_of_map Prod.fst (by rw [zip_fst hl]; exact er)) (by rw [zip_fst hl]; exact k1)
  rw [zip_fst hl, ← sortBy_merge] at out
  generalize (W.sortVals (W.dataKind (W.sortingHeap (h'.push (seqObj "list" its.toArray 0)) h'.objs.size its) ds) false its its) = out' at out
  have vo : Vals (sortBy ds xs) out' := vals_each out
  have ho1 := get?_update_seq (h := h'.push (seqObj "list" its.toArray 0)) (a := h'.objs.size) (Heap.get?_push_size _ rfl) fun _ => (#[] : Array Value)
  have ho2 := get?_update_seq (Heap.get?_push_of_some (seqObj "list" #[] 0) (Heap.get?_push_of_some (seqObj "tuple" its.toArray 0) ho1)) fun _ => out'.toArray
  exact ⟨.ref _, upd H h'.objs.size (.lst (sortBy ds xs)), I1.laid (t' := s.toks) (h' := sortedHeap (h'.push (seqObj "list" its.toArray 0)) h'.objs.size its out'.toArray) (fun b o e => keepU (ne b o e) (kS b o e)) (Nat.le_refl _) ⟨hlz, out', _, vo, ho2⟩, rfl, q _ hD⟩
/-! ### sorted of a dict with nested keys -/
section
variable {prog : Program} {w : World} {A : Around} {E : Value → Shared → Prop} {s : Shared}
theorem srt_dict {d : Addr} {o : Obj} {es : Array DictEntry} {ep : Nat} {Q : Value → Shared → Prop} (hh : A.handled = none) (lo : (d == sysModules) = false) (hx : o.ExactDict) (hd : o.data = .dict es ep) (ho : s.heap.get? d = some o) (hz : es.size ≤ sizeLine)
    (body : ∀ (h' : Heap) (tk : Nat) (acc : Array Value) (E' : Value → Shared → Prop), (∀ b o, s.heap.get? b = some o → h'.get? b = some o) → ItemsOf (fun i v => ∃ en : DictEntry, es[i]? = some en ∧ v = en.key) acc es.size →
      wpAny (model prog w) A.in1.in1 (Builtin.«list.sort» ⟨[.ref h'.objs.size], []⟩) (fun f s' => f = .done (.ret .none) ∧ Q (.ref h'.objs.size) s') E' { s with heap := h'.push (seqObj "list" acc.toList.toArray 0), toks := tk }) :
    wpAny (model prog w) A (call (.builtin "sorted") [.ref d]) Q E s := by
  refine Calls.call_function_entry kind_sorted plain_sorted entry_sorted (args_sorted1 _) ?_
  unfold Builtin.«sorted»
  refine wpAny_bind (m := checkCount "sorted" 1 1 _) (wpAny_pure ?_)
  refine wpAny_bind (PySem.W.kdu_collect (A := A.in1) (kdl_raw lo hx hd) hh ho hz fun h' tk acc kp it => ?_)
  refine wpAny_bind (wpAny_newList ?_ (by rw [Array.length_toList, it.1]; exact hz))
  refine wpAny_bind (wpAny_holding (wpAny_call_entry slot_list_sort ⟨_, Heap.get?_push_size _ rfl, rfl⟩ entry_list_sort ?go (args_list_sort _)))
  case go =>
    show wpAny (model prog w) A.in1.in1 (Builtin.«list.sort» ⟨[.ref h'.objs.size], []⟩) _ _ { s with heap := h'.push (seqObj "list" acc.toList.toArray 0), toks := tk }
    refine wpAny_mono (body h' tk acc _ kp it) (fun f s' hf => ?_) fun _ _ e => e
    obtain ⟨rfl, hq⟩ := hf
    exact ⟨_, rfl, wpAny_pure ⟨_, rfl, hq⟩⟩
end
theorem sort_core {X : Cx} {pins : List (Addr × Obj)} {σ : L2.St} {H : Hp} {s : Shared} {h' : Heap} {tk : Nat} {xs : List V} {its : List Value} {ds : List PyData} {Q : VK} {E' : Value → Shared → Prop} (hu : X.A.units + 65 < cLine) (I1 : Inv X pins σ H { s with heap := h', toks := tk }) (rv : Vals xs its) (hd : DpAll X.K H xs ds) (hk : kOk ds = true) (hz : its.length ≤ sizeLine)
    (q : ∀ D, H D = none → Q (.ref D) (upd H D (.lst (sortBy ds xs)))) : wpAny (model X.prog X.w) X.A.in1.in1 (Builtin.«list.sort» ⟨[.ref h'.objs.size], []⟩) (fun f s' => f = .done (.ret .none) ∧ EP X pins σ Q (.ref h'.objs.size) s') E' { s with heap := h'.push (seqObj "list" its.toArray 0), toks := tk } := by
  obtain ⟨k1, k2, k3⟩ := kOk_ok hk
  have hl := dpAll_length hd
  have hlz : (sortBy ds xs).length ≤ sizeLine := by rw [sortBy_length hl, rv.length]; exact hz
  have hD := I1.hok.fresh (Nat.le_refl _)
  obtain ⟨as, rds⟩ := Dp.readsAll I1 ds xs its hd rv
  have ne : ∀ b o, h'.get? b = some o → b ≠ h'.objs.size := fun b o e => Nat.ne_of_lt (Heap.lt_size e)
  have kS : ∀ b o, h'.get? b = some o → (W.sortingHeap (h'.push (seqObj "list" its.toArray 0)) h'.objs.size its).get? b = some o := fun b o e => W.sortingHeap_old (ne b o e) (Heap.get?_push_of_some _ e)
  have er : W.EachIs (fun v d => ∃ as, Reads (W.sortingHeap (h'.push (seqObj "list" its.toArray 0)) h'.objs.size its) v d as) its ds := (each_reads rds).mono fun v d ⟨as, z⟩ => ⟨as, PyProof.Rows.Reads.keeps kS z⟩
  refine W.list_sort_vals (s := { s with heap := h'.push (seqObj "list" its.toArray 0), toks := tk }) (κ := W.dataKind (W.sortingHeap (h'.push (seqObj "list" its.toArray 0)) h'.objs.size its) ds) (n := 0) (Heap.get?_push_size _ rfl)
    (W.SortsAt.data (s := { s with heap := W.sortingHeap (h'.push (seqObj "list" its.toArray 0)) h'.objs.size its, toks := tk }) er k1 k2 fun d hd => by have := k3 d hd; show X.A.units + 1 + 1 + d.depth < cLine; omega) hz ⟨rfl, ?_⟩
  have out := W.sortVals_data (h' := W.sortingHeap (h'.push (seqObj "list" its.toArray 0)) h'.objs.size its) (R := fun v (b : PyData × V) => RelV b.2 v) (enc := Prod.fst) (bs := ds.zip xs) false (each_zip rv hl) (W.each_of_map Prod.fst (by rw [zip_fst hl]; exact er)) (by rw [zip_fst hl]; exact k1)
  rw [zip_fst hl, ← sortBy_merge] at out
  generalize (W.sortVals (W.dataKind (W.sortingHeap (h'.push (seqObj "list" its.toArray 0)) h'.objs.size its) ds) false its its) = out' at out
  have vo : Vals (sortBy ds xs) out' := vals_each out
  have ho1 := get?_update_seq (h := h'.push (seqObj "list" its.toArray 0)) (a := h'.objs.size) (Heap.get?_push_size _ rfl) fun _ => (#[] : Array Value)
  have ho2 := get?_update_seq (Heap.get?_push_of_some (seqObj "list" #[] 0) (Heap.get?_push_of_some (seqObj "tuple" its.toArray 0) ho1)) fun _ => out'.toArray
  exact ⟨.ref _, upd H h'.objs.size (.lst (sortBy ds xs)), I1.laid (t' := tk) (h' := sortedHeap (h'.push (seqObj "list" its.toArray 0)) h'.objs.size its out'.toArray) (fun b o e => keepU (ne b o e) (kS b o e)) (Nat.le_refl _) ⟨hlz, out', _, vo, ho2⟩, rfl, q _ hD⟩
def rSortN (K : PySem.W.Frag) : List V → Hp → VK → Prop := fun us H Q => ∃ a o nks vs ds, us = [.ref a] ∧ H a = some (IsO a o) ∧ DtO a o nks vs ∧ DpAll K H vs ds ∧ kOk ds = true ∧ ∀ D, H D = none → Q (.ref D) (upd H D (.lst (sortBy ds vs)))
theorem cr_sortN {X : Cx} (hc : X.calm = true) (hu : X.A.units + 65 < cLine) : CallR X (.builtin "sorted") (rSortN X.K) := by
  intro pins s σ H vs us Q I r h
  obtain ⟨a, o, nks, vs, ds, rfl, h1, h2, hd, hk, q⟩ := h
  rw [Vals.ref1 r]
  obtain ⟨es, ep, bs, e1, rfl, e3, e4⟩ := h2.es
  have ho := (I.hok a _ h1).1
  have hs : es.size = nks.length := by rw [← Array.length_toList, e4 X.w]; simp [e3]
  refine srt_dict (I.ok.hd hc) h2.no h2.ex e1 ho (by rw [hs]; exact h2.len) fun h' tk acc E' kp it => ?_
  have ea := acc_keys e3 (e4 X.w) it
  have I1 : Inv X pins σ H { s with heap := h', toks := tk } := I.kept kp
  exact sort_core hu I1 (by rw [ea]; exact vals_refs _) hd hk (by rw [ea, List.length_map, e3]; exact h2.len) q
/-- one item, or none -/
def rSort1 (K : PySem.W.Frag) : List V → Hp → VK → Prop := fun vs H Q => ∃ (a : Addr) (xs : List V), vs = [.ref a] ∧ (SqL K H a xs ∨ SqT K H a xs) ∧ xs.length < 2 ∧ ∀ D, H D = none → Q (.ref D) (upd H D (.lst xs))
theorem cr_sort1 {X : Cx} : CallR X (.builtin "sorted") (rSort1 X.K) := by
  intro pins s σ H vs us Q I r h
  obtain ⟨a, xs, rfl, hs, h2, q⟩ := h
  rw [Vals.ref1 r]
  obtain ⟨its, T, o, n, rv, hT, ho, hc, hdt, hz⟩ := src_obj I hs
  refine srt_any hT ho hc hdt (by rw [List.size_toArray]; exact hz) (args_sorted1 _) (fun _ => args_list_sort _) fun h' E' kp => ?_
  have I1 : Inv X pins σ H { s with heap := h', toks := s.toks } := I.kept kp
  have hD := I1.hok.fresh (Nat.le_refl _)
  have ne : ∀ b o, h'.get? b = some o → b ≠ h'.objs.size := fun b o e => Nat.ne_of_lt (Heap.lt_size e)
  have kS : ∀ b o, h'.get? b = some o → (W.sortingHeap (h'.push (seqObj "list" its.toArray 0)) h'.objs.size its).get? b = some o := fun b o e => W.sortingHeap_old (ne b o e) (Heap.get?_push_of_some _ e)
  refine SrtO.list_sort_ord (s := { s with heap := h'.push (seqObj "list" its.toArray 0) }) (ltv := fun _ _ => false) (n := 0) ⟨fun _ _ z => (by cases z), fun _ _ _ _ _ => rfl⟩ (Heap.get?_push_size _ rfl) hz (fun z => absurd z (by rw [← rv.length]; omega)) fun out _ st => ⟨rfl, ?_⟩
  have eo : out = its := by
    have p := st.perm
    have hl : its.length < 2 := by rw [← rv.length]; exact h2
    cases its with
    | nil => exact p.eq_nil
    | cons x r =>
      cases r with
      | nil => exact List.perm_singleton.mp p
      | cons y r => simp only [List.length_cons] at hl; omega
  subst eo
  have ho1 := get?_update_seq (h := h'.push (seqObj "list" out.toArray 0)) (a := h'.objs.size) (Heap.get?_push_size _ rfl) fun _ => (#[] : Array Value)
  have ho2 := get?_update_seq (Heap.get?_push_of_some (seqObj "list" #[] 0) (Heap.get?_push_of_some (seqObj "tuple" out.toArray 0) ho1)) fun _ => out.toArray
  exact ⟨.ref _, upd H h'.objs.size (.lst xs), I1.laid (t' := s.toks) (h' := sortedHeap (h'.push (seqObj "list" out.toArray 0)) h'.objs.size out out.toArray) (fun b o e => keepU (ne b o e) (kS b o e)) (Nat.le_refl _) ⟨by rw [rv.length]; exact hz, out, _, rv, ho2⟩, rfl, q _ hD⟩
def oSortD (ys : List PV) (S : Store) : Res PV := if ys.length < 2 then .ok (.lst ys) S else match toDL ys with
  | some ds => if kOk ds then .ok (.lst (sortBy ds ys)) S else .fail
  | none => .fail
def oSortedD (xs : List PV) (S : Store) : Res PV := match xs with
  | [x] => (match drf S x with
    | .lst ys => (match asInts ys with
      | some ns => .ok (.lst ((isort leI ns).map .int)) S
      | none => oSortD ys S)
    | .tup ys => oSortD ys S
    | .dts ys => (match toDL ys with
      | some ds => if kOk ds then .ok (.lst (sortBy ds ys)) S else .fail
      | none => .fail)
    | _ => .fail)
  | _ => .fail
def rSortedB (K : PySem.W.Frag) : List V → Hp → VK → Prop := fun vs H Q => rSortedI K vs H Q ∨ rSortD K vs H Q ∨ rSort1 K vs H Q ∨ rSortN K vs H Q
theorem call_sortedB {X : Cx} (hc : X.calm = true) (hu : X.A.units + 65 < cLine) : CallR X (.builtin "sorted") (rSortedB X.K) := by
  intro pins s σ H vs us Q I r h
  rcases h with h | h | h | h
  · exact cr_sortedI pins s σ H vs us Q I r h
  · exact cr_sortD hu pins s σ H vs us Q I r h
  · exact cr_sort1 pins s σ H vs us Q I r h
  · exact cr_sortN hc hu pins s σ H vs us Q I r h
theorem sortD_go {B : Base} {W : WX} {σ : L2.St} {μ : List Addr} {S : Store} {H : Hp} {ys : List PV} {us : List V} {a : Addr} {Q : VK} (sr : SR B P μ S H) (l : RpL B μ (Mz P μ S) H ys us) (hs : SqL B.K H a us ∨ SqT B.K H a us) (g : Go B P (RelP B) W σ (oSortD ys S) μ S H Q) : rSortD B.K [.ref a] H Q ∨ rSort1 B.K [.ref a] H Q := by
  unfold oSortD at g
  split at g
  · rename_i h2
    exact .inr ⟨a, us, rfl, hs, by rw [← l.length]; exact h2, fun D hD => go_lst sr hD l g⟩
  · split at g
    · rename_i ds e2
      split at g
      · rename_i hk
        exact .inl ⟨a, us, ds, rfl, hs, l.dp e2, hk, fun D hD => go_lst sr hD (l.sortBy ds) g⟩
      · exact g.elim
    · exact g.elim
theorem sv_sortedB {B : Base} : SvL B (rSortedB B.K) oSortedD := by
  intro P W σ μ S H xs vs Q sr r g
  unfold oSortedD at g
  split at g
  · rename_i x
    obtain ⟨w, rfl, rx⟩ := RpL.one (xs := []) r
    split at g
    · rename_i ys e1
      obtain ⟨a, us, rfl, h1, l⟩ := lstV sr rx e1
      split at g
      · rename_i ns e2
        have := asInts_ok l e2
        subst this
        refine .inl ⟨a, ns, rfl, SqL.of h1, fun ns' p hp hs hq => ?_⟩
        have e3 : ns' = isort leI ns := sorted_uniq (le := leI) (fun a b h1 h2 => by unfold leI at h1 h2; simp only [decide_eq_true_eq] at h1 h2; omega) (hp.trans (isort_perm leI ns).symm) (hs.imp fun h => by unfold leI; simpa using h)
          (isort_sorted (fun a b h => by unfold leI at h ⊢; simp only [decide_eq_false_iff_not, decide_eq_true_eq] at h ⊢; omega) (fun a b c h1 h2 => by unfold leI at h1 h2 ⊢; simp only [decide_eq_true_eq] at h1 h2 ⊢; omega) ns)
        subst e3
        exact go_lst sr hq (RpL.ints _) g
      · exact .inr ((sortD_go sr l (.inl (SqL.of h1)) g).imp id .inl)
    · rename_i ys e1
      obtain ⟨a, us, rfl, h1, l⟩ := tupV sr rx e1
      exact .inr ((sortD_go sr l (.inr h1.sq) g).imp id .inl)
    · rename_i ys e1
      obtain ⟨a, o, nks, vs, rfl, h1, h2, h3, l⟩ := dtsV sr rx e1
      split at g
      · rename_i ds e2
        split at g
        · rename_i hk
          exact .inr (.inr (.inr ⟨a, o, nks, vs, ds, rfl, h1, h3, l.dp e2, hk, fun D hD => go_lst sr hD (l.sortBy ds) g⟩))
        · exact g.elim
      · exact g.elim
    · exact g.elim
  · exact g.elim
end E2
end
section
set_option Elab.async false
set_option linter.all false
set_option maxRecDepth 100000
set_option maxHeartbeats 4000000
set_option autoImplicit false
namespace E2
open PySem L2
variable {P P' : Pv}

/-! ### names, constants -/
def isThk : PV → Bool
  | .thk => true
  | _ => false
theorem isThk_ne {pv : PV} (h : ¬ isThk pv = true) : pv ≠ .thk := fun e => h (by rw [e]; rfl)
def dVar (i : Nat) : DE := fun fr S => match fr[i]? with
  | some (some pv) => if isThk pv then .fail else .ok pv S
  | _ => .fail
def dC (pv : PV) : DE := fun _ S => .ok pv S
section
variable {B : Base} {W : WX}
theorem tVar_of {i : Nat} : ∀ σ H Q, tE B P W (dVar i) σ H Q → tVar i σ H Q := by
  rintro σ H Q ⟨fr, μ, S, hf, sr, g⟩
  unfold dVar at g
  split at g
  · rename_i pv e
    split at g
    · exact g.elim
    · rename_i nt
      obtain ⟨v, h1, h2⟩ := hf.get e (isThk_ne nt)
      exact ⟨v, h1, g.done sr h2⟩
  · exact g.elim
theorem tC_of {pv : PV} {v : V} (r : ∀ μ M H, Rp B μ M H pv v) : ∀ σ H Q, tE B P W (dC pv) σ H Q → tC v σ H Q := by
  rintro σ H Q ⟨fr, μ, S, hf, sr, g⟩
  exact g.done sr (r _ _ _)
end

/-! ### reading a list for good: its cell is frozen -/
def freeze (S : Store) (n : Nat) : Store := match S[n]? with
  | some c => S.set n (false, c.2)
  | none => S
def dVarF (i : Nat) : DE := fun fr S => match fr[i]? with
  | some (some (.ref n)) => (match S[n]? with
    | some (_, .dts _) => .fail
    | some c => .ok c.2 (S.set n (false, c.2))
    | none => .fail)
  | some (some pv) => if isThk pv then .fail else .ok pv S
  | _ => .fail
section
variable {B : Base} {W : WX}
theorem freeze_ok {μ : List Addr} {S : Store} {H : Hp} {n : Nat} {c : Bool × PV} {a : Addr} (sr : SR B P μ S H) (e : S[n]? = some c) (h : μ[n]? = some a) (nd : ∀ ks, c.2 ≠ .dts ks) :
    Ex μ S H μ (S.set n (false, c.2)) H ∧ SR B P μ (S.set n (false, c.2)) H ∧ Rp B μ (Mz P μ (S.set n (false, c.2))) H c.2 (.ref a) := by
  have hn : n < S.length := (List.getElem?_eq_some_iff.mp e).1
  have sub : ∀ b, Mu μ (S.set n (false, c.2)) b → Mu μ S b := fun b ⟨m, pv, h1, h2⟩ => by
    by_cases hm : m = n
    · subst hm
      rw [List.getElem?_set_self hn] at h1
      cases h1
    · rw [List.getElem?_set_ne (Ne.symm hm)] at h1
      exact ⟨m, pv, h1, h2⟩
  have ex : Ex μ S H μ (S.set n (false, c.2)) H := ⟨⟨[], by simp⟩, fun b o e _ _ => e, fun b h => .inl (sub b h), fun _ h => .inl h⟩
  have cellS : ∀ (m : Nat) (k : Bool) (pv : PV) (b : Addr), (S.set n (false, c.2))[m]? = some (k, pv) → μ[m]? = some b → CellAt B k μ (Mz P μ S) H b pv := fun m k pv b h1 h2 => by
    by_cases hm : m = n
    · subst hm
      rw [List.getElem?_set_self hn] at h1
      cases h1
      exact (sr.cell m c.1 c.2 b e h2).off
    · rw [List.getElem?_set_ne (Ne.symm hm)] at h1
      exact sr.cell m k pv b h1 h2
  have sr' : SR B P μ (S.set n (false, c.2)) H := ⟨by simp [sr.len], sr.nd, fun m k pv b h1 h2 => (cellS m k pv b h1 h2).mono sr ex rfl, sr.tabs, sr.pd, sr.pt, P.st sr.anc ex⟩
  refine ⟨ex, sr', ?_⟩
  have na : ¬ Mu μ (S.set n (false, c.2)) a := fun ⟨m, pv, h1, h2⟩ => by
    by_cases hm : m = n
    · subst hm
      rw [List.getElem?_set_self hn] at h1
      cases h1
    · obtain ⟨x1, y1⟩ := List.getElem?_eq_some_iff.mp h
      obtain ⟨x2, y2⟩ := List.getElem?_eq_some_iff.mp h2
      exact hm ((List.getElem_inj sr.nd).mp (y2.trans y1.symm))
  have na : ¬ Mz P μ (S.set n (false, c.2)) a := fun z => z.elim na (fun q => sr.pd a q (List.mem_of_getElem? h))
  have c1 := sr'.cell n false c.2 a (List.getElem?_set_self hn) h
  obtain ⟨c0, c2⟩ := c
  cases c2 with
  | lst xs => obtain ⟨vs, e1, l⟩ := c1; exact .lst e1 na l
  | dct xs => obtain ⟨vs, e1, l⟩ := c1; exact .dK e1.rd na l
  | dtt xs => obtain ⟨vs, e1, l⟩ := c1; exact .dT e1.rd na l
  | obj cc fs => obtain ⟨C, dx, gs, hc, e1, l⟩ := c1; exact .obj hc e1 na l
  | dts ks => exact absurd rfl (nd ks)
  | _ => exact c1.elim
theorem tVarF_of {i : Nat} : ∀ σ H Q, tE B P W (dVarF i) σ H Q → tVar i σ H Q := by
  rintro σ H Q ⟨fr, μ, S, hf, sr, g⟩
  unfold dVarF at g
  split at g
  · rename_i n e
    split at g
    · exact g.elim
    · rename_i c nd ec
      obtain ⟨v, h1, h2⟩ := hf.get e (by intro z; cases z)
      cases h2 with
      | ref h3 =>
        obtain ⟨ex, sr', r⟩ := freeze_ok sr ec h3 (fun ks z => nd c.1 ks (by rw [← z]))
        exact ⟨_, h1, g μ H _ ex sr' r⟩
    · exact g.elim
  · rename_i pv _ e
    split at g
    · exact g.elim
    · rename_i nt
      obtain ⟨v, h1, h2⟩ := hf.get e (isThk_ne nt)
      exact ⟨v, h1, g.done sr h2⟩
  · exact g.elim
end

/-! ### truth -/
def truP (S : Store) (x : PV) : Option Bool := match drf S x with
  | .non => some false
  | .bl b => some b
  | .int i => some (i != 0)
  | .str y => if y.length ≤ sizeLine then some ((y.length : Int) != 0) else none
  | .lst xs => some (!xs.isEmpty)
  | .tup xs => some (!xs.isEmpty)
  | _ => none
theorem truP_ok {B : Base} {μ : List Addr} {S : Store} {H : Hp} (sr : SR B P μ S H) {x : PV} {v : V} {k : Bool} (r : Rp B μ (Mz P μ S) H x v) (e : truP S x = some k) : TruV B.K v H k := by
  unfold truP at e
  split at e <;> rename_i q
  · cases e; rw [nonV sr r q]; rfl
  · cases e; rw [blV sr r q]; rfl
  · cases e; rw [intV sr r q]; rfl
  · split at e
    · cases e; rw [strV sr r q]; exact ⟨by assumption, rfl⟩
    · cases e
  · cases e
    obtain ⟨a, vs, rfl, h1, l⟩ := lstV sr r q
    refine .inl ⟨vs, SqL.of h1, ?_⟩
    cases l <;> rfl
  · cases e
    obtain ⟨a, vs, rfl, h1, l⟩ := tupV sr r q
    refine .inr (.inl ⟨vs, h1.sq, ?_⟩)
    cases l <;> rfl
  · cases e
def dTru (a : DE) : DT := fun fr S => (a fr S).bind fun x S1 => match truP S1 x with
  | some k => .ok k S1
  | none => .fail
def dOrV (a b : DE) : DE := fun fr S => (a fr S).bind fun x S1 => match truP S1 x with
  | some true => .ok x S1
  | some false => b fr S1
  | none => .fail
def dAndV (a b : DE) : DE := fun fr S => (a fr S).bind fun x S1 => match truP S1 x with
  | some true => b fr S1
  | some false => .ok x S1
  | none => .fail
def dNotV (a : DE) : DE := fun fr S => (a fr S).bind fun x S1 => match truP S1 x with
  | some k => .ok (.bl (!k)) S1
  | none => .fail
def dBl (a : DE) : DT := fun fr S => (a fr S).bind fun x S1 => match x with
  | .bl b => .ok b S1
  | _ => .fail
def dAndT (a b : DT) : DT := fun fr S => (a fr S).bind fun c S1 => if c = true then b fr S1 else .ok false S1
def dOrT (a b : DT) : DT := fun fr S => (a fr S).bind fun c S1 => if c = true then .ok true S1 else b fr S1
def dNotT (a : DT) : DT := fun fr S => (a fr S).bind fun c S1 => .ok (!c) S1
def dIfE (c : DT) (a b : DE) : DE := fun fr S => (c fr S).bind fun k S1 => if k = true then a fr S1 else b fr S1
section
variable {B : Base} {W : WX}
theorem tTru_of {a : DE} : ∀ σ H Q, tT B P W (dTru a) σ H Q → (tE B P W a σ H fun x H' => ∃ k, TruV B.K x H' k ∧ Q k H') := by
  rintro σ H Q ⟨fr, μ, S, hf, sr, g⟩
  refine ⟨fr, μ, S, hf, sr, g.bind.imp ?_⟩
  rintro v H1 ⟨μ1, S1, x, e1, sr1, r1, _, g1⟩
  split at g1
  · rename_i k e
    exact ⟨k, truP_ok sr1 r1 e, g1.done sr1 rfl⟩
  · exact g1.elim
theorem tBl_of {a : DE} : ∀ σ H Q, tT B P W (dBl a) σ H Q → tTest (tE B P W a) σ H Q := by
  rintro σ H Q ⟨fr, μ, S, hf, sr, g⟩
  refine ⟨fr, μ, S, hf, sr, g.bind.imp ?_⟩
  rintro v H1 ⟨μ1, S1, x, e1, sr1, r1, _, g1⟩
  have r1 : Rp B μ1 (Mz P μ1 S1) H1 x v := r1
  split at g1
  · cases r1
    exact ⟨_, rfl, g1.done sr1 rfl⟩
  · exact g1.elim
theorem tOrV_of {a b : DE} : ∀ σ H Q, tE B P W (dOrV a b) σ H Q → tOrT B.K (tE B P W a) (tE B P W b) σ H Q := by
  rintro σ H Q ⟨fr, μ, S, hf, sr, g⟩
  refine ⟨fr, μ, S, hf, sr, g.bind.imp ?_⟩
  rintro v H1 ⟨μ1, S1, x, e1, sr1, r1, _, g1⟩
  split at g1
  · rename_i e
    exact ⟨true, truP_ok sr1 r1 e, g1.done sr1 r1⟩
  · rename_i e
    exact ⟨false, truP_ok sr1 r1 e, fr, μ1, S1, hf.mono sr e1, sr1, g1⟩
  · exact g1.elim
theorem tAndV_of {a b : DE} : ∀ σ H Q, tE B P W (dAndV a b) σ H Q → tAndT B.K (tE B P W a) (tE B P W b) σ H Q := by
  rintro σ H Q ⟨fr, μ, S, hf, sr, g⟩
  refine ⟨fr, μ, S, hf, sr, g.bind.imp ?_⟩
  rintro v H1 ⟨μ1, S1, x, e1, sr1, r1, _, g1⟩
  split at g1
  · rename_i e
    exact ⟨true, truP_ok sr1 r1 e, fr, μ1, S1, hf.mono sr e1, sr1, g1⟩
  · rename_i e
    exact ⟨false, truP_ok sr1 r1 e, g1.done sr1 r1⟩
  · exact g1.elim
theorem tNotV_of {a : DE} : ∀ σ H Q, tE B P W (dNotV a) σ H Q → tNotT B.K (tE B P W a) σ H Q := by
  rintro σ H Q ⟨fr, μ, S, hf, sr, g⟩
  refine ⟨fr, μ, S, hf, sr, g.bind.imp ?_⟩
  rintro v H1 ⟨μ1, S1, x, e1, sr1, r1, _, g1⟩
  split at g1
  · rename_i k e
    exact ⟨k, truP_ok sr1 r1 e, g1.done sr1 (.bl _)⟩
  · exact g1.elim
theorem tAndT_of {a b : DT} : ∀ σ H Q, tT B P W (dAndT a b) σ H Q → tAnd (tT B P W a) (tT B P W b) σ H Q := by
  rintro σ H Q ⟨fr, μ, S, hf, sr, g⟩
  refine ⟨fr, μ, S, hf, sr, g.bind.imp ?_⟩
  rintro v H1 ⟨μ1, S1, x, e1, sr1, r1, _, g1⟩
  cases (show x = v from r1)
  show if v = true then _ else _
  split
  · rename_i e
    rw [if_pos e] at g1
    exact ⟨fr, μ1, S1, hf.mono sr e1, sr1, g1⟩
  · rename_i e
    rw [if_neg e] at g1
    exact g1.done sr1 rfl
theorem tOrT_of {a b : DT} : ∀ σ H Q, tT B P W (dOrT a b) σ H Q → tOr (tT B P W a) (tT B P W b) σ H Q := by
  rintro σ H Q ⟨fr, μ, S, hf, sr, g⟩
  refine ⟨fr, μ, S, hf, sr, g.bind.imp ?_⟩
  rintro v H1 ⟨μ1, S1, x, e1, sr1, r1, _, g1⟩
  cases (show x = v from r1)
  show if v = true then _ else _
  split
  · rename_i e
    rw [if_pos e] at g1
    exact g1.done sr1 rfl
  · rename_i e
    rw [if_neg e] at g1
    exact ⟨fr, μ1, S1, hf.mono sr e1, sr1, g1⟩
theorem tNotT_of {a : DT} : ∀ σ H Q, tT B P W (dNotT a) σ H Q → tNot (tT B P W a) σ H Q := by
  rintro σ H Q ⟨fr, μ, S, hf, sr, g⟩
  refine ⟨fr, μ, S, hf, sr, g.bind.imp ?_⟩
  rintro v H1 ⟨μ1, S1, x, e1, sr1, r1, _, g1⟩
  cases (show x = v from r1)
  exact g1.done sr1 rfl
theorem tIfE_of {c : DT} {a b : DE} : ∀ σ H Q, tE B P W (dIfE c a b) σ H Q → tIf (tT B P W c) (tE B P W a) (tE B P W b) σ H Q := by
  rintro σ H Q ⟨fr, μ, S, hf, sr, g⟩
  refine ⟨fr, μ, S, hf, sr, g.bind.imp ?_⟩
  rintro v H1 ⟨μ1, S1, x, e1, sr1, r1, _, g1⟩
  cases (show x = v from r1)
  show if v = true then _ else _
  split
  · rename_i e
    rw [if_pos e] at g1
    exact ⟨fr, μ1, S1, hf.mono sr e1, sr1, g1⟩
  · rename_i e
    rw [if_neg e] at g1
    exact ⟨fr, μ1, S1, hf.mono sr e1, sr1, g1⟩
/-- a < b < c -/
def dChain (o o' : PV → PV → Store → Res PV) (a b c : DE) : DE := fun fr S => (a fr S).bind fun x S1 => (b fr S1).bind fun y S2 => (o x y S2).bind fun k S3 => match k with
  | .bl true => (c fr S3).bind fun z S4 => o' y z S4
  | .bl false => .ok (.bl false) S3
  | _ => .fail
theorem tChain_of {r r' : R2} {o o' : PV → PV → Store → Res PV} (h : Sv2 B r o) (h' : Sv2 B r' o') {a b c : DE} : ∀ σ H Q, tE B P W (dChain o o' a b c) σ H Q → tChain r r' (tE B P W a) (tE B P W b) (tE B P W c) σ H Q := by
  rintro σ H Q ⟨fr, μ, S, hf, sr, g⟩
  refine ⟨fr, μ, S, hf, sr, g.bind.imp ?_⟩
  rintro v H1 ⟨μ1, S1, x, e1, sr1, r1, _, g1⟩
  have r1 : Rp B μ1 (Mz P μ1 S1) H1 x v := r1
  refine ⟨fr, μ1, S1, hf.mono sr e1, sr1, g1.bind.imp ?_⟩
  rintro u H2 ⟨μ2, S2, y, e2, sr2, r2, _, g2⟩
  have r2 : Rp B μ2 (Mz P μ2 S2) H2 y u := r2
  refine h P W σ μ2 S2 H2 x y v u _ sr2 (r1.mono sr1 e2) r2 (g2.bind.imp ?_)
  rintro w H3 ⟨μ3, S3, z, e3, sr3, r3, _, g3⟩
  have r3 : Rp B μ3 (Mz P μ3 S3) H3 z w := r3
  split at g3
  · cases r3
    refine ⟨true, rfl, ?_⟩
    show if true = true then _ else _
    rw [if_pos rfl]
    refine ⟨fr, μ3, S3, ((hf.mono sr e1).mono sr1 e2).mono sr2 e3, sr3, g3.bind.imp ?_⟩
    rintro w' H4 ⟨μ4, S4, z', e4, sr4, r4, _, g4⟩
    exact h' P W σ μ4 S4 H4 y z' u w' Q sr4 ((r2.mono sr2 e3).mono sr3 e4) r4 g4
  · cases r3
    refine ⟨false, rfl, ?_⟩
    show if false = true then _ else _
    rw [if_neg Bool.false_ne_true]
    exact g3.done sr3 (.bl _)
  · exact g3.elim
end
end E2
end
section
set_option Elab.async false
set_option linter.all false
set_option maxRecDepth 100000
set_option maxHeartbeats 4000000
set_option autoImplicit false
namespace E2
open PySem L2
variable {P P' : Pv}

/-! ### a def's promise -/
def spOf (B : Base) (n : Nat) (φ : List PV → Store → Res PV) : Sp := fun vs H Q E =>
  ∃ (P : Pv) (μ : List Addr) (S : Store) (xs : List PV), SR B P μ S H ∧ RpL B μ (Mz P μ S) H xs vs ∧ xs.length = n ∧ Go B P (RelP B) (fun cls d _ H' => E cls d H') [] (φ xs S) μ S H Q
theorem Go.change {B : Base} {α β : Type} {Rel : List Addr → Mx → Hp → α → β → Prop} {W W' : WX} {σ σ' : St} {r : Res α} {μ : List Addr} {S : Store} {H : Hp} {Q : β → Hp → Prop} (g : Go B P Rel W σ r μ S H Q) (h : ∀ c d H', W c d σ H' → W' c d σ' H') : Go B P Rel W' σ' r μ S H Q := by
  cases r with
  | ok a S' => exact g
  | exc c t S' => exact fun μ' H' C dx v x s e1 e2 e3 => h _ _ _ (g μ' H' C dx v x s e1 e2 e3)
  | fail => exact g
def callOp (n : Nat) (φ : List PV → Store → Res PV) (dfl : List PV) (xs : List PV) (S : Store) : Res PV := if (xs ++ dfl).length = n then φ (xs ++ dfl) S else .fail
theorem tCall_of {B : Base} {W : WX} {n : Nat} {φ : List PV → Store → Res PV} {dfl : List PV} {dvs : List V} (hd : ∀ μ M H, RpL B μ M H dfl dvs) {a : DA} :
    ∀ σ H Q, tE B P W (dCallL (callOp n φ dfl) a) σ H Q → tCallSD (spOf B n φ) dvs (WE W) (tA B P W a) σ H Q := by
  rintro σ H Q ⟨fr, μ, S, hf, sr, g⟩
  refine ⟨fr, μ, S, hf, sr, g.bind.imp ?_⟩
  rintro v H1 ⟨μ1, S1, x, e1, sr1, r1, _, g1⟩
  have r1 : RpL B μ1 (Mz P μ1 S1) H1 x v := r1
  unfold callOp at g1
  split at g1
  · exact ⟨P, μ1, S1, x ++ dfl, sr1, r1.append (hd _ _ _), by assumption, g1.change fun c d H' h => h⟩
  · exact g1.elim

/-! ### the heap without the lists that are being made -/
open Classical in
noncomputable def hid (p : Addr → Prop) (H : Hp) : Hp := fun a => if p a then none else H a
theorem hid_none {p : Addr → Prop} {H : Hp} {a : Addr} (h : p a) : hid p H a = none := by unfold hid; exact if_pos h
theorem hid_ne {p : Addr → Prop} {H : Hp} {a : Addr} (h : ¬ p a) : hid p H a = H a := by unfold hid; exact if_neg h
theorem hid_some {p : Addr → Prop} {H : Hp} {a : Addr} {o : HO} (h : hid p H a = some o) : H a = some o := by
  by_cases q : p a
  · rw [hid_none q] at h; cases h
  · rw [hid_ne q] at h; exact h
theorem Ex.hid {p : Addr → Prop} {μ μ' : List Addr} {S S' : Store} {H H' : Hp} (x : Ex μ S H μ' S' H') : Ex μ S (hid p H) μ' S' H' :=
  ⟨x.mu, fun b o e n t => x.keep b o (hid_some e) n t, fun b z => (x.fresh b z).imp id fun q o e => q o (hid_some e), fun b z => (x.newm b z).imp id fun q o e => q o (hid_some e)⟩
/-- no such list -/
def Pn (P : Pv) : Pv := ⟨fun _ => False, P.f, fun _ _ _ => True, fun _ _ => trivial⟩
section
variable {B : Base} {μ : List Addr} {S : Store} {H : Hp}
theorem SR.notP (sr : SR B P μ S H) {a : Addr} {o : HO} (e : H a = some o) (h1 : ∀ vs, o ≠ .lst vs) (h2 : ∀ qs, o ≠ .dK qs) (h3 : ∀ o', isD o' → o ≠ IsO a o' := by intro _ _ z; cases z) : ¬ P.p a := fun h => by
  rcases sr.pt a h with ⟨vs, q⟩ | ⟨qs, q⟩ | ⟨ob, q, d⟩ <;> rw [e] at q <;> cases q
  · exact h1 _ rfl
  · exact h2 _ rfl
  · exact h3 _ d rfl
theorem hidTup (sr : SR B P μ S H) {a : Addr} {vs : List V} (h : TupAt B.K H a vs) : TupAt B.K (hid P.p H) a vs := h.imp (fun ⟨o, z, d⟩ => ⟨o, by rw [hid_ne (sr.notP z (fun _ z => nomatch z) (fun _ z => nomatch z))]; exact z, d⟩) id
theorem hidZ {a : Addr} (n : ¬ Mz P μ S a) : ¬ Mz (Pn P) μ S a := fun z => z.elim (fun q => n (.inl q)) False.elim
theorem hidK {a : Addr} {o : HO} (h : H a = some o) (n : ¬ Mz P μ S a) : hid P.p H a = some o := by rw [hid_ne fun z => n (.inr z)]; exact h
mutual
theorem Rp.hid (sr : SR B P μ S H) : ∀ {pv : PV} {v : V}, Rp B μ (Mz P μ S) H pv v → Rp B μ (Mz (Pn P) μ S) (hid P.p H) pv v
  | _, _, .non => .non
  | _, _, .bl b => .bl b
  | _, _, .int i => .int i
  | _, _, .str y => .str y
  | _, _, .tup h l => .tup (hidTup sr h) (RpL.hid sr l)
  | _, _, .pr h l => .pr (by rw [hid_ne (sr.notP h (fun _ z => nomatch z) (fun _ z => nomatch z))]; exact h) (RpL.hid sr l)
  | _, _, .lst h n l => .lst (hidK h n) (hidZ n) (RpL.hid sr l)
  | _, _, .dK h n l => .dK (h.elim (fun q => .inl (hidK q n)) fun ⟨o, q⟩ => .inr ⟨o, hidK q n⟩) (hidZ n) (RpK.hid sr l)
  | _, _, .dT h n l => .dT (h.elim (fun q => .inl (hidK q n)) fun ⟨o, q⟩ => .inr ⟨o, hidK q n⟩) (hidZ n) (RpT.hid sr l)
  | _, _, .obj c h n l => .obj c (hidK h n) (hidZ n) (RpF.hid sr l)
  | _, _, .ref h => .ref h
  | _, _, .fn h => .fn h
  | _, _, .ty n => .ty n
  | _, _, .cls h => .cls h
  | _, _, .scr h => .scr (h.elim (fun z => .inl ⟨z.1.elim (fun q => .inl (hidK q z.2)) (fun ⟨o, q⟩ => .inr ⟨o, hidK q z.2⟩), hidZ z.2⟩) .inr)
theorem RpL.hid (sr : SR B P μ S H) : ∀ {pv : List PV} {v : List V}, RpL B μ (Mz P μ S) H pv v → RpL B μ (Mz (Pn P) μ S) (hid P.p H) pv v
  | _, _, .nil => .nil
  | _, _, .cons h t => .cons (Rp.hid sr h) (RpL.hid sr t)
theorem RpK.hid (sr : SR B P μ S H) : ∀ {pv : List (PV × PV)} {v : List (Key × V)}, RpK B μ (Mz P μ S) H pv v → RpK B μ (Mz (Pn P) μ S) (hid P.p H) pv v
  | _, _, .nil => .nil
  | _, _, .int h t => .int (Rp.hid sr h) (RpK.hid sr t)
  | _, _, .str h t => .str (Rp.hid sr h) (RpK.hid sr t)
theorem RpT.hid (sr : SR B P μ S H) : ∀ {pv : List (List Key × PV)} {v : List (List Key × V)}, RpT B μ (Mz P μ S) H pv v → RpT B μ (Mz (Pn P) μ S) (hid P.p H) pv v
  | _, _, .nil => .nil
  | _, _, .cons h t => .cons (Rp.hid sr h) (RpT.hid sr t)
theorem RpF.hid (sr : SR B P μ S H) : ∀ {pv : List (Str × PV)} {v : List (Str × V)}, RpF B μ (Mz P μ S) H pv v → RpF B μ (Mz (Pn P) μ S) (hid P.p H) pv v
  | _, _, .nil => .nil
  | _, _, .cons h t => .cons (Rp.hid sr h) (RpF.hid sr t)
end
theorem SR.hid (sr : SR B P μ S H) : SR B (Pn P) μ S (hid P.p H) := by
  refine ⟨sr.len, sr.nd, fun n m pv a h1 h2 => ?_, fun p hp => ?_, fun a h => h.elim, fun a h => h.elim, trivial⟩
  · have np : ¬ P.p a := fun z => sr.pd a z (List.mem_of_getElem? h2)
    have c := sr.cell n m pv a h1 h2
    cases pv with
    | lst xs => obtain ⟨us, e, l⟩ := c; exact ⟨us, (hid_ne np).trans e, l.hid sr⟩
    | dct kvs => obtain ⟨us, e, l⟩ := c; exact ⟨us, e.eq (hid_ne np), l.hid sr⟩
    | dtt kvs => obtain ⟨us, e, l⟩ := c; exact ⟨us, e.eq (hid_ne np), l.hid sr⟩
    | dts ks => obtain ⟨o, nks, vs, e, n, d, l⟩ := c; exact ⟨o, nks, vs, (hid_ne np).trans e, n, d, l.hid sr⟩
    | obj c fs => obtain ⟨C, dx, gs, hc, e, l⟩ := c; exact ⟨C, dx, gs, hc, (hid_ne np).trans e, l.hid sr⟩
    | _ => exact c.elim
  · obtain ⟨ps, h1, h2, h3⟩ := sr.tabs p hp
    refine ⟨ps, (hid_ne (sr.notP h1 (fun _ z => nomatch z) (fun _ z => nomatch z))).trans h1, h2, fun pos cv hc => ?_⟩
    obtain ⟨c, e1, e2⟩ := h3 pos cv hc
    exact ⟨c, e1, (hid_ne (sr.notP e2 (fun _ z => nomatch z) (fun _ z => nomatch z) (fun _ d => code_notO d))).trans e2⟩
theorem FR.hid (sr : SR B P μ S H) {fr : Frame} {σ : St} (h : FR B μ (Mz P μ S) H fr σ) : FR B μ (Mz (Pn P) μ S) (hid P.p H) fr σ :=
  ⟨h.1, fun i pv e => let ⟨v, e1, e2⟩ := h.2 i pv e; ⟨v, e1, e2.imp (fun r => r.hid sr) fun z => ⟨z.1, z.2⟩⟩⟩
end
theorem hidP {H : Hp} (hp : ∀ a, P'.p a → P.p a ∨ H a = none) : ∀ a, P'.p a → (Pn P).p a ∨ hid P.p H a = none := fun a z => .inr ((hp a z).elim hid_none fun q => by
  by_cases w : P.p a
  · exact hid_none w
  · rw [hid_ne w]; exact q)

/-! ### what is walked -/
structure ItS (B : Base) (P : Pv) (J : It) (items : List PV) (μ : List Addr) (S : Store) (H : Hp) : Prop where
  go : ∀ (P' : Pv) μ2 S2 H2 (i : Nat), Ex μ S (hid P.p H) μ2 S2 H2 → SR B P' μ2 S2 H2 → i < items.length → J.go i H2
  yld : ∀ (P' : Pv) μ2 S2 H2 (i : Nat) x H3, (∀ a, P'.p a → P.p a ∨ H a = none) → Ex μ S (hid P.p H) μ2 S2 H2 → SR B P' μ2 S2 H2 → i < items.length → J.yld i H2 x H3 → ∃ pv, items[i]? = some pv ∧ Ex μ2 S2 H2 μ2 S2 H3 ∧ SR B P' μ2 S2 H3 ∧ Rp B μ2 (Mz P' μ2 S2) H3 pv x ∧ ∀ b o, H2 b = some o → H3 b = some o
  stop : ∀ (P' : Pv) μ2 S2 H2 (i : Nat), Ex μ S (hid P.p H) μ2 S2 H2 → SR B P' μ2 S2 H2 → items.length ≤ i → J.stop i H2
abbrev DI := Frame → Store → Res (List PV)
/-- the reading of an iterable -/
def GoI (B : Base) (P : Pv) (W : WX) (σ : St) (r : Res (List PV)) (μ : List Addr) (S : Store) (H : Hp) (R : It → Hp → Prop) : Prop := match r with
  | .ok items S' => ∀ μ' H' J, Ex μ S H μ' S' H' → SR B P μ' S' H' → ItS B P J items μ' S' H' → R J H'
  | .exc c told S' => ∀ μ' H' C dx v, Ex μ S H μ' S' H' → SR B P μ' S' H' → B.ec c = some C → H' dx = some (.xd [(B.ea c, v)]) → Rp B μ' (Mz P μ' S') H' told v → W (.ref C) (some dx) σ H'
  | .fail => False
def tI (B : Base) (P : Pv) (W : WX) (d : DI) : TI := fun σ H R => ∃ (fr : Frame) (μ : List Addr) (S : Store), FR B μ (Mz P μ S) H fr σ ∧ SR B P μ S H ∧ GoI B P W σ (d fr S) μ S H R
theorem its_list {B : Base} {μ : List Addr} {S : Store} {H : Hp} {a : Addr} {xs : List PV} {vs : List V} (sr : SR B P μ S H) (h : H a = some (.lst vs)) (n : ¬ Mz P μ S a) (l : RpL B μ (Mz P μ S) H xs vs) : ItS B P (Itl B.K a) xs μ S H := by
  have at_ : ∀ μ2 S2 H2, Ex μ S (hid P.p H) μ2 S2 H2 → H2 a = some (.lst vs) := fun μ2 S2 H2 ex => ex.keep a _ (hidK h n) (nMu n) (fun ps z => nomatch z)
  have uq : ∀ (H2 : Hp) (us : List V), H2 a = some (.lst vs) → SqL B.K H2 a us → H2 a = some (.lst us) ∨ SqL B.K H2 a us := fun _ _ _ z => .inr z
  refine ⟨fun P' μ2 S2 H2 i ex sr2 hi => ⟨vs, vs[i]'(by rw [← l.length]; exact hi), SqL.of (at_ _ _ _ ex), by rw [List.getElem?_eq_getElem]⟩, fun P' μ2 S2 H2 i x H3 hp ex sr2 hi0 y => ?_, fun P' μ2 S2 H2 i ex sr2 hi => ⟨vs, SqL.of (at_ _ _ _ ex), by rw [← l.length]; exact hi⟩⟩
  obtain ⟨e, y⟩ := y
  subst e
  have y1 := y vs (SqL.of (at_ _ _ _ ex))
  have hi : i < xs.length := by rw [l.length]; exact (List.getElem?_eq_some_iff.mp y1).1
  obtain ⟨w, h1, h2⟩ := ((l.hid sr).monoP sr.hid ex (hidP hp)).get (i := i) (x := xs[i]) (List.getElem?_eq_getElem hi)
  rw [y1] at h1; cases h1
  exact ⟨xs[i], List.getElem?_eq_getElem hi, .refl, sr2, h2, fun _ _ z => z⟩
theorem its_tup {B : Base} {μ : List Addr} {S : Store} {H : Hp} {a : Addr} {xs : List PV} {vs : List V} (sr : SR B P μ S H) (h : TupAt B.K H a vs) (l : RpL B μ (Mz P μ S) H xs vs) : ItS B P (Itt B.K a) xs μ S H := by
  have at_ : ∀ μ2 S2 H2, Ex μ S (hid P.p H) μ2 S2 H2 → SqT B.K H2 a vs := fun μ2 S2 H2 ex => (ex.sqT sr.hid (hidTup sr h)).sq
  refine ⟨fun P' μ2 S2 H2 i ex sr2 hi => ⟨vs, vs[i]'(by rw [← l.length]; exact hi), at_ _ _ _ ex, by rw [List.getElem?_eq_getElem]⟩, fun P' μ2 S2 H2 i x H3 hp ex sr2 hi0 y => ?_, fun P' μ2 S2 H2 i ex sr2 hi => ⟨vs, at_ _ _ _ ex, by rw [← l.length]; exact hi⟩⟩
  obtain ⟨e, y⟩ := y
  subst e
  have y1 := y vs (at_ _ _ _ ex)
  have hi : i < xs.length := by rw [l.length]; exact (List.getElem?_eq_some_iff.mp y1).1
  obtain ⟨w, h1, h2⟩ := ((l.hid sr).monoP sr.hid ex (hidP hp)).get (i := i) (x := xs[i]) (List.getElem?_eq_getElem hi)
  rw [y1] at h1; cases h1
  exact ⟨xs[i], List.getElem?_eq_getElem hi, .refl, sr2, h2, fun _ _ z => z⟩
def rngP (lo : Int) : Nat → List PV
  | 0 => []
  | n + 1 => .int lo :: rngP (lo + 1) n
theorem rngP_length : ∀ (n : Nat) (lo : Int), (rngP lo n).length = n
  | 0, _ => rfl
  | n + 1, lo => by simp [rngP, rngP_length n]
theorem rngP_get : ∀ (n : Nat) (lo : Int) (i : Nat), i < n → (rngP lo n)[i]? = some (.int (lo + i))
  | n + 1, lo, 0, _ => by simp [rngP]
  | n + 1, lo, i + 1, h => by
    rw [rngP, List.getElem?_cons_succ, rngP_get n (lo + 1) i (by omega)]
    congr 2
    rw [Int.add_assoc, Int.add_comm 1 (i : Int)]
    rfl
theorem its_rng {B : Base} {μ : List Addr} {S : Store} {H : Hp} (lo : Int) (n : Nat) : ItS B P (Itr lo n) (rngP lo n) μ S H := by
  refine ⟨fun P' μ2 S2 H2 i ex sr2 hi => by rw [rngP_length] at hi; exact hi, fun P' μ2 S2 H2 i x H3 hp ex sr2 hi0 y => ?_, fun P' μ2 S2 H2 i ex sr2 hi => by rw [rngP_length] at hi; exact hi⟩
  obtain ⟨e, y⟩ := y
  subst e
  subst y
  rw [rngP_length] at hi0
  exact ⟨.int (lo + i), rngP_get n lo i hi0, .refl, sr2, .int _, fun _ _ z => z⟩

/-! ### targets -/
inductive Tgt where
  | name (i : Nat)
  | tup (is : List Nat)
def setAll : List Nat → List PV → Frame → Frame
  | i :: is, x :: xs, fr => setAll is xs (fr.set i (some x))
  | _, _, fr => fr
def bindG (S : Store) (t : Tgt) (x : PV) (fr : Frame) : Option Frame := match t with
  | .name i => some (fr.set i (some x))
  | .tup is => (match drf S x with
    | .tup xs => if xs.length = is.length then some (setAll is xs fr) else none
    | .pr xs => if xs.length = is.length then some (setAll is xs fr) else none
    | .lst xs => if xs.length = is.length then some (setAll is xs fr) else none
    | _ => none)
def gNames : List Nat → TGs
  | [] => gNil
  | i :: is => gCons (gName i) (gNames is)
def gOf (K : PySem.W.Frag) : Tgt → TG
  | .name i => gName i
  | .tup is => fun v σ H Q => gTup K is.length (gNames is) v σ H Q ∨ gLst K is.length (gNames is) v σ H Q
theorem FR.set {B : Base} {μ : List Addr} {M : Mx} {H : Hp} {fr : Frame} {σ : St} {x : PV} {v : V} (h : FR B μ M H fr σ) (r : Rp B μ M H x v) (i : Nat) : FR B μ M H (fr.set i (some x)) (σ.set i (some v)) := by
  refine ⟨by simp [h.1], fun j pv e => ?_⟩
  by_cases hj : j = i
  · subst hj
    by_cases hl : j < fr.length
    · rw [List.getElem?_set_self hl] at e
      cases e
      exact ⟨v, by rw [List.getElem?_set_self (by rw [← h.1]; exact hl)], .inl r⟩
    · rw [List.getElem?_eq_none (by simpa using hl)] at e; cases e
  · rw [List.getElem?_set_ne (Ne.symm hj)] at e
    obtain ⟨w, h1, h2⟩ := h.2 j pv e
    exact ⟨w, by rw [List.getElem?_set_ne (Ne.symm hj)]; exact h1, h2⟩
theorem wipe_in {σ : St} {i : Nat} : ∀ {vs : List Nat}, i ∈ vs → (wipe σ vs)[i]? = if i < σ.length then some none else none
  | v :: vs, h => by
    unfold L2.wipe
    by_cases hv : i = v
    · subst hv
      by_cases hl : i < σ.length
      · rw [List.getElem?_set_self (by rw [wipe_length]; exact hl), if_pos hl]
      · rw [if_neg hl, List.getElem?_eq_none (by rw [List.length_set, wipe_length]; omega)]
    · rw [List.getElem?_set_ne (Ne.symm hv)]
      exact wipe_in ((List.mem_cons.mp h).resolve_left hv)
theorem wipe_set {σ : St} {i : Nat} {x : Option V} {vs : List Nat} (h : i ∈ vs) : wipe (σ.set i x) vs = wipe σ vs := by
  apply List.ext_getElem?
  intro j
  by_cases hj : j ∈ vs
  · rw [wipe_in hj, wipe_in hj, List.length_set]
  · rw [wipe_out hj, wipe_out hj, List.getElem?_set_ne (fun e => hj (by rw [← e]; exact h))]
def Tgt.slots : Tgt → List Nat
  | .name i => [i]
  | .tup is => is
theorem gNames_of {B : Base} {μ : List Addr} {M : Mx} {H : Hp} {Q : St → Hp → Prop} {own : List Nat} : ∀ {is : List Nat} {xs : List PV} {vs : List V} {fr : Frame} {σ : St}, RpL B μ M H xs vs → xs.length = is.length → FR B μ M H fr σ → (∀ σ', FR B μ M H (setAll is xs fr) σ' → ((∀ i ∈ is, i ∈ own) → wipe σ' own = wipe σ own) → Q σ' H) → gNames is vs σ H Q
  | [], _, _, _, _, .nil, _, hf, q => ⟨rfl, q _ hf (fun _ => rfl)⟩
  | [], _, _, _, _, .cons _ _, e, _, _ => by cases e
  | i :: is, _, _, _, _, .nil, e, _, _ => by cases e
  | i :: is, _, _, fr, σ, .cons (v := v) (vs := vs) r t, e, hf, q => ⟨v, vs, rfl, gNames_of t (by simpa using e) (hf.set r i) fun σ' h1 h2 => q σ' h1 fun h3 => by
      rw [h2 fun j hj => h3 j (List.mem_cons_of_mem _ hj), wipe_set (h3 i (List.mem_cons_self ..))]⟩
theorem gOf_of {B : Base} {μ : List Addr} {S : Store} {H : Hp} {Q : St → Hp → Prop} {t : Tgt} {x : PV} {v : V} {fr fr' : Frame} {σ : St} {own : List Nat} (sr : SR B P μ S H) (r : Rp B μ (Mz P μ S) H x v) (hf : FR B μ (Mz P μ S) H fr σ) (e : bindG S t x fr = some fr')
    (q : ∀ σ', FR B μ (Mz P μ S) H fr' σ' → ((∀ i ∈ t.slots, i ∈ own) → wipe σ' own = wipe σ own) → Q σ' H) : gOf B.K t v σ H Q := by
  cases t with
  | name i => cases e; exact q _ (hf.set r i) fun h => wipe_set (h i (List.mem_cons_self ..))
  | tup is =>
    simp only [bindG] at e
    split at e
    · rename_i xs e1
      split at e
      · cases e
        obtain ⟨a, vs, rfl, h1, l⟩ := tupV sr r e1
        exact .inl ⟨a, vs, rfl, h1.sq, by rw [← l.length]; assumption, gNames_of l (by assumption) hf q⟩
      · cases e
    · rename_i xs e1
      split at e
      · cases e
        obtain ⟨a, vs, rfl, h1, l⟩ := prV sr r e1
        exact .inl ⟨a, vs, rfl, SqT.of h1, by rw [← l.length]; assumption, gNames_of l (by assumption) hf q⟩
      · cases e
    · rename_i xs e1
      split at e
      · cases e
        obtain ⟨a, vs, rfl, h1, l⟩ := lstV sr r e1
        exact .inr ⟨a, vs, rfl, SqL.of h1, by rw [← l.length]; assumption, gNames_of l (by assumption) hf q⟩
      · cases e
    · cases e
theorem PG.or {X : Cx} {tg : Expr} {t t' : TG} (h : PG X tg t) (h' : PG X tg t') : PG X tg (fun v σ H Q => t v σ H Q ∨ t' v σ H Q) := by
  refine ⟨fun pins s σ H v u Q I r q => ?_⟩
  rcases q with q | q
  · exact h.run pins s σ H v u Q I r q
  · exact h'.run pins s σ H v u Q I r q

/-! ### comprehensions -/
def Res.noX {α : Type} (r : Res α) : Res α := match r with
  | .ok a S => .ok a S
  | _ => .fail
def wipeF (fr : Frame) : List Nat → Frame
  | [] => fr
  | v :: vs => (wipeF fr vs).set v none
def lcGo (fin : List PV → Store → Res PV) (t : Tgt) (tt : DT) (te : DE) (fr : Frame) : List PV → List PV → Store → Res PV
  | [], acc, S => fin acc S
  | x :: r, acc, S => (match bindG S t x fr with
    | some fr2 => (tt fr2 S).noX.bind fun b S1 => if b = true then (te fr2 S1).noX.bind fun y S2 => if acc.length < sizeLine then lcGo fin t tt te fr r (acc ++ [y]) S2 else .fail else lcGo fin t tt te fr r acc S1
    | none => .fail)
def finV (acc : List PV) (S : Store) : Res PV := .ok (.lst acc) S
def finR (acc : List PV) (S : Store) : Res PV := .ok (.ref S.length) (S ++ [(true, .lst acc)])
def dLc (fin : List PV → Store → Res PV) (i : DI) (t : Tgt) (tt : DT) (te : DE) (own : List Nat) : DE := fun fr S => (i fr S).bind fun items S1 => lcGo fin t tt te (wipeF fr own) items [] S1
theorem FR.wipe {B : Base} {μ : List Addr} {M : Mx} {H : Hp} {fr : Frame} {σ : St} (h : FR B μ M H fr σ) : ∀ own : List Nat, FR B μ M H (wipeF fr own) (wipe σ own)
  | [] => h
  | v :: vs => by
    obtain ⟨h1, h2⟩ := FR.wipe h vs
    refine ⟨by simp [wipeF, L2.wipe, h1], fun j pv e => ?_⟩
    unfold wipeF at e
    by_cases hj : j = v
    · subst hj
      by_cases hl : j < (wipeF fr vs).length
      · rw [List.getElem?_set_self hl] at e; cases e
      · rw [List.getElem?_eq_none (by simpa using hl)] at e; cases e
    · rw [List.getElem?_set_ne (Ne.symm hj)] at e
      obtain ⟨w, q1, q2⟩ := h2 j pv e
      exact ⟨w, by unfold L2.wipe; rw [List.getElem?_set_ne (Ne.symm hj)]; exact q1, q2⟩
/-- no exception -/
abbrev W0 : WX := fun _ _ _ _ => False
theorem Go.noX {B : Base} {α β : Type} {Rel : List Addr → Mx → Hp → α → β → Prop} {W : WX} {σ σ' : St} {r : Res α} {μ : List Addr} {S : Store} {H : Hp} {Q : β → Hp → Prop} (g : Go B P Rel W σ r.noX μ S H Q) : Go B P Rel W0 σ' r μ S H Q := by
  cases r with
  | ok a S' => exact g
  | exc c t S' => exact g.elim
  | fail => exact g.elim
/-- fewer lists that are being made -/
theorem Rp.less {B : Base} {μ : List Addr} {S : Store} {H : Hp} (sr : SR B P μ S H) (hp : ∀ a, P'.p a → P.p a) {pv : PV} {v : V} (h : Rp B μ (Mz P μ S) H pv v) : Rp B μ (Mz P' μ S) H pv v := h.monoP sr .refl fun a z => .inl (hp a z)
theorem RpL.less {B : Base} {μ : List Addr} {S : Store} {H : Hp} (sr : SR B P μ S H) (hp : ∀ a, P'.p a → P.p a) {pv : List PV} {v : List V} (h : RpL B μ (Mz P μ S) H pv v) : RpL B μ (Mz P' μ S) H pv v := h.monoP sr .refl fun a z => .inl (hp a z)
theorem CellAt.monoP {B : Base} {m : Bool} {μ μ' : List Addr} {S S' : Store} {H H' : Hp} (sr : SR B P μ S H) (x : Ex μ S H μ' S' H') (hp : ∀ a, P'.p a → P.p a ∨ H a = none) {a : Addr} {pv : PV} (h : CellAt B m μ (Mz P μ S) H a pv) (k : H' a = H a) : CellAt B m μ' (Mz P' μ' S') H' a pv := by
  cases pv with
  | lst xs => obtain ⟨vs, e, l⟩ := h; exact ⟨vs, k.trans e, l.monoP sr x hp⟩
  | dct kvs => obtain ⟨vs, e, l⟩ := h; exact ⟨vs, e.eq k, l.monoP sr x hp⟩
  | dtt kvs => obtain ⟨vs, e, l⟩ := h; exact ⟨vs, e.eq k, l.monoP sr x hp⟩
  | dts ks => obtain ⟨o, nks, vs, e, n, d, l⟩ := h; exact ⟨o, nks, vs, k.trans e, n, d, l.monoP sr x hp⟩
  | obj c fs => obtain ⟨C, dx, gs, hc, e, l⟩ := h; exact ⟨C, dx, gs, hc, k.trans e, l.monoP sr x hp⟩
  | _ => exact h.elim
theorem SR.less {B : Base} {μ : List Addr} {S : Store} {H : Hp} (sr : SR B P μ S H) (hp : ∀ a, P'.p a → P.p a) (ha : P'.A μ S H) : SR B P' μ S H :=
  ⟨sr.len, sr.nd, fun n m pv a h1 h2 => (sr.cell n m pv a h1 h2).monoP sr .refl (fun a z => .inl (hp a z)) rfl, sr.tabs, fun a h => sr.pd a (hp a h), fun a h => sr.pt a (hp a h), ha⟩
/-- a private list: P with D -/
def Pw (P : Pv) (D : Addr) : Pv := ⟨fun a => P.p a ∨ a = D, P.f, P.A, P.st⟩
theorem SR.priv {B : Base} {μ : List Addr} {S : Store} {H : Hp} {D : Addr} {vs : List V} (sr : SR B P μ S H) (hD : H D = none) : SR B (Pw P D) μ S (upd H D (.lst vs)) := by
  have k := ext_new (o := .lst vs) hD
  have hp : ∀ a, (Pw P D).p a → P.p a ∨ H a = none := fun a z => z.imp id fun e => by rw [e]; exact hD
  refine ⟨sr.len, sr.nd, fun n m pv a h1 h2 => ?_, sr.tabs.ext k, fun a h => ?_, fun a h => ?_, P.st sr.anc (ex_ext k)⟩
  · have c := sr.cell n m pv a h1 h2
    refine c.monoP sr (ex_ext k) hp ?_
    obtain ⟨o', q, _⟩ := c.there
    rw [q, k _ _ q]
  · rcases h with h | rfl
    · exact sr.pd a h
    · exact sr.notIn hD
  · rcases h with h | rfl
    · exact (sr.pt a h).imp (fun ⟨vs, q⟩ => ⟨vs, k _ _ q⟩) fun z => z.imp (fun ⟨vs, q⟩ => ⟨vs, k _ _ q⟩) fun ⟨o, q, d⟩ => ⟨o, k _ _ q, d⟩
    · exact .inl ⟨vs, upd_same⟩
/-- the private list is written: nothing by value stands on it -/
theorem priv_ex {B : Base} {μ : List Addr} {S : Store} {H : Hp} {D : Addr} {vs : List V} (o : HO) (hD : H D = some (.lst vs)) (h1 : ¬ Mu μ S D) : ∀ b u, b ≠ D → H b = some u → upd H D o b = some u := fun b u hb e => by rw [upd_ne hb]; exact e
section
variable {B : Base} {μ : List Addr} {S : Store} {H : Hp} {D : Addr} {vs : List V} {o : HO}
mutual
theorem Rp.privW (hP : P.p D) (hD : H D = some (.lst vs)) : ∀ {pv : PV} {v : V}, Rp B μ (Mz P μ S) H pv v → Rp B μ (Mz P μ S) (upd H D o) pv v
  | _, _, .non => .non
  | _, _, .bl b => .bl b
  | _, _, .int i => .int i
  | _, _, .str y => .str y
  | _, _, .tup h l => .tup (h.elim (fun ⟨ob, z, d⟩ => .inl ⟨ob, by rw [upd_ne (fun e => by rw [e, hD] at z; cases z)]; exact z, d⟩) .inr) (RpL.privW hP hD l)
  | _, _, .pr h l => .pr (by rw [upd_ne (fun e => by rw [e, hD] at h; cases h)]; exact h) (RpL.privW hP hD l)
  | _, _, .lst h n l => .lst (by rw [upd_ne (fun e => n (.inr (by rw [e]; exact hP)))]; exact h) n (RpL.privW hP hD l)
  | _, _, .dK h n l => .dK (by unfold Rd; rw [upd_ne (fun e => n (.inr (by rw [e]; exact hP)))]; exact h) n (RpK.privW hP hD l)
  | _, _, .dT h n l => .dT (by unfold Rd; rw [upd_ne (fun e => n (.inr (by rw [e]; exact hP)))]; exact h) n (RpT.privW hP hD l)
  | _, _, .obj c h n l => .obj c (by rw [upd_ne (fun e => n (.inr (by rw [e]; exact hP)))]; exact h) n (RpF.privW hP hD l)
  | _, _, .ref h => .ref h
  | _, _, .fn h => .fn h
  | _, _, .ty n => .ty n
  | _, _, .cls h => .cls h
  | _, _, .scr (a := a) h => .scr (h.elim (fun z => .inl ⟨by
      have hb : a ≠ D := fun e => z.2 (.inr (by rw [e]; exact hP))
      rcases z.1 with q | ⟨ob, q⟩
      · exact .inl (by rw [upd_ne hb]; exact q)
      · exact .inr ⟨ob, by rw [upd_ne hb]; exact q⟩, z.2⟩) .inr)
theorem RpL.privW (hP : P.p D) (hD : H D = some (.lst vs)) : ∀ {pv : List PV} {v : List V}, RpL B μ (Mz P μ S) H pv v → RpL B μ (Mz P μ S) (upd H D o) pv v
  | _, _, .nil => .nil
  | _, _, .cons h t => .cons (Rp.privW hP hD h) (RpL.privW hP hD t)
theorem RpK.privW (hP : P.p D) (hD : H D = some (.lst vs)) : ∀ {pv : List (PV × PV)} {v : List (Key × V)}, RpK B μ (Mz P μ S) H pv v → RpK B μ (Mz P μ S) (upd H D o) pv v
  | _, _, .nil => .nil
  | _, _, .int h t => .int (Rp.privW hP hD h) (RpK.privW hP hD t)
  | _, _, .str h t => .str (Rp.privW hP hD h) (RpK.privW hP hD t)
theorem RpT.privW (hP : P.p D) (hD : H D = some (.lst vs)) : ∀ {pv : List (List Key × PV)} {v : List (List Key × V)}, RpT B μ (Mz P μ S) H pv v → RpT B μ (Mz P μ S) (upd H D o) pv v
  | _, _, .nil => .nil
  | _, _, .cons h t => .cons (Rp.privW hP hD h) (RpT.privW hP hD t)
theorem RpF.privW (hP : P.p D) (hD : H D = some (.lst vs)) : ∀ {pv : List (Str × PV)} {v : List (Str × V)}, RpF B μ (Mz P μ S) H pv v → RpF B μ (Mz P μ S) (upd H D o) pv v
  | _, _, .nil => .nil
  | _, _, .cons h t => .cons (Rp.privW hP hD h) (RpF.privW hP hD t)
end
end
theorem Tabs.priv {T : List (Addr × Str)} {H : Hp} {D : Addr} {vs : List V} {o : HO} (t : LamX.Tabs T H) (hD : H D = some (.lst vs)) : LamX.Tabs T (upd H D o) := fun p hp => by
  obtain ⟨ps, h1, h2, h3⟩ := t p hp
  refine ⟨ps, by rw [upd_ne (fun e => by rw [e, hD] at h1; cases h1)]; exact h1, h2, fun pos cv hc => ?_⟩
  obtain ⟨c, e1, e2⟩ := h3 pos cv hc
  exact ⟨c, e1, by rw [upd_ne (fun e => by rw [e, hD] at e2; cases e2)]; exact e2⟩
theorem SR.privW {B : Base} {μ : List Addr} {S : Store} {H : Hp} {D : Addr} {vs ws : List V} (sr : SR B P μ S H) (hP : P.p D) (hD : H D = some (.lst vs)) (ha : P.A μ S (upd H D (.lst ws))) : SR B P μ S (upd H D (.lst ws)) := by
  refine ⟨sr.len, sr.nd, fun n m pv a h1 h2 => ?_, Tabs.priv sr.tabs hD, sr.pd, fun a h => ?_, ha⟩
  · have na : a ≠ D := fun e => sr.pd D hP (by rw [← e]; exact List.mem_of_getElem? h2)
    have c := sr.cell n m pv a h1 h2
    cases pv with
    | lst xs => obtain ⟨us, e, l⟩ := c; exact ⟨us, by rw [upd_ne na]; exact e, l.privW hP hD⟩
    | dct kvs => obtain ⟨us, e, l⟩ := c; exact ⟨us, e.eq (upd_ne na), l.privW hP hD⟩
    | dtt kvs => obtain ⟨us, e, l⟩ := c; exact ⟨us, e.eq (upd_ne na), l.privW hP hD⟩
    | dts ks => obtain ⟨o, nks, vs, e, n, d, l⟩ := c; exact ⟨o, nks, vs, by rw [upd_ne na]; exact e, n, d, l.privW hP hD⟩
    | obj c fs => obtain ⟨C, dx, gs, hc, e, l⟩ := c; exact ⟨C, dx, gs, hc, by rw [upd_ne na]; exact e, l.privW hP hD⟩
    | _ => exact c.elim
  · by_cases e : a = D
    · subst e; exact .inl ⟨ws, upd_same⟩
    · exact (sr.pt a h).imp (fun ⟨us, q⟩ => ⟨us, by rw [upd_ne e]; exact q⟩) fun z => z.imp (fun ⟨us, q⟩ => ⟨us, by rw [upd_ne e]; exact q⟩) fun ⟨o, q, d⟩ => ⟨o, by rw [upd_ne e]; exact q, d⟩
/-- .. seen from a state in which the list was not there -/
theorem Ex.privW {μ0 μ : List Addr} {S0 S : Store} {H0 H : Hp} {D : Addr} {vs : List V} {o : HO} (x : Ex μ0 S0 H0 μ S H) (h0 : H0 D = none) (hD : H D = some (.lst vs)) : Ex μ0 S0 H0 μ S (upd H D o) :=
  ⟨x.mu, fun b u e n t => by rw [upd_ne (ne_of_none e h0)]; exact x.keep b u e n t, x.fresh, x.newm⟩
theorem Go.bindP {B : Base} {α β γ δ : Type} {Rel : List Addr → Mx → Hp → α → β → Prop} {Rel' : List Addr → Mx → Hp → γ → δ → Prop} {W : WX} {σ σ' : St} {μ0 μ : List Addr} {S0 S : Store} {H0 H : Hp} {r : Res α} {k : α → Store → Res γ} {Q : δ → Hp → Prop} (g : Go B P Rel' W σ (r.noX.bind k) μ0 S0 H0 Q) :
    Go B P' Rel W0 σ' r μ S H (fun b H1 => ∃ μ1 S1 a, Ex μ S H μ1 S1 H1 ∧ SR B P' μ1 S1 H1 ∧ Rel μ1 (Mz P' μ1 S1) H1 a b ∧ Go B P Rel' W σ (k a S1) μ0 S0 H0 Q) := by
  cases r with
  | ok a S1 => exact fun μ1 H1 b x s q => ⟨μ1, S1, a, x, s, q, g⟩
  | exc c t S' => exact g.elim
  | fail => exact g.elim
/-- how a comprehension's end is taken -/
def FinOk (B : Base) (fin : List PV → Store → Res PV) : Prop :=
  ∀ (P : Pv) (W : WX) (σ : St) (Q : VK) (μ0 μ : List Addr) (S0 S : Store) (H0 H : Hp) (D : Addr) (acc : List PV) (vs : List V), H0 D = none → SR B P μ0 S0 H0 → Ex μ0 S0 H0 μ S H → SR B (Pw P D) μ S H → H D = some (.lst vs) → RpL B μ (Mz (Pw P D) μ S) H acc vs → Go B P (RelP B) W σ (fin acc S) μ0 S0 H0 Q → Q (.ref D) H
theorem privOff {B : Base} {μ0 μ : List Addr} {S0 S : Store} {H0 H : Hp} {D : Addr} (h0 : H0 D = none) (sr0 : SR B P μ0 S0 H0) (sr : SR B (Pw P D) μ S H) : ¬ Mz P μ S D := fun z => z.elim (fun ⟨n, pv, _, h2⟩ => sr.pd D (.inr rfl) (List.mem_of_getElem? h2)) (fun q => by
  rcases sr0.pt D q with ⟨vs, e⟩ | ⟨vs, e⟩ | ⟨vs, e, _⟩ <;> rw [h0] at e <;> cases e)
theorem finV_ok {B : Base} : FinOk B finV := fun P W σ Q μ0 μ S0 S H0 H D acc vs h0 sr0 ex sr hD l g => g μ H (.ref D) ex (sr.less (fun _ => .inl) sr.anc) (.lst hD (privOff h0 sr0 sr) (l.less sr fun _ => .inl))
section
variable {B : Base} {μ : List Addr} {S : Store} {H : Hp} {D : Addr} {acc : List PV}
theorem muR (len : μ.length = S.length) {b : Addr} : Mu (μ ++ [D]) (S ++ [(true, .lst acc)]) b → Mu μ S b ∨ b = D := by
  rintro ⟨n, pv, h1, h2⟩
  by_cases hn : n < S.length
  · rw [List.getElem?_append_left hn] at h1
    rw [List.getElem?_append_left (by rw [len]; exact hn)] at h2
    exact .inl ⟨n, pv, h1, h2⟩
  · have hn2 : n = μ.length := by
      have := (List.getElem?_eq_some_iff.mp h2).1
      simp at this
      rw [len] at this ⊢
      omega
    subst hn2
    rw [List.getElem?_append_right (Nat.le_refl _)] at h2
    simp at h2
    exact .inr h2.symm
theorem mzR (len : μ.length = S.length) {b : Addr} (n : ¬ Mz (Pw P D) μ S b) : ¬ Mz P (μ ++ [D]) (S ++ [(true, .lst acc)]) b := fun z => z.elim (fun q => (muR len q).elim (fun r => n (.inl r)) (fun r => n (.inr (.inr r)))) (fun q => n (.inr (.inl q)))
theorem getR {n : Nat} {a : Addr} (h : μ[n]? = some a) : (μ ++ [D])[n]? = some a := by
  rw [List.getElem?_append_left (List.getElem?_eq_some_iff.mp h).1]; exact h
mutual
theorem Rp.toR (len : μ.length = S.length) : ∀ {pv : PV} {v : V}, Rp B μ (Mz (Pw P D) μ S) H pv v → Rp B (μ ++ [D]) (Mz P (μ ++ [D]) (S ++ [(true, .lst acc)])) H pv v
  | _, _, .non => .non
  | _, _, .bl b => .bl b
  | _, _, .int i => .int i
  | _, _, .str y => .str y
  | _, _, .tup h l => .tup h (RpL.toR len l)
  | _, _, .pr h l => .pr h (RpL.toR len l)
  | _, _, .lst h n l => .lst h (mzR len n) (RpL.toR len l)
  | _, _, .dK h n l => .dK h (mzR len n) (RpK.toR len l)
  | _, _, .dT h n l => .dT h (mzR len n) (RpT.toR len l)
  | _, _, .obj c h n l => .obj c h (mzR len n) (RpF.toR len l)
  | _, _, .ref h => .ref (getR h)
  | _, _, .fn h => .fn h
  | _, _, .ty n => .ty n
  | _, _, .cls h => .cls h
  | _, _, .scr h => .scr (h.imp (fun z => ⟨z.1, mzR len z.2⟩) id)
theorem RpL.toR (len : μ.length = S.length) : ∀ {pv : List PV} {v : List V}, RpL B μ (Mz (Pw P D) μ S) H pv v → RpL B (μ ++ [D]) (Mz P (μ ++ [D]) (S ++ [(true, .lst acc)])) H pv v
  | _, _, .nil => .nil
  | _, _, .cons h t => .cons (Rp.toR len h) (RpL.toR len t)
theorem RpK.toR (len : μ.length = S.length) : ∀ {pv : List (PV × PV)} {v : List (Key × V)}, RpK B μ (Mz (Pw P D) μ S) H pv v → RpK B (μ ++ [D]) (Mz P (μ ++ [D]) (S ++ [(true, .lst acc)])) H pv v
  | _, _, .nil => .nil
  | _, _, .int h t => .int (Rp.toR len h) (RpK.toR len t)
  | _, _, .str h t => .str (Rp.toR len h) (RpK.toR len t)
theorem RpT.toR (len : μ.length = S.length) : ∀ {pv : List (List Key × PV)} {v : List (List Key × V)}, RpT B μ (Mz (Pw P D) μ S) H pv v → RpT B (μ ++ [D]) (Mz P (μ ++ [D]) (S ++ [(true, .lst acc)])) H pv v
  | _, _, .nil => .nil
  | _, _, .cons h t => .cons (Rp.toR len h) (RpT.toR len t)
theorem RpF.toR (len : μ.length = S.length) : ∀ {pv : List (Str × PV)} {v : List (Str × V)}, RpF B μ (Mz (Pw P D) μ S) H pv v → RpF B (μ ++ [D]) (Mz P (μ ++ [D]) (S ++ [(true, .lst acc)])) H pv v
  | _, _, .nil => .nil
  | _, _, .cons h t => .cons (Rp.toR len h) (RpF.toR len t)
end
end
theorem finR_ok {B : Base} : FinOk B finR := fun P W σ Q μ0 μ S0 S H0 H D acc vs h0 sr0 ex sr hD l g => by
  have nD : D ∉ μ := sr.pd D (.inr rfl)
  have exR : Ex μ0 S0 H0 (μ ++ [D]) (S ++ [(true, .lst acc)]) H := by
    refine ⟨?_, ex.keep, fun b z => ?_, fun b z => ?_⟩
    · obtain ⟨r, e⟩ := ex.mu
      exact ⟨r ++ [D], by rw [e, List.append_assoc]⟩
    · rcases muR sr.len z with q | rfl
      · exact ex.fresh b q
      · exact .inr (.of h0)
    · rcases List.mem_append.mp z with q | q
      · exact ex.newm b q
      · rw [List.mem_singleton] at q; subst q; exact .inr (.of h0)
  refine g (μ ++ [D]) H (.ref D) exR ⟨by simp [sr.len], ?_, fun n m pv a h1 h2 => ?_, sr.tabs, fun a h z => ?_, fun a h => sr.pt a (.inl h), P.st sr0.anc exR⟩ (.ref (by rw [← sr.len, List.getElem?_append_right (Nat.le_refl _)]; simp))
  · rw [List.nodup_append]
    exact ⟨sr.nd, by simp, fun a ha b hb => by simp at hb; subst hb; intro e; subst e; exact nD ha⟩
  · by_cases hn : n < S.length
    · rw [List.getElem?_append_left hn] at h1
      rw [List.getElem?_append_left (by rw [sr.len]; exact hn)] at h2
      have c := sr.cell n m pv a h1 h2
      cases pv with
      | lst xs => obtain ⟨us, e, l⟩ := c; exact ⟨us, e, l.toR sr.len⟩
      | dct kvs => obtain ⟨us, e, l⟩ := c; exact ⟨us, e, l.toR sr.len⟩
      | dtt kvs => obtain ⟨us, e, l⟩ := c; exact ⟨us, e, l.toR sr.len⟩
      | dts ks => obtain ⟨o, nks, vs, e, n, d, l⟩ := c; exact ⟨o, nks, vs, e, n, d, l.toR sr.len⟩
      | obj c fs => obtain ⟨C, dx, gs, hc, e, l⟩ := c; exact ⟨C, dx, gs, hc, e, l.toR sr.len⟩
      | _ => exact c.elim
    · have hn2 : n = μ.length := by
        have := (List.getElem?_eq_some_iff.mp h2).1
        simp at this
        rw [sr.len] at this ⊢
        omega
      subst hn2
      rw [List.getElem?_append_right (Nat.le_refl _)] at h2
      rw [List.getElem?_append_right (by rw [sr.len]; exact Nat.le_refl _)] at h1
      simp [sr.len] at h1 h2
      obtain ⟨rfl, rfl⟩ := h1
      subst h2
      exact ⟨vs, hD, l.toR sr.len⟩
  · rcases List.mem_append.mp z with q | q
    · exact sr.pd a (.inl h) q
    · rw [List.mem_singleton] at q; subst q
      rcases sr0.pt _ h with ⟨us, e⟩ | ⟨us, e⟩ | ⟨us, e, _⟩ <;> rw [h0] at e <;> cases e
theorem lc_core {B : Base} {W : WX} {fin : List PV → Store → Res PV} (hfin : FinOk B fin) {t : Tgt} {tt : DT} {te : DE} {own : List Nat} {σ : St} {Q : VK} {J : It} {items : List PV} {μ0 : List Addr} {S0 : Store} {H0 : Hp} {fr : Frame} {D : Addr} (sr0 : SR B P μ0 S0 H0) (hJ : ItS B P J items μ0 S0 H0) (hf : FR B μ0 (Mz P μ0 S0) H0 fr σ) (hD : H0 D = none) (ho : ∀ i ∈ t.slots, i ∈ own)
    (g : Go B P (RelP B) W σ (lcGo fin t tt te (wipeF fr own) items [] S0) μ0 S0 H0 Q) :
    ∃ Wi : Nat → Nat → Hp → Prop, (∃ m, Wi 0 m (upd H0 D (.lst []))) ∧ ∀ i m H, Wi i m H →
      (J.stop i H ∧ Q (.ref D) H) ∨ (J.go i H ∧ ∃ Nx : Hp → Prop, (∀ H', Nx H' → ∃ m', m' < m ∧ Wi (i + 1) m' H') ∧ ∀ x H', J.yld i H x H' → gOf B.K t x (wipe σ own) H' fun σ2 H2 => wipe σ2 own = wipe σ own ∧ tTx B W0 tt σ2 H2 fun b H3 =>
        if b = true then tEx B W0 te σ2 H3 fun y H4 => ∃ acc, H4 D = some (.lst acc) ∧ acc.length < sizeLine ∧ Nx (upd H4 D (.lst (acc ++ [y]))) else Nx H3) := by
  have hp : ∀ a, (Pw P D).p a → P.p a ∨ H0 a = none := fun a z => z.imp id fun e => by rw [e]; exact hD
  -- the state ahead of turn i
  let St' : Nat → Hp → Prop := fun i H => ∃ μ S acc vs, Ex μ0 S0 H0 μ S H ∧ SR B (Pw P D) μ S H ∧ H D = some (.lst vs) ∧ RpL B μ (Mz (Pw P D) μ S) H acc vs ∧ i ≤ items.length ∧
    Go B P (RelP B) W σ (lcGo fin t tt te (wipeF fr own) (items.drop i) acc S) μ0 S0 H0 Q
  refine ⟨fun i m H => m = items.length - i ∧ St' i H, ⟨items.length, rfl, ?_⟩, ?_⟩
  · refine ⟨μ0, S0, [], [], ex_ext (ext_new hD), sr0.priv hD, upd_same, .nil, Nat.zero_le _, ?_⟩
    rw [List.drop_zero]
    exact g
  · rintro i m H ⟨rfl, μ, S, acc, vs, ex, sr, hDl, l, hi, g⟩
    by_cases hlt : i < items.length
    · refine .inr ⟨hJ.go _ μ S H i ex.hid sr hlt, St' (i + 1), fun H' z => ⟨items.length - (i + 1), by omega, rfl, z⟩, fun x H' y => ?_⟩
      obtain ⟨pv, e1, ex1, sr1, r1, kp1⟩ := hJ.yld _ μ S H i x H' hp ex.hid sr hlt y
      have hDl := kp1 _ _ hDl
      have l := l.mono sr ex1
      have ex := ex.trans (B := B) ex1
      have nM : ¬ Mu μ S D := fun ⟨n, pv, _, h2⟩ => sr.pd D (.inr rfl) (List.mem_of_getElem? h2)
      have hdr : items.drop i = pv :: items.drop (i + 1) := by
        rw [List.drop_eq_getElem_cons hlt]
        rw [List.getElem?_eq_getElem hlt] at e1
        rw [Option.some.inj e1]
      rw [hdr] at g
      simp only [lcGo] at g
      split at g
      · rename_i fr2 eb
        have hf1 := ((hf.monoP sr0 ex hp rfl).wipe own)
        refine gOf_of (own := own) sr1 r1 hf1 eb fun σ2 hf2 hw => ⟨?_, ?_⟩
        · rw [hw ho]
          apply List.ext_getElem?
          intro j
          by_cases hj : j ∈ own
          · rw [wipe_in hj, wipe_in hj, wipe_length]
          · rw [wipe_out hj]
        · -- the test
          refine ⟨Pw P D, fr2, μ, S, hf2, sr1, (Go.bindP (Rel := RelB) g).imp ?_⟩
          rintro b H3 ⟨μ3, S3, b', ex3, sr3, rb, g3⟩
          cases (show b' = b from rb)
          have hD3 := ex3.keep _ _ hDl nM (fun ps z => nomatch z)
          have nM3 := ex3.notM hDl (fun ps z => nomatch z) nM
          split at g3
          · rename_i hb
            show if b = true then _ else _
            rw [if_pos hb]
            refine ⟨Pw P D, fr2, μ3, S3, hf2.mono sr1 ex3, sr3, (Go.bindP (Rel := RelP B) g3).imp ?_⟩
            rintro z H4 ⟨μ4, S4, y', ex4, sr4, rz, g4⟩
            have rz : Rp B μ4 (Mz (Pw P D) μ4 S4) H4 y' z := rz
            have hD4 := ex4.keep _ _ hD3 nM3 (fun ps z => nomatch z)
            split at g4
            · rename_i hz
              have l4 := (l.mono sr1 ex3).mono sr3 ex4
              refine ⟨vs, hD4, by rw [← l4.length]; exact hz, ?_⟩
              exact ⟨μ4, S4, acc ++ [y'], vs ++ [z], (ex.trans (B := B) (ex3.trans (B := B) ex4)).privW hD hD4, sr4.privW (.inr rfl) hD4 (P.st sr0.anc ((ex.trans (B := B) (ex3.trans (B := B) ex4)).privW hD hD4)), upd_same, (l4.append (.cons rz .nil)).privW (P := Pw P D) (Or.inr rfl) hD4, hlt, g4⟩
            · exact g4.elim
          · rename_i hb
            show if b = true then _ else _
            rw [if_neg hb]
            exact ⟨μ3, S3, acc, vs, ex.trans (B := B) ex3, sr3, hD3, l.mono sr1 ex3, hlt, g3⟩
      · exact g.elim
    · have e : i = items.length := by omega
      subst e
      refine .inl ⟨hJ.stop _ μ S H _ ex.hid sr (Nat.le_refl _), ?_⟩
      rw [List.drop_length] at g
      exact hfin P W σ Q μ0 μ S0 S H0 H D acc vs hD sr0 ex sr hDl l g
/-- [elt for t in items if ..] -/
theorem tLc_of {B : Base} {W : WX} {fin : List PV → Store → Res PV} (hfin : FinOk B fin) {i : DI} {t : Tgt} {tt : DT} {te : DE} {own : List Nat} (ho : ∀ i ∈ t.slots, i ∈ own) : ∀ σ H Q, tE B P W (dLc fin i t tt te own) σ H Q → tLc (tI B P W i) (gOf B.K t) (tTx B W0 tt) (tEx B W0 te) own σ H Q := by
  rintro σ H Q ⟨fr, μ, S, hf, sr, g⟩
  refine ⟨fr, μ, S, hf, sr, ?_⟩
  unfold dLc at g
  cases q : i fr S with
  | ok items S1 =>
    rw [q] at g
    exact fun μ1 H1 J ex sr1 its D hD => lc_core hfin sr1 its (hf.mono sr ex) hD ho (g.after ex)
  | exc c told S1 => rw [q] at g; exact g
  | fail => rw [q] at g; exact g
end E2
end
section
set_option Elab.async false
set_option linter.all false
set_option maxRecDepth 100000
set_option maxHeartbeats 4000000
set_option autoImplicit false
namespace E2
open PySem L2
variable {P P' : Pv}
/-! ### comprehensions with two fors -/
def lc2Go (fin : List PV → Store → Res PV) (t : Tgt) (tt : DT) (i1 : DI) (t1 : Tgt) (tt1 : DT) (te : DE) (own1 : List Nat) (fr : Frame) : List PV → List PV → Store → Res PV
  | [], acc, S => fin acc S
  | x :: r, acc, S => (match bindG S t x fr with
    | some fr2 => (tt fr2 S).noX.bind fun b S1 => if b = true then (i1 fr2 S1).noX.bind fun items S2 => lcGo (fun acc S => lc2Go fin t tt i1 t1 tt1 te own1 fr r acc S) t1 tt1 te (wipeF fr2 own1) items acc S2 else lc2Go fin t tt i1 t1 tt1 te own1 fr r acc S1
    | none => .fail)
def dLc2 (fin : List PV → Store → Res PV) (i : DI) (t : Tgt) (tt : DT) (i1 : DI) (t1 : Tgt) (tt1 : DT) (te : DE) (own own1 : List Nat) : DE := fun fr S => (i fr S).bind fun items S1 => lc2Go fin t tt i1 t1 tt1 te own1 (wipeF fr own) items [] S1
def tIx (B : Base) (W : WX) (d : DI) : TI := fun σ H R => ∃ P, tI B P W d σ H R
theorem goI_noX {B : Base} {γ δ : Type} {Rel' : List Addr → Mx → Hp → γ → δ → Prop} {W : WX} {σ σ' : St} {μ0 μ : List Addr} {S0 S : Store} {H0 H : Hp} {r : Res (List PV)} {k : List PV → Store → Res γ} {Q : δ → Hp → Prop} (g : Go B P Rel' W σ (r.noX.bind k) μ0 S0 H0 Q) :
    GoI B P' W0 σ' r μ S H (fun J H1 => ∃ μ1 S1 items, Ex μ S H μ1 S1 H1 ∧ SR B P' μ1 S1 H1 ∧ ItS B P' J items μ1 S1 H1 ∧ Go B P Rel' W σ (k items S1) μ0 S0 H0 Q) := by
  cases r with
  | ok a S1 => exact fun μ1 H1 J x s q => ⟨μ1, S1, a, x, s, q, g⟩
  | exc c t S' => exact g.elim
  | fail => exact g.elim
theorem GoI.imp {B : Base} {W : WX} {σ : St} {r : Res (List PV)} {μ : List Addr} {S : Store} {H : Hp} {R R' : It → Hp → Prop} (g : GoI B P W σ r μ S H R) (h : ∀ J H', R J H' → R' J H') : GoI B P W σ r μ S H R' := by
  cases r with
  | ok a S' => exact fun μ' H' b x s q => h b H' (g μ' H' b x s q)
  | exc c t S' => exact g
  | fail => exact g
theorem wipe_twice {σ : St} {own : List Nat} : wipe (wipe σ own) own = wipe σ own := by
  apply List.ext_getElem?
  intro j
  by_cases hj : j ∈ own
  · rw [wipe_in hj, wipe_in hj, wipe_length]
  · rw [wipe_out hj]
theorem lcIn {B : Base} {W : WX} {fin : List PV → Store → Res PV} {t : Tgt} {tt : DT} {te : DE} {own : List Nat} {σ σ2 : St} {Q : VK} {J : It} {items : List PV} {μ0 μ4 : List Addr} {S0 S4 : Store} {H0 H4 : Hp} {fr : Frame} {D : Addr} {acc0 : List PV} {vs0 : List V} {Nx : Hp → Prop}
    (sr0 : SR B P μ0 S0 H0) (hD : H0 D = none) (ex04 : Ex μ0 S0 H0 μ4 S4 H4) (sr4 : SR B (Pw P D) μ4 S4 H4) (hD4 : H4 D = some (.lst vs0)) (l4 : RpL B μ4 (Mz (Pw P D) μ4 S4) H4 acc0 vs0) (hJ : ItS B (Pw P D) J items μ4 S4 H4) (hf : FR B μ4 (Mz (Pw P D) μ4 S4) H4 fr σ2) (ho : ∀ i ∈ t.slots, i ∈ own)
    (g : Go B P (RelP B) W σ (lcGo fin t tt te (wipeF fr own) items acc0 S4) μ0 S0 H0 Q)
    (nx : ∀ μ S H acc vs, Ex μ0 S0 H0 μ S H → SR B (Pw P D) μ S H → H D = some (.lst vs) → RpL B μ (Mz (Pw P D) μ S) H acc vs → Go B P (RelP B) W σ (fin acc S) μ0 S0 H0 Q → Nx H) :
    ∃ Wi : Nat → Nat → Hp → Prop, (∃ m, Wi 0 m H4) ∧ ∀ i m H, Wi i m H →
      (J.stop i H ∧ Nx H) ∨ (J.go i H ∧ ∃ Nx1 : Hp → Prop, (∀ H', Nx1 H' → ∃ m', m' < m ∧ Wi (i + 1) m' H') ∧ ∀ x H', J.yld i H x H' → gOf B.K t x (wipe σ2 own) H' fun σ3 H2 => wipe σ3 own = wipe σ2 own ∧ tTx B W0 tt σ3 H2 fun b H3 =>
        if b = true then tEx B W0 te σ3 H3 fun y H4 => ∃ acc, H4 D = some (.lst acc) ∧ acc.length < sizeLine ∧ Nx1 (upd H4 D (.lst (acc ++ [y]))) else Nx1 H3) := by
  have hid4 : hid (Pw P D).p H4 D = none := hid_none (.inr rfl)
  let St' : Nat → Hp → Prop := fun i H => ∃ μ S acc vs, Ex μ0 S0 H0 μ S H ∧ Ex μ4 S4 (hid (Pw P D).p H4) μ S H ∧ SR B (Pw P D) μ S H ∧ H D = some (.lst vs) ∧ RpL B μ (Mz (Pw P D) μ S) H acc vs ∧ i ≤ items.length ∧
    Go B P (RelP B) W σ (lcGo fin t tt te (wipeF fr own) (items.drop i) acc S) μ0 S0 H0 Q
  refine ⟨fun i m H => m = items.length - i ∧ St' i H, ⟨items.length, rfl, ?_⟩, ?_⟩
  · refine ⟨μ4, S4, acc0, vs0, ex04, Ex.refl.hid, sr4, hD4, l4, Nat.zero_le _, ?_⟩
    rw [List.drop_zero]
    exact g
  · rintro i m H ⟨rfl, μ, S, acc, vs, ex, exi, sr, hDl, l, hi, g⟩
    by_cases hlt : i < items.length
    · refine .inr ⟨hJ.go _ μ S H i exi sr hlt, St' (i + 1), fun H' z => ⟨items.length - (i + 1), by omega, rfl, z⟩, fun x H' y => ?_⟩
      obtain ⟨pv, e1, ex1, sr1, r1, kp1⟩ := hJ.yld _ μ S H i x H' (fun _ => .inl) exi sr hlt y
      have hDl := kp1 _ _ hDl
      have l := l.mono sr ex1
      have ex := ex.trans (B := B) ex1
      have exi := exi.trans (B := B) ex1
      have nM : ¬ Mu μ S D := fun ⟨n, pv, _, h2⟩ => sr.pd D (.inr rfl) (List.mem_of_getElem? h2)
      have hdr : items.drop i = pv :: items.drop (i + 1) := by
        rw [List.drop_eq_getElem_cons hlt]
        rw [List.getElem?_eq_getElem hlt] at e1
        rw [Option.some.inj e1]
      rw [hdr] at g
      simp only [lcGo] at g
      split at g
      · rename_i fr2 eb
        have hf1 : FR B μ (Mz (Pw P D) μ S) H' (wipeF fr own) (wipe σ2 own) := ((hf.hid sr4).monoP (P' := Pw P D) sr4.hid exi (hidP fun _ => .inl) rfl).wipe own
        refine gOf_of (own := own) sr1 r1 hf1 eb fun σ3 hf2 hw => ⟨?_, ?_⟩
        · rw [hw ho, wipe_twice]
        · refine ⟨Pw P D, fr2, μ, S, hf2, sr1, (Go.bindP (Rel := RelB) g).imp ?_⟩
          rintro b H3 ⟨μ3, S3, b', ex3, sr3, rb, g3⟩
          cases (show b' = b from rb)
          have hD3 := ex3.keep _ _ hDl nM (fun ps z => nomatch z)
          have nM3 := ex3.notM hDl (fun ps z => nomatch z) nM
          split at g3
          · rename_i hb
            show if b = true then _ else _
            rw [if_pos hb]
            refine ⟨Pw P D, fr2, μ3, S3, hf2.mono sr1 ex3, sr3, (Go.bindP (Rel := RelP B) g3).imp ?_⟩
            rintro z H4 ⟨μ4, S4, y', ex4, sr4, rz, g4⟩
            have rz : Rp B μ4 (Mz (Pw P D) μ4 S4) H4 y' z := rz
            have hD4 := ex4.keep _ _ hD3 nM3 (fun ps z => nomatch z)
            split at g4
            · rename_i hz
              have l4 := (l.mono sr1 ex3).mono sr3 ex4
              refine ⟨vs, hD4, by rw [← l4.length]; exact hz, ?_⟩
              exact ⟨μ4, S4, acc ++ [y'], vs ++ [z], (ex.trans (B := B) (ex3.trans (B := B) ex4)).privW hD hD4, (exi.trans (B := B) (ex3.trans (B := B) ex4)).privW hid4 hD4, sr4.privW (.inr rfl) hD4 (P.st sr0.anc ((ex.trans (B := B) (ex3.trans (B := B) ex4)).privW hD hD4)), upd_same, (l4.append (.cons rz .nil)).privW (P := Pw P D) (Or.inr rfl) hD4, hlt, g4⟩
            · exact g4.elim
          · rename_i hb
            show if b = true then _ else _
            rw [if_neg hb]
            exact ⟨μ3, S3, acc, vs, ex.trans (B := B) ex3, exi.trans (B := B) ex3, sr3, hD3, l.mono sr1 ex3, hlt, g3⟩
      · exact g.elim
    · have e : i = items.length := by omega
      subst e
      refine .inl ⟨hJ.stop _ μ S H _ exi sr (Nat.le_refl _), ?_⟩
      rw [List.drop_length] at g
      exact nx μ S H acc vs ex sr hDl l g
theorem lc2_core {B : Base} {W : WX} {fin : List PV → Store → Res PV} (hfin : FinOk B fin) {t t1 : Tgt} {tt tt1 : DT} {i1 : DI} {te : DE} {own own1 : List Nat} {σ : St} {Q : VK} {J : It} {items : List PV} {μ0 : List Addr} {S0 : Store} {H0 : Hp} {fr : Frame} {D : Addr} (sr0 : SR B P μ0 S0 H0) (hJ : ItS B P J items μ0 S0 H0) (hf : FR B μ0 (Mz P μ0 S0) H0 fr σ) (hD : H0 D = none) (ho : ∀ i ∈ t.slots, i ∈ own) (ho1 : ∀ i ∈ t1.slots, i ∈ own1)
    (g : Go B P (RelP B) W σ (lc2Go fin t tt i1 t1 tt1 te own1 (wipeF fr own) items [] S0) μ0 S0 H0 Q) :
    ∃ Wi : Nat → Nat → Hp → Prop, (∃ m, Wi 0 m (upd H0 D (.lst []))) ∧ ∀ i m H, Wi i m H →
      (J.stop i H ∧ Q (.ref D) H) ∨ (J.go i H ∧ ∃ Nx : Hp → Prop, (∀ H', Nx H' → ∃ m', m' < m ∧ Wi (i + 1) m' H') ∧ ∀ x H', J.yld i H x H' → gOf B.K t x (wipe σ own) H' fun σ2 H2 => wipe σ2 own = wipe σ own ∧ tTx B W0 tt σ2 H2 fun b H3 =>
        if b = true then tIx B W0 i1 σ2 H3 fun J1 H4 => ∃ W1 : Nat → Nat → Hp → Prop, (∃ m, W1 0 m H4) ∧ ∀ j k H, W1 j k H →
          (J1.stop j H ∧ Nx H) ∨ (J1.go j H ∧ ∃ Nx1 : Hp → Prop, (∀ H', Nx1 H' → ∃ k', k' < k ∧ W1 (j + 1) k' H') ∧ ∀ x H', J1.yld j H x H' → gOf B.K t1 x (wipe σ2 own1) H' fun σ3 H5 => wipe σ3 own1 = wipe σ2 own1 ∧ tTx B W0 tt1 σ3 H5 fun b H6 =>
            if b = true then tEx B W0 te σ3 H6 fun y H7 => ∃ acc, H7 D = some (.lst acc) ∧ acc.length < sizeLine ∧ Nx1 (upd H7 D (.lst (acc ++ [y]))) else Nx1 H6)
        else Nx H3) := by
  have hp : ∀ a, (Pw P D).p a → P.p a ∨ H0 a = none := fun a z => z.imp id fun e => by rw [e]; exact hD
  let St' : Nat → Hp → Prop := fun i H => ∃ μ S acc vs, Ex μ0 S0 H0 μ S H ∧ SR B (Pw P D) μ S H ∧ H D = some (.lst vs) ∧ RpL B μ (Mz (Pw P D) μ S) H acc vs ∧ i ≤ items.length ∧
    Go B P (RelP B) W σ (lc2Go fin t tt i1 t1 tt1 te own1 (wipeF fr own) (items.drop i) acc S) μ0 S0 H0 Q
  refine ⟨fun i m H => m = items.length - i ∧ St' i H, ⟨items.length, rfl, ?_⟩, ?_⟩
  · refine ⟨μ0, S0, [], [], ex_ext (ext_new hD), sr0.priv hD, upd_same, .nil, Nat.zero_le _, ?_⟩
    rw [List.drop_zero]
    exact g
  · rintro i m H ⟨rfl, μ, S, acc, vs, ex, sr, hDl, l, hi, g⟩
    by_cases hlt : i < items.length
    · refine .inr ⟨hJ.go _ μ S H i ex.hid sr hlt, St' (i + 1), fun H' z => ⟨items.length - (i + 1), by omega, rfl, z⟩, fun x H' y => ?_⟩
      obtain ⟨pv, e1, ex1, sr1, r1, kp1⟩ := hJ.yld _ μ S H i x H' hp ex.hid sr hlt y
      have hDl := kp1 _ _ hDl
      have l := l.mono sr ex1
      have ex := ex.trans (B := B) ex1
      have nM : ¬ Mu μ S D := fun ⟨n, pv, _, h2⟩ => sr.pd D (.inr rfl) (List.mem_of_getElem? h2)
      have hdr : items.drop i = pv :: items.drop (i + 1) := by
        rw [List.drop_eq_getElem_cons hlt]
        rw [List.getElem?_eq_getElem hlt] at e1
        rw [Option.some.inj e1]
      rw [hdr] at g
      simp only [lc2Go] at g
      split at g
      · rename_i fr2 eb
        have hf1 := ((hf.monoP sr0 ex hp rfl).wipe own)
        refine gOf_of (own := own) sr1 r1 hf1 eb fun σ2 hf2 hw => ⟨by rw [hw ho, wipe_twice], ?_⟩
        refine ⟨Pw P D, fr2, μ, S, hf2, sr1, (Go.bindP (Rel := RelB) g).imp ?_⟩
        rintro b H3 ⟨μ3, S3, b', ex3, sr3, rb, g3⟩
        cases (show b' = b from rb)
        have hD3 := ex3.keep _ _ hDl nM (fun ps z => nomatch z)
        have nM3 := ex3.notM hDl (fun ps z => nomatch z) nM
        split at g3
        · rename_i hb
          show if b = true then _ else _
          rw [if_pos hb]
          refine ⟨Pw P D, fr2, μ3, S3, hf2.mono sr1 ex3, sr3, (goI_noX g3).imp ?_⟩
          rintro J1 H4 ⟨μ4, S4, items1, ex4, sr4, hJ1, g4⟩
          have hD4 := ex4.keep _ _ hD3 nM3 (fun ps z => nomatch z)
          refine lcIn (P := P) sr0 hD (ex.trans (B := B) (ex3.trans (B := B) ex4)) sr4 hD4 ((l.mono sr1 ex3).mono sr3 ex4) hJ1 ((hf2.mono sr1 ex3).mono sr3 ex4) ho1 g4 ?_
          exact fun μ S H acc vs x1 x2 x3 x4 x5 => ⟨μ, S, acc, vs, x1, x2, x3, x4, hlt, x5⟩
        · rename_i hb
          show if b = true then _ else _
          rw [if_neg hb]
          exact ⟨μ3, S3, acc, vs, ex.trans (B := B) ex3, sr3, hD3, l.mono sr1 ex3, hlt, g3⟩
      · exact g.elim
    · have e : i = items.length := by omega
      subst e
      refine .inl ⟨hJ.stop _ μ S H _ ex.hid sr (Nat.le_refl _), ?_⟩
      rw [List.drop_length] at g
      exact hfin P W σ Q μ0 μ S0 S H0 H D acc vs hD sr0 ex sr hDl l g
/-- [elt for t in items if .. for t1 in items1 if ..] -/
theorem tLc2_of {B : Base} {W : WX} {fin : List PV → Store → Res PV} (hfin : FinOk B fin) {i i1 : DI} {t t1 : Tgt} {tt tt1 : DT} {te : DE} {own own1 : List Nat} (ho : ∀ i ∈ t.slots, i ∈ own) (ho1 : ∀ i ∈ t1.slots, i ∈ own1) : ∀ σ H Q, tE B P W (dLc2 fin i t tt i1 t1 tt1 te own own1) σ H Q → tLc2 (tI B P W i) (gOf B.K t) (tTx B W0 tt) (tIx B W0 i1) (gOf B.K t1) (tTx B W0 tt1) (tEx B W0 te) own own1 σ H Q := by
  rintro σ H Q ⟨fr, μ, S, hf, sr, g⟩
  refine ⟨fr, μ, S, hf, sr, ?_⟩
  unfold dLc2 at g
  cases q : i fr S with
  | ok items S1 =>
    rw [q] at g
    exact fun μ1 H1 J ex sr1 its D hD => lc2_core hfin sr1 its (hf.mono sr ex) hD ho ho1 (g.after ex)
  | exc c told S1 => rw [q] at g; exact g
  | fail => rw [q] at g; exact g
end E2
end
section
set_option Elab.async false
set_option linter.all false
set_option maxRecDepth 100000
set_option maxHeartbeats 4000000
set_option autoImplicit false
/-! {k: v for t in items if ..}: keys ints or texts -/
namespace E2
open PySem L2
variable {P P' : Pv}
theorem SR.privK {B : Base} {μ : List Addr} {S : Store} {H : Hp} {D : Addr} {vs : List (Key × V)} (sr : SR B P μ S H) (hD : H D = none) : SR B (Pw P D) μ S (upd H D (.dK vs)) := by
  have k := ext_new (o := .dK vs) hD
  have hp : ∀ a, (Pw P D).p a → P.p a ∨ H a = none := fun a z => z.imp id fun e => by rw [e]; exact hD
  refine ⟨sr.len, sr.nd, fun n m pv a h1 h2 => ?_, sr.tabs.ext k, fun a h => ?_, fun a h => ?_, P.st sr.anc (ex_ext k)⟩
  · have c := sr.cell n m pv a h1 h2
    refine c.monoP sr (ex_ext k) hp ?_
    obtain ⟨o', q, _⟩ := c.there
    rw [q, k _ _ q]
  · rcases h with h | rfl
    · exact sr.pd a h
    · exact sr.notIn hD
  · rcases h with h | rfl
    · exact (sr.pt a h).imp (fun ⟨vs, q⟩ => ⟨vs, k _ _ q⟩) fun z => z.imp (fun ⟨vs, q⟩ => ⟨vs, k _ _ q⟩) fun ⟨o, q, d⟩ => ⟨o, k _ _ q, d⟩
    · exact .inr (.inl ⟨vs, upd_same⟩)
section
variable {B : Base} {μ : List Addr} {S : Store} {H : Hp} {D : Addr} {vs : List (Key × V)} {o : HO}
mutual
theorem Rp.privD (hP : P.p D) (hD : H D = some (.dK vs)) : ∀ {pv : PV} {v : V}, Rp B μ (Mz P μ S) H pv v → Rp B μ (Mz P μ S) (upd H D o) pv v
  | _, _, .non => .non
  | _, _, .bl b => .bl b
  | _, _, .int i => .int i
  | _, _, .str y => .str y
  | _, _, .tup h l => .tup (h.elim (fun ⟨ob, z, d⟩ => .inl ⟨ob, by rw [upd_ne (fun e => by rw [e, hD] at z; cases z)]; exact z, d⟩) .inr) (RpL.privD hP hD l)
  | _, _, .pr h l => .pr (by rw [upd_ne (fun e => by rw [e, hD] at h; cases h)]; exact h) (RpL.privD hP hD l)
  | _, _, .lst h n l => .lst (by rw [upd_ne (fun e => n (.inr (by rw [e]; exact hP)))]; exact h) n (RpL.privD hP hD l)
  | _, _, .dK h n l => .dK (by unfold Rd; rw [upd_ne (fun e => n (.inr (by rw [e]; exact hP)))]; exact h) n (RpK.privD hP hD l)
  | _, _, .dT h n l => .dT (by unfold Rd; rw [upd_ne (fun e => n (.inr (by rw [e]; exact hP)))]; exact h) n (RpT.privD hP hD l)
  | _, _, .obj c h n l => .obj c (by rw [upd_ne (fun e => n (.inr (by rw [e]; exact hP)))]; exact h) n (RpF.privD hP hD l)
  | _, _, .ref h => .ref h
  | _, _, .fn h => .fn h
  | _, _, .ty n => .ty n
  | _, _, .cls h => .cls h
  | _, _, .scr (a := a) h => .scr (h.elim (fun z => .inl ⟨by
      have hb : a ≠ D := fun e => z.2 (.inr (by rw [e]; exact hP))
      rcases z.1 with q | ⟨ob, q⟩
      · exact .inl (by rw [upd_ne hb]; exact q)
      · exact .inr ⟨ob, by rw [upd_ne hb]; exact q⟩, z.2⟩) .inr)
theorem RpL.privD (hP : P.p D) (hD : H D = some (.dK vs)) : ∀ {pv : List PV} {v : List V}, RpL B μ (Mz P μ S) H pv v → RpL B μ (Mz P μ S) (upd H D o) pv v
  | _, _, .nil => .nil
  | _, _, .cons h t => .cons (Rp.privD hP hD h) (RpL.privD hP hD t)
theorem RpK.privD (hP : P.p D) (hD : H D = some (.dK vs)) : ∀ {pv : List (PV × PV)} {v : List (Key × V)}, RpK B μ (Mz P μ S) H pv v → RpK B μ (Mz P μ S) (upd H D o) pv v
  | _, _, .nil => .nil
  | _, _, .int h t => .int (Rp.privD hP hD h) (RpK.privD hP hD t)
  | _, _, .str h t => .str (Rp.privD hP hD h) (RpK.privD hP hD t)
theorem RpT.privD (hP : P.p D) (hD : H D = some (.dK vs)) : ∀ {pv : List (List Key × PV)} {v : List (List Key × V)}, RpT B μ (Mz P μ S) H pv v → RpT B μ (Mz P μ S) (upd H D o) pv v
  | _, _, .nil => .nil
  | _, _, .cons h t => .cons (Rp.privD hP hD h) (RpT.privD hP hD t)
theorem RpF.privD (hP : P.p D) (hD : H D = some (.dK vs)) : ∀ {pv : List (Str × PV)} {v : List (Str × V)}, RpF B μ (Mz P μ S) H pv v → RpF B μ (Mz P μ S) (upd H D o) pv v
  | _, _, .nil => .nil
  | _, _, .cons h t => .cons (Rp.privD hP hD h) (RpF.privD hP hD t)
end
end
theorem Tabs.privD {T : List (Addr × Str)} {H : Hp} {D : Addr} {vs : List (Key × V)} {o : HO} (t : LamX.Tabs T H) (hD : H D = some (.dK vs)) : LamX.Tabs T (upd H D o) := fun p hp => by
  obtain ⟨ps, h1, h2, h3⟩ := t p hp
  refine ⟨ps, by rw [upd_ne (fun e => by rw [e, hD] at h1; cases h1)]; exact h1, h2, fun pos cv hc => ?_⟩
  obtain ⟨c, e1, e2⟩ := h3 pos cv hc
  exact ⟨c, e1, by rw [upd_ne (fun e => by rw [e, hD] at e2; cases e2)]; exact e2⟩
theorem SR.privD {B : Base} {μ : List Addr} {S : Store} {H : Hp} {D : Addr} {vs ws : List (Key × V)} (sr : SR B P μ S H) (hP : P.p D) (hD : H D = some (.dK vs)) (ha : P.A μ S (upd H D (.dK ws))) : SR B P μ S (upd H D (.dK ws)) := by
  refine ⟨sr.len, sr.nd, fun n m pv a h1 h2 => ?_, Tabs.privD sr.tabs hD, sr.pd, fun a h => ?_, ha⟩
  · have na : a ≠ D := fun e => sr.pd D hP (by rw [← e]; exact List.mem_of_getElem? h2)
    have c := sr.cell n m pv a h1 h2
    cases pv with
    | lst xs => obtain ⟨us, e, l⟩ := c; exact ⟨us, by rw [upd_ne na]; exact e, l.privD hP hD⟩
    | dct kvs => obtain ⟨us, e, l⟩ := c; exact ⟨us, e.eq (upd_ne na), l.privD hP hD⟩
    | dtt kvs => obtain ⟨us, e, l⟩ := c; exact ⟨us, e.eq (upd_ne na), l.privD hP hD⟩
    | dts ks => obtain ⟨o, nks, vs, e, n, d, l⟩ := c; exact ⟨o, nks, vs, by rw [upd_ne na]; exact e, n, d, l.privD hP hD⟩
    | obj c fs => obtain ⟨C, dx, gs, hc, e, l⟩ := c; exact ⟨C, dx, gs, hc, by rw [upd_ne na]; exact e, l.privD hP hD⟩
    | _ => exact c.elim
  · by_cases e : a = D
    · subst e; exact .inr (.inl ⟨ws, upd_same⟩)
    · exact (sr.pt a h).imp (fun ⟨us, q⟩ => ⟨us, by rw [upd_ne e]; exact q⟩) fun z => z.imp (fun ⟨us, q⟩ => ⟨us, by rw [upd_ne e]; exact q⟩) fun ⟨o, q, d⟩ => ⟨o, by rw [upd_ne e]; exact q, d⟩
theorem RpK.less {B : Base} {μ : List Addr} {S : Store} {H : Hp} (sr : SR B P μ S H) (hp : ∀ a, P'.p a → P.p a) {pv : List (PV × PV)} {v : List (Key × V)} (h : RpK B μ (Mz P μ S) H pv v) : RpK B μ (Mz P' μ S) H pv v := h.monoP sr .refl fun a z => .inl (hp a z)
theorem Ex.privD {μ0 μ : List Addr} {S0 S : Store} {H0 H : Hp} {D : Addr} {o : HO} (x : Ex μ0 S0 H0 μ S H) (h0 : H0 D = none) : Ex μ0 S0 H0 μ S (upd H D o) :=
  ⟨x.mu, fun b u e n t => by rw [upd_ne (ne_of_none e h0)]; exact x.keep b u e n t, x.fresh, x.newm⟩
def dcGo (t : Tgt) (tt : DT) (tk tv : DE) (fr : Frame) : List PV → List (PV × PV) → Store → Res PV
  | [], acc, S => .ok (.dct acc) S
  | x :: r, acc, S => (match bindG S t x fr with
    | some fr2 => (tt fr2 S).noX.bind fun b S1 => if b = true then (tk fr2 S1).noX.bind fun y S2 => (tv fr2 S2).noX.bind fun z S3 => (match keyOf y with
        | some k => if acc.length < sizeLine then dcGo t tt tk tv fr r (putP acc k z) S3 else .fail
        | none => .fail) else dcGo t tt tk tv fr r acc S1
    | none => .fail)
def dDc (i : DI) (t : Tgt) (tt : DT) (tk tv : DE) (own : List Nat) : DE := fun fr S => (i fr S).bind fun items S1 => dcGo t tt tk tv (wipeF fr own) items [] S1
theorem dc_core2 {B : Base} {W : WX} {t : Tgt} {tt : DT} {tk tv : DE} {own : List Nat} {σ : St} {Q : VK} {J : It} {items : List PV} {μ0 : List Addr} {S0 : Store} {H0 : Hp} {fr : Frame} {D : Addr} (sr0 : SR B P μ0 S0 H0) (hJ : ItS B P J items μ0 S0 H0) (hf : FR B μ0 (Mz P μ0 S0) H0 fr σ) (hD : H0 D = none) (ho : ∀ i ∈ t.slots, i ∈ own)
    (g : Go B P (RelP B) W σ (dcGo t tt tk tv (wipeF fr own) items [] S0) μ0 S0 H0 Q) :
    ∃ Wi : Nat → Nat → Hp → Prop, (∃ m, Wi 0 m (upd H0 D (.dK []))) ∧ ∀ i m H, Wi i m H →
      (J.stop i H ∧ Q (.ref D) H) ∨ (J.go i H ∧ ∃ Nx : Hp → Prop, (∀ H', Nx H' → ∃ m', m' < m ∧ Wi (i + 1) m' H') ∧ ∀ x H', J.yld i H x H' → gOf B.K t x (wipe σ own) H' fun σ2 H2 => wipe σ2 own = wipe σ own ∧ tTx B W0 tt σ2 H2 fun b H3 =>
        if b = true then tEx B W0 tk σ2 H3 fun y H4 => tEx B W0 tv σ2 H4 fun z H5 => ∃ kvs k, y = kV k ∧ H5 D = some (.dK kvs) ∧ kvs.length < sizeLine ∧ Nx (upd H5 D (.dK (putK kvs k z))) else Nx H3) := by
  have hp : ∀ a, (Pw P D).p a → P.p a ∨ H0 a = none := fun a z => z.imp id fun e => by rw [e]; exact hD
  let St' : Nat → Hp → Prop := fun i H => ∃ μ S acc vs, Ex μ0 S0 H0 μ S H ∧ SR B (Pw P D) μ S H ∧ H D = some (.dK vs) ∧ RpK B μ (Mz (Pw P D) μ S) H acc vs ∧ i ≤ items.length ∧
    Go B P (RelP B) W σ (dcGo t tt tk tv (wipeF fr own) (items.drop i) acc S) μ0 S0 H0 Q
  refine ⟨fun i m H => m = items.length - i ∧ St' i H, ⟨items.length, rfl, ?_⟩, ?_⟩
  · refine ⟨μ0, S0, [], [], ex_ext (ext_new hD), sr0.privK hD, upd_same, .nil, Nat.zero_le _, ?_⟩
    rw [List.drop_zero]
    exact g
  · rintro i m H ⟨rfl, μ, S, acc, vs, ex, sr, hDl, l, hi, g⟩
    by_cases hlt : i < items.length
    · refine .inr ⟨hJ.go _ μ S H i ex.hid sr hlt, St' (i + 1), fun H' z => ⟨items.length - (i + 1), by omega, rfl, z⟩, fun x H' y => ?_⟩
      obtain ⟨pv, e1, ex1, sr1, r1, kp1⟩ := hJ.yld _ μ S H i x H' hp ex.hid sr hlt y
      have hDl := kp1 _ _ hDl
      have l := l.mono sr ex1
      have ex := ex.trans (B := B) ex1
      have nM : ¬ Mu μ S D := fun ⟨n, pv, _, h2⟩ => sr.pd D (.inr rfl) (List.mem_of_getElem? h2)
      have hdr : items.drop i = pv :: items.drop (i + 1) := by
        rw [List.drop_eq_getElem_cons hlt]
        rw [List.getElem?_eq_getElem hlt] at e1
        rw [Option.some.inj e1]
      rw [hdr] at g
      simp only [dcGo] at g
      split at g
      · rename_i fr2 eb
        have hf1 := ((hf.monoP sr0 ex hp rfl).wipe own)
        refine gOf_of (own := own) sr1 r1 hf1 eb fun σ2 hf2 hw => ⟨?_, ?_⟩
        · rw [hw ho]
          apply List.ext_getElem?
          intro j
          by_cases hj : j ∈ own
          · rw [wipe_in hj, wipe_in hj, wipe_length]
          · rw [wipe_out hj]
        · refine ⟨Pw P D, fr2, μ, S, hf2, sr1, (Go.bindP (Rel := RelB) g).imp ?_⟩
          rintro b H3 ⟨μ3, S3, b', ex3, sr3, rb, g3⟩
          cases (show b' = b from rb)
          have hD3 := ex3.keep _ _ hDl nM (fun ps z => nomatch z)
          have nM3 := ex3.notM hDl (fun ps z => nomatch z) nM
          split at g3
          · rename_i hb
            show if b = true then _ else _
            rw [if_pos hb]
            refine ⟨Pw P D, fr2, μ3, S3, hf2.mono sr1 ex3, sr3, (Go.bindP (Rel := RelP B) g3).imp ?_⟩
            rintro ky H4 ⟨μ4, S4, y', ex4, sr4, ry, g4⟩
            have ry : Rp B μ4 (Mz (Pw P D) μ4 S4) H4 y' ky := ry
            have hD4 := ex4.keep _ _ hD3 nM3 (fun ps z => nomatch z)
            have nM4 := ex4.notM hD3 (fun ps z => nomatch z) nM3
            refine ⟨Pw P D, fr2, μ4, S4, (hf2.mono sr1 ex3).mono sr3 ex4, sr4, (Go.bindP (Rel := RelP B) g4).imp ?_⟩
            rintro z H5 ⟨μ5, S5, z', ex5, sr5, rz, g5⟩
            have rz : Rp B μ5 (Mz (Pw P D) μ5 S5) H5 z' z := rz
            have hD5 := ex5.keep _ _ hD4 nM4 (fun ps z => nomatch z)
            split at g5
            · rename_i kk ek
              split at g5
              · rename_i hz
                have l5 := ((l.mono sr1 ex3).mono sr3 ex4).mono sr4 ex5
                have ex' := ex.trans (B := B) (ex3.trans (B := B) (ex4.trans (B := B) ex5))
                refine ⟨vs, kk, keyV sr4 ry ek, hD5, by rw [← l5.length]; exact hz, ?_⟩
                exact ⟨μ5, S5, putP acc kk z', putK vs kk z, ex'.privD hD, sr5.privD (.inr rfl) hD5 (P.st sr0.anc (ex'.privD hD)), upd_same, (l5.put rz).privD (P := Pw P D) (Or.inr rfl) hD5, hlt, g5⟩
              · exact g5.elim
            · exact g5.elim
          · rename_i hb
            show if b = true then _ else _
            rw [if_neg hb]
            exact ⟨μ3, S3, acc, vs, ex.trans (B := B) ex3, sr3, hD3, l.mono sr1 ex3, hlt, g3⟩
      · exact g.elim
    · have e : i = items.length := by omega
      subst e
      refine .inl ⟨hJ.stop _ μ S H _ ex.hid sr (Nat.le_refl _), ?_⟩
      rw [List.drop_length] at g
      exact g μ H (.ref D) ex (sr.less (fun _ => .inl) sr.anc) (.dK (.inl hDl) (privOff hD sr0 sr) (l.less sr fun _ => .inl))
theorem tDc_of {B : Base} {W : WX} {i : DI} {t : Tgt} {tt : DT} {tk tv : DE} {own : List Nat} (ho : ∀ i ∈ t.slots, i ∈ own) : ∀ σ H Q, tE B P W (dDc i t tt tk tv own) σ H Q → tDc (tI B P W i) (gOf B.K t) (tTx B W0 tt) (tEx B W0 tk) (tEx B W0 tv) own σ H Q := by
  rintro σ H Q ⟨fr, μ, S, hf, sr, g⟩
  refine ⟨fr, μ, S, hf, sr, ?_⟩
  unfold dDc at g
  cases q : i fr S with
  | ok items S1 =>
    rw [q] at g
    exact fun μ1 H1 J ex sr1 its D hD => dc_core2 sr1 its (hf.mono sr ex) hD ho (g.after ex)
  | exc c told S1 => rw [q] at g; exact g
  | fail => rw [q] at g; exact g
end E2
end
section
set_option Elab.async false
set_option linter.all false
set_option maxRecDepth 100000
set_option maxHeartbeats 4000000
set_option autoImplicit false
/-! comprehensions over the keys of a dict: the dict is locked meanwhile -/
namespace E2
open PySem L2
variable {P P' : Pv}
/-- two heaps that differ only in whether the dict at a is locked -/
structure Lk (a : Addr) (qs : List (Key × V)) (H H' : Hp) : Prop where
  ne : ∀ b, b ≠ a → H' b = H b
  h : Rd H a (.dK qs)
  h' : Rd H' a (.dK qs)
theorem Lk.symm {a : Addr} {qs : List (Key × V)} {H H' : Hp} (l : Lk a qs H H') : Lk a qs H' H := ⟨fun b n => (l.ne b n).symm, l.h', l.h⟩
theorem Rd.one {H : Hp} {a : Addr} {q1 q2 : List (Key × V)} (h : Rd H a (.dK q1)) (h' : Rd H a (.dK q2)) : q1 = q2 := by
  rcases h with h | ⟨o, h⟩ <;> rcases h' with h' | ⟨o', h'⟩ <;> rw [h] at h' <;> cases h' <;> rfl
theorem Lk.other {a b : Addr} {qs : List (Key × V)} {H H' : Hp} {o : HO} (l : Lk a qs H H') (e : H b = some o) (n1 : ∀ q, o ≠ .dK q) (n2 : ∀ o' q, o ≠ .frz o' (.dK q)) : H' b = some o := by
  have hb : b ≠ a := by
    rintro rfl
    rcases l.h with h | ⟨o', h⟩ <;> rw [e] at h <;> cases h
    · exact n1 _ rfl
    · exact n2 _ _ rfl
  rw [l.ne b hb]
  exact e
theorem Lk.dk {a b : Addr} {qs q : List (Key × V)} {H H' : Hp} (l : Lk a qs H H') (r : Rd H b (.dK q)) : Rd H' b (.dK q) := by
  by_cases hb : b = a
  · subst hb
    rw [Rd.one r l.h]
    exact l.h'
  · unfold Rd at *
    rw [l.ne b hb]
    exact r
section
variable {B : Base} {μ : List Addr} {M : Mx} {H H' : Hp} {a : Addr} {qs : List (Key × V)}
mutual
theorem Rp.lk (x : Lk a qs H H') : ∀ {pv : PV} {v : V}, Rp B μ M H pv v → Rp B μ M H' pv v
  | _, _, .non => .non
  | _, _, .bl b => .bl b
  | _, _, .int i => .int i
  | _, _, .str y => .str y
  | _, _, .tup h l => .tup (h.elim (fun ⟨ob, z, d⟩ => .inl ⟨ob, x.other z (fun _ z => nomatch z) (fun _ _ z => by cases z), d⟩) .inr) (RpL.lk x l)
  | _, _, .pr h l => .pr (x.other h (fun _ z => nomatch z) (fun _ _ z => nomatch z)) (RpL.lk x l)
  | _, _, .lst h n l => .lst (x.other h (fun _ z => nomatch z) (fun _ _ z => nomatch z)) n (RpL.lk x l)
  | _, _, .dK h n l => .dK (x.dk h) n (RpK.lk x l)
  | _, _, .dT h n l => .dT (h.elim (fun q => .inl (x.other q (fun _ z => nomatch z) (fun _ _ z => nomatch z))) fun ⟨o, q⟩ => .inr ⟨o, x.other q (fun _ z => nomatch z) (fun _ _ z => by cases z)⟩) n (RpT.lk x l)
  | _, _, .obj c h n l => .obj c (x.other h (fun _ z => nomatch z) (fun _ _ z => nomatch z)) n (RpF.lk x l)
  | _, _, .ref h => .ref h
  | _, _, .fn h => .fn h
  | _, _, .ty n => .ty n
  | _, _, .cls h => .cls h
  | _, _, .scr h => .scr (h.elim (fun z => .inl ⟨z.1.elim (fun q => .inl (x.other q (fun _ z => nomatch z) (fun _ _ z => nomatch z))) (fun ⟨o, q⟩ => .inr ⟨o, x.other q (fun _ z => nomatch z) (fun _ _ z => by cases z)⟩), z.2⟩) .inr)
theorem RpL.lk (x : Lk a qs H H') : ∀ {pv : List PV} {v : List V}, RpL B μ M H pv v → RpL B μ M H' pv v
  | _, _, .nil => .nil
  | _, _, .cons h t => .cons (Rp.lk x h) (RpL.lk x t)
theorem RpK.lk (x : Lk a qs H H') : ∀ {pv : List (PV × PV)} {v : List (Key × V)}, RpK B μ M H pv v → RpK B μ M H' pv v
  | _, _, .nil => .nil
  | _, _, .int h t => .int (Rp.lk x h) (RpK.lk x t)
  | _, _, .str h t => .str (Rp.lk x h) (RpK.lk x t)
theorem RpT.lk (x : Lk a qs H H') : ∀ {pv : List (List Key × PV)} {v : List (List Key × V)}, RpT B μ M H pv v → RpT B μ M H' pv v
  | _, _, .nil => .nil
  | _, _, .cons h t => .cons (Rp.lk x h) (RpT.lk x t)
theorem RpF.lk (x : Lk a qs H H') : ∀ {pv : List (Str × PV)} {v : List (Str × V)}, RpF B μ M H pv v → RpF B μ M H' pv v
  | _, _, .nil => .nil
  | _, _, .cons h t => .cons (Rp.lk x h) (RpF.lk x t)
end
theorem FR.lk (x : Lk a qs H H') {fr : Frame} {σ : St} (h : FR B μ M H fr σ) : FR B μ M H' fr σ :=
  ⟨h.1, fun i pv e => let ⟨v, e1, e2⟩ := h.2 i pv e; ⟨v, e1, e2.imp (fun r => r.lk x) id⟩⟩
theorem SR.lk {S : Store} (P' : Pv) (hz : Mz P' = Mz P) (hpp : P'.p = P.p) (sr : SR B P μ S H) (x : Lk a qs H H') (na : ¬ Mz P μ S a) (hA : P'.A μ S H') : SR B P' μ S H' := by
  refine ⟨sr.len, sr.nd, fun n m pv b h1 h2 => ?_, fun p hp => ?_, fun b hb => sr.pd b (by rw [← hpp]; exact hb), fun b hb => ?_, hA⟩
  · have c := sr.cell n m pv b h1 h2
    rw [hz]
    cases pv with
    | lst xs => obtain ⟨us, e, l⟩ := c; exact ⟨us, x.other e (fun _ z => nomatch z) (fun _ _ z => nomatch z), l.lk x⟩
    | dct kvs =>
      obtain ⟨us, e, l⟩ := c
      refine ⟨us, ?_, l.lk x⟩
      by_cases hb : b = a
      · subst hb
        cases m with
        | true => exact absurd ⟨n, _, h1, h2⟩ (nMu na)
        | false => exact (x.dk e.rd).imp id fun z => ⟨rfl, z⟩
      · exact e.eq (x.ne b hb)
    | dtt kvs =>
      obtain ⟨us, e, l⟩ := c
      refine ⟨us, e.eq (x.ne b fun z => ?_), l.lk x⟩
      subst z
      rcases x.h with h | ⟨o, h⟩ <;> rcases e with e | ⟨_, o', e⟩ <;> rw [h] at e <;> cases e
    | dts ks => obtain ⟨o, nks, vs, e, n, d, l⟩ := c; exact ⟨o, nks, vs, x.other e (fun _ z => nomatch z) (fun _ _ z => nomatch z), n, d, l.lk x⟩
    | obj c fs => obtain ⟨C, dx, gs, hc, e, l⟩ := c; exact ⟨C, dx, gs, hc, x.other e (fun _ z => nomatch z) (fun _ _ z => nomatch z), l.lk x⟩
    | _ => exact c.elim
  · obtain ⟨ps, h1, h2, h3⟩ := sr.tabs p hp
    refine ⟨ps, x.other h1 (fun _ z => nomatch z) (fun _ _ z => nomatch z), h2, fun pos cv hc => ?_⟩
    obtain ⟨c, e1, e2⟩ := h3 pos cv hc
    refine ⟨c, e1, ?_⟩
    rw [x.ne c (fun z => by rcases x.h with h | ⟨o, h⟩ <;> rw [← z, e2] at h <;> cases h)]
    exact e2
  · rw [hpp] at hb
    have nb : b ≠ a := fun e => na (.inr (e ▸ hb))
    exact (sr.pt b hb).imp (fun ⟨vs, q⟩ => ⟨vs, (x.ne b nb).trans q⟩) fun z => z.imp (fun ⟨vs, q⟩ => ⟨vs, (x.ne b nb).trans q⟩) fun ⟨o, q, d⟩ => ⟨o, (x.ne b nb).trans q, d⟩
end
theorem Ex.unl {μ μ' : List Addr} {S S' : Store} {H H' : Hp} {a : Addr} {od : Obj} {qs : List (Key × V)} (x : Ex μ S H μ' S' H') (h1 : H a = some (.frz od (.dK qs))) : Ex μ S (upd H a (.dK qs)) μ' S' (upd H' a (.dK qs)) := by
  have no : ∀ b, NoO H b → NoO (upd H a (.dK qs)) b := fun b q o e => by
    by_cases hb : b = a
    · subst hb
      obtain ⟨ps, r⟩ := q _ h1
      cases r
    · rw [upd_ne hb] at e
      exact q o e
  refine ⟨x.mu, fun b o e n t => ?_, fun b z => (x.fresh b z).imp id (no b), fun b z => (x.newm b z).imp id (no b)⟩
  by_cases hb : b = a
  · subst hb
    rw [upd_same] at e ⊢
    exact e
  · rw [upd_ne hb] at e ⊢
    exact x.keep b o e n t
/-- the pins while the dict at a is locked -/
def Pk (P : Pv) (a : Addr) (od : Obj) (qs : List (Key × V)) : Pv := ⟨P.p, P.f, fun μ S H => H a = some (.frz od (.dK qs)) ∧ ¬ Mu μ S a ∧ P.A μ S (upd H a (.dK qs)), fun h x => ⟨x.keep a _ h.1 h.2.1 (fun ps z => nomatch z), x.notM h.1 (fun ps z => nomatch z) h.2.1, P.st h.2.2 (x.unl h.1)⟩⟩
theorem its_keys {B : Base} {μ : List Addr} {S : Store} {H : Hp} {a : Addr} {od : Obj} {kvs : List (PV × PV)} {qs : List (Key × V)} (sr : SR B P μ S H) (h : H a = some (.frz od (.dK qs))) (n : ¬ Mz P μ S a) (l : RpK B μ (Mz P μ S) H kvs qs) : ItS B P (Itk a od qs) (keysP kvs) μ S H := by
  have at_ : ∀ μ2 S2 H2, Ex μ S (hid P.p H) μ2 S2 H2 → H2 a = some (.frz od (.dK qs)) := fun μ2 S2 H2 ex => ex.keep a _ (hidK h n) (nMu n) (fun ps z => nomatch z)
  have ll : (keysP kvs).length = qs.length := by rw [l.keys.length, List.length_map]
  refine ⟨fun P' μ2 S2 H2 i ex sr2 hi => ⟨at_ _ _ _ ex, by rw [← ll]; exact hi⟩, fun P' μ2 S2 H2 i x H3 hp ex sr2 hi0 y => ?_, fun P' μ2 S2 H2 i ex sr2 hi => ⟨at_ _ _ _ ex, by rw [← ll]; exact hi⟩⟩
  obtain ⟨e, k, v, y1, ex1⟩ := y
  subst e
  subst ex1
  obtain ⟨w, h1, h2⟩ := ((l.keys.hid sr).monoP sr.hid ex (hidP hp)).get (i := i) (x := (keysP kvs)[i]) (List.getElem?_eq_getElem hi0)
  rw [List.getElem?_map, y1] at h1
  cases h1
  exact ⟨(keysP kvs)[i], List.getElem?_eq_getElem hi0, .refl, sr2, h2, fun _ _ z => z⟩
/-- the keys of the dict that a name has, if it is no longer changed -/
def keysAt (i : Nat) (fr : Frame) (S : Store) : Option (List (PV × PV)) := match fr[i]? with
  | some (some (.dct ys)) => some ys
  | some (some (.ref n)) => (match S[n]? with
    | some (false, .dct ys) => some ys
    | _ => none)
  | _ => none
theorem keysAt_ok {B : Base} {μ : List Addr} {S : Store} {H : Hp} {fr : Frame} {σ : St} {i : Nat} {ys : List (PV × PV)} (hf : FR B μ (Mz P μ S) H fr σ) (sr : SR B P μ S H) (e : keysAt i fr S = some ys) : ∃ a qs, σ[i]? = some (some (.ref a)) ∧ Rd H a (.dK qs) ∧ ¬ Mz P μ S a ∧ RpK B μ (Mz P μ S) H ys qs := by
  unfold keysAt at e
  split at e
  · rename_i zs q
    cases e
    obtain ⟨v, h1, h2⟩ := hf.get q (fun z => nomatch z)
    cases h2 with
    | dK h n l => exact ⟨_, _, h1, h, n, l⟩
  · rename_i n q
    split at e
    · rename_i zs q2
      cases e
      obtain ⟨v, h1, h2⟩ := hf.get q (fun z => nomatch z)
      cases h2 with
      | @ref _ a h =>
        obtain ⟨us, e1, l⟩ := sr.cell n false _ _ q2 h
        refine ⟨_, us, h1, e1.rd, fun z => z.elim (fun ⟨m, pv, h3, h4⟩ => ?_) (fun z => sr.pd _ z (List.mem_of_getElem? h)), l⟩
        obtain ⟨x1, y1⟩ := List.getElem?_eq_some_iff.mp h
        obtain ⟨x2, y2⟩ := List.getElem?_eq_some_iff.mp h4
        have hm : m = n := (List.getElem_inj sr.nd).mp (y2.trans y1.symm)
        subst hm
        rw [q2] at h3
        cases h3
    · cases e
  · cases e
/-- [elt for t in d if ..], d a name -/
def dLcK (fin : List PV → Store → Res PV) (i : Nat) (t : Tgt) (tt : DT) (te : DE) (own : List Nat) : DE := fun fr S => match keysAt i fr S with
  | some ys => (lcGo fin t tt te (wipeF fr own) (keysP ys) [] S).noX
  | none => .fail
theorem tLcK_of {B : Base} {W : WX} {fin : List PV → Store → Res PV} (hfin : FinOk B fin) {i : Nat} {t : Tgt} {tt : DT} {te : DE} {own : List Nat} (ho : ∀ i ∈ t.slots, i ∈ own) : ∀ σ H Q, tE B P W (dLcK fin i t tt te own) σ H Q →
    tLockE (tLc (iKeys (tVar i)) (gOf B.K t) (tTx B W0 tt) (tEx B W0 te) own) σ H Q ∨ tLc (iKeys (tVar i)) (gOf B.K t) (tTx B W0 tt) (tEx B W0 te) own σ H Q := by
  rintro σ H Q ⟨fr, μ, S, hf, sr, g⟩
  unfold dLcK at g
  split at g
  · rename_i ys e
    obtain ⟨a, qs, h1, rd, na, l⟩ := keysAt_ok hf sr e
    rcases rd with ha | ⟨od, ha⟩
    · refine .inl ⟨a, .dK qs, ha, trivial, fun od => ?_⟩
      have lk : Lk a qs H (upd H a (.frz od (.dK qs))) := ⟨fun b n => upd_ne n, .inl ha, .inr ⟨od, upd_same⟩⟩
      have back : upd (upd H a (.frz od (.dK qs))) a (.dK qs) = H := by
        funext b
        by_cases hb : b = a
        · subst hb; rw [upd_same, ha]
        · rw [upd_ne hb, upd_ne hb]
      have sr1 : SR B (Pk P a od qs) μ S (upd H a (.frz od (.dK qs))) := SR.lk (P := P) (Pk P a od qs) rfl rfl sr lk na ⟨upd_same, nMu na, by rw [back]; exact sr.anc⟩
      refine ⟨_, h1, a, od, rfl, .inl ⟨qs, upd_same, fun D hD => ?_⟩⟩
      refine lc_core (P := Pk P a od qs) (W := W) (tt := tt) (te := te) (Q := fun v H' => H' a = some (.frz od (.dK qs)) ∧ Q v (upd H' a (.dK qs))) hfin sr1 (its_keys sr1 upd_same na (l.lk lk)) (hf.lk lk) hD ho ?_
      generalize lcGo fin t tt te (wipeF fr own) (keysP ys) [] S = r at g
      cases r with
      | ok pv S2 =>
        intro μ2 H2 v x s q
        have k2 : H2 a = some (.frz od (.dK qs)) := s.anc.1
        have lk2 : Lk a qs H2 (upd H2 a (.dK qs)) := ⟨fun b n => upd_ne n, .inr ⟨od, k2⟩, .inl upd_same⟩
        have na2 : ¬ Mz (Pk P a od qs) μ2 S2 a := x.notZ (P := Pk P a od qs) (fun _ => .inl) upd_same (fun ps z => nomatch z) na
        refine ⟨k2, g μ2 _ v ?_ (SR.lk (P := Pk P a od qs) P rfl rfl s lk2 na2 s.anc.2.2) (Rp.lk lk2 q)⟩
        have x2 := x.unl (qs := qs) (od := od) upd_same
        rw [back] at x2
        exact x2
      | exc c t2 S2 => exact g.elim
      | fail => exact g.elim
    · refine .inr ⟨_, h1, a, od, rfl, .inl ⟨qs, ha, fun D hD => ?_⟩⟩
      refine lc_core (W := W) (tt := tt) (te := te) (Q := Q) hfin sr (its_keys sr ha na l) hf hD ho ?_
      generalize lcGo fin t tt te (wipeF fr own) (keysP ys) [] S = r at g
      cases r with
      | ok pv S2 => exact g
      | exc c t2 S2 => exact g.elim
      | fail => exact g.elim
  · exact g.elim
end E2
end
section
set_option Elab.async false
set_option linter.all false
set_option maxRecDepth 100000
set_option maxHeartbeats 4000000
set_option autoImplicit false
/-! dicts with keys that are flat tuples: their values and keys in comprehensions -/
namespace E2
open PySem L2
variable {P P' : Pv}
theorem frzTV {X : Cx} {pns : List (Addr × Obj)} {σ : St} {H : Hp} {s : Shared} {d : Addr} {o : Obj} {kqs : List (List Key × V)} (I : Inv X pns σ H s) (h : H d = some (.frz o (.dT kqs))) :
    (d == sysModules) = false ∧ ∃ (es : Array DictEntry) (ep : Nat), o.data = .dict es ep ∧ es.size = kqs.length ∧ s.heap.DictRaw d es ep ∧ ∀ (i : Nat) (k : List Key) (v : V), kqs[i]? = some (k, v) → ∃ hi : i < es.size, RelV v es[i].val := by
  obtain ⟨hdk, z, hns, ws, prs, o', es, ep, ho, hx, hdy, he, _⟩ := I.hok d _ h
  rw [hdk] at ho
  cases ho
  have l1 : es.size = ws.length := size_of_entries he
  have l2 : kqs.length = ws.length := Paired.length prs
  refine ⟨hns, es, ep, hdy, by omega, ⟨_, hdk, hx, hdy⟩, fun i k v e => ?_⟩
  obtain ⟨b, hbb, e1, e2, e3⟩ := paired_get prs e
  have q := entry_at he i
  rw [hbb] at q
  obtain ⟨hi, q2⟩ := Array.getElem?_eq_some_iff.mp q
  exact ⟨hi, by rw [q2]; exact e3⟩
def Itdt (d : Addr) (o : Obj) (kqs : List (List Key × V)) : It :=
  ⟨fun i H => H d = some (.frz o (.dT kqs)) ∧ i < kqs.length, fun i H x H' => H' = H ∧ ∃ k, kqs[i]? = some (k, x), fun i H => H d = some (.frz o (.dT kqs)) ∧ kqs.length ≤ i⟩
theorem turnVT {Pr : Program} {w : World} {K : PySem.W.Frag} {tg : Expr} {d : Addr} {o : Obj} {es : Array DictEntry} {ep : Nat} {kqs : List (List Key × V)} (it : Addr) (hox : o.data = .dict es ep) : Turn Pr w K tg (Itdt d o kqs) [it] it (fun i h => h.IsValIter it d i kqs.length ep) where
  mem := by simp
  obj := fun i h stt b hbb => by
    have z : b = it := by simpa using hbb
    rw [z]
    obtain ⟨ob1, e, c, dt1⟩ := stt
    exact ⟨ob1, e, fun v z => by rw [dt1] at z; cases z⟩
  keep := fun i h h' stt k => stt.at fun ob1 e => k it (by simp) ob1 e
  item := by
    intro X hP hw hK hc i pns s σ H E I hfp stt hgo
    subst hP hw hK
    obtain ⟨hdk, hi⟩ := hgo
    obtain ⟨b0, b1, b2, b3, b4, b5⟩ := hfp it (by simp)
    obtain ⟨hns, es', ep', hdy, hsz, hr, ent⟩ := frzTV I hdk
    obtain ⟨rfl, rfl⟩ := dict_ep hox hdy
    obtain ⟨⟨k, v⟩, hkq⟩ : ∃ p, kqs[i]? = some p := ⟨kqs[i], List.getElem?_eq_getElem hi⟩
    obtain ⟨hi', ru⟩ := ent i k v hkq
    rw [← hsz] at stt
    refine wpAny_pyNext_values_item_raw stt hr hi' fun h' stt' sb => ?_
    have J1 : Inv X pns σ H { s with heap := h' } := I.turned (t' := s.toks) (fun b ob hbb e => (sb.2 b hbb).trans e) b0 b1 b3 b4 b5
    obtain ⟨ob1, e, c, dt1⟩ := id stt'
    rw [hsz] at stt'
    exact ⟨_, rfl, go_of (s := { s with heap := h' }) e c dt1 (by decide) ⟨v, H, J1, ru, ⟨rfl, k, hkq⟩, stt', fun b hbb => (hfp b hbb).1⟩⟩
  done := by
    intro X hP hw hK hc i pns s σ H E I hfp stt hgo
    subst hP hw hK
    obtain ⟨hdk, hi⟩ := hgo
    obtain ⟨b0, b1, b2, b3, b4, b5⟩ := hfp it (by simp)
    obtain ⟨hns, es', ep', hdy, hsz, hr, ent⟩ := frzTV I hdk
    obtain ⟨rfl, rfl⟩ := dict_ep hox hdy
    rw [← hsz] at stt
    exact wpAny_pyNext_values_end_raw (I.ok.hd hc) stt hr (by omega) fun h' eb => ⟨rfl, I.turned (t' := s.toks) (fun b ob hbb e => eb b ob hbb e) b0 b1 b3 b4 b5⟩
  self := fun A i s Q E stt h => wpAny_pyIter_valiter stt h
def iValsT (td : TE) : TI := fun σ H R => td σ H fun x H9 => ∃ d o kqs, x = .ref d ∧ H9 d = some (.frz o (.dT kqs)) ∧ R (Itdt d o kqs) H9
theorem pi_valsT {X : Cx} {tg e : Expr} {td : TE} {apos cps : Pos} (he : PE X e td) (hbase : attributeBase e "values" X.env (eval e X.env) = eval e X.env) (hline : (apos.endLine == cps.line) = true) : PI X tg (.Call (.Attribute e "values" apos) [] [] cps) (iValsT td) := by
  refine ⟨fun pns s σ H R I h => ?_⟩
  refine wpAny_Call_method (T := "dict") (id := "dict.values") hbase rfl hline F.plainAttrs_dict F.slot_dict_values F.type_dict_values (thn (he.run pns s σ H _ I h) fun u sN ⟨x, H9, J1, rx, d, o, kqs, ex, hdk, q⟩ => ?_)
  subst ex
  obtain rfl : u = Value.ref d := rx
  obtain ⟨hns, es, ep, hdy, hsz, hr, ent⟩ := frzTV J1 hdk
  have nd : ∀ b, Value.ref d = Value.ref b → ∃ ob, sN.heap.get? b = some ob ∧ ob.dict = none := fun b hbb => by
    cases hbb
    obtain ⟨o', z1, z2, z3⟩ := hr
    exact ⟨o', z1, z2.2.1⟩
  refine ⟨hr.typeIs, nd, ?_⟩
  have J2 : Inv X pns σ H9 { sN with heap := sN.heap.push { cls := .type "dict_values", data := .fields #[.ref d] } } := J1.kept (t' := sN.toks) fun b ob q => Heap.get?_push_of_some _ q
  have endJ : wpAny (model X.prog X.w) X.A (pyIter (.ref sN.heap.objs.size)) (PIE X pns σ tg R) X.xe { sN with heap := sN.heap.push { cls := .type "dict_values", data := .fields #[.ref d] } } := by
    refine wpAny_pyIter_values_raw (d := d) ⟨_, Heap.get?_push_size _ rfl, rfl, rfl⟩ (hr.at fun o z => Heap.get?_push_of_some _ z) (pi_one (tk := sN.toks) J2 _ (turnVT _ hdy) ⟨_, Heap.get?_push_size _ rfl, rfl, ?_⟩ q)
    rw [hsz] <;> rfl
  show wpAny _ _ (callWith cps (.builtin "dict.values") [.ref d] [] []) _ X.xe sN
  exact method_meetsIn F.slot_dict_values F.entry_dict_values rfl (PySem.evalArgs_none ⟨rfl, hr.typeIs, F.args_dict_values_1 _, _, meets_dict_values_raw d hns, ⟨es, ep, hr⟩, endJ⟩)
/-- two heaps that differ only in whether the dict at a is locked -/
structure LkT (a : Addr) (qs : List (List Key × V)) (H H' : Hp) : Prop where
  ne : ∀ b, b ≠ a → H' b = H b
  h : Rd H a (.dT qs)
  h' : Rd H' a (.dT qs)
theorem LkT.symm {a : Addr} {qs : List (List Key × V)} {H H' : Hp} (l : LkT a qs H H') : LkT a qs H' H := ⟨fun b n => (l.ne b n).symm, l.h', l.h⟩
theorem Rd.oneT {H : Hp} {a : Addr} {q1 q2 : List (List Key × V)} (h : Rd H a (.dT q1)) (h' : Rd H a (.dT q2)) : q1 = q2 := by
  rcases h with h | ⟨o, h⟩ <;> rcases h' with h' | ⟨o', h'⟩ <;> rw [h] at h' <;> cases h' <;> rfl
theorem LkT.other {a b : Addr} {qs : List (List Key × V)} {H H' : Hp} {o : HO} (l : LkT a qs H H') (e : H b = some o) (n1 : ∀ q, o ≠ .dT q) (n2 : ∀ o' q, o ≠ .frz o' (.dT q)) : H' b = some o := by
  have hb : b ≠ a := by
    rintro rfl
    rcases l.h with h | ⟨o', h⟩ <;> rw [e] at h <;> cases h
    · exact n1 _ rfl
    · exact n2 _ _ rfl
  rw [l.ne b hb]
  exact e
theorem LkT.dt {a b : Addr} {qs q : List (List Key × V)} {H H' : Hp} (l : LkT a qs H H') (r : Rd H b (.dT q)) : Rd H' b (.dT q) := by
  by_cases hb : b = a
  · subst hb
    rw [Rd.oneT r l.h]
    exact l.h'
  · unfold Rd at *
    rw [l.ne b hb]
    exact r
section
variable {B : Base} {μ : List Addr} {M : Mx} {H H' : Hp} {a : Addr} {qs : List (List Key × V)}
mutual
theorem Rp.lkT (x : LkT a qs H H') : ∀ {pv : PV} {v : V}, Rp B μ M H pv v → Rp B μ M H' pv v
  | _, _, .non => .non
  | _, _, .bl b => .bl b
  | _, _, .int i => .int i
  | _, _, .str y => .str y
  | _, _, .tup h l => .tup (h.elim (fun ⟨ob, z, d⟩ => .inl ⟨ob, x.other z (fun _ z => nomatch z) (fun _ _ z => by cases z), d⟩) .inr) (RpL.lkT x l)
  | _, _, .pr h l => .pr (x.other h (fun _ z => nomatch z) (fun _ _ z => nomatch z)) (RpL.lkT x l)
  | _, _, .lst h n l => .lst (x.other h (fun _ z => nomatch z) (fun _ _ z => nomatch z)) n (RpL.lkT x l)
  | _, _, .dT h n l => .dT (x.dt h) n (RpT.lkT x l)
  | _, _, .dK h n l => .dK (h.elim (fun q => .inl (x.other q (fun _ z => nomatch z) (fun _ _ z => nomatch z))) fun ⟨o, q⟩ => .inr ⟨o, x.other q (fun _ z => nomatch z) (fun _ _ z => by cases z)⟩) n (RpK.lkT x l)
  | _, _, .obj c h n l => .obj c (x.other h (fun _ z => nomatch z) (fun _ _ z => nomatch z)) n (RpF.lkT x l)
  | _, _, .ref h => .ref h
  | _, _, .fn h => .fn h
  | _, _, .ty n => .ty n
  | _, _, .cls h => .cls h
  | _, _, .scr h => .scr (h.elim (fun z => .inl ⟨z.1.elim (fun q => .inl (x.other q (fun _ z => nomatch z) (fun _ _ z => nomatch z))) (fun ⟨o, q⟩ => .inr ⟨o, x.other q (fun _ z => nomatch z) (fun _ _ z => by cases z)⟩), z.2⟩) .inr)
theorem RpL.lkT (x : LkT a qs H H') : ∀ {pv : List PV} {v : List V}, RpL B μ M H pv v → RpL B μ M H' pv v
  | _, _, .nil => .nil
  | _, _, .cons h t => .cons (Rp.lkT x h) (RpL.lkT x t)
theorem RpK.lkT (x : LkT a qs H H') : ∀ {pv : List (PV × PV)} {v : List (Key × V)}, RpK B μ M H pv v → RpK B μ M H' pv v
  | _, _, .nil => .nil
  | _, _, .int h t => .int (Rp.lkT x h) (RpK.lkT x t)
  | _, _, .str h t => .str (Rp.lkT x h) (RpK.lkT x t)
theorem RpT.lkT (x : LkT a qs H H') : ∀ {pv : List (List Key × PV)} {v : List (List Key × V)}, RpT B μ M H pv v → RpT B μ M H' pv v
  | _, _, .nil => .nil
  | _, _, .cons h t => .cons (Rp.lkT x h) (RpT.lkT x t)
theorem RpF.lkT (x : LkT a qs H H') : ∀ {pv : List (Str × PV)} {v : List (Str × V)}, RpF B μ M H pv v → RpF B μ M H' pv v
  | _, _, .nil => .nil
  | _, _, .cons h t => .cons (Rp.lkT x h) (RpF.lkT x t)
end
theorem FR.lkT (x : LkT a qs H H') {fr : Frame} {σ : St} (h : FR B μ M H fr σ) : FR B μ M H' fr σ :=
  ⟨h.1, fun i pv e => let ⟨v, e1, e2⟩ := h.2 i pv e; ⟨v, e1, e2.imp (fun r => r.lkT x) id⟩⟩
theorem SR.lkT {S : Store} (P' : Pv) (hz : Mz P' = Mz P) (hpp : P'.p = P.p) (sr : SR B P μ S H) (x : LkT a qs H H') (na : ¬ Mz P μ S a) (hA : P'.A μ S H') : SR B P' μ S H' := by
  refine ⟨sr.len, sr.nd, fun n m pv b h1 h2 => ?_, fun p hp => ?_, fun b hb => sr.pd b (by rw [← hpp]; exact hb), fun b hb => ?_, hA⟩
  · have c := sr.cell n m pv b h1 h2
    rw [hz]
    cases pv with
    | lst xs => obtain ⟨us, e, l⟩ := c; exact ⟨us, x.other e (fun _ z => nomatch z) (fun _ _ z => nomatch z), l.lkT x⟩
    | dtt kvs =>
      obtain ⟨us, e, l⟩ := c
      refine ⟨us, ?_, l.lkT x⟩
      by_cases hb : b = a
      · subst hb
        cases m with
        | true => exact absurd ⟨n, _, h1, h2⟩ (nMu na)
        | false => exact (x.dt e.rd).imp id fun z => ⟨rfl, z⟩
      · exact e.eq (x.ne b hb)
    | dct kvs =>
      obtain ⟨us, e, l⟩ := c
      refine ⟨us, e.eq (x.ne b fun z => ?_), l.lkT x⟩
      subst z
      rcases x.h with h | ⟨o, h⟩ <;> rcases e with e | ⟨_, o', e⟩ <;> rw [h] at e <;> cases e
    | dts ks => obtain ⟨o, nks, vs, e, n, d, l⟩ := c; exact ⟨o, nks, vs, x.other e (fun _ z => nomatch z) (fun _ _ z => nomatch z), n, d, l.lkT x⟩
    | obj c fs => obtain ⟨C, dx, gs, hc, e, l⟩ := c; exact ⟨C, dx, gs, hc, x.other e (fun _ z => nomatch z) (fun _ _ z => nomatch z), l.lkT x⟩
    | _ => exact c.elim
  · obtain ⟨ps, h1, h2, h3⟩ := sr.tabs p hp
    refine ⟨ps, x.other h1 (fun _ z => nomatch z) (fun _ _ z => nomatch z), h2, fun pos cv hc => ?_⟩
    obtain ⟨c, e1, e2⟩ := h3 pos cv hc
    refine ⟨c, e1, ?_⟩
    rw [x.ne c (fun z => by rcases x.h with h | ⟨o, h⟩ <;> rw [← z, e2] at h <;> cases h)]
    exact e2
  · rw [hpp] at hb
    have nb : b ≠ a := fun e => na (.inr (e ▸ hb))
    exact (sr.pt b hb).imp (fun ⟨vs, q⟩ => ⟨vs, (x.ne b nb).trans q⟩) fun z => z.imp (fun ⟨vs, q⟩ => ⟨vs, (x.ne b nb).trans q⟩) fun ⟨o, q, d⟩ => ⟨o, (x.ne b nb).trans q, d⟩
end
theorem Ex.unlT {μ μ' : List Addr} {S S' : Store} {H H' : Hp} {a : Addr} {od : Obj} {qs : List (List Key × V)} (x : Ex μ S H μ' S' H') (h1 : H a = some (.frz od (.dT qs))) : Ex μ S (upd H a (.dT qs)) μ' S' (upd H' a (.dT qs)) := by
  have no : ∀ b, NoO H b → NoO (upd H a (.dT qs)) b := fun b q o e => by
    by_cases hb : b = a
    · subst hb
      obtain ⟨ps, r⟩ := q _ h1
      cases r
    · rw [upd_ne hb] at e
      exact q o e
  refine ⟨x.mu, fun b o e n t => ?_, fun b z => (x.fresh b z).imp id (no b), fun b z => (x.newm b z).imp id (no b)⟩
  by_cases hb : b = a
  · subst hb
    rw [upd_same] at e ⊢
    exact e
  · rw [upd_ne hb] at e ⊢
    exact x.keep b o e n t

/-- the pins while the dict at a is locked -/
def PkT (P : Pv) (a : Addr) (od : Obj) (qs : List (List Key × V)) : Pv := ⟨P.p, P.f, fun μ S H => H a = some (.frz od (.dT qs)) ∧ ¬ Mu μ S a ∧ P.A μ S (upd H a (.dT qs)), fun h x => ⟨x.keep a _ h.1 h.2.1 (fun ps z => nomatch z), x.notM h.1 (fun ps z => nomatch z) h.2.1, P.st h.2.2 (x.unlT h.1)⟩⟩
def keysT (kvs : List (List Key × PV)) : List PV := kvs.map fun p => .pr (p.1.map pkey)
def valsT (kvs : List (List Key × PV)) : List PV := kvs.map (·.2)
theorem its_keysT {B : Base} {P : Pv} {μ : List Addr} {S : Store} {H : Hp} {a : Addr} {od : Obj} {kvs : List (List Key × PV)} {qs : List (List Key × V)} (sr : SR B P μ S H) (h : H a = some (.frz od (.dT qs))) (n : ¬ Mz P μ S a) (l : RpT B μ (Mz P μ S) H kvs qs) : ItS B P (Itkt a od qs) (keysT kvs) μ S H := by
  have at_ : ∀ μ2 S2 H2, Ex μ S (hid P.p H) μ2 S2 H2 → H2 a = some (.frz od (.dT qs)) := fun μ2 S2 H2 ex => ex.keep a _ (hidK h n) (nMu n) (fun ps z => nomatch z)
  have ll : (keysT kvs).length = qs.length := by unfold keysT; rw [List.length_map, l.length]
  refine ⟨fun P' μ2 S2 H2 i ex sr2 hi => ⟨at_ _ _ _ ex, by rw [← ll]; exact hi⟩, fun P' μ2 S2 H2 i x H3 hp ex sr2 hi0 y => ?_, fun P' μ2 S2 H2 i ex sr2 hi => ⟨at_ _ _ _ ex, by rw [← ll]; exact hi⟩⟩
  obtain ⟨e, k, v, q, y1, ex1, hq⟩ := y
  subst e
  subst ex1
  have hk : (keysT kvs)[i]? = some (.pr (k.map pkey)) := by
    have f := congrArg (fun z => z[i]?) l.firsts
    simp only [List.getElem?_map, y1, Option.map_some] at f
    unfold keysT
    rw [List.getElem?_map]
    cases z : kvs[i]? with
    | none => rw [z] at f; cases f
    | some p => rw [z] at f; simp only [Option.map_some, Option.some.injEq] at f; simp [f]
  exact ⟨_, hk, .refl, sr2, .pr hq (RpL.keys k), fun _ _ z => z⟩
theorem its_valsT {B : Base} {P : Pv} {μ : List Addr} {S : Store} {H : Hp} {a : Addr} {od : Obj} {kvs : List (List Key × PV)} {qs : List (List Key × V)} (sr : SR B P μ S H) (h : H a = some (.frz od (.dT qs))) (n : ¬ Mz P μ S a) (l : RpT B μ (Mz P μ S) H kvs qs) : ItS B P (Itdt a od qs) (valsT kvs) μ S H := by
  have at_ : ∀ μ2 S2 H2, Ex μ S (hid P.p H) μ2 S2 H2 → H2 a = some (.frz od (.dT qs)) := fun μ2 S2 H2 ex => ex.keep a _ (hidK h n) (nMu n) (fun ps z => nomatch z)
  have ll : (valsT kvs).length = qs.length := by unfold valsT; rw [List.length_map, l.length]
  refine ⟨fun P' μ2 S2 H2 i ex sr2 hi => ⟨at_ _ _ _ ex, by rw [← ll]; exact hi⟩, fun P' μ2 S2 H2 i x H3 hp ex sr2 hi0 y => ?_, fun P' μ2 S2 H2 i ex sr2 hi => ⟨at_ _ _ _ ex, by rw [← ll]; exact hi⟩⟩
  obtain ⟨e, k, y1⟩ := y
  subst e
  obtain ⟨w, h1, h2⟩ := ((l.vals.hid sr).monoP sr.hid ex (hidP hp)).get (i := i) (x := (valsT kvs)[i]) (List.getElem?_eq_getElem hi0)
  rw [List.getElem?_map, y1] at h1
  cases h1
  exact ⟨(valsT kvs)[i], List.getElem?_eq_getElem hi0, .refl, sr2, h2, fun _ _ z => z⟩
/-- the dict that a name has; from now on it is no longer changed -/
def dttAt (i : Nat) (fr : Frame) (S : Store) : Option (List (List Key × PV) × Store) := match fr[i]? with
  | some (some (.dtt ys)) => some (ys, S)
  | some (some (.ref n)) => (match S[n]? with
    | some (_, .dtt ys) => some (ys, S.set n (false, .dtt ys))
    | _ => none)
  | _ => none
theorem dttAt_ok {B : Base} {μ : List Addr} {S S1 : Store} {H : Hp} {fr : Frame} {σ : St} {i : Nat} {ys : List (List Key × PV)} (hf : FR B μ (Mz P μ S) H fr σ) (sr : SR B P μ S H) (e : dttAt i fr S = some (ys, S1)) : ∃ a qs, σ[i]? = some (some (.ref a)) ∧ Ex μ S H μ S1 H ∧ SR B P μ S1 H ∧ Rd H a (.dT qs) ∧ ¬ Mz P μ S1 a ∧ RpT B μ (Mz P μ S1) H ys qs := by
  unfold dttAt at e
  split at e
  · rename_i zs q
    cases e
    obtain ⟨v, h1, h2⟩ := hf.get q (fun z => nomatch z)
    cases h2 with
    | dT h n l => exact ⟨_, _, h1, .refl, sr, h, n, l⟩
  · rename_i n q
    split at e
    · rename_i m zs q2
      cases e
      obtain ⟨v, h1, h2⟩ := hf.get q (fun z => nomatch z)
      cases h2 with
      | @ref _ a h =>
        obtain ⟨ex, sr', r⟩ := freeze_ok sr q2 h (fun _ z => nomatch z)
        cases r with
        | dT h n l => exact ⟨_, _, h1, ex, sr', h, n, l⟩
    · cases e
  · cases e
/-- [elt for t in d if ..], d a name; or over d.values() -/
def dLcT (items : List (List Key × PV) → List PV) (fin : List PV → Store → Res PV) (i : Nat) (t : Tgt) (tt : DT) (te : DE) (own : List Nat) : DE := fun fr S => match dttAt i fr S with
  | some (ys, S1) => (lcGo fin t tt te (wipeF fr own) (items ys) [] S1).noX
  | none => .fail
theorem tLcT_of {B : Base} {W : WX} {fin : List PV → Store → Res PV} (hfin : FinOk B fin) {items : List (List Key × PV) → List PV} {i : Nat} {t : Tgt} {tt : DT} {te : DE} {own : List Nat} (ho : ∀ i ∈ t.slots, i ∈ own) {J : Addr → Obj → List (List Key × V) → It} {ti : TI}
    (hti : ∀ (σ : St) (H : Hp) (R : It → Hp → Prop) (a : Addr) (od : Obj) (qs : List (List Key × V)), σ[i]? = some (some (.ref a)) → H a = some (.frz od (.dT qs)) → R (J a od qs) H → ti σ H R)
    (hits : ∀ {P : Pv} {μ : List Addr} {S : Store} {H : Hp} {a : Addr} {od : Obj} {kvs : List (List Key × PV)} {qs : List (List Key × V)}, SR B P μ S H → H a = some (.frz od (.dT qs)) → ¬ Mz P μ S a → RpT B μ (Mz P μ S) H kvs qs → ItS B P (J a od qs) (items kvs) μ S H) : ∀ σ H Q, tE B P W (dLcT items fin i t tt te own) σ H Q →
    tLockE (tLc ti (gOf B.K t) (tTx B W0 tt) (tEx B W0 te) own) σ H Q ∨ tLc ti (gOf B.K t) (tTx B W0 tt) (tEx B W0 te) own σ H Q := by
  rintro σ H Q ⟨fr, μ, S0, hf, sr, g⟩
  unfold dLcT at g
  split at g
  · rename_i ys S e
    obtain ⟨a, qs, h1, ex0, sr0, rd, na, l⟩ := dttAt_ok hf sr e
    replace hf := hf.mono sr ex0
    replace g := g.after ex0
    clear e
    clear ex0
    clear sr
    have sr := sr0
    rcases rd with ha | ⟨od, ha⟩
    · refine .inl ⟨a, .dT qs, ha, trivial, fun od => ?_⟩
      have lk : LkT a qs H (upd H a (.frz od (.dT qs))) := ⟨fun b n => upd_ne n, .inl ha, .inr ⟨od, upd_same⟩⟩
      have back : upd (upd H a (.frz od (.dT qs))) a (.dT qs) = H := by
        funext b
        by_cases hb : b = a
        · subst hb; rw [upd_same, ha]
        · rw [upd_ne hb, upd_ne hb]
      have sr1 : SR B (PkT P a od qs) μ S (upd H a (.frz od (.dT qs))) := SR.lkT (P := P) (PkT P a od qs) rfl rfl sr lk na ⟨upd_same, nMu na, by rw [back]; exact sr.anc⟩
      refine hti _ _ _ a od qs h1 upd_same fun D hD => ?_
      refine lc_core (P := PkT P a od qs) (W := W) (tt := tt) (te := te) (Q := fun v H' => H' a = some (.frz od (.dT qs)) ∧ Q v (upd H' a (.dT qs))) hfin sr1 (hits sr1 upd_same na (l.lkT lk)) (hf.lkT lk) hD ho ?_
      generalize lcGo fin t tt te (wipeF fr own) (items ys) [] S = r at g
      cases r with
      | ok pv S2 =>
        intro μ2 H2 v x s q
        have k2 : H2 a = some (.frz od (.dT qs)) := s.anc.1
        have lk2 : LkT a qs H2 (upd H2 a (.dT qs)) := ⟨fun b n => upd_ne n, .inr ⟨od, k2⟩, .inl upd_same⟩
        have na2 : ¬ Mz (PkT P a od qs) μ2 S2 a := x.notZ (P := PkT P a od qs) (fun _ => .inl) upd_same (fun ps z => nomatch z) na
        refine ⟨k2, g μ2 _ v ?_ (SR.lkT (P := PkT P a od qs) P rfl rfl s lk2 na2 s.anc.2.2) (Rp.lkT lk2 q)⟩
        have x2 := x.unlT (qs := qs) (od := od) upd_same
        rw [back] at x2
        exact x2
      | exc c t2 S2 => exact g.elim
      | fail => exact g.elim
    · refine .inr (hti _ _ _ a od qs h1 ha fun D hD => ?_)
      refine lc_core (W := W) (tt := tt) (te := te) (Q := Q) hfin sr (hits sr ha na l) hf hD ho ?_
      generalize lcGo fin t tt te (wipeF fr own) (items ys) [] S = r at g
      cases r with
      | ok pv S2 => exact g
      | exc c t2 S2 => exact g.elim
      | fail => exact g.elim
  · exact g.elim
theorem tLcTk_of {B : Base} {W : WX} {fin : List PV → Store → Res PV} (hfin : FinOk B fin) {i : Nat} {t : Tgt} {tt : DT} {te : DE} {own : List Nat} (ho : ∀ i ∈ t.slots, i ∈ own) : ∀ σ H Q, tE B P W (dLcT keysT fin i t tt te own) σ H Q →
    tLockE (tLc (iKeys (tVar i)) (gOf B.K t) (tTx B W0 tt) (tEx B W0 te) own) σ H Q ∨ tLc (iKeys (tVar i)) (gOf B.K t) (tTx B W0 tt) (tEx B W0 te) own σ H Q :=
  tLcT_of hfin ho (J := Itkt) (fun σ H R a od qs h1 h2 h3 => ⟨_, h1, a, od, rfl, .inr ⟨qs, h2, h3⟩⟩) its_keysT
theorem tLcTv_of {B : Base} {W : WX} {fin : List PV → Store → Res PV} (hfin : FinOk B fin) {i : Nat} {t : Tgt} {tt : DT} {te : DE} {own : List Nat} (ho : ∀ i ∈ t.slots, i ∈ own) : ∀ σ H Q, tE B P W (dLcT valsT fin i t tt te own) σ H Q →
    tLockE (tLc (iValsT (tVar i)) (gOf B.K t) (tTx B W0 tt) (tEx B W0 te) own) σ H Q ∨ tLc (iValsT (tVar i)) (gOf B.K t) (tTx B W0 tt) (tEx B W0 te) own σ H Q :=
  tLcT_of hfin ho (J := Itdt) (fun σ H R a od qs h1 h2 h3 => ⟨_, h1, a, od, qs, rfl, h2, h3⟩) its_valsT
end E2
end
section
set_option Elab.async false
set_option linter.all false
set_option maxRecDepth 100000
set_option maxHeartbeats 4000000
set_option autoImplicit false
/-! {k: True for t in items if ..}: keys nested tuples of ints; the dict is kept as a cell -/
namespace E2
open PySem PySem.Spec PyProof.Rows L2
section
variable {X : Cx}
def tDcN (K : PySem.W.Frag) (wi : TI) (g : TG) (tt : TT) (tk tv : TE) (vs : List Nat) : TE := fun σ H Q => wi σ H fun J H1 => ∀ D, H1 D = none → ∀ ob, DtO D ob [] [] → ∃ W : Nat → Nat → Hp → Prop, (∃ m, W 0 m (upd H1 D (IsO D ob))) ∧ ∀ i m H, W i m H →
  (J.stop i H ∧ Q (.ref D) H) ∨ (J.go i H ∧ ∃ Nx : Hp → Prop, (∀ H', Nx H' → ∃ mq, mq < m ∧ W (i + 1) mq H') ∧ ∀ x H', J.yld i H x H' → g x (wipe σ vs) H' fun σ2 H2 => wipe σ2 vs = wipe σ vs ∧ tt σ2 H2 fun b H3 =>
    if b = true then tk σ2 H3 fun y H4 => tv σ2 H4 fun z H5 => ∃ b, y = .ref b ∧ z = .bl true ∧ rNPut K H5 D b Nx else Nx H3)
theorem dcN_core {pins : List (Addr × Obj)} {s : Shared} {σ : L2.St} {H : Hp} {Q : VK} {kx vx tg iter : Expr} {ifs : List Expr} {scope : Scope} {own : List (Str × Nat)} {pos posq : Pos} {wi : TI} {g : TG} {tt : TT} {tk tv : TE} {use : Option (Value → Sem Unit)} {Qf : Value → Shared → Prop}
    (hu : X.A.units + 9 < cLine) (hc : X.calm = true) (hN : X.N.Nodup) (I : L2.Inv X pins σ H s) (hi : PI X tg iter wi) (ok : BlkOk X.N X.env.scope scope own)
    (hgx : ∀ (s : Shared) (H : Hp) (C : Addr) (cl : List (Str × Addr)) (wp : List Addr), PG (X.blk s H scope (compEnvC scope cl C X.env) wp) tg g) (htx : ∀ (s : Shared) (H : Hp) (C : Addr) (cl : List (Str × Addr)) (wp : List Addr), PTs (X.blk s H scope (compEnvC scope cl C X.env) wp) ifs tt)
    (hkx : ∀ (s : Shared) (H : Hp) (C : Addr) (cl : List (Str × Addr)) (wp : List Addr), PE (X.blk s H scope (compEnvC scope cl C X.env) wp) kx tk)
    (hvx : ∀ (s : Shared) (H : Hp) (C : Addr) (cl : List (Str × Addr)) (wp : List Addr), PE (X.blk s H scope (compEnvC scope cl C X.env) wp) vx tv) (hs : ∀ x, foldedSetIterable iter X.env x = pure x)
    (h : tDcN X.K wi g tt tk tv (own.map (·.2)) σ H Q)
    (hRR : ∀ D C s' m H', L2.Inv X pins σ H' s' → Q (.ref D) H' → s'.heap.Ns C m → FpOk X pins H' C → compPost (model X.prog X.w) X.A X.xe use Qf (.ref D) C (.ok .next) s') :
    wpAny (model X.prog X.w) X.A (comprehension (.DictComp kx vx [⟨tg, iter, ifs, 0⟩] scope pos) scope X.env posq newDict false (eval iter X.env) use) Qf X.xe s := by
  have hfr : ∀ y ∈ scope.names, y.2 = .free → ∃ c, X.env.cells.lookup y.1 = some c := fun y hy e => by
    rcases ok.free y hy e with kk | kk
    · exact I.ok.has _ (.inl kk)
    · exact I.ok.has _ (.inr kk)
  refine wpAny_comprehension_free (use := use) rfl hs (closure_ok hfr) ok.kind (fun y hy e => by rw [ok.uniq y hy, e])
    (thn (hi.run pins s σ H _ I h) fun xv t1 hx => thn hx fun itv t2 k2 => ?_)
  obtain ⟨it, wp, tn, J, G2, e, J2, T, sg2, f2, q⟩ := k2
  subst e
  refine wpAny_newObj_type ( newEnv_comp ?_)
  generalize hD : t2.heap.objs.size = D
  have hDn : G2 D = none := J2.hok.fresh (Nat.le_of_eq hD)
  have dN : DtO D { cls := .type "dict", data := .dict #[] } [] [] := ⟨by rw [← hD]; exact beq_eq_false_iff_ne.mpr (Ne.symm (Nat.ne_of_lt J2.big)), Nat.zero_le _, ⟨rfl, rfl, rfl⟩, fun _ h => (by cases h), List.nodup_nil, #[], 0, [], rfl, rfl, rfl, fun _ => rfl⟩
  obtain ⟨W, ⟨m0, w0⟩, trn⟩ := q D hDn _ dN
  -- the new list
  generalize es3 : ({ t2 with heap := t2.heap.push { cls := .type "dict", data := .dict #[] } } : Shared) = t3
  have J3 : L2.Inv X pins σ (upd G2 D (IsO D { cls := .type "dict", data := .dict #[] })) t3 := by
    rw [← es3]
    refine J2.laid (t' := t2.toks) (fun b o e => Heap.get?_push_of_some _ e) (Nat.le_of_eq hD) ?_
    rw [← hD]
    exact isO_ok (Heap.get?_push_size _ rfl)
  have k3 : t3.heap = t2.heap.push { cls := .type "dict", data := .dict #[] } := by rw [← es3]
  have sz : ∀ b ∈ wp, b < t2.heap.objs.size := fun b hb => by
    obtain ⟨o, e, _⟩ := T.obj _ _ sg2 b hb
    exact Heap.lt_size e
  have f3 : ∀ b ∈ wp, FpOk X pins (upd G2 D (IsO D { cls := .type "dict", data := .dict #[] })) b ∧ b < t3.heap.objs.size := fun b hb => by
    have hlt := sz b hb
    refine ⟨⟨?_, (f2 b hb).2⟩, by rw [k3, Heap.size_push]; exact Nat.lt_succ_of_lt hlt⟩
    rw [upd_ne (by rw [← hD]; exact Nat.ne_of_lt hlt)]
    exact (f2 b hb).1
  have sg3 : tn 0 t3.heap := T.keep _ _ _ sg2 fun b _ o e => by rw [k3]; exact Heap.get?_push_of_some _ e
  have J4 := block_start J3 ok hN f3
  have ug := hgx t3 (upd G2 D (IsO D { cls := .type "dict", data := .dict #[] })) t3.heap.objs.size (cellsFrom (t3.heap.objs.size + 1) scope.names (cloFrom X.env.cells scope.names [])) wp
  have ut := htx t3 (upd G2 D (IsO D { cls := .type "dict", data := .dict #[] })) t3.heap.objs.size (cellsFrom (t3.heap.objs.size + 1) scope.names (cloFrom X.env.cells scope.names [])) wp
  have uk := hkx t3 (upd G2 D (IsO D { cls := .type "dict", data := .dict #[] })) t3.heap.objs.size (cellsFrom (t3.heap.objs.size + 1) scope.names (cloFrom X.env.cells scope.names [])) wp
  have ue := hvx t3 (upd G2 D (IsO D { cls := .type "dict", data := .dict #[] })) t3.heap.objs.size (cellsFrom (t3.heap.objs.size + 1) scope.names (cloFrom X.env.cells scope.names [])) wp
  show codeAny _ _ (.compStart (.DictComp kx vx [⟨tg, iter, ifs, 0⟩] scope pos) 0 (.ref it) (.ref D) (compEnvC scope (cellsFrom (t3.heap.objs.size + 1) scope.names (cloFrom X.env.cells scope.names [])) t3.heap.objs.size X.env)) (compPost (model X.prog X.w) X.A X.xe use Qf (.ref D) t3.heap.objs.size) { t3 with heap := pushCells (t3.heap.push { cls := .type "dict", data := .dict #[] }) scope.names }
  have nwp : ∀ b ∈ wp, (upd G2 D (IsO D { cls := .type "dict", data := .dict #[] })) b = none := fun b hb => (f3 b hb).1.1
  generalize hce : compEnvC scope (cellsFrom (t3.heap.objs.size + 1) scope.names (cloFrom X.env.cells scope.names [])) t3.heap.objs.size X.env = cv at J4 ug ut uk ue ⊢
  have cL : cv.locals = t3.heap.objs.size := by subst hce; rfl
  generalize hH3 : upd G2 D (IsO D { cls := .type "dict", data := .dict #[] }) = G3 at J3 J4 ug ut uk ue w0 nwp f3
  generalize es4 : ({ t3 with heap := pushCells (t3.heap.push { cls := .type "dict", data := .dict #[] }) scope.names } : Shared) = t4 at J4 ⊢
  have sg4 : tn 0 t4.heap := T.keep _ _ _ sg3 fun b _ o e => by rw [← es4]; exact pushCells_keeps _ _ _ _ (Heap.get?_push_of_some _ e)
  have sta : ∀ {σ' : L2.St} {H' : Hp} {s' : Shared}, L2.Inv (X.blk t3 G3 scope cv wp) [] σ' H' s' → (∀ b ∈ wp, H' b = none) → ∀ b ∈ wp, FpOk (X.blk t3 G3 scope cv wp) [] H' b := fun {σ' H' s'} Iq hn b hb =>
    ⟨hn b hb, (Iq.ok.exf b hb).1, Iq.ok.exfs b hb, .inl hb, fun x c e => (Iq.ok.exf b hb).2 x c e, fun p hp => absurd (show p ∈ ([] : List (Addr × Obj)) ++ [] from hp) (by simp)⟩
  have lup : codeAny (model X.prog X.w) X.A (.compLoop (.DictComp kx vx [⟨tg, iter, ifs, 0⟩] scope pos) 0 (.ref it) (.ref D) cv) (compPost (model X.prog X.w) X.A X.xe use Qf (.ref D) t3.heap.objs.size) t4 := by
    refine compLoop_anyD (fun n s' => ∃ i H', L2.Inv (X.blk t3 G3 scope cv wp) [] (wipe σ (own.map (·.2))) H' s' ∧ tn i s'.heap ∧ (∀ b ∈ wp, H' b = none) ∧ W i n H') ?_ m0 ⟨0, G3, J4, sg4, nwp, w0⟩
    rintro n t5 ⟨i, G5, J5, sg5, n5, w5⟩
    rcases trn i n G5 w5 with ⟨stop, qq⟩ | ⟨go, Nx, hNx, step⟩
    · have td := T.done (X.blk t3 G3 scope cv wp) rfl rfl rfl hc i [] t5 _ G5 (fun _ _ => False) J5 (sta J5 n5) sg5 stop
      refine thnF td fun r t6 ⟨hr, J6⟩ => ?_
      subst hr
      -- back in the def's context
      have J7 : L2.Inv X pins σ G5 t6 := J3.call' (ch := wp) J6.os J6.base J6.hok J6.bare fun b hb => ⟨(f3 b hb).1.2.2.2.1, (f3 b hb).1.2.1, (f3 b hb).1.2.2.2.2.1, (f3 b hb).1.2.2.2.2.2⟩
      have nC : G5 t3.heap.objs.size = none := by
        have z : G5 cv.locals = none := J6.free
        rw [cL] at z
        exact z
      obtain ⟨m, hn, _⟩ := J6.loc
      have hn : t6.heap.Ns cv.locals m := hn
      rw [cL] at hn
      exact hRR D t3.heap.objs.size t6 m G5 J7 qq hn (J3.fpOk (Nat.le_refl _) nC)
    · have ti := T.item (X.blk t3 G3 scope cv wp) rfl rfl rfl hc i [] t5 _ G5 (fun _ _ => False) J5 (sta J5 n5) sg5 go
      refine thnF ti fun r t6 ⟨u, hr, k6⟩ => ?_
      subst hr
      refine thnF k6 fun _ t7 ⟨x, G7, J7, r7, y7, sg7, n7⟩ => ?_
      have J7' := J7.pinned (sta J7 n7) (T.obj _ _ sg7)
      refine thnF (ug.run _ t7 _ G7 x u _ J7' r7 (step x G7 y7)) fun _ t8 ⟨τ8, G8, J8, hw8, q8⟩ => ?_
      refine thnF (ut.run _ t8 τ8 G8 _ J8 q8) fun b t9 ⟨G9, J9, q9⟩ => ?_
      -- the trn's end
      have fn : ∀ {s' : Shared} {H' : Hp}, L2.Inv (X.blk t3 G3 scope cv wp) ([] ++ pinsAt wp t7.heap) τ8 H' s' → Nx H' → ∃ m, m < n ∧ ∃ i H', L2.Inv (X.blk t3 G3 scope cv wp) [] (wipe σ (own.map (·.2))) H' s' ∧ tn i s'.heap ∧ (∀ b ∈ wp, H' b = none) ∧ W i m H' := fun {s' H'} Iq nx => by
        obtain ⟨mq, hm, w'⟩ := hNx H' nx
        have pin' : ∀ b ∈ wp, ∀ o, t7.heap.get? b = some o → s'.heap.get? b = some o ∧ H' b = none := fun b hb o e =>
          let z := Iq.pin (b, o) (List.mem_append_right _ (List.mem_append_right _ (mem_pinsAt hb e)))
          ⟨z.1, z.2.1⟩
        have hl : (wipe σ (own.map (·.2))).length = τ8.length := by rw [← hw8, wipe_length]
        refine ⟨mq, hm, i + 1, H', (Iq.unpinned (pins := [])).weak hl (fun j v e => ?_), T.keep _ _ _ sg7 fun b hb o e => (pin' b hb o e).1, fun b hb => ?_, w'⟩
        · rw [← hw8] at e
          exact (wipe_some e).1
        · obtain ⟨o, e, _⟩ := T.obj _ _ sg7 b hb
          exact (pin' b hb o e).2
      cases b with
      | false =>
        simp only [Bool.false_eq_true, if_false] at q9 ⊢
        exact fn J9 q9
      | true =>
        simp only [if_true] at q9 ⊢
        refine thnF (uk.run _ t9 τ8 G9 _ J9 q9) fun z t10 ⟨yk, G10, J10, r10, q10⟩ => ?_
        refine thnF (ue.run _ t10 τ8 G10 _ J10 q10) fun z2 t11 ⟨yv, G11, J11, r11, bb, ek, ez, nx⟩ => ?_
        subst ek ez
        cases r10
        cases r11
        refine thnF (dset_nest (X := X.blk t3 G3 scope cv wp) hu J11 nx) fun _ t12 ⟨G12, J12, nx⟩ => fn J12 nx
  exact codeAny_compStart_dict lup (T.self X.A 0 _ _ _ sg4 lup)
theorem pe_dcN {kx vx tg iter : Expr} {ifs : List Expr} {scope : Scope} {own : List (Str × Nat)} {pos : Pos} {wi : TI} {g : TG} {tt : TT} {tk tv : TE} (hu : X.A.units + 9 < cLine) (hc : X.calm = true) (hN : X.N.Nodup) (hi : PI X tg iter wi) (ok : BlkOk X.N X.env.scope scope own)
    (hgx : ∀ (s : Shared) (H : Hp) (C : Addr) (cl : List (Str × Addr)) (wp : List Addr), PG (X.blk s H scope (compEnvC scope cl C X.env) wp) tg g) (htx : ∀ (s : Shared) (H : Hp) (C : Addr) (cl : List (Str × Addr)) (wp : List Addr), PTs (X.blk s H scope (compEnvC scope cl C X.env) wp) ifs tt)
    (hkx : ∀ (s : Shared) (H : Hp) (C : Addr) (cl : List (Str × Addr)) (wp : List Addr), PE (X.blk s H scope (compEnvC scope cl C X.env) wp) kx tk)
    (hvx : ∀ (s : Shared) (H : Hp) (C : Addr) (cl : List (Str × Addr)) (wp : List Addr), PE (X.blk s H scope (compEnvC scope cl C X.env) wp) vx tv) (hs : ∀ x, foldedSetIterable iter X.env x = pure x := by intro _; rfl) :
    PE X (.DictComp kx vx [⟨tg, iter, ifs, 0⟩] scope pos) (tDcN X.K wi g tt tk tv (own.map (·.2))) := by
  refine ⟨fun pins s σ H Q I h => ?_⟩
  rw [arm_eval_DictComp]
  refine dcN_core hu hc hN I hi ok hgx htx hkx hvx hs h fun D C s' m H' I' q hn f => ⟨m, hn, fun h'' sb => ?_⟩
  obtain ⟨v0, v1, v2, v3, v4, v5⟩ := f
  exact ⟨.ref D, H', I'.turned (t' := s'.toks) (fun b o hb e => (sb.2 b hb).trans e) v0 v1 v3 v4 v5, rfl, q⟩
end
end E2
end
section
set_option Elab.async false
set_option linter.all false
set_option maxRecDepth 100000
set_option maxHeartbeats 4000000
set_option autoImplicit false
namespace E2
open PySem L2
variable {P P' : Pv}

/-! ### statements -/
inductive RS where
  | nx (fr : Frame) (S : Store)
  | rt (pv : PV) (S : Store)
  | bk (fr : Frame) (S : Store)
  | ct (fr : Frame) (S : Store)
  | exc (c : Nat) (told : PV) (fr : Frame) (S : Store)
  | fail
abbrev DS := Frame → Store → RS
def GoS (B : Base) (P : Pv) (W : WX) (r : RS) (μ : List Addr) (S : Store) (H : Hp) (D : Ends) : Prop :=
  match r with
  | .nx fr S' => ∀ μ' H' σ', Ex μ S H μ' S' H' → SR B P μ' S' H' → FR B μ' (Mz P μ' S') H' fr σ' → D.nx σ' H'
  | .rt pv S' => ∀ μ' H' v, Ex μ S H μ' S' H' → SR B P μ' S' H' → Rp B μ' (Mz P μ' S') H' pv v → D.rt v H'
  | .bk fr S' => ∀ μ' H' σ', Ex μ S H μ' S' H' → SR B P μ' S' H' → FR B μ' (Mz P μ' S') H' fr σ' → D.bk σ' H'
  | .ct fr S' => ∀ μ' H' σ', Ex μ S H μ' S' H' → SR B P μ' S' H' → FR B μ' (Mz P μ' S') H' fr σ' → D.ct σ' H'
  | .exc c told fr S' => ∀ μ' H' σ' C dx v, Ex μ S H μ' S' H' → SR B P μ' S' H' → FR B μ' (Mz P μ' S') H' fr σ' → B.ec c = some C → H' dx = some (.xd [(B.ea c, v)]) → Rp B μ' (Mz P μ' S') H' told v → W (.ref C) (some dx) σ' H'
  | .fail => False
def tS (B : Base) (P : Pv) (W : WX) (d : DS) : TS := fun D σ H => ∃ (fr : Frame) (μ : List Addr) (S : Store), FR B μ (Mz P μ S) H fr σ ∧ SR B P μ S H ∧ GoS B P W (d fr S) μ S H D
theorem PS.imp {X : Cx} {e : Stmt} {t t' : TS} (h : PS X e t) (i : ∀ D σ H, t' D σ H → t D σ H) : PS X e t' := ⟨fun pins s σ H D I q => h.run pins s σ H D I (i D σ H q)⟩
theorem PSs.imp {X : Cx} {e : List Stmt} {t t' : TS} (h : PSs X e t) (i : ∀ D σ H, t' D σ H → t D σ H) : PSs X e t' := ⟨fun pins s σ H D I q => h.run pins s σ H D I (i D σ H q)⟩
section
variable {B : Base} {W : WX} {μ μ' : List Addr} {S S' : Store} {H H' : Hp}
theorem GoS.after {r : RS} {D : Ends} (x : Ex μ S H μ' S' H') (g : GoS B P W r μ S H D) : GoS B P W r μ' S' H' D := by
  cases r with
  | nx fr S' => exact fun μ2 H2 σ2 x2 s f => g μ2 H2 σ2 (x.trans (B := B) x2) s f
  | rt v S' => exact fun μ2 H2 σ2 x2 s f => g μ2 H2 σ2 (x.trans (B := B) x2) s f
  | bk fr S' => exact fun μ2 H2 σ2 x2 s f => g μ2 H2 σ2 (x.trans (B := B) x2) s f
  | ct fr S' => exact fun μ2 H2 σ2 x2 s f => g μ2 H2 σ2 (x.trans (B := B) x2) s f
  | exc c t fr S' => exact fun μ2 H2 σ2 C dx v x2 s f => g μ2 H2 σ2 C dx v (x.trans (B := B) x2) s f
  | fail => exact g
def liftE {α : Type} (r : Res α) (fr : Frame) (k : α → Store → RS) : RS := match r with
  | .ok a S => k a S
  | .exc c t S => .exc c t fr S
  | .fail => .fail
theorem GoS.lift {α β : Type} {Rel : List Addr → Mx → Hp → α → β → Prop} {r : Res α} {fr : Frame} {k : α → Store → RS} {D : Ends} {σ : St} (g : GoS B P W (liftE r fr k) μ S H D) (sr : SR B P μ S H) (hf : FR B μ (Mz P μ S) H fr σ) :
    Go B P Rel W σ r μ S H (fun b H1 => ∃ μ1 S1 a, Ex μ S H μ1 S1 H1 ∧ SR B P μ1 S1 H1 ∧ Rel μ1 (Mz P μ1 S1) H1 a b ∧ FR B μ1 (Mz P μ1 S1) H1 fr σ ∧ GoS B P W (k a S1) μ1 S1 H1 D) := by
  cases r with
  | ok a S1 => exact fun μ1 H1 b x s q => ⟨μ1, S1, a, x, s, q, hf.mono sr x, g.after x⟩
  | exc c t S1 => exact fun μ1 H1 C dx v x s e1 e2 e3 => g μ1 H1 σ C dx v x s (hf.mono sr x) e1 e2 e3
  | fail => exact g
end
def dNext : DS := fun fr S => .nx fr S
def dSeq (a b : DS) : DS := fun fr S => match a fr S with
  | .nx fr' S' => b fr' S'
  | r => r
def dDrop (a : DE) : DS := fun fr S => liftE (a fr S) fr fun _ S1 => .nx fr S1
def dRet (a : DE) : DS := fun fr S => liftE (a fr S) fr fun x S1 => .rt x S1
def dRetN : DS := fun fr S => .rt .non S
def dBreak : DS := fun fr S => .bk fr S
def dCont : DS := fun fr S => .ct fr S
def dIf (c : DT) (a b : DS) : DS := fun fr S => liftE (c fr S) fr fun k S1 => if k = true then a fr S1 else b fr S1
def dAsg (t : Tgt) (a : DE) : DS := fun fr S => liftE (a fr S) fr fun x S1 => match bindG S1 t x fr with
  | some fr' => .nx fr' S1
  | none => .fail
def dPar (is : List Nat) (a : DA) : DS := fun fr S => liftE (a fr S) fr fun xs S1 => if xs.length = is.length then .nx (setAll is xs fr) S1 else .fail
def forGo (t : Tgt) (body : DS) : List PV → Frame → Store → RS
  | [], fr, S => .nx fr S
  | x :: r, fr, S => (match bindG S t x fr with
    | some fr2 => (match body fr2 S with
      | .nx fr3 S3 => forGo t body r fr3 S3
      | .ct fr3 S3 => forGo t body r fr3 S3
      | .bk fr3 S3 => .nx fr3 S3
      | r => r)
    | none => .fail)
def dFor (i : DI) (t : Tgt) (body : DS) : DS := fun fr S => liftE (i fr S) fr fun items S1 => forGo t body items fr S1
def whileGo (c : DT) (body : DS) : Nat → Frame → Store → RS
  | 0, _, _ => .fail
  | n + 1, fr, S => liftE (c fr S) fr fun k S1 => if k = true then (match body fr S1 with
      | .nx fr3 S3 => whileGo c body n fr3 S3
      | .ct fr3 S3 => whileGo c body n fr3 S3
      | .bk fr3 S3 => .nx fr3 S3
      | r => r) else .nx fr S1
section
variable {B : Base} {W : WX}
theorem tNext_of : ∀ D σ H, tS B P W dNext D σ H → tNext D σ H := by
  rintro D σ H ⟨fr, μ, S, hf, sr, g⟩
  exact g μ H σ .refl sr hf
theorem tBreak_of : ∀ D σ H, tS B P W dBreak D σ H → tBreak D σ H := by
  rintro D σ H ⟨fr, μ, S, hf, sr, g⟩
  exact g μ H σ .refl sr hf
theorem tCont_of : ∀ D σ H, tS B P W dCont D σ H → tCont D σ H := by
  rintro D σ H ⟨fr, μ, S, hf, sr, g⟩
  exact g μ H σ .refl sr hf
theorem tRetN_of : ∀ D σ H, tS B P W dRetN D σ H → tRetN D σ H := by
  rintro D σ H ⟨fr, μ, S, hf, sr, g⟩
  exact g μ H .non .refl sr .non
theorem tSeq_of {a b : DS} : ∀ D σ H, tS B P W (dSeq a b) D σ H → tSeq (tS B P W a) (tS B P W b) D σ H := by
  rintro D σ H ⟨fr, μ, S, hf, sr, g⟩
  refine ⟨fr, μ, S, hf, sr, ?_⟩
  unfold dSeq at g
  cases q : a fr S with
  | nx fr' S' => rw [q] at g; exact fun μ' H' σ' x s f => ⟨fr', μ', S', f, s, GoS.after x g⟩
  | rt v S' => rw [q] at g; exact g
  | bk fr' S' => rw [q] at g; exact g
  | ct fr' S' => rw [q] at g; exact g
  | exc c t fr' S' => rw [q] at g; exact g
  | fail => rw [q] at g; exact g
theorem tDrop_of {a : DE} : ∀ D σ H, tS B P W (dDrop a) D σ H → tDrop (tE B P W a) D σ H := by
  rintro D σ H ⟨fr, μ, S, hf, sr, g⟩
  refine ⟨fr, μ, S, hf, sr, (g.lift sr hf).imp ?_⟩
  rintro v H1 ⟨μ1, S1, x, e1, sr1, r1, f1, g1⟩
  exact g1 μ1 H1 σ .refl sr1 f1
theorem tRet_of {a : DE} : ∀ D σ H, tS B P W (dRet a) D σ H → tRet (tE B P W a) D σ H := by
  rintro D σ H ⟨fr, μ, S, hf, sr, g⟩
  refine ⟨fr, μ, S, hf, sr, (g.lift sr hf).imp ?_⟩
  rintro v H1 ⟨μ1, S1, x, e1, sr1, r1, f1, g1⟩
  exact g1 μ1 H1 v .refl sr1 r1
theorem tIfS_of {c : DT} {a b : DS} : ∀ D σ H, tS B P W (dIf c a b) D σ H → tIfS (tT B P W c) (tS B P W a) (tS B P W b) D σ H := by
  rintro D σ H ⟨fr, μ, S, hf, sr, g⟩
  refine ⟨fr, μ, S, hf, sr, (g.lift sr hf).imp ?_⟩
  rintro v H1 ⟨μ1, S1, x, e1, sr1, r1, f1, g1⟩
  cases (show x = v from r1)
  show if v = true then _ else _
  split
  · rename_i e
    rw [if_pos e] at g1
    exact ⟨fr, μ1, S1, f1, sr1, g1⟩
  · rename_i e
    rw [if_neg e] at g1
    exact ⟨fr, μ1, S1, f1, sr1, g1⟩
theorem tAsg_of {t : Tgt} {a : DE} : ∀ D σ H, tS B P W (dAsg t a) D σ H → tAsg (tE B P W a) (gOf B.K t) D σ H := by
  rintro D σ H ⟨fr, μ, S, hf, sr, g⟩
  refine ⟨fr, μ, S, hf, sr, (g.lift sr hf).imp ?_⟩
  rintro v H1 ⟨μ1, S1, x, e1, sr1, r1, f1, g1⟩
  split at g1
  · rename_i fr' e
    exact gOf_of (own := []) sr1 r1 f1 e fun σ' f2 _ => g1 μ1 H1 σ' .refl sr1 f2
  · exact g1.elim
theorem setAll_FR {μ : List Addr} {M : Mx} {H : Hp} : ∀ {is : List Nat} {xs : List PV} {vs : List V} {fr : Frame} {σ : St}, RpL B μ M H xs vs → FR B μ M H fr σ → FR B μ M H (setAll is xs fr) ((List.zip is vs).foldl (fun σ p => σ.set p.1 (some p.2)) σ)
  | [], _, _, _, _, _, hf => by simpa [setAll] using hf
  | i :: is, _, _, _, _, .nil, hf => by simpa [setAll] using hf
  | i :: is, _, _, _, _, .cons r t, hf => by simp only [setAll, List.zip_cons_cons, List.foldl_cons]; exact setAll_FR t (hf.set r i)
theorem tPar_of {i j : Nat} {a : DA} : ∀ D σ H, tS B P W (dPar [i, j] a) D σ H → tPar i j (tA B P W a) D σ H := by
  rintro D σ H ⟨fr, μ, S, hf, sr, g⟩
  refine ⟨fr, μ, S, hf, sr, (g.lift sr hf).imp ?_⟩
  rintro v H1 ⟨μ1, S1, x, e1, sr1, r1, f1, g1⟩
  have r1 : RpL B μ1 (Mz P μ1 S1) H1 x v := r1
  split at g1
  · rename_i e
    have f2 := setAll_FR (is := [i, j]) r1 f1
    rw [r1.length] at e
    match v, e with
    | [v1, v2], _ => exact ⟨v1, v2, rfl, g1 μ1 H1 _ .refl sr1 f2⟩
  · exact g1.elim
theorem tPar3_of {i j l : Nat} {a : DA} : ∀ D σ H, tS B P W (dPar [i, j, l] a) D σ H → tPar3 i j l (tA B P W a) D σ H := by
  rintro D σ H ⟨fr, μ, S, hf, sr, g⟩
  refine ⟨fr, μ, S, hf, sr, (g.lift sr hf).imp ?_⟩
  rintro v H1 ⟨μ1, S1, x, e1, sr1, r1, f1, g1⟩
  have r1 : RpL B μ1 (Mz P μ1 S1) H1 x v := r1
  split at g1
  · rename_i e
    have f2 := setAll_FR (is := [i, j, l]) r1 f1
    rw [r1.length] at e
    match v, e with
    | [v1, v2, v3], _ => exact ⟨v1, v2, v3, rfl, g1 μ1 H1 _ .refl sr1 f2⟩
  · exact g1.elim
theorem tFor_of {i : DI} {t : Tgt} {body : DS} : ∀ D σ H, tS B P W (dFor i t body) D σ H → tFor (tI B P W i) (gOf B.K t) (tS B P W body) D σ H := by
  rintro D σ H ⟨fr, μ, S, hf, sr, g⟩
  refine ⟨fr, μ, S, hf, sr, ?_⟩
  unfold dFor at g
  cases q : i fr S with
  | exc c told S1 => rw [q] at g; exact fun μ1 H1 C dx v x s e1 e2 e3 => g μ1 H1 σ C dx v x s (hf.mono sr x) e1 e2 e3
  | fail => rw [q] at g; exact g
  | ok items S0 =>
    rw [q] at g
    intro μ0 H0 J ex0 sr0 hJ
    have g : GoS B P W (forGo t body items fr S0) μ0 S0 H0 D := GoS.after ex0 g
    have hf0 := hf.mono sr ex0
    refine ⟨fun i m σ H => m = items.length - i ∧ i ≤ items.length ∧ ∃ fr μ S, Ex μ0 S0 H0 μ S H ∧ SR B P μ S H ∧ FR B μ (Mz P μ S) H fr σ ∧ GoS B P W (forGo t body (items.drop i) fr S) μ S H D,
      ⟨items.length, rfl, Nat.zero_le _, fr, μ0, S0, .refl, sr0, hf0, by rw [List.drop_zero]; exact g⟩, ?_⟩
    rintro i m σ H ⟨rfl, hi, fr, μ, S, ex, sr, hf, g⟩
    by_cases hlt : i < items.length
    · refine .inr ⟨hJ.go _ μ S H i ex.hid sr hlt, fun σ' H' => i + 1 ≤ items.length ∧ ∃ fr μ S, Ex μ0 S0 H0 μ S H' ∧ SR B P μ S H' ∧ FR B μ (Mz P μ S) H' fr σ' ∧ GoS B P W (forGo t body (items.drop (i + 1)) fr S) μ S H' D, fun σ' H' z => ⟨items.length - (i + 1), by omega, rfl, z⟩, fun x H' y => ?_⟩
      obtain ⟨pv, e1, ex1, sr1, r1, kp1⟩ := hJ.yld _ μ S H i x H' (fun _ => .inl) ex.hid sr hlt y
      have hdr : items.drop i = pv :: items.drop (i + 1) := by
        rw [List.drop_eq_getElem_cons hlt]
        rw [List.getElem?_eq_getElem hlt] at e1
        rw [Option.some.inj e1]
      have g := g.after ex1
      rw [hdr] at g
      simp only [forGo] at g
      split at g
      · rename_i fr2 eb
        refine gOf_of (own := []) sr1 r1 (hf.mono sr ex1) eb fun σ2 hf2 _ => ⟨fr2, μ, S, hf2, sr1, ?_⟩
        have nxt : ∀ {fr3 : Frame} {S3 : Store}, GoS B P W (forGo t body (items.drop (i + 1)) fr3 S3) μ S H' D → ∀ μ3 H3 σ3, Ex μ S H' μ3 S3 H3 → SR B P μ3 S3 H3 → FR B μ3 (Mz P μ3 S3) H3 fr3 σ3 → i + 1 ≤ items.length ∧ ∃ fr μ S, Ex μ0 S0 H0 μ S H3 ∧ SR B P μ S H3 ∧ FR B μ (Mz P μ S) H3 fr σ3 ∧ GoS B P W (forGo t body (items.drop (i + 1)) fr S) μ S H3 D :=
          fun {fr3 S3} g3 μ3 H3 σ3 x3 s3 f3 => ⟨hlt, fr3, μ3, S3, (ex.trans (B := B) ex1).trans (B := B) x3, s3, f3, g3.after x3⟩
        cases q : body fr2 S with
        | nx fr3 S3 => rw [q] at g; exact nxt g
        | ct fr3 S3 => rw [q] at g; exact nxt g
        | bk fr3 S3 => rw [q] at g; exact g
        | rt v S3 => rw [q] at g; exact g
        | exc c told fr3 S3 => rw [q] at g; exact g
        | fail => rw [q] at g; exact g
      · exact g.elim
    · have e : i = items.length := by omega
      subst e
      rw [List.drop_length] at g
      exact .inl ⟨hJ.stop _ μ S H _ ex.hid sr (Nat.le_refl _), g μ H σ .refl sr hf⟩
theorem tWhile_of {c : DT} {body : DS} {n : Nat} : ∀ D σ H, tS B P W (whileGo c body n) D σ H → tWhile (tT B P W c) (tS B P W body) D σ H := by
  rintro D σ H ⟨fr, μ, S, hf, sr, g⟩
  refine ⟨fun m σ H => ∃ fr μ S, SR B P μ S H ∧ FR B μ (Mz P μ S) H fr σ ∧ GoS B P W (whileGo c body m fr S) μ S H D, ⟨n, fr, μ, S, sr, hf, g⟩, ?_⟩
  rintro m σ H ⟨fr, μ, S, sr, hf, g⟩
  cases m with
  | zero => exact g.elim
  | succ m =>
    simp only [whileGo] at g
    refine ⟨fr, μ, S, hf, sr, (g.lift sr hf).imp ?_⟩
    rintro v H1 ⟨μ1, S1, x, e1, sr1, r1, f1, g1⟩
    cases (show x = v from r1)
    split
    · rename_i e
      rw [if_pos e] at g1
      refine ⟨fun σ' H' => ∃ fr μ S, SR B P μ S H' ∧ FR B μ (Mz P μ S) H' fr σ' ∧ GoS B P W (whileGo c body m fr S) μ S H' D, fun σ' H' z => ⟨m, Nat.lt_succ_self m, z⟩, fr, μ1, S1, f1, sr1, ?_⟩
      cases q : body fr S1 with
      | nx fr3 S3 => rw [q] at g1; exact fun μ3 H3 σ3 x3 s3 f3 => ⟨fr3, μ3, S3, s3, f3, GoS.after x3 g1⟩
      | ct fr3 S3 => rw [q] at g1; exact fun μ3 H3 σ3 x3 s3 f3 => ⟨fr3, μ3, S3, s3, f3, GoS.after x3 g1⟩
      | bk fr3 S3 => rw [q] at g1; exact g1
      | rt v S3 => rw [q] at g1; exact g1
      | exc c told fr3 S3 => rw [q] at g1; exact g1
      | fail => rw [q] at g1; exact g1
    · rename_i e
      rw [if_neg e] at g1
      exact g1 μ1 H1 σ .refl sr1 f1
end
end E2
end
section
set_option Elab.async false
set_option linter.all false
set_option maxRecDepth 100000
set_option maxHeartbeats 4000000
set_option autoImplicit false
namespace E2
open PySem L2
variable {P P' : Pv}

/-! ### a cell is written -/
theorem cell_write {B : Base} {μ : List Addr} {S : Store} {H : Hp} {n : Nat} {pv pv' : PV} {a : Addr} {o : HO} (sr : SR B P μ S H) (e : S[n]? = some (true, pv)) (h : μ[n]? = some a)
    (new : ∀ H', (Ex μ S H μ (S.set n (true, pv')) H') → H' a = some o → CellAt B true μ (Mz P μ (S.set n (true, pv'))) H' a pv') :
    Ex μ S H μ (S.set n (true, pv')) (upd H a o) ∧ SR B P μ (S.set n (true, pv')) (upd H a o) := by
  have hn : n < S.length := (List.getElem?_eq_some_iff.mp e).1
  have ma : Mu μ S a := ⟨n, pv, e, h⟩
  have sub : ∀ b, Mu μ (S.set n (true, pv')) b → Mu μ S b := fun b ⟨m, q, h1, h2⟩ => by
    by_cases hm : m = n
    · subst hm
      rw [h] at h2; cases h2
      exact ma
    · rw [List.getElem?_set_ne (Ne.symm hm)] at h1
      exact ⟨m, q, h1, h2⟩
  have ex : Ex μ S H μ (S.set n (true, pv')) (upd H a o) := by
    refine ⟨⟨[], by simp⟩, fun b u q nb _ => by rw [upd_ne (fun z => nb (by rw [z]; exact ma))]; exact q, fun b z => .inl (sub b z), fun _ z => .inl z⟩
  refine ⟨ex, by simp [sr.len], sr.nd, fun m k q b h1 h2 => ?_, ?_, sr.pd, fun b z => ?_, P.st sr.anc ex⟩
  · by_cases hm : m = n
    · subst hm
      rw [List.getElem?_set_self hn] at h1
      cases h1
      rw [h] at h2; cases h2
      exact new _ ex upd_same
    · rw [List.getElem?_set_ne (Ne.symm hm)] at h1
      have nb : b ≠ a := fun z => hm (by
        subst z
        obtain ⟨x1, y1⟩ := List.getElem?_eq_some_iff.mp h
        obtain ⟨x2, y2⟩ := List.getElem?_eq_some_iff.mp h2
        exact (List.getElem_inj sr.nd).mp (y2.trans y1.symm))
      exact (sr.cell m k q b h1 h2).mono sr ex (upd_ne nb)
  · intro p hp
    obtain ⟨ps, h1, h2, h3⟩ := sr.tabs p hp
    have nn : ∀ b u, H b = some u → (∀ vs, u ≠ .lst vs) → (∀ vs, u ≠ .dK vs) → (∀ C dx gs, u ≠ .ins C dx gs) → (∀ vs, u ≠ .dT vs) → (∀ o', isD o' → u ≠ IsO b o') → b ≠ a := fun b u q n1 n2 n3 n4 n5 z => by
      rcases sr.mut ma with ⟨vs, r⟩ | ⟨vs, r⟩ | ⟨C, dx, gs, r⟩ | ⟨vs, r⟩ | ⟨ob, r, dd⟩ <;> rw [← z, q] at r <;> cases r
      · exact n1 _ rfl
      · exact n2 _ rfl
      · exact n3 _ _ _ rfl
      · exact n4 _ rfl
      · subst z; exact n5 _ dd rfl
    refine ⟨ps, by rw [upd_ne (nn _ _ h1 (fun _ z => nomatch z) (fun _ z => nomatch z) (fun _ _ _ z => nomatch z) (fun _ z => nomatch z) (fun _ _ z => nomatch z))]; exact h1, h2, fun pos cv hc => ?_⟩
    obtain ⟨c, e1, e2⟩ := h3 pos cv hc
    exact ⟨c, e1, by rw [upd_ne (nn _ _ e2 (fun _ z => nomatch z) (fun _ z => nomatch z) (fun _ _ _ z => nomatch z) (fun _ z => nomatch z) (fun _ d => code_notO d))]; exact e2⟩
  · have nb : b ≠ a := fun w => sr.pd b z (by rw [w]; exact List.mem_of_getElem? h)
    exact (sr.pt b z).imp (fun ⟨vs, q⟩ => ⟨vs, by rw [upd_ne nb]; exact q⟩) fun z => z.imp (fun ⟨vs, q⟩ => ⟨vs, by rw [upd_ne nb]; exact q⟩) fun ⟨o, q, d⟩ => ⟨o, by rw [upd_ne nb]; exact q, d⟩
theorem lst_write {B : Base} {μ : List Addr} {S : Store} {H : Hp} {n : Nat} {pv : PV} {a : Addr} {xs : List PV} {vs : List V} (sr : SR B P μ S H) (e : S[n]? = some (true, pv)) (h : μ[n]? = some a) (l : RpL B μ (Mz P μ S) H xs vs) :
    Ex μ S H μ (S.set n (true, .lst xs)) (upd H a (.lst vs)) ∧ SR B P μ (S.set n (true, .lst xs)) (upd H a (.lst vs)) :=
  cell_write sr e h fun H' ex q => ⟨vs, q, l.mono sr ex⟩
theorem dct_write {B : Base} {μ : List Addr} {S : Store} {H : Hp} {n : Nat} {pv : PV} {a : Addr} {xs : List (PV × PV)} {vs : List (Key × V)} (sr : SR B P μ S H) (e : S[n]? = some (true, pv)) (h : μ[n]? = some a) (l : RpK B μ (Mz P μ S) H xs vs) :
    Ex μ S H μ (S.set n (true, .dct xs)) (upd H a (.dK vs)) ∧ SR B P μ (S.set n (true, .dct xs)) (upd H a (.dK vs)) :=
  cell_write sr e h fun H' ex q => ⟨vs, .inl q, l.mono sr ex⟩
theorem dtt_write {B : Base} {μ : List Addr} {S : Store} {H : Hp} {n : Nat} {pv : PV} {a : Addr} {xs : List (List Key × PV)} {vs : List (List Key × V)} (sr : SR B P μ S H) (e : S[n]? = some (true, pv)) (h : μ[n]? = some a) (l : RpT B μ (Mz P μ S) H xs vs) :
    Ex μ S H μ (S.set n (true, .dtt xs)) (upd H a (.dT vs)) ∧ SR B P μ (S.set n (true, .dtt xs)) (upd H a (.dT vs)) :=
  cell_write sr e h fun H' ex q => ⟨vs, .inl q, l.mono sr ex⟩
theorem dts_write {B : Base} {μ : List Addr} {S : Store} {H : Hp} {n : Nat} {pv : PV} {a : Addr} {xs : List PV} {o : Obj} {nks : List NestedKey} {vs : List V} (sr : SR B P μ S H) (e : S[n]? = some (true, pv)) (h : μ[n]? = some a) (h1 : nkL xs = some nks) (h2 : DtO a o nks vs) (l : RpL B μ (Mz P μ S) H xs vs) :
    Ex μ S H μ (S.set n (true, .dts xs)) (upd H a (IsO a o)) ∧ SR B P μ (S.set n (true, .dts xs)) (upd H a (IsO a o)) :=
  cell_write sr e h fun H' ex q => ⟨o, nks, vs, q, h1, h2, l.mono sr ex⟩
def mutDts (S : Store) (x : PV) : Option (Nat × List PV) := match x with
  | .ref n => (match S[n]? with
    | some (true, .dts xs) => some (n, xs)
    | _ => none)
  | _ => none
theorem mutDts_ok {B : Base} {μ : List Addr} {S : Store} {H : Hp} {x : PV} {v : V} {n : Nat} {xs : List PV} (sr : SR B P μ S H) (r : Rp B μ (Mz P μ S) H x v) (e : mutDts S x = some (n, xs)) : ∃ a o nks vs, v = .ref a ∧ S[n]? = some (true, .dts xs) ∧ μ[n]? = some a ∧ H a = some (IsO a o) ∧ nkL xs = some nks ∧ DtO a o nks vs ∧ RpL B μ (Mz P μ S) H xs vs := by
  unfold mutDts at e
  split at e
  · split at e
    · rename_i m ys q
      cases e
      cases r with
      | ref h =>
        obtain ⟨o, nks, vs, h1, h2, h3, l⟩ := sr.cell _ _ _ _ q h
        exact ⟨_, o, nks, vs, rfl, q, h, h1, h2, h3, l⟩
    · cases e
  · cases e
def mutDtt (S : Store) (x : PV) : Option (Nat × List (List Key × PV)) := match x with
  | .ref n => (match S[n]? with
    | some (true, .dtt xs) => some (n, xs)
    | _ => none)
  | _ => none
theorem mutDtt_ok {B : Base} {μ : List Addr} {S : Store} {H : Hp} {x : PV} {v : V} {n : Nat} {xs : List (List Key × PV)} (sr : SR B P μ S H) (r : Rp B μ (Mz P μ S) H x v) (e : mutDtt S x = some (n, xs)) : ∃ a vs, v = .ref a ∧ S[n]? = some (true, .dtt xs) ∧ μ[n]? = some a ∧ H a = some (.dT vs) ∧ RpT B μ (Mz P μ S) H xs vs := by
  unfold mutDtt at e
  split at e
  · split at e
    · rename_i m ys q
      cases e
      cases r with
      | ref h =>
        obtain ⟨vs, h1, l⟩ := sr.cell _ _ _ _ q h
        exact ⟨_, vs, rfl, q, h, h1.ex, l⟩
    · cases e
  · cases e
/-- a cell that may be changed -/
def mutLst (S : Store) (x : PV) : Option (Nat × List PV) := match x with
  | .ref n => (match S[n]? with
    | some (true, .lst xs) => some (n, xs)
    | _ => none)
  | _ => none
def mutDct (S : Store) (x : PV) : Option (Nat × List (PV × PV)) := match x with
  | .ref n => (match S[n]? with
    | some (true, .dct xs) => some (n, xs)
    | _ => none)
  | _ => none
theorem mutLst_ok {B : Base} {μ : List Addr} {S : Store} {H : Hp} {x : PV} {v : V} {n : Nat} {xs : List PV} (sr : SR B P μ S H) (r : Rp B μ (Mz P μ S) H x v) (e : mutLst S x = some (n, xs)) : ∃ a vs, v = .ref a ∧ S[n]? = some (true, .lst xs) ∧ μ[n]? = some a ∧ H a = some (.lst vs) ∧ RpL B μ (Mz P μ S) H xs vs := by
  unfold mutLst at e
  split at e
  · split at e
    · rename_i m ys q
      cases e
      cases r with
      | ref h =>
        obtain ⟨vs, h1, l⟩ := sr.cell _ _ _ _ q h
        exact ⟨_, vs, rfl, q, h, h1, l⟩
    · cases e
  · cases e
theorem mutDct_ok {B : Base} {μ : List Addr} {S : Store} {H : Hp} {x : PV} {v : V} {n : Nat} {xs : List (PV × PV)} (sr : SR B P μ S H) (r : Rp B μ (Mz P μ S) H x v) (e : mutDct S x = some (n, xs)) : ∃ a vs, v = .ref a ∧ S[n]? = some (true, .dct xs) ∧ μ[n]? = some a ∧ H a = some (.dK vs) ∧ RpK B μ (Mz P μ S) H xs vs := by
  unfold mutDct at e
  split at e
  · split at e
    · rename_i m ys q
      cases e
      cases r with
      | ref h =>
        obtain ⟨vs, h1, l⟩ := sr.cell _ _ _ _ q h
        exact ⟨_, vs, rfl, q, h, h1.ex, l⟩
    · cases e
  · cases e

/-! ### o[i] = v -/
def oSet (o i v : PV) (S : Store) : Option Store := match mutLst S o with
  | some (n, xs) => (match drf S i with
    | .int k => (match ixN xs.length k with
      | some j => some (S.set n (true, .lst (xs.set j v)))
      | none => none)
    | _ => none)
  | none => (match mutDct S o with
    | some (n, xs) => (match keyOf i with
      | some k => if xs.length < sizeLine then some (S.set n (true, .dct (putP xs k v))) else none
      | none => none)
    | none => (match mutDts S o, nkT i, v with
      | some (n, xs), some k, .bl true => if xs.length < sizeLine then some (S.set n (true, .dts (putN xs i k))) else none
      | _, _, _ => none))
def rSetA (K : PySem.W.Frag) : TSet := fun o i v H Q => rSetL o i v H Q ∨ (∃ a H', o = .ref a ∧ DPut H a i v H' ∧ Q H') ∨ ∃ a b, o = .ref a ∧ i = .ref b ∧ v = .bl true ∧ rNPut K H a b Q
theorem set_any {X : Cx} (hu : X.A.units + 9 < cLine) : PSet X (rSetA X.K) := by
  intro pins s σ H o i v ov iv u Q I ro ri rv h
  rcases h with h | ⟨a, H', rfl, g, q⟩ | ⟨a, b, rfl, rfl, rfl, g⟩
  · exact set_list pins s σ H o i v ov iv u Q I ro ri rv h
  · obtain rfl : ov = Value.ref a := ro
    exact d_setItem (by omega) I g ri rv fun s' I' => ⟨H', I', q⟩
  · cases ro
    cases ri
    cases rv
    exact set_nest hu I g
theorem oSet_of {B : Base} {μ : List Addr} {S S' : Store} {H : Hp} {o i x : PV} {vo vi vx : V} {Q : Hp → Prop} (sr : SR B P μ S H) (ro : Rp B μ (Mz P μ S) H o vo) (ri : Rp B μ (Mz P μ S) H i vi) (rx : Rp B μ (Mz P μ S) H x vx) (e : oSet o i x S = some S')
    (q : ∀ H', Ex μ S H μ S' H' → SR B P μ S' H' → Q H') : rSetA B.K vo vi vx H Q := by
  unfold oSet at e
  split at e
  · rename_i n xs e1
    split at e
    · rename_i k e2
      split at e
      · rename_i j e3
        cases e
        obtain ⟨a, vs, rfl, h1, h2, h3, l⟩ := mutLst_ok sr ro e1
        obtain ⟨ex, sr'⟩ := lst_write sr h1 h2 (l.set rx j)
        exact .inl ⟨a, vs, k, j, rfl, intV sr ri e2, h3, by rw [← l.length]; exact e3, q _ ex sr'⟩
      · cases e
    · cases e
  · split at e
    · rename_i n xs e1
      split at e
      · rename_i k e2
        split at e
        · rename_i hl
          cases e
          obtain ⟨a, vs, rfl, h1, h2, h3, l⟩ := mutDct_ok sr ro e1
          obtain ⟨ex, sr'⟩ := dct_write sr h1 h2 (l.put (k := k) rx)
          exact .inr (.inl ⟨a, _, rfl, .inl ⟨vs, k, h3, keyV sr ri e2, by rw [← l.length]; exact hl, rfl⟩, q _ ex sr'⟩)
        · cases e
      · cases e
    · split at e
      · rename_i n xs k e1 e2
        split at e
        · rename_i hl
          cases e
          obtain ⟨a, o, nks, vs, rfl, h1, h2, h3, h4, h5, l⟩ := mutDts_ok sr ro e1
          obtain ⟨q1, q2, q3, b, rfl⟩ := nkT_ok ri e2
          cases rx
          have lk := l.nv h4
          refine .inr (.inr ⟨a, b, rfl, rfl, rfl, o, k, nks, vs, h3, h5, lk, q3, q2, by rw [lk.length, ← l.length]; exact hl, fun o' d' => ?_⟩)
          have hh : hasN xs k = decide (k ∈ nks) := by unfold hasN; rw [h4]
          by_cases hk : k ∈ nks
          · rw [if_pos hk, if_pos hk] at d'
            have e3 : putN xs i k = xs := by unfold putN; rw [hh, if_pos (by simpa using hk)]
            rw [e3] at q
            obtain ⟨ex, sr'⟩ := dts_write sr h1 h2 h4 d' l
            exact q _ ex sr'
          · rw [if_neg hk, if_neg hk] at d'
            have e3 : putN xs i k = xs ++ [i] := by unfold putN; rw [hh, if_neg (by simpa using hk)]
            rw [e3] at q
            obtain ⟨ex, sr'⟩ := dts_write sr h1 h2 (nkL_snoc h4 q1) d' (l.append (.cons ri .nil))
            exact q _ ex sr'
        · cases e
      · cases e
def dSetIx (o i a : DE) : DS := fun fr S => liftE (a fr S) fr fun x S1 => liftE (o fr S1) fr fun y S2 => liftE (i fr S2) fr fun z S3 => match oSet y z x S3 with
  | some S4 => .nx fr S4
  | none => .fail
theorem tSetIx_of {B : Base} {W : WX} {o i a : DE} : ∀ D σ H, tS B P W (dSetIx o i a) D σ H → tAsg (tE B P W a) (gSub (tE B P W o) (tE B P W i) (rSetA B.K)) D σ H := by
  rintro D σ H ⟨fr, μ, S, hf, sr, g⟩
  refine ⟨fr, μ, S, hf, sr, (g.lift sr hf).imp ?_⟩
  rintro v H1 ⟨μ1, S1, x, e1, sr1, r1, f1, g1⟩
  have r1 : Rp B μ1 (Mz P μ1 S1) H1 x v := r1
  refine ⟨fr, μ1, S1, f1, sr1, (g1.lift sr1 f1).imp ?_⟩
  rintro u H2 ⟨μ2, S2, y, e2, sr2, r2, f2, g2⟩
  have r2 : Rp B μ2 (Mz P μ2 S2) H2 y u := r2
  refine ⟨fr, μ2, S2, f2, sr2, (g2.lift sr2 f2).imp ?_⟩
  rintro w H3 ⟨μ3, S3, z, e3, sr3, r3, f3, g3⟩
  split at g3
  · rename_i S4 e4
    exact oSet_of sr3 (r2.mono sr2 e3) r3 ((r1.mono sr1 e2).mono sr2 e3) e4 fun H' ex sr' => g3 _ H' σ ex sr' (f3.mono sr3 ex)
  · exact g3.elim

/-- o[(a, b)] = v, o a dict with tuples as keys -/
def oSetT (y : PV) (zs : List PV) (x : PV) (S : Store) : Option Store := match mutDtt S y, keysOf zs with
  | some (n, xs), some k => if xs.length < sizeLine ∧ zs.length ≤ sizeLine then some (S.set n (true, .dtt (putT xs k x))) else none
  | _, _ => none
def dSetTp (o : DE) (i : DA) (a : DE) : DS := fun fr S => liftE (a fr S) fr fun x S1 => liftE (o fr S1) fr fun y S2 => liftE (i fr S2) fr fun zs S3 => match oSetT y zs x S3 with
  | some S4 => .nx fr S4
  | none => .fail
theorem tSetTp_of {B : Base} {W : WX} {o a : DE} {i : DA} : ∀ D σ H, tS B P W (dSetTp o i a) D σ H → tAsg (tE B P W a) (gSub (tE B P W o) (tTup (tA B P W i)) (rSetA B.K)) D σ H := by
  rintro D σ H ⟨fr, μ, S, hf, sr, g⟩
  refine ⟨fr, μ, S, hf, sr, (g.lift sr hf).imp ?_⟩
  rintro v H1 ⟨μ1, S1, x, e1, sr1, r1, f1, g1⟩
  have r1 : Rp B μ1 (Mz P μ1 S1) H1 x v := r1
  refine ⟨fr, μ1, S1, f1, sr1, (g1.lift sr1 f1).imp ?_⟩
  rintro u H2 ⟨μ2, S2, y, e2, sr2, r2, f2, g2⟩
  have r2 : Rp B μ2 (Mz P μ2 S2) H2 y u := r2
  refine ⟨fr, μ2, S2, f2, sr2, (g2.lift sr2 f2).imp ?_⟩
  rintro ws H3 ⟨μ3, S3, zs, e3, sr3, r3, f3, g3⟩
  have r3 : RpL B μ3 (Mz P μ3 S3) H3 zs ws := r3
  split at g3
  · rename_i S4 e4
    unfold oSetT at e4
    split at e4
    · rename_i n xs k h1 h2
      split at e4
      · rename_i hl
        cases e4
        refine ⟨by rw [← r3.length]; exact hl.2, fun p hp => ?_⟩
        have x4 := ex_ext (μ := μ3) (S := S3) (ext_new (o := .tup ws) hp)
        have sr4 : SR B P μ3 S3 (upd H3 p (.tup ws)) := sr3.ext (ext_new hp)
        obtain ⟨b, vs, rfl, k1, k2, k3, l⟩ := mutDtt_ok sr4 ((r2.mono sr2 e3).mono sr3 x4) h1
        obtain ⟨ex, sr'⟩ := dtt_write sr4 k1 k2 (l.put (k := k) (((r1.mono sr1 e2).mono sr2 e3).mono sr3 x4))
        rw [keysV sr3 r3 h2] at *
        exact .inr (.inl ⟨b, _, rfl, .inr ⟨vs, k, p, k3, rfl, upd_same, by rw [← l.length]; exact hl.1, rfl⟩, g3 _ _ σ (x4.trans (B := B) ex) sr' ((f3.mono sr3 x4).mono sr4 ex)⟩)
      · cases e4
    · cases e4
  · exact g3.elim

/-! ### methods of lists -/
inductive MTy where
  | list | dict | str
def MTy.name : MTy → String
  | .list => "list" | .dict => "dict" | .str => "str"
def isTy (S : Store) (T : MTy) (x : PV) : Bool := match T, drf S x with
  | .list, .lst _ => true
  | .dict, .dct _ => (mutDct S x).isSome
  | .str, .str _ => true
  | _, _ => false
theorem isTy_ok {B : Base} {μ : List Addr} {S : Store} {H : Hp} {T : MTy} {x : PV} {v : V} (sr : SR B P μ S H) (r : Rp B μ (Mz P μ S) H x v) (e : isTy S T x = true) : tyV B.K T.name v H := by
  unfold isTy at e
  split at e
  · rename_i q
    obtain ⟨a, vs, rfl, h1, l⟩ := lstV sr r q
    exact .inl ⟨rfl, vs, SqL.of h1⟩
  · rename_i q
    obtain ⟨⟨n, xs⟩, hx⟩ := Option.isSome_iff_exists.mp e
    obtain ⟨a, vs, rfl, _, _, h1, _⟩ := mutDct_ok sr r hx
    exact .inr (.inr (.inl ⟨rfl, .inl ⟨vs, h1⟩⟩))
  · rename_i q
    rw [strV sr r q]; rfl
  · cases e
def SvM (B : Base) (r : V → List V → Hp → VK → Prop) (op : PV → List PV → Store → Res PV) : Prop :=
  ∀ (P : Pv) (W : WX) (σ : St) (μ : List Addr) (S : Store) (H : Hp) (x : PV) (xs : List PV) (v : V) (vs : List V) (Q : VK), SR B P μ S H → Rp B μ (Mz P μ S) H x v → RpL B μ (Mz P μ S) H xs vs → Go B P (RelP B) W σ (op x xs S) μ S H Q → r v vs H Q
def dMeth (T : MTy) (op : PV → List PV → Store → Res PV) (o : DE) (a : DA) : DE := fun fr S => (o fr S).bind fun x S1 => if isTy S1 T x = true then (a fr S1).bind fun xs S2 => op x xs S2 else .fail
theorem tBM_of {B : Base} {W : WX} {T : MTy} {r : V → List V → Hp → VK → Prop} {op : PV → List PV → Store → Res PV} (h : SvM B r op) {o : DE} {a : DA} : ∀ σ H Q, tE B P W (dMeth T op o a) σ H Q → tBM B.K T.name r (tE B P W o) (tA B P W a) σ H Q := by
  rintro σ H Q ⟨fr, μ, S, hf, sr, g⟩
  refine ⟨fr, μ, S, hf, sr, g.bind.imp ?_⟩
  rintro v H1 ⟨μ1, S1, x, e1, sr1, r1, _, g1⟩
  have r1 : Rp B μ1 (Mz P μ1 S1) H1 x v := r1
  split at g1
  · rename_i ht
    refine ⟨isTy_ok sr1 r1 ht, fr, μ1, S1, hf.mono sr e1, sr1, g1.bind.imp ?_⟩
    rintro vs H2 ⟨μ2, S2, xs, e2, sr2, r2, _, g2⟩
    exact h P W σ μ2 S2 H2 x xs v vs Q sr2 (r1.mono sr1 e2) r2 g2
  · exact g1.elim
theorem tBM0_of {B : Base} {W : WX} {T : MTy} {r : V → List V → Hp → VK → Prop} {op : PV → List PV → Store → Res PV} (h : SvM B r op) {o : DE} : ∀ σ H Q, tE B P W (dMeth T op o dNil) σ H Q → tBM0 B.K T.name r (tE B P W o) σ H Q := by
  rintro σ H Q ⟨fr, μ, S, hf, sr, g⟩
  refine ⟨fr, μ, S, hf, sr, g.bind.imp ?_⟩
  rintro v H1 ⟨μ1, S1, x, e1, sr1, r1, _, g1⟩
  have r1 : Rp B μ1 (Mz P μ1 S1) H1 x v := r1
  split at g1
  · rename_i ht
    exact ⟨isTy_ok sr1 r1 ht, h P W σ μ1 S1 H1 x [] v [] Q sr1 r1 .nil g1⟩
  · exact g1.elim
def oAppend (x : PV) (ys : List PV) (S : Store) : Res PV := match mutLst S x, ys with
  | some (n, xs), [y] => if xs.length < sizeLine then .ok .non (S.set n (true, .lst (xs ++ [y]))) else .fail
  | _, _ => .fail
theorem sv_append {B : Base} : SvM B rAppend oAppend := by
  intro P W σ μ S H x ys v vs Q sr rx ry g
  unfold oAppend at g
  split at g
  · rename_i n xs y e1
    split at g
    · rename_i hl
      obtain ⟨a, us, rfl, h1, h2, h3, l⟩ := mutLst_ok sr rx e1
      obtain ⟨w, rfl, r⟩ := RpL.one (xs := [y]) ry
      obtain ⟨ex, sr'⟩ := lst_write sr h1 h2 (l.append (.cons r .nil))
      exact ⟨a, us, w, rfl, rfl, h3, by rw [← l.length]; exact hl, g _ _ .non ex sr' .non⟩
    · exact g.elim
  · exact g.elim
def oExtend (x : PV) (ys : List PV) (S : Store) : Res PV := match mutLst S x, ys with
  | some (n, xs), [y] => (match drf S y with
    | .lst zs => if xs.length + zs.length ≤ sizeLine then .ok .non (S.set n (true, .lst (xs ++ zs))) else .fail
    | _ => .fail)
  | _, _ => .fail
theorem sv_extend {B : Base} : SvM B rExtend oExtend := by
  intro P W σ μ S H x ys v vs Q sr rx ry g
  unfold oExtend at g
  split at g
  · rename_i n xs y e1
    split at g
    · rename_i zs e2
      split at g
      · rename_i hl
        obtain ⟨a, us, rfl, h1, h2, h3, l⟩ := mutLst_ok sr rx e1
        obtain ⟨w, rfl, r⟩ := RpL.one (xs := [y]) ry
        obtain ⟨b, ws, rfl, h4, l2⟩ := lstV sr r e2
        obtain ⟨ex, sr'⟩ := lst_write sr h1 h2 (l.append l2)
        exact ⟨a, b, us, ws, rfl, rfl, h3, h4, by rw [← l.length, ← l2.length]; exact hl, g _ _ .non ex sr' .non⟩
      · exact g.elim
    · exact g.elim
  · exact g.elim
def oPop (x : PV) (ys : List PV) (S : Store) : Res PV := match mutLst S x, ys with
  | some (n, xs), [] => (match xs[xs.length - 1]? with
    | some y => .ok y (S.set n (true, .lst xs.dropLast))
    | none => .fail)
  | some (n, xs), [i] => (match drf S i with
    | .int k => if decide (-9223372036854775808 ≤ k) && decide (k < 9223372036854775808) then (match seqIndex? k xs.length with
      | some j => (match xs[j]? with
        | some y => .ok y (S.set n (true, .lst (xs.eraseIdx j)))
        | none => .fail)
      | none => .fail) else .fail
    | _ => .fail)
  | _, _ => .fail
theorem sv_pop {B : Base} : SvM B (fun x xs H Q => rPop x xs H Q ∨ rPopAt x xs H Q) oPop := by
  intro P W σ μ S H x ys v vs Q sr rx ry g
  unfold oPop at g
  split at g
  · rename_i n xs e1
    split at g
    · rename_i y e2
      obtain ⟨a, us, rfl, h1, h2, h3, l⟩ := mutLst_ok sr rx e1
      cases ry
      obtain ⟨w, h4, r⟩ := l.get e2
      obtain ⟨ex, sr'⟩ := lst_write sr h1 h2 l.dropLast
      exact .inl ⟨a, us, w, rfl, rfl, h3, by rw [← l.length]; exact h4, g _ _ w ex sr' (r.mono sr ex)⟩
    · exact g.elim
  · rename_i n xs i e1
    split at g
    · rename_i k e2
      split at g
      · rename_i hk
        simp only [Bool.and_eq_true, decide_eq_true_eq] at hk
        split at g
        · rename_i j e3
          split at g
          · rename_i y e4
            obtain ⟨a, us, rfl, h1, h2, h3, l⟩ := mutLst_ok sr rx e1
            obtain ⟨w, rfl, r⟩ := RpL.one (xs := [i]) ry
            obtain ⟨z, h4, r4⟩ := l.get e4
            obtain ⟨ex, sr'⟩ := lst_write sr h1 h2 (l.eraseIdx j)
            have e5 : (2 : Int) ^ 63 = 9223372036854775808 := by decide
            exact .inr ⟨a, us, k, j, z, rfl, by rw [intV sr r e2], h3, by rw [e5]; exact hk.1, by rw [e5]; exact hk.2, by rw [← l.length]; exact e3, h4, g _ _ z ex sr' (r4.mono sr ex)⟩
          · exact g.elim
        · exact g.elim
      · exact g.elim
    · exact g.elim
  · exact g.elim
/-! ### x op= e -/
def dAug (i : Nat) (op : PV → PV → Store → Res PV) (a : DE) : DS := fun fr S => match fr[i]? with
  | some (some x) => if isThk x then .fail else liftE (a fr S) fr fun y S1 => liftE (op x y S1) fr fun z S2 => .nx (fr.set i (some z)) S2
  | _ => .fail
theorem tAug_of {B : Base} {W : WX} {i : Nat} {r : TIp} {op : PV → PV → Store → Res PV} (h : Sv2 B r op) {a : DE} : ∀ D σ H, tS B P W (dAug i op a) D σ H → tAug i (tE B P W a) r D σ H := by
  rintro D σ H ⟨fr, μ, S, hf, sr, g⟩
  unfold dAug at g
  split at g
  · rename_i x e
    split at g
    · exact g.elim
    rename_i nt
    obtain ⟨v, h1, rv⟩ := hf.get e (isThk_ne nt)
    refine ⟨v, h1, fr, μ, S, hf, sr, (g.lift sr hf).imp ?_⟩
    rintro u H1 ⟨μ1, S1, y, e1, sr1, r1, f1, g1⟩
    refine h P W σ μ1 S1 H1 x y v u _ sr1 (rv.mono sr e1) r1 ((g1.lift sr1 f1).imp ?_)
    rintro w H2 ⟨μ2, S2, z, e2, sr2, r2, f2, g2⟩
    exact g2 μ2 H2 _ .refl sr2 (f2.set r2 i)
  · exact g.elim
theorem pip_of {X : Cx} {op : Operator} {r : R2} (h : OpR X (inplaceOp op) r) : PIp X op r := fun pins s σ H x y v u Q I rx ry q => h pins s σ H x y v u Q I rx ry q
end E2
end
section
set_option Elab.async false
set_option linter.all false
set_option maxRecDepth 100000
set_option maxHeartbeats 4000000
set_option autoImplicit false
/-! {k: True for t in items if ..}: keys nested tuples of ints; the dict is a new cell -/
namespace E2
open PySem L2
variable {P P' : Pv}
theorem putN_of {B : Base} {μ : List Addr} {S : Store} {H : Hp} {n m : Nat} {D : Addr} {y : PV} {vy : V} {k : NestedKey} {xs : List PV} {Q : Hp → Prop} (sr : SR B P μ S H) (hD : μ[n]? = some D) (ry : Rp B μ (Mz P μ S) H y vy) (e1 : mutDts S (.ref n) = some (m, xs)) (e2 : nkT y = some k) (hl : xs.length < sizeLine)
    (q : ∀ H', Ex μ S H μ (S.set n (true, .dts (putN xs y k))) H' → SR B P μ (S.set n (true, .dts (putN xs y k))) H' → Q H') : ∃ b, vy = .ref b ∧ rNPut B.K H D b Q := by
  obtain ⟨a, o, nks, vs, ea, h1, h2, h3, h4, h5, l⟩ := mutDts_ok sr (.ref hD) e1
  cases ea
  have hm : m = n := by
    unfold mutDts at e1
    simp only at e1
    split at e1
    · cases e1; rfl
    · cases e1
  subst hm
  obtain ⟨q1, q2, q3, b, rfl⟩ := nkT_ok ry e2
  have lk := l.nv h4
  refine ⟨b, rfl, o, k, nks, vs, h3, h5, lk, q3, q2, by rw [lk.length, ← l.length]; exact hl, fun o' d' => ?_⟩
  have hh : hasN xs k = decide (k ∈ nks) := by unfold hasN; rw [h4]
  by_cases hk : k ∈ nks
  · rw [if_pos hk, if_pos hk] at d'
    have e3 : putN xs y k = xs := by unfold putN; rw [hh, if_pos (by simpa using hk)]
    rw [e3] at q
    obtain ⟨ex, sr'⟩ := dts_write sr h1 hD h4 d' l
    exact q _ ex sr'
  · rw [if_neg hk, if_neg hk] at d'
    have e3 : putN xs y k = xs ++ [y] := by unfold putN; rw [hh, if_neg (by simpa using hk)]
    rw [e3] at q
    obtain ⟨ex, sr'⟩ := dts_write sr h1 hD (nkL_snoc h4 q1) d' (l.append (.cons ry .nil))
    exact q _ ex sr'
def dcNGo (t : Tgt) (tt : DT) (tk tv : DE) (fr : Frame) (n : Nat) : List PV → Store → Res PV
  | [], S => .ok (.ref n) S
  | x :: r, S => (match bindG S t x fr with
    | some fr2 => (tt fr2 S).noX.bind fun b S1 => if b = true then (tk fr2 S1).noX.bind fun y S2 => (tv fr2 S2).noX.bind fun z S3 => (match mutDts S3 (.ref n), nkT y, z with
        | some (_, xs), some k, .bl true => if xs.length < sizeLine then dcNGo t tt tk tv fr n r (S3.set n (true, .dts (putN xs y k))) else .fail
        | _, _, _ => .fail) else dcNGo t tt tk tv fr n r S1
    | none => .fail)
def dDcN (i : DI) (t : Tgt) (tt : DT) (tk tv : DE) (own : List Nat) : DE := fun fr S => (i fr S).bind fun items S1 => dcNGo t tt tk tv (wipeF fr own) S1.length items (S1 ++ [(true, .dts [])])
theorem dcN_core2 {B : Base} {W : WX} {t : Tgt} {tt : DT} {tk tv : DE} {own : List Nat} {σ : St} {Q : VK} {J : It} {items : List PV} {μ0 : List Addr} {S0 : Store} {H0 : Hp} {fr : Frame} {D : Addr} {ob : Obj} (sr0 : SR B P μ0 S0 H0) (hJ : ItS B P J items μ0 S0 H0) (hf : FR B μ0 (Mz P μ0 S0) H0 fr σ) (hD : H0 D = none) (hob : DtO D ob [] []) (ho : ∀ i ∈ t.slots, i ∈ own)
    (g : Go B P (RelP B) W σ (dcNGo t tt tk tv (wipeF fr own) S0.length items (S0 ++ [(true, .dts [])])) μ0 S0 H0 Q) :
    ∃ Wi : Nat → Nat → Hp → Prop, (∃ m, Wi 0 m (upd H0 D (IsO D ob))) ∧ ∀ i m H, Wi i m H →
      (J.stop i H ∧ Q (.ref D) H) ∨ (J.go i H ∧ ∃ Nx : Hp → Prop, (∀ H', Nx H' → ∃ m', m' < m ∧ Wi (i + 1) m' H') ∧ ∀ x H', J.yld i H x H' → gOf B.K t x (wipe σ own) H' fun σ2 H2 => wipe σ2 own = wipe σ own ∧ tTx B W0 tt σ2 H2 fun b H3 =>
        if b = true then tEx B W0 tk σ2 H3 fun y H4 => tEx B W0 tv σ2 H4 fun z H5 => ∃ b, y = .ref b ∧ z = .bl true ∧ rNPut B.K H5 D b Nx else Nx H3) := by
  have hp : ∀ a, P.p a → P.p a ∨ H0 a = none := fun a z => .inl z
  let St' : Nat → Hp → Prop := fun i H => ∃ μ S, Ex μ0 S0 H0 μ S H ∧ SR B P μ S H ∧ μ[S0.length]? = some D ∧ i ≤ items.length ∧
    Go B P (RelP B) W σ (dcNGo t tt tk tv (wipeF fr own) S0.length (items.drop i) S) μ0 S0 H0 Q
  refine ⟨fun i m H => m = items.length - i ∧ St' i H, ⟨items.length, rfl, ?_⟩, ?_⟩
  · obtain ⟨ex, sr2⟩ := new_cellG (pv0 := .dts []) (o0 := IsO D ob) sr0 hD fun ex => ⟨ob, [], [], upd_same, rfl, hob, .nil⟩
    refine ⟨_, _, ex, sr2, ?_, Nat.zero_le _, ?_⟩
    · rw [← sr0.len, List.getElem?_append_right (Nat.le_refl _)]; simp
    · rw [List.drop_zero]
      exact g
  · rintro i m H ⟨rfl, μ, S, ex, sr, hn, hi, g⟩
    by_cases hlt : i < items.length
    · refine .inr ⟨hJ.go _ μ S H i ex.hid sr hlt, St' (i + 1), fun H' z => ⟨items.length - (i + 1), by omega, rfl, z⟩, fun x H' y => ?_⟩
      obtain ⟨pv, e1, ex1, sr1, r1, kp1⟩ := hJ.yld _ μ S H i x H' hp ex.hid sr hlt y
      have ex := ex.trans (B := B) ex1
      have hdr : items.drop i = pv :: items.drop (i + 1) := by
        rw [List.drop_eq_getElem_cons hlt]
        rw [List.getElem?_eq_getElem hlt] at e1
        rw [Option.some.inj e1]
      rw [hdr] at g
      simp only [dcNGo] at g
      split at g
      · rename_i fr2 eb
        have hf1 := ((hf.monoP sr0 ex hp rfl).wipe own)
        refine gOf_of (own := own) sr1 r1 hf1 eb fun σ2 hf2 hw => ⟨?_, ?_⟩
        · rw [hw ho]
          apply List.ext_getElem?
          intro j
          by_cases hj : j ∈ own
          · rw [wipe_in hj, wipe_in hj, wipe_length]
          · rw [wipe_out hj]
        · refine ⟨P, fr2, μ, S, hf2, sr1, (Go.bindP (Rel := RelB) g).imp ?_⟩
          rintro b H3 ⟨μ3, S3, b', ex3, sr3, rb, g3⟩
          cases (show b' = b from rb)
          split at g3
          · rename_i hb
            show if b = true then _ else _
            rw [if_pos hb]
            refine ⟨P, fr2, μ3, S3, hf2.mono sr1 ex3, sr3, (Go.bindP (Rel := RelP B) g3).imp ?_⟩
            rintro ky H4 ⟨μ4, S4, y', ex4, sr4, ry, g4⟩
            have ry : Rp B μ4 (Mz P μ4 S4) H4 y' ky := ry
            refine ⟨P, fr2, μ4, S4, (hf2.mono sr1 ex3).mono sr3 ex4, sr4, (Go.bindP (Rel := RelP B) g4).imp ?_⟩
            rintro z H5 ⟨μ5, S5, z', ex5, sr5, rz, g5⟩
            have rz : Rp B μ5 (Mz P μ5 S5) H5 z' z := rz
            have hn5 := ex5.get (ex4.get (ex3.get hn))
            split at g5
            · rename_i m' xs kk em ek _
              split at g5
              · rename_i hz
                cases rz
                obtain ⟨bb, e6, e7⟩ := putN_of (Q := St' (i + 1)) sr5 hn5 (ry.mono sr4 ex5) em ek hz fun H' ex6 sr6 => ⟨μ5, _, ex.trans (B := B) (ex3.trans (B := B) (ex4.trans (B := B) (ex5.trans (B := B) ex6))), sr6, hn5, hlt, g5⟩
                exact ⟨bb, e6, rfl, e7⟩
              · exact g5.elim
            · exact g5.elim
          · rename_i hb
            show if b = true then _ else _
            rw [if_neg hb]
            exact ⟨μ3, S3, ex.trans (B := B) ex3, sr3, ex3.get hn, hlt, g3⟩
      · exact g.elim
    · have e : i = items.length := by omega
      subst e
      refine .inl ⟨hJ.stop _ μ S H _ ex.hid sr (Nat.le_refl _), ?_⟩
      rw [List.drop_length] at g
      exact g μ H (.ref D) ex sr (.ref hn)
theorem tDcN_of {B : Base} {W : WX} {i : DI} {t : Tgt} {tt : DT} {tk tv : DE} {own : List Nat} (ho : ∀ i ∈ t.slots, i ∈ own) : ∀ σ H Q, tE B P W (dDcN i t tt tk tv own) σ H Q → tDcN B.K (tI B P W i) (gOf B.K t) (tTx B W0 tt) (tEx B W0 tk) (tEx B W0 tv) own σ H Q := by
  rintro σ H Q ⟨fr, μ, S, hf, sr, g⟩
  refine ⟨fr, μ, S, hf, sr, ?_⟩
  unfold dDcN at g
  cases q : i fr S with
  | ok items S1 =>
    rw [q] at g
    exact fun μ1 H1 J ex sr1 its D hD ob hob => dcN_core2 sr1 its (hf.mono sr ex) hD hob ho (g.after ex)
  | exc c told S1 => rw [q] at g; exact g
  | fail => rw [q] at g; exact g
end E2
end
section
set_option Elab.async false
set_option linter.all false
set_option maxRecDepth 100000
set_option maxHeartbeats 4000000
set_option autoImplicit false
namespace E2
open PySem L2
variable {P P' : Pv}

/-! ### forms of the syntax -/
def isStar : Expr → Bool
  | .Starred _ _ => true
  | _ => false
def isComp : Expr → Bool
  | .ListComp _ _ _ _ => true
  | .SetComp _ _ _ _ => true
  | .DictComp _ _ _ _ _ => true
  | _ => false
def isSet : Expr → Bool
  | .Set _ _ _ => true
  | _ => false
def isSlc : Expr → Bool
  | .Slice _ _ _ _ => true
  | _ => false
def oddTest : Expr → Bool
  | .UnaryOp .Not _ _ => true
  | .BoolOp _ _ _ => true
  | .IfExp _ _ _ _ => true
  | .Compare _ _ _ _ => true
  | _ => false
def call0 : Expr → Bool
  | .Call (.Name _ _) [] [] _ => true
  | _ => false
theorem starEach_cons {e : Expr} {es : List Expr} {env : Env} (h : isStar e = false) : starEach (e :: es) env = (false, eval e env) :: starEach es env := by
  cases e <;> first | rfl | cases h
theorem starEach_plain {env : Env} {pos : Pos} : ∀ {es : List Expr}, (es.all fun e => !isStar e) = true → (backTo pos (starEach es env)).any (·.1) = false
  | [], _ => rfl
  | e :: es, h => by
    rw [List.all_cons, Bool.and_eq_true] at h
    rw [starEach_cons (by simpa using h.1)]
    show (false || (backTo pos (starEach es env)).any (·.1)) = false
    rw [starEach_plain h.2]; rfl
theorem swaps_plain {e : Expr} {t : Option Expr} {l : Nat} {env : Env} (h : isComp e = false) : swapsWith e t l env = pure false := by
  cases e <;> first | rfl | cases h
theorem folded_plain {e : Expr} {env : Env} (h : isSet e = false) (x : Value) : foldedSetIterable e env x = pure x := by
  cases e <;> first | rfl | cases h
theorem marks_plain {e : Expr} {op : CmpOp} (h : isSet e = false) : behindInMarks op e = false := by
  cases e <;> first | rfl | cases h
theorem ix_plain {e : Expr} (h : isSlc e = false) : PlainIx e := by
  intro o i
  cases e <;> first | rfl | cases h
theorem test_plain {e : Expr} {env : Env} (h : oddTest e = false) : ∀ whole, isTrue e env whole = (do let v ← whole; standAt e.pos; holding [v] (truthy v)) := by
  intro whole
  cases e with
  | UnaryOp op _ _ => cases op <;> first | rfl | cases h
  | BoolOp _ _ _ => cases h
  | IfExp _ _ _ _ => cases h
  | Compare _ _ _ _ => cases h
  | _ => rfl
theorem base_plain {e : Expr} {f : Str} {env : Env} (h : call0 e = false) : attributeBase e f env (eval e env) = eval e env := by
  cases e with
  | Call fn args kws p =>
    cases fn with
    | Name x q =>
      cases args with
      | nil =>
        cases kws with
        | nil => cases h
        | cons _ _ => rfl
      | cons _ _ => rfl
    | _ => rfl
  | _ => rfl

/-! ### the program as the compiler knows it -/
structure Fi where
  ps : List Str
  dfl : List PV
inductive Gb where
  | fn (i : Nat) | con (pv : PV) | exc (c : Nat) | cls (c : Nat) | tk (i : Nat) | xb (c : Nat)
structure Pg where
  gl : List (Str × Gb)
  fi : List Fi
  hint : List (Nat × Nat)
  ea : Nat → Str
  sub : Nat → Nat → Bool
  wf : Nat
def Pg.at_ (G : Pg) (p : Pos) : Bool := G.hint.any fun q => q.1 == p.line && q.2 == p.col
def slotOf (x : Str) : List Str → Option Nat
  | [] => none
  | y :: r => if x = y then some 0 else (slotOf x r).map (· + 1)
theorem slotOf_ok {x : Str} : ∀ {N : List Str} {i : Nat}, slotOf x N = some i → N[i]? = some x
  | [], _, h => by cases h
  | y :: r, i, h => by
    unfold slotOf at h
    split at h
    · rename_i e; cases h; rw [e]; rfl
    · obtain ⟨j, h1, rfl⟩ := Option.map_eq_some_iff.mp h
      rw [List.getElem?_cons_succ]
      exact slotOf_ok h1
def kindIn (sc : Scope) (x : Str) : Option NameKind := sc.names.lookup x
def isVis (sc : Scope) (x : Str) : Bool := match kindIn sc x with
  | some .local => true | some .cell => true | some .free => true | _ => false
def isGlb (sc : Scope) (x : Str) : Bool := match kindIn sc x with
  | some .globalImplicit => true | _ => false
theorem isVis_ok {sc : Scope} {x : Str} (h : isVis sc x = true) : Vis sc x := by
  unfold isVis kindIn at h
  split at h
  · exact .inl (by assumption)
  · exact .inr (.inl (by assumption))
  · exact .inr (.inr (by assumption))
  · cases h
theorem isGlb_ok {sc : Scope} {x : Str} (h : isGlb sc x = true) : sc.names.lookup x = some .globalImplicit := by
  unfold isGlb kindIn at h
  split at h
  · assumption
  · cases h
def storable (sc : Scope) (fn : Str → Bool) (x : Str) : Bool := match kindIn sc x with
  | some .local => true
  | some .cell => fn x
  | _ => false
def bnames : List Str := ["len", "int", "bool", "str", "list", "tuple", "dict", "max", "min", "sum", "all", "any", "sorted", "repr", "range", "isinstance", "enumerate", "zip", "abs", "set"]
def tyNm (x : Str) : Option Ty := if x = "int" then some .int else if x = "bool" then some .bool else if x = "str" then some .str else if x = "list" then some .list else if x = "tuple" then some .tuple else if x = "dict" then some .dict else none
theorem tyNm_ok {x : Str} {t : Ty} (h : tyNm x = some t) : x ∈ bnames ∧ bootBuiltins x = some (.type t.name) ∧ x ≠ "__name__" ∧ (x == ("__debug__" : Str)) = false := by
  unfold tyNm at h
  split at h
  · rename_i e; cases h; subst e; exact ⟨by decide +kernel, by decide +kernel, by decide +kernel, by decide +kernel⟩
  split at h
  · rename_i e; cases h; subst e; exact ⟨by decide +kernel, by decide +kernel, by decide +kernel, by decide +kernel⟩
  split at h
  · rename_i e; cases h; subst e; exact ⟨by decide +kernel, by decide +kernel, by decide +kernel, by decide +kernel⟩
  split at h
  · rename_i e; cases h; subst e; exact ⟨by decide +kernel, by decide +kernel, by decide +kernel, by decide +kernel⟩
  split at h
  · rename_i e; cases h; subst e; exact ⟨by decide +kernel, by decide +kernel, by decide +kernel, by decide +kernel⟩
  split at h
  · rename_i e; cases h; subst e; exact ⟨by decide +kernel, by decide +kernel, by decide +kernel, by decide +kernel⟩
  · cases h

/-! ### built-ins that are called -/
inductive BT where
  | len | int | max | min | sum | all | any | tuple | list | abs | isinstance | sorted | repr | dict | str
def BT.nm : BT → Str
  | .len => "len" | .int => "int" | .max => "max" | .min => "min" | .sum => "sum" | .all => "all" | .any => "any" | .tuple => "tuple" | .list => "list" | .abs => "abs" | .isinstance => "isinstance" | .sorted => "sorted" | .repr => "repr" | .dict => "dict" | .str => "str"
def BT.val : BT → Value
  | .len => .builtin "len" | .int => .type "int" | .max => .builtin "max" | .min => .builtin "min" | .sum => .builtin "sum" | .all => .builtin "all" | .any => .builtin "any" | .tuple => .type "tuple" | .list => .type "list" | .abs => .builtin "abs" | .isinstance => .builtin "isinstance" | .sorted => .builtin "sorted" | .repr => .builtin "repr" | .dict => .type "dict" | .str => .type "str"
def BT.op : BT → List PV → Store → Res PV
  | .len => oLen | .int => oInt | .max => oMax | .min => oMin | .sum => oSum | .all => oAll | .any => oAny | .tuple => oTupOf | .list => oLstOf | .abs => oAbs | .isinstance => oIsi | .sorted => oSortedD | .repr => oRepr | .dict => oDictOf | .str => oStr
def BT.every : List BT := [.len, .int, .max, .min, .sum, .all, .any, .tuple, .list, .abs, .isinstance, .sorted, .repr, .dict, .str]
def btOf (x : Str) : Option BT := BT.every.find? fun b => decide (b.nm = x)
theorem btOf_ok {x : Str} {b : BT} (h : btOf x = some b) : x = b.nm := by
  have := List.find?_some h
  exact (of_decide_eq_true this).symm
theorem BT.facts (b : BT) : b.nm ∈ bnames ∧ bootBuiltins b.nm = some b.val ∧ b.nm ≠ "__name__" ∧ (b.nm == ("__debug__" : Str)) = false := by
  cases b <;> exact ⟨by decide +kernel, by decide +kernel, by decide +kernel, by decide +kernel⟩
theorem BT.rule (b : BT) (B : Base) {X : Cx} (hK : X.K = B.K) (hc : X.calm = true) (hgd : X.A.guards = some []) (hu : X.A.units + 65 < cLine) : ∃ r, CallR X b.val r ∧ SvL B r b.op := by
  cases b with
  | len => exact ⟨_, call_lenA, by rw [hK]; exact sv_len⟩
  | int => exact ⟨_, call_int1, sv_int⟩
  | max => exact ⟨_, (cr_max hc).or (call_max2 hc), by rw [hK]; exact sv_max⟩
  | min => exact ⟨_, (cr_min hc).or (call_min2 hc), by rw [hK]; exact sv_min⟩
  | sum => exact ⟨_, (cr_sum hc).or (cr_sumT hc), by rw [hK]; exact sv_sum⟩
  | all => exact ⟨_, cr_all hc, by rw [hK]; exact sv_all⟩
  | any => exact ⟨_, cr_any hc, by rw [hK]; exact sv_any⟩
  | tuple => exact ⟨_, call_tupF, by rw [hK]; exact sv_tupOf⟩
  | list => exact ⟨_, call_lstA hc, by rw [hK]; exact sv_lstOf⟩
  | abs => exact ⟨_, call_abs, sv_abs⟩
  | isinstance => exact ⟨_, call_isiA, by rw [hK]; exact sv_isi⟩
  | sorted => exact ⟨_, call_sortedB hc hu, by rw [hK]; exact sv_sortedB⟩
  | repr => exact ⟨_, call_reprA hgd hu, by rw [hK]; exact sv_repr⟩
  | dict => exact ⟨_, call_dictF hc, by rw [hK]; exact sv_dictOf⟩
  | str => exact ⟨_, SkE.call_str_str, sv_str⟩
/-- f(e, ..) of a built-in -/
theorem pe_callV {X : Cx} {b : BT} {r : List V → Hp → VK → Prop} {e : Expr} {es : List Expr} {t : TA} {p pos : Pos} (hc : CallR X b.val r) (hg : Gl X b.nm) (hm : X.mg b.nm = none) (ha : PA X (e :: es) t) (hs : isStar e = false) (hp : (es.all fun e => !isStar e) = true) :
    PE X (.Call (.Name b.nm p) (e :: es) [] pos) (tCB r t) := by
  obtain ⟨_, h2, h3, h4⟩ := b.facts
  cases b <;> first
    | exact pe_callB hc hg hm h2 ha h3 h4 (starEach_cons hs) (starEach_plain hp)
    | exact pe_callTy hc hg hm h2 ha h3 h4 (starEach_cons hs) (starEach_plain hp)
end E2
end
section
set_option Elab.async false
set_option linter.all false
set_option maxRecDepth 100000
set_option maxHeartbeats 4000000
set_option autoImplicit false
namespace E2
open PySem PySem.Spec PyProof.Rows L2
/-! ### an own exception whose __init__ says super().__init__(told); self.told = told -/
abbrev iniBody (slf tld at_ : Str) (p0 p1 p2 p3 p4 p5 p6 p7 p8 p9 : Pos) : List Stmt := [.Expr (.Call (.Attribute (.Call (.Name "super" p0) [] [] p1) "__init__" p2) [.Name tld p3] [] p4) p5, .Assign [.Attribute (.Name slf p6) at_ p7] (.Name tld p8) p9]
/-- what the written part says of it -/
structure TldC (K : PySem.W.Frag) (prog : Program) (C fI : Addr) (slf tld at_ : Str) : Prop where
  oex : OexC K C
  no : PySem.W.findIn K (.ref C) at_ = some none
  ini : PySem.W.findIn K (.ref C) "__init__" = some (some (.ref fI))
  ty : PySem.W.typeIn K (.ref fI) = some (.type "function")
  sup : PySem.W.subIn K (.ref C) (.type "ValueError") = some true
  opq : PySem.W.nsIn K cStatics "thirdparty.any" = some none
  top : (prog.main.scope.names.lookup ("super" : Str)).isSome = false
  ne : slf ≠ tld
  ex : ∃ (qual : Str) (params : Arguments) (scope : Scope) (dV kV doc pm ct oc : Value) (an od : Option Addr) (osl : Array (Option Value)) (cda cc D : Addr) (ar : Arg) (vs : Array Value) (file : Str) (tf : Tok) (ccl cl : Value) (cdd cld : Option Addr) (ccs csl : Array (Option Value)) (cdD : ClassData) (p0 p1 p2 p3 p4 p5 p6 p7 p8 p9 : Pos) (pl : Env → Sem Bool),
    (∀ env : Env, eval (.Call (.Attribute (.Call (.Name "super" p0) [] [] p1) "__init__" p2) [.Name tld p3] [] p4) env = (do
      let ov ← attributeBase (.Call (.Name "super" p0) [] [] p1) "__init__" env (eval (.Call (.Name "super" p0) [] [] p1) env)
      standAt p2.atName
      let (f, first) ← holding [ov] (getMethod ov "__init__" (pl env))
      callWith p4 f first (backTo p4 (starEach [.Name tld p3] env)) [])) ∧
    K.lookup fI = some ⟨oc, od, .func (PySem.W.ksFn "__init__" qual params (iniBody slf tld at_ p0 p1 p2 p3 p4 p5 p6 p7 p8 p9) scope dV kV doc pm an (.ref cda) ct cc), osl⟩ ∧
    PySem.W.codeIn K (.ref cda) qual = true ∧ (params.posonlyargs ++ params.args).head? = some ar ∧ ar.arg = slf ∧ K.lookup cda = some ⟨ccl, cdd, .fields vs, ccs⟩ ∧ vs[2]? = some (.str file tf) ∧ ((prog.main.file : Str) == file) = true ∧
    K.lookup cc = some ⟨cl, cld, .cell (some (.ref D)), csl⟩ ∧ PySem.W.clsIn K D = some cdD ∧ PySem.W.mroIn K C (.ref D) = some true ∧ PySem.W.ks_superIn K C D "__init__" = some (some (.builtin "ValueError.__init__")) ∧
    scope.names.lookup ("super" : Str) = some .globalImplicit ∧ scope.names.lookup ("__class__" : Str) = some .free ∧ scope.names.lookup slf = some .local ∧ scope.names.lookup tld = some .local ∧ scope.kind = .function ∧ (∀ y ∈ scope.names, y.2 ≠ .cell) ∧ scope.isCoroutine = false ∧ scope.isGenerator = false ∧
    (slf == ("__debug__" : Str)) = false ∧ (tld == ("__debug__" : Str)) = false ∧ (slf == ("__classdict__" : Str)) = false ∧ (tld == ("__classdict__" : Str)) = false ∧ (∀ y ∈ scope.names, y.2 = .free → y.1 = ("__class__" : Str)) ∧
    ∀ (u w : Value), bindArgs (PySem.W.ksFn "__init__" qual params (iniBody slf tld at_ p0 p1 p2 p3 p4 p5 p6 p7 p8 p9) scope dV kV doc pm an (.ref cda) ct cc) ⟨[u, w], []⟩ = pure [(slf, u), (tld, w)]
/-- the promise of such an __init__ -/
def spI (C : Addr) (at_ : Str) : Sp := fun vs H Q _ => ∃ (a : Addr) (v : V), vs = [.ref a, v] ∧ H a = some (exo a C none) ∧ ∀ dx, H dx = none → dx ≠ a → Q .non (upd (upd H dx (exd dx [(at_, v)])) a (exo a C (some dx)))
/-- the context of its body -/
def iniCx (prog : Program) (w : World) (K : PySem.W.Frag) (mg : Str → Option Value) (base : Heap) (N : List Str) (env : Env) (A : Around) (outer : List Env) (s : Shared) (H : Hp) : Cx where
  prog := prog
  w := w
  K := K
  mg := mg
  base := base
  A := A.deeper env
  N := N
  s_0 := s
  H_0 := H
  env := env
  outer := outer
  stack := env :: outer
  ex := []
  fn := fun _ => false
  calm := true
  pn := []
  xe := fun _ _ => False
theorem ini_inv {prog : Program} {w : World} {K : PySem.W.Frag} {mg : Str → Option Value} {base : Heap} {A : Around} {outer : List Env} {s : Shared} {H : Hp} {slf tld : Str} {u1 u2 : Value} {v1 v2 : V} {qual : Str} {scope : Scope} {f cc D : Addr} {cdv : Value} {cl : Value} {cld : Option Addr} {csl : Array (Option Value)} {h₁ : Heap} {tk : Nat}
    (hd : A.handled = none) (e0 : Env0 prog w K mg base A outer s H) (hns : h₁.Ns s.heap.objs.size (fun x => ([(slf, u1), (tld, u2)] : List (Str × Value)).reverse.lookup x)) (kp : ∀ b o, s.heap.get? b = some o → h₁.get? b = some o)
    (r1 : RelV v1 u1) (r2 : RelV v2 u2) (ne : slf ≠ tld) (hk : scope.kind = .function) (hcl : K.lookup cc = some ⟨cl, cld, .cell (some (.ref D)), csl⟩) (l1 : scope.names.lookup slf = some .local) (l2 : scope.names.lookup tld = some .local)
    (nc : ∀ y ∈ scope.names, y.2 ≠ .cell) (fr : ∀ y ∈ scope.names, y.2 = .free → y.1 = ("__class__" : Str)) :
    Inv (iniCx prog w K mg base [slf, tld] (PySem.W.ksEnv qual scope s.heap.objs.size f cdv cc) A outer s H) [] [some v1, some v2] H { s with heap := h₁, toks := tk } := by
  have kin := e0.mod.kin
  have ccb : base.get? cc = some ⟨cl, cld, .cell (some (.ref D)), csl⟩ := kin _ _ hcl
  have clook : ∀ {x : Str} {c : Addr}, ([(("__class__" : Str), cc)] : List (Str × Addr)).lookup x = some c → x = ("__class__" : Str) ∧ c = cc := fun {x c} e => by
    rw [List.lookup_cons] at e
    split at e
    · rename_i hb
      cases e
      exact ⟨by simpa using hb, rfl⟩
    · cases e
  have noA : ∀ b : Addr, b ∉ (iniCx prog w K mg base [slf, tld] (PySem.W.ksEnv qual scope s.heap.objs.size f cdv cc) A outer s H).ex := fun b z => absurd (show b ∈ ([] : List Addr) from z) (by simp)
  refine ⟨⟨e0.mod, hk, rfl, rfl, Nat.le_refl _, fun y z c e1 e2 => ?_, fun y hy => ?_, fun y c z _ => ?_, fun _ => hd, Around.frames_deeper e0.frames, .inr ⟨rfl, rfl⟩, fun b z => absurd z (noA b), e0.bs, e0.bsz, fun b _ _ => noA b, fun b z => absurd z (noA b), e0.funs, e0.frf⟩,
    rfl, e0.bare, Un.kept kp, ⟨_, hns, fun i y v e1 e2 e3 => ?_⟩, fun y c e => ?_, e0.hok.fresh (Nat.le_refl _), fun y c e => ?_, fun q hq => absurd (show q ∈ ([] : List (Addr × Obj)) ++ [] from hq) (by simp), e0.hok.kept kp, rfl⟩
  · rw [(clook e1).1, (clook e2).1]
  · have hy : scope.names.lookup y = some .cell ∨ scope.names.lookup y = some .free := hy
    rcases hy with hy | hy
    · exact absurd rfl (nc _ (PySem.mem_of_lookup hy))
    · have e := fr _ (PySem.mem_of_lookup hy) rfl
      have e : y = ("__class__" : Str) := e
      exact ⟨cc, by show ([(("__class__" : Str), cc)] : List (Str × Addr)).lookup y = some cc; rw [e, List.lookup_cons, beq_self_eq_true]⟩
  · exact absurd (show false = true from z) Bool.false_ne_true
  · match i with
    | 0 =>
      cases e1; cases e2
      refine ⟨u1, r1, .inl ⟨l1, ?_⟩⟩
      show ([(slf, u1), (tld, u2)] : List (Str × Value)).reverse.lookup slf = some u1
      have : (slf == tld) = false := by simpa using ne
      simp [List.lookup_cons, this]
    | 1 =>
      cases e1; cases e2
      refine ⟨u2, r2, .inl ⟨l2, ?_⟩⟩
      show ([(slf, u1), (tld, u2)] : List (Str × Value)).reverse.lookup tld = some u2
      simp [List.lookup_cons]
    | i + 2 => cases e1
  · obtain ⟨_, rfl⟩ := clook e
    exact ⟨some (.ref D), ⟨_, kp _ _ (e0.bs _ _ ccb).1, rfl⟩⟩
  · obtain ⟨_, rfl⟩ := clook e
    exact (e0.bs _ _ ccb).2
section
variable {X : Cx} {pins : List (Addr × Obj)} {σ : L2.St} {H : Hp} {s : Shared}
/-- the bound ValueError.__init__ called -/
theorem mw_ok {A : Around} {E : Value → Shared → Prop} {a C u : Addr} {us : List Value} {Q : Value → Shared → Prop} (T : OexC X.K C) (I : Inv X pins σ H s) (e : H a = some (exo a C none)) (hu : s.heap.get? u = some (PySem.W.kxs_mw "ValueError.__init__" a)) (hl : us.length ≤ sizeLine) (h : ∀ s', Inv X pins σ H s' → Q .none s') :
    wpAny (model X.prog X.w) A (call (.ref u) us) Q E s := by
  obtain ⟨nm, q, N, bs, bm, sn, sub, ab, col, dd, k0, k1, k2, k3, k5, hC, hbm⟩ := T.cls
  obtain ⟨t1, ho⟩ := exo_at I.hok e
  obtain ⟨hp, g, d, t, os⟩ := s
  have fin : ∀ h' : Heap, (∀ b o, b ≠ a → hp.get? b = some o → h'.get? b = some o) → h'.get? a = some ({ cls := .ref C, dict := none, data := .fields #[.ref hp.objs.size, .none, .none, .none, .bool false, .none] } : Obj) → Q .none ⟨h', g, d, t, os⟩ := fun h' k hx => by
    have J := I.write (t' := t) (x := a) (e := a) (o := exo a C none) (by rw [e]; exact True.intro) (.inl rfl) k ⟨_, hx⟩ (exo_ok hx)
    have eu : upd H a (exo a C none) = H := by
      funext b
      by_cases hb : b = a
      · rw [hb, upd_same, e]
      · rw [upd_ne hb]
    rw [eu] at J
    exact h _ J
  refine wpAny_call (codeAny_of_tree ?_)
  show wpAny _ A.in1 (callAny (.ref u) ⟨us, []⟩) _ _ _
  simp only [callAny]
  refine wpAny_bind (wpAny_load hu ?_)
  simp only [PySem.W.kxs_mw, show (Value.type "method-wrapper" == Value.type "method" || Value.type "method-wrapper" == Value.type "builtin_function_or_method" || Value.type "method-wrapper" == Value.type "method-wrapper") = true by decide, if_true]
  refine PySem.W.KFB.if_so (by decide) ?_
  refine wpAny_bind (PySem.W.check_bound_init F.excBase_ValueError.toExcCallFacts (I.kIn _ _ hC) ho rfl ?_)
  refine wpAny_bind (wpAny_pure (wpAny_pure ?_))
  refine ⟨plainId_quiet F.excBase_ValueError.init.plain _, codeAny_builtin F.excBase_ValueError.initEntry ?_⟩
  exact PySem.W.exc_init_tree (cls := .ref C) (t0 := t1) (dv := none) (c2 := .none) (c3 := .none) (b4 := .bool false) ho hl fun h' k1 k2 k3 => fin h' k1 k2
end
theorem boot_super : bootBuiltins "super" = some (.type "super") := by decide +kernel
theorem ini_ok {prog : Program} {w : World} {K : PySem.W.Frag} {mg : Str → Option Value} {base : Heap} {CX : CXT} {k : Nat} {C fI : Addr} {slf tld at_ : Str} (T : TldC K prog C fI slf tld at_) (hms : mg "super" = none) :
    ∃ fd, FnOk prog w K mg base CX (k + 1) fI fd [slf, tld] (spI C at_) ∧ Binds K fd [slf, tld] [] := by
  obtain ⟨qual, params, scope, dV, kV, doc, pm, ct, oc, an, od, osl, cda, cc, D, ar, vs, file, tf, ccl, cl, cdd, cld, ccs, csl, cdD, p0, p1, p2, p3, p4, p5, p6, p7, p8, p9, pl, hev, lkI, hcd, hhd, har, hcode, hvs, hfile, hcell, hD, hsub, hm, hks, hkc, l1, l2, hk, nc, hco, hgen, d1, d2, d3, d4, hfr, hbd⟩ := T.ex
  refine ⟨PySem.W.ksFn "__init__" qual params (iniBody slf tld at_ p0 p1 p2 p3 p4 p5 p6 p7 p8 p9) scope dV kV doc pm an (.ref cda) ct cc, ⟨fun vs H Q E ⟨a, v, e, _⟩ => by rw [e]; rfl, fun A outer s H args us vs' Q E hr e0 hb r hsp => ?_⟩, Binds.all fun us hl => ?_⟩
  rotate_left 1
  · match us, hl with
    | [u1, u2], _ => exact hbd u1 u2
  obtain ⟨a, v, rfl, ha, q⟩ := hsp
  obtain ⟨u1, u2, rfl, r1, r2⟩ := vals2 r
  obtain rfl : u1 = Value.ref a := r1
  have KX : K.In s.heap := e0.mod.kin.keeps fun b o e => (e0.bs b o e).1
  have lim : s.heap.NoLimit := e0.mod.nolimit.keeps fun b o e => (e0.bs b o e).1
  have hb : BindsTo s _ args [(slf, Value.ref a), (tld, u2)] := hb
  refine ks_codeAny_call_defAt hr.depth (KX _ _ lkI) rfl lim (PySem.W.codeRec_of KX hcd) rfl hb nc (fun y hy => ?_) (fun h₁ hns kp => ?_) hco hgen hk
  · rcases List.mem_cons.mp hy with rfl | hy
    · exact l1
    · rw [List.mem_singleton] at hy; subst hy; exact l2
  have hns' := hns
  show PySem.wpAt _ (A.deeper (PySem.W.ksEnv qual scope s.heap.objs.size fI (.ref cda) cc)) (.func _ (PySem.W.ksEnv qual scope s.heap.objs.size fI (.ref cda) cc)) (execs _ (PySem.W.ksEnv qual scope s.heap.objs.size fI (.ref cda) cc)) _ _ _
  have I := ini_inv (f := fI) (qual := qual) (cdv := .ref cda) (tk := s.toks + ([(slf, Value.ref a), (tld, u2)] : List (Str × Value)).length) hr.hd e0 hns kp (show RelV (.ref a) (.ref a) from rfl) r2 T.ne hk hcell l1 l2 nc hfr
  generalize hX : iniCx prog w K mg base [slf, tld] (PySem.W.ksEnv qual scope s.heap.objs.size fI (.ref cda) cc) A outer s H = X at I
  have hXK : X.K = K := by rw [← hX]; rfl
  have kin1 : K.In h₁ := KX.keeps kp
  obtain ⟨t1, ho⟩ := exo_at I.hok ha
  obtain ⟨mb, hmb, hmbv⟩ := e0.mod.blt
  have bk : ∀ b o, base.get? b = some o → h₁.get? b = some o := fun b o e => kp _ _ (e0.bs b o e).1
  obtain ⟨oD, hD1, hD2⟩ : ∃ oD, h₁.get? D = some oD ∧ oD.data = .cls cdD := by
    unfold PySem.W.clsIn at hD
    split at hD
    · rename_i c d cd' sl ho
      cases hD
      exact ⟨_, kin1 _ _ ho, rfl⟩
    · cases hD
  have neb : (slf == tld) = false := by simpa using T.ne
  have look1 : ([(slf, Value.ref a), (tld, u2)] : List (Str × Value)).reverse.lookup slf = some (.ref a) := by simp [List.lookup_cons, neb]
  have look2 : ([(slf, Value.ref a), (tld, u2)] : List (Str × Value)).reverse.lookup tld = some u2 := by simp [List.lookup_cons]
  refine ks_wpAt_execs_cons (ks_wpAt_Expr_any (ks_wpAt_MethodCall ?_ (hev _)) (by simp [interactive, hk]) rfl)
  refine ks_wpAt_super_base (env := PySem.W.ksEnv qual scope s.heap.objs.size fI (.ref cda) cc) hks hkc rfl rfl (kin1 _ _ lkI) rfl hhd rfl (kin1 _ _ hcode) rfl hvs hfile T.top ?_
  refine PySem.W.ks_loadName_global hk hks (PySem.Calls.loadGlobal_builtin (env := PySem.W.ksEnv qual scope s.heap.objs.size fI (.ref cda) cc) (e0.mod.glob.keeps bk) hms (hmb.keeps bk) ((hmbv _ (by decide +kernel)).trans boot_super) ⟨rfl, ?_⟩)
  refine wpAny_loadName_free hk hkc rfl ⟨_, kin1 _ _ hcell, rfl⟩ ?_
  refine wpAny_loadName_local hk (by rw [har]; exact l1) hns (v := .ref a) (by rw [har]; exact look1) ?_
  refine ks_wpAny_isType_cls hD1 hD2 ⟨rfl, ?_⟩
  refine ks_wpAny_call_super hD1 hD2 ho rfl (fun c z => by cases z) (PySem.W.looks_mroIn kin1 hsub) (fun h2 hso kp2 => ?_)
  have I2 := I.kept (t' := s.toks + ([(slf, Value.ref a), (tld, u2)] : List (Str × Value)).length) kp2
  have kin2 : K.In h2 := kin1.keeps kp2
  have ho2 := kp2 _ _ ho
  have LT : PySem.W.Looks (model prog w) h2 (typeOf (.ref a)) (.ref C) := fun A Q E s k q => wpAny_typeOf_ref (k _ _ ho2) q
  have LI : PySem.W.Looks (model prog w) h2 (isInstance (.ref a) (.type "ValueError")) true := PySem.W.Looks.andThen LT (PySem.W.looks_subIn kin2 T.sup)
  have hm' := hm
  unfold PySem.W.ks_superIn at hm'
  cases hc : PySem.W.clsIn K C with
  | none => rw [hc] at hm'; cases hm'
  | some cdC =>
  rw [hc] at hm'
  have hne : a ≠ C := by
    intro z
    subst z
    unfold PySem.W.clsIn at hc
    split at hc
    · rename_i c d cd' sl hoC
      have := kin2 _ _ hoC
      rw [ho2] at this
      cases this
    · cases hc
  refine PySem.W.kxs_getMethod PySem.W.kxs_ValueError hso (PySem.W.looks_opaque kin2 T.opq) (l₀ := cdC.mro) ?_ rfl kin2 hm' LI hne rfl ?_
  · exact fun A Q E s k q => wpAny_bind ((PySem.W.looks_clsIn kin2 hc) A _ E s k (wpAny_pure q))
  have kp3 : ∀ b o, h2.get? b = some o → (h2.push (PySem.W.kxs_mw "ValueError.__init__" a)).get? b = some o := fun b o e => Heap.get?_push_of_some _ e
  have I3 := I2.kept (t' := s.toks + ([(slf, Value.ref a), (tld, u2)] : List (Str × Value)).length + 1) kp3
  have hmw : (h2.push (PySem.W.kxs_mw "ValueError.__init__" a)).get? h2.objs.size = some (PySem.W.kxs_mw "ValueError.__init__" a) := Heap.get?_push_at rfl rfl
  refine PySem.W.kxs_callWith (i := "ValueError.__init__") (x := a) rfl (PySem.Calls.evalArgs_plain ?_)
  show wpAny _ _ (spliced ((false, eval (.Name tld p3) (PySem.W.ksEnv qual scope s.heap.objs.size fI (.ref cda) cc)) :: backTo p4 (starEach [] (PySem.W.ksEnv qual scope s.heap.objs.size fI (.ref cda) cc)))) _ _ _
  refine Calls.spliced_cons (wpAny_Name (wpAny_loadName_local hk l2 ((hns.keeps kp2).keeps kp3) look2 ?_) d2)
  refine Calls.spliced_nil ⟨hmw, ?_⟩
  subst hX
  refine mw_ok (X := iniCx prog w K mg base [slf, tld] (PySem.W.ksEnv qual scope s.heap.objs.size fI (.ref cda) cc) A outer s H) T.oex I3 ha hmw (by show 1 ≤ sizeLine; rw [sizeLine_eq]; omega) fun s4 J4 => ?_
  show PySem.wpAt _ _ _ (execs [.Assign [.Attribute (.Name slf p6) at_ p7] (.Name tld p8) p9] (PySem.W.ksEnv qual scope s.heap.objs.size fI (.ref cda) cc)) _ _ _
  refine ks_wpAt_execs_cons (ks_wpAt_Assign_Attr (wpAt_of_wpAny ?_) rfl)
  have pv1 := pe_var (X := iniCx prog w K mg base [slf, tld] (PySem.W.ksEnv qual scope s.heap.objs.size fI (.ref cda) cc) A outer s H) (pos := p8) (i := 1) (x := tld) rfl (.inl l2) d2 d4
  have pv0 := pe_var (X := iniCx prog w K mg base [slf, tld] (PySem.W.ksEnv qual scope s.heap.objs.size fI (.ref cda) cc) A outer s H) (pos := p6) (i := 0) (x := slf) rfl (.inl l1) d1 d3
  refine wpAny_mono (pv1.run [] s4 _ H (fun x H1 => x = v ∧ H1 = H) J4 ⟨v, rfl, rfl, rfl⟩) (fun uv s5 ⟨x, H5, J5, r5, e5, e6⟩ => ?_) fun _ _ z => (show False from z).elim
  subst e5 e6
  refine wpAny_mono (pv0.run [] s5 _ H5 (fun x H1 => x = .ref a ∧ H1 = H5) J5 ⟨.ref a, rfl, rfl, rfl⟩) (fun us s6 ⟨x', H6, J6, r6, e7, e8⟩ => ?_) fun _ _ z => (show False from z).elim
  subst e7 e8
  obtain rfl : us = Value.ref a := r6
  refine ost_new T.oex J6 ha T.no r5 fun dx s7 n ne J7 => ?_
  exact wpAt_of_wpAny (wpAny_execs_nil ⟨.non, _, J7.os, J7.bare, J7.base, J7.hok, rfl, q dx n ne⟩)
end E2
end
section
set_option Elab.async false
set_option linter.all false
set_option maxRecDepth 100000
set_option maxHeartbeats 4000000
set_option autoImplicit false
namespace E2
open PySem PySem.Spec PyProof.Rows L2
variable {P P' : Pv}

structure Cc where
  sc : Scope
  N : List Str
  fn : Str → Bool
  thk : Option (Str × (Store → Res PV))
  lam : Bool
structure Phi where
  f : Nat → List PV → Store → Res PV
  t : Nat → (Store → Res PV) → Store → Res PV
/-- what a call of f gives, nothing being shown by repr around it -/
structure FnG (prog : Program) (w : World) (K : PySem.W.Frag) (mg : Str → Option Value) (base : Heap) (CX : CXT) (k : Nat) (f : Addr) (fd : FuncData) (ps : List Str) (sp : Sp) : Prop where
  ln : ∀ vs H Q E, sp vs H Q E → vs.length = ps.length
  go : ∀ (A : Around) (outer : List Env) (s : Shared) (H : Hp) (args : Args) (us : List Value) (vs : List V) (Q : VK) (E : XK), Room k A → A.guards = some [] → Env0 prog w K mg base A outer s H → BindsTo s fd args (ps.zip us) → Vals vs us → sp vs H Q E → codeAny (model prog w) A (.call (.ref f) args) (CR CX outer prog w H s Q E) s
/-- what is known of the def i, by level k -/
structure FnF (B : Base) (G : Pg) (Φ : Phi) (k : Nat) (prog : Program) (w : World) (mg : Str → Option Value) (base : Heap) (i : Nat) (f : Addr) : Prop where
  fa : B.fa i = some f
  kp : PySem.W.keepIn B.K (.ref f) = true
  ex : ∃ fi fd dvs, G.fi[i]? = some fi ∧ FnG prog w B.K mg base (L2.CX prog w) k f fd fi.ps (spOf B fi.ps.length (Φ.f i)) ∧ (∀ μ M H, RpL B μ M H fi.dfl dvs) ∧ ∀ j, j ≤ dvs.length → ∃ ds, Vals (dvs.drop j) ds ∧ Binds B.K fd fi.ps ds
/-- a thunk's promise, as its taker uses it -/
def TTof (B : Base) (φ : (Store → Res PV) → Store → Res PV) (tl : XK → Hp → VK → Prop) (H : Hp) (Q : VK) : Prop :=
  ∃ (P : Pv) (μ : List Addr) (S : Store) (th : Store → Res PV), SR B P μ S H ∧ (∀ (E : XK) μ' S' H' Q', Ex μ S H μ' S' H' → SR B P μ' S' H' → Go B P (RelP B) (fun cls d _ H' => E cls d H') [] (th S') μ' S' H' Q' → tl E H' Q') ∧ Go B P (RelP B) W0 [] (φ th S) μ S H Q
/-- what is known of the def x that takes a thunk: k + 2 is the room of the call -/
structure TkF (B : Base) (φ : (Store → Res PV) → Store → Res PV) (k : Nat) (prog : Program) (w : World) (mg : Str → Option Value) (base : Heap) (x : Str) : Prop where
  ex : ∃ (g : Addr) (a : Str) (pg : Arguments) (bg : List Stmt) (sg : Scope) (dV kV doc pm cdv ct oc : Value) (an od : Option Addr) (osl : Array (Option Value)) (Ng : List Str),
    mg x = some (.ref g) ∧ PySem.W.keepIn B.K (.ref g) = true ∧ B.K.lookup g = some ⟨oc, od, .func (PySem.W.fnOf x x pg bg sg dV kV doc pm an cdv ct), osl⟩ ∧ PySem.W.codeIn B.K cdv x = true ∧ Binds B.K (PySem.W.fnOf x x pg bg sg dV kV doc pm an cdv ct) [a] [] ∧
    FnScope Ng [a] sg ∧ Ng[0]? = some a ∧ Vis sg a ∧ (a == ("__debug__" : Str)) = false ∧ (a == ("__classdict__" : Str)) = false ∧
    ∀ (A : Around) (outer : List Env) (s : Shared) (H : Hp) (f c' : Addr) (q : Str) (Q : VK) (tl : XK → Hp → VK → Prop), Room (k + 1) (A.deeper (envOfC x sg s.heap.objs.size g cdv)) → A.guards = some [] →
      (∀ (W : WX) (pn : List (Addr × Obj)) (xe : Value → Shared → Prop) (p1 p2 : Pos), Takes ((cxOf C8.CX0 prog w B.K mg base Ng x sg g cdv A outer s H C8.E0).tr pn xe) W →
        PE ((cxOf C8.CX0 prog w B.K mg base Ng x sg g cdv A outer s H C8.E0).tr pn xe) (.Call (.Name a p1) [] [] p2) (fun σZ HZ Q => σZ[0]? = some (some (.ref f)) ∧ HZ c' = some (LamX.CodeO c' q) ∧ tl (WE W σZ) HZ Q)) →
      H c' = some (LamX.CodeO c' q) → TTof B φ tl H Q →
      ∃ t, PSs (cxOf C8.CX0 prog w B.K mg base Ng x sg g cdv A outer s H C8.E0).nox bg t ∧ t { nx := fun _ H' => Q .non H', rt := Q } (L2.start Ng [.ref f]) H
/-- what isinstance asks of an exception's class -/
structure XiC (K : PySem.W.Frag) (C : Addr) : Prop where
  cl : (PySem.W.clsIn K C).isSome = true
  ha : PySem.W.findIn K (.ref C) "__class__" = some (some (.builtin "object.__class__"))
  hn : PySem.W.specialIn K (.builtin "object.__class__") "__get__" = some (some (.builtin "getset_descriptor.__get__"))
  ht : PySem.W.takesIn K (.builtin "object.__class__") = some true
  hm : PySem.W.mroIn K C (.type "object") = some true
def xiB (K : PySem.W.Frag) (C : Addr) : Bool := (PySem.W.clsIn K C).isSome && decide (PySem.W.findIn K (.ref C) "__class__" = some (some (.builtin "object.__class__"))) && decide (PySem.W.specialIn K (.builtin "object.__class__") "__get__" = some (some (.builtin "getset_descriptor.__get__"))) && decide (PySem.W.takesIn K (.builtin "object.__class__") = some true) && decide (PySem.W.mroIn K C (.type "object") = some true)
theorem xiB_ok {K : PySem.W.Frag} {C : Addr} (h : xiB K C = true) : XiC K C := by
  unfold xiB at h
  simp only [Bool.and_eq_true, decide_eq_true_eq] at h
  exact ⟨h.1.1.1.1, h.1.1.1.2, h.1.1.2, h.1.2, h.2⟩
/-- the program's facts -/
structure PF (B : Base) (G : Pg) (Φ : Nat → Phi) (k : Nat) (prog : Program) (w : World) (mg : Str → Option Value) (base : Heap) : Prop where
  blt : ∀ x, x ∈ bnames → G.gl.lookup x = none → mg x = none
  con : ∀ x pv, G.gl.lookup x = some (.con pv) → ∃ u v, mg x = some u ∧ RelV v u ∧ ∀ μ M H, Rp B μ M H pv v
  fnc : ∀ j, j ≤ k → ∀ x i, G.gl.lookup x = some (.fn i) → ∃ f, mg x = some (.ref f) ∧ FnF B G (Φ j) j prog w mg base i f
  tkc : ∀ j, j + 2 ≤ k → ∀ x i, G.gl.lookup x = some (.tk i) → TkF B ((Φ (j + 2)).t i) j prog w mg base x
  exc : ∀ x c, G.gl.lookup x = some (.exc c) → ∃ C fI slf tld, B.ec c = some C ∧ mg x = some (.ref C) ∧ TldC B.K prog C fI slf tld (B.ea c)
  xb : ∀ x c, G.gl.lookup x = some (.exc c) ∨ G.gl.lookup x = some (.xb c) → ∃ C, B.ec c = some C ∧ mg x = some (.ref C)
  xf : ∀ c C, B.ec c = some C → XfC B.K C ∧ PySem.W.findIn B.K (.ref C) (B.ea c) = some none
  sub : ∀ c C c' C', B.ec c = some C → B.ec c' = some C' → PySem.W.exmOne B.K (.ref C) (.ref C') = some (G.sub c c')
  ea : ∀ c, B.ea c = G.ea c
  sup : mg "super" = none
  xi : ∀ c C, B.ec c = some C → XiC B.K C
  kit : ∀ c C c' C', B.ec c = some C → B.ec c' = some C' → PySem.W.kitOne B.K (.ref C) (.ref C') = some (G.sub c c')
theorem PF.mono {B : Base} {G : Pg} {Φ : Nat → Phi} {k j : Nat} {prog : Program} {w : World} {mg : Str → Option Value} {base : Heap} (h : PF B G Φ k prog w mg base) (hj : j ≤ k) : PF B G Φ j prog w mg base :=
  ⟨h.blt, h.con, fun i hi => h.fnc i (Nat.le_trans hi hj), fun i hi => h.tkc i (Nat.le_trans hi hj), h.exc, h.xb, h.xf, h.sub, h.ea, h.sup, h.xi, h.kit⟩
/-- the thunk is called -/
def dThk (th : Store → Res PV) : DE := fun fr S => match fr[0]? with
  | some (some PV.thk) => th S
  | _ => .fail
structure GX (B : Base) (G : Pg) (Φ : Nat → Phi) (k : Nat) (P : Pv) (W : WX) (cc : Cc) (X : Cx) : Prop where
  hK : X.K = B.K
  nd : X.N.Nodup
  room : Room k X.A
  gd : X.A.guards = some []
  calm : X.calm = true
  tk : Takes X W
  pf : PF B G Φ k X.prog X.w X.mg X.base
  hsc : X.env.scope = cc.sc
  hN : X.N = cc.N
  hfn : ∀ x, cc.fn x = true → X.fn x = true
  thk : ∀ a th, cc.thk = some (a, th) → ∀ pn xe W', Takes (X.tr pn xe) W' → ∀ p1 p2, PE (X.tr pn xe) (.Call (.Name a p1) [] [] p2) (tE B P W' (dThk th))
  lam : cc.lam = true → ∃ c Pt, X.env.code = .ref c ∧ LamX.TabB X.base X.mg c Pt ∧ (Pt, X.env.qual ++ "<lambda>") ∈ B.T ∧ ∀ p ∈ B.T, p.1 = Pt → p.2 = X.env.qual ++ "<lambda>"

section
variable {B : Base} {G : Pg} {Φ : Nat → Phi} {k : Nat} {W : WX} {cc : Cc} {X : Cx}
theorem GX.units (g : GX B G Φ k P W cc X) : X.A.units + 65 < cLine := by have := g.room.un; omega
theorem GX.gl (g : GX B G Φ k P W cc X) {x : Str} (h : isGlb cc.sc x = true) : Gl X x := by
  have := isGlb_ok h
  show X.env.scope.names.lookup x = _
  rw [g.hsc]; exact this

/-! ### names -/
def noDbg (x : Str) : Bool := !(x == ("__debug__" : Str)) && !(x == ("__classdict__" : Str))
theorem noDbg_ok {x : Str} (h : noDbg x = true) : (x == ("__debug__" : Str)) = false ∧ (x == ("__classdict__" : Str)) = false := by
  unfold noDbg at h
  simp only [Bool.and_eq_true, Bool.not_eq_true'] at h
  exact h
def cmpName (G : Pg) (cc : Cc) (x : Str) (pos : Pos) : Option DE :=
  if noDbg x then
    if isVis cc.sc x then (match slotOf x cc.N with
      | some i => some (if G.at_ pos then dVarF i else dVar i)
      | none => none)
    else if isGlb cc.sc x then (match G.gl.lookup x with
      | some (.con pv) => some (dC pv)
      | some (.fn i) => some (dC (.fn i))
      | some _ => none
      | none => (match tyNm x with
        | some t => some (dC (.ty t))
        | none => none))
    else none
  else none
theorem cmpName_ok {x : Str} {pos : Pos} {d : DE} (g : GX B G Φ k P W cc X) (h : cmpName G cc x pos = some d) : PE X (.Name x pos) (tE B P W d) := by
  unfold cmpName at h
  split at h
  · rename_i hd
    obtain ⟨d1, d2⟩ := noDbg_ok hd
    split at h
    · rename_i hv
      split at h
      · rename_i i hi
        cases h
        have hN : X.N[i]? = some x := by rw [g.hN]; exact slotOf_ok hi
        have hvv : Vis X.env.scope x := by rw [g.hsc]; exact isVis_ok hv
        split
        · exact PE.imp (pe_var hN hvv d1 d2) tVarF_of
        · exact PE.imp (pe_var hN hvv d1 d2) tVar_of
      · cases h
    · split at h
      · rename_i hg
        split at h
        · rename_i pv hl
          cases h
          obtain ⟨u, v, h1, h2, h3⟩ := g.pf.con x pv hl
          exact PE.imp (pe_glob (g.gl hg) h1 h2 d1) (tC_of h3)
        · rename_i i hl
          cases h
          obtain ⟨f, h1, h2⟩ := g.pf.fnc k (Nat.le_refl k) x i hl
          exact PE.imp (pe_glob (v := .ref f) (g.gl hg) h1 rfl d1) (tC_of fun _ _ _ => .fn h2.fa)
        · cases h
        · rename_i hl
          split at h
          · rename_i t ht
            cases h
            obtain ⟨a1, a2, a3, a4⟩ := tyNm_ok ht
            exact PE.imp (pe_bltn (v := .ty t.name) (g.gl hg) (g.pf.blt x a1 hl) a2 rfl a3 a4) (tC_of fun _ _ _ => .ty t)
          · cases h
      · cases h
  · cases h
/-! ### arguments -/
def cmpA (f : Expr → Option DE) : List Expr → Option DA
  | [] => some dNil
  | e :: es => if isStar e then none else (match f e, cmpA f es with
    | some d, some ds => some (dCons d ds)
    | _, _ => none)
theorem cmpA_ok {f : Expr → Option DE} (hf : ∀ e d, f e = some d → PE X e (tE B P W d)) : ∀ {es : List Expr} {d : DA}, cmpA f es = some d → PA X es (tA B P W d) ∧ (es.all fun e => !isStar e) = true
  | [], d, h => by cases h; exact ⟨PA.imp pa_nil tNil_of, rfl⟩
  | e :: es, d, h => by
    unfold cmpA at h
    split at h
    · cases h
    · rename_i hs
      have hs : isStar e = false := by simpa using hs
      split at h
      · rename_i d1 d2 h1 h2
        cases h
        obtain ⟨q1, q2⟩ := cmpA_ok hf h2
        exact ⟨PA.imp (pa_cons (hf e d1 h1) q1 (starEach_cons hs)) tCons_of, by rw [List.all_cons, hs, q2]; rfl⟩
      · cases h
/-! ### displays with *x -/
def dStar (a : DE) (r : DA) : DA := fun fr S => (a fr S).bind fun x S1 => match x with
  | .lst xs => (r fr S1).bind fun ys S2 => .ok (xs ++ ys) S2
  | .tup xs => (r fr S1).bind fun ys S2 => .ok (xs ++ ys) S2
  | _ => .fail
theorem tStar_of {a : DE} {r : DA} : ∀ σ H Q, tA B P W (dStar a r) σ H Q → StX.tStar B.K (tE B P W a) (tA B P W r) σ H Q := by
  rintro σ H Q ⟨fr, μ, S, hf, sr, g⟩
  refine ⟨fr, μ, S, hf, sr, g.bind.imp ?_⟩
  rintro v H1 ⟨μ1, S1, x, e1, sr1, r1, _, g1⟩
  have r1 : Rp B μ1 (Mz P μ1 S1) H1 x v := r1
  have key : ∀ {xs : List PV} {vs : List V}, RpL B μ1 (Mz P μ1 S1) H1 xs vs → Go B P (RelL B) W σ ((r fr S1).bind fun ys S2 => .ok (xs ++ ys) S2) μ1 S1 H1 Q → tA B P W r σ H1 fun ys H2 => Q (vs ++ ys) H2 := by
    intro xs vs l g2
    refine ⟨fr, μ1, S1, hf.mono sr e1, sr1, g2.bind.imp ?_⟩
    rintro us H2 ⟨μ2, S2, ys, e2, sr2, r2, _, g3⟩
    exact g3.done sr2 ((l.mono sr1 e2).append r2)
  split at g1
  · cases r1 with
    | lst h n l => exact ⟨_, _, rfl, .inr (SqL.of h), key l g1⟩
  · cases r1 with
    | tup h l => exact ⟨_, _, rfl, .inl h.sq, key l g1⟩
  · exact g1.elim
def cmpDs (f : Expr → Option DE) : List Expr → Option DA
  | [] => some dNil
  | .Starred e _ :: es => (match f e, cmpDs f es with
    | some d, some ds => some (dStar d ds)
    | _, _ => none)
  | e :: es => if isStar e then none else (match f e, cmpDs f es with
    | some d, some ds => some (dCons d ds)
    | _, _ => none)
theorem cmpDs_ok {f : Expr → Option DE} (hK : X.K = B.K) (hf : ∀ e d, f e = some d → PE X e (tE B P W d)) : ∀ {es : List Expr} {d : DA}, cmpDs f es = some d → PA X es (tA B P W d)
  | [], d, h => by cases h; exact PA.imp pa_nil tNil_of
  | e :: es, d, h => by
    unfold cmpDs at h
    split at h
    · rename_i e0; cases e0
    · rename_i e1 p1 es1 e0
      cases e0
      split at h
      · rename_i d1 d2 h1 h2
        cases h
        refine PA.imp (StX.pa_star (hf e1 d1 h1) (cmpDs_ok hK hf h2)) ?_
        rw [hK]
        exact tStar_of
      · cases h
    · rename_i e1 es1 _ e0
      cases e0
      split at h
      · cases h
      · rename_i hs
        have hs : isStar e = false := by simpa using hs
        split at h
        · rename_i d1 d2 h1 h2
          cases h
          exact PA.imp (pa_cons (hf e d1 h1) (cmpDs_ok hK hf h2) (starEach_cons hs)) tCons_of
        · cases h
/-! ### operators -/
def binOp : Operator → Option (PV → PV → Store → Res PV)
  | .Add => some oAdd | .Sub => some oSub | .Mult => some oMul | .FloorDiv => some oFdiv | .Mod => some oMod | .Pow => some oPow
  | _ => none
theorem binOp_ok {op : Operator} {o : PV → PV → Store → Res PV} (hK : X.K = B.K) (h : binOp op = some o) : ∃ r, OpR X (binaryOp op) r ∧ Sv2 B r o := by
  cases op <;> simp only [binOp] at h <;> cases h
  · exact ⟨_, op_addA, by rw [hK]; exact sv_add⟩
  · exact ⟨_, op_sub, sv_sub⟩
  · exact ⟨_, op_mulA, by rw [hK]; exact sv_mul⟩
  · exact ⟨_, op_mod, sv_mod⟩
  · exact ⟨_, op_pow, sv_pow⟩
  · exact ⟨_, op_fdiv, sv_fdiv⟩
def cmpOp : CmpOp → Option (PV → PV → Store → Res PV)
  | .Eq => some oEq | .NotEq => some oNe | .Lt => some oLt
  | .LtE => some (oCmpI fun i j => decide (i ≤ j)) | .Gt => some (oCmpI fun i j => decide (j < i)) | .GtE => some (oCmpI fun i j => decide (j ≤ i))
  | .Is => some (oIs false) | .IsNot => some (oIs true) | .In => some (oIn false) | .NotIn => some (oIn true)
theorem cmpOp_ok {op : CmpOp} {o : PV → PV → Store → Res PV} (g : GX B G Φ k P W cc X) (h : cmpOp op = some o) : ∃ r, OpR X (compareOp op) r ∧ Sv2 B r o := by
  have hu := g.units
  cases op <;> simp only [cmpOp] at h <;> cases h
  · exact ⟨_, op_eqD (by omega), by rw [g.hK]; exact sv_eq⟩
  · exact ⟨_, op_neD (by omega), by rw [g.hK]; exact sv_ne⟩
  · exact ⟨_, op_ltA (by omega), by rw [g.hK]; exact sv_lt⟩
  · exact ⟨_, op_le, sv_cmpI _⟩
  · exact ⟨_, op_gt, sv_cmpI _⟩
  · exact ⟨_, op_ge, sv_cmpI _⟩
  · exact ⟨_, op_isA, sv_is⟩
  · exact ⟨_, op_isNotA, sv_isNot⟩
  · exact ⟨_, op_inA hu, by rw [g.hK]; exact sv_in⟩
  · exact ⟨_, op_notInA hu, by rw [g.hK]; exact sv_notIn⟩
def augOp : Operator → Option (PV → PV → Store → Res PV)
  | .Sub => some oSub
  | .Mult => some fun x y S => (match drf S x, drf S y with
    | .int i, .int j => if mulOk i j then .ok (.int (i * j)) S else .fail
    | _, _ => .fail)
  | .Add => some fun x y S => (match drf S x, drf S y with
    | .int i, .int j => .ok (.int (i + j)) S
    | _, _ => .fail)
  | _ => none
theorem augOp_ok {op : Operator} {o : PV → PV → Store → Res PV} (h : augOp op = some o) : ∃ r, OpR X (inplaceOp op) r ∧ Sv2 B r o := by
  cases op <;> simp only [augOp] at h <;> cases h
  · refine ⟨_, iop_add, ?_⟩
    intro P W σ μ S H x y v u Q sr rx ry g
    dsimp only at g
    split at g
    · rename_i i j e1 e2
      exact ⟨i, j, intV sr rx e1, intV sr ry e2, g.done sr (.int _)⟩
    · exact g.elim
  · exact ⟨_, iop_sub, sv_sub⟩
  · refine ⟨_, iop_mul, ?_⟩
    intro P W σ μ S H x y v u Q sr rx ry g
    dsimp only at g
    split at g
    · rename_i i j e1 e2
      split at g
      · exact ⟨i, j, intV sr rx e1, intV sr ry e2, mulOk_ok (by assumption), g.done sr (.int _)⟩
      · exact g.elim
    · exact g.elim
/-! ### comparisons -/
def cmpCmp (f : Expr → Option DE) (a : Expr) (ops : List CmpOp) (bs : List Expr) : Option DE := match ops, bs with
  | [op], [b] => if isSet b then none else (match cmpOp op, f a, f b with
    | some o, some da, some db => some (dBin o da db)
    | _, _, _ => none)
  | [op, op'], [b, c] => if isSet b || isSet c then none else (match cmpOp op, cmpOp op', f a, f b, f c with
    | some o, some o', some da, some db, some dc => some (dChain o o' da db dc)
    | _, _, _, _, _ => none)
  | _, _ => none
theorem cmpCmp_ok {f : Expr → Option DE} (g : GX B G Φ k P W cc X) (hf : ∀ e d, f e = some d → PE X e (tE B P W d)) {a : Expr} {ops : List CmpOp} {bs : List Expr} {d : DE} (h : cmpCmp f a ops bs = some d) (pos : Pos) :
    PE X (.Compare a ops bs pos) (tE B P W d) ∧ PT X (.Compare a ops bs pos) (tT B P W (dBl d)) := by
  unfold cmpCmp at h
  split at h
  · rename_i op b
    split at h
    · cases h
    · rename_i hs
      have hs : isSet b = false := by simpa using hs
      split at h
      · rename_i o da db h1 h2 h3
        cases h
        obtain ⟨r, q1, q2⟩ := cmpOp_ok g h1
        refine ⟨PE.imp (pe_cmpR q1 (hf _ _ h2) (hf _ _ h3) (marks_plain hs)) (tOp_of q2), PT.imp (pt_cmpR q1 (hf _ _ h2) (hf _ _ h3) (marks_plain hs)) ?_⟩
        exact fun σ H Q z => tOp_of q2 σ H _ (tBl_of σ H Q z)
      · cases h
  · rename_i op op' b c
    split at h
    · cases h
    · rename_i hs
      simp only [Bool.or_eq_true, not_or, Bool.not_eq_true] at hs
      split at h
      · rename_i o o' da db dc h1 h2 h3 h4 h5
        cases h
        obtain ⟨r, q1, q2⟩ := cmpOp_ok g h1
        obtain ⟨r', q1', q2'⟩ := cmpOp_ok g h2
        refine ⟨PE.imp (pe_chain q1 q1' (hf _ _ h3) (hf _ _ h4) (hf _ _ h5) ?_) (tChain_of q2 q2'), PT.imp (pt_chain q1 q1' (hf _ _ h3) (hf _ _ h4) (hf _ _ h5) ?_) ?_⟩
        · exact marks_plain hs.2
        · exact marks_plain hs.2
        · exact fun σ H Q z => tChain_of q2 q2' σ H _ (tBl_of σ H Q z)
      · cases h
  · cases h
end
end E2
end
section
set_option Elab.async false
set_option linter.all false
set_option maxRecDepth 100000
set_option maxHeartbeats 4000000
set_option autoImplicit false
namespace E2
open PySem L2
variable {P P' : Pv}
section
variable {B : Base} {G : Pg} {Φ : Nat → Phi} {k : Nat} {W : WX} {cc : Cc} {X : Cx}
/-! ### tests -/
def cmpBs (g : Expr → Option DT) (op : PySem.BoolOp) : List Expr → Option DT
  | [] => none
  | a :: r => (match r with
    | [] => g a
    | _ :: _ => (match g a, cmpBs g op r with
      | some da, some dr => some (match op with | .And => dAndT da dr | .Or => dOrT da dr)
      | _, _ => none))
theorem cmpBs_ok {g : Expr → Option DT} (hg : ∀ e d, g e = some d → PT X e (tT B P W d)) {op : PySem.BoolOp} {pos : Pos} : ∀ {es : List Expr} {d : DT}, cmpBs g op es = some d → PW X (.BoolOp op es pos) (tT B P W d)
  | [], d, h => by cases h
  | [a], d, h => by
    unfold cmpBs at h
    have := hg a d h
    cases op with
    | And => exact pw_and1 this
    | Or => exact pw_or1 this
  | a :: b :: r, d, h => by
    unfold cmpBs at h
    dsimp only at h
    split at h
    · rename_i da dr h1 h2
      have q1 := hg a da h1
      have q2 := cmpBs_ok hg (pos := pos) h2
      cases op with
      | And =>
        cases h
        have q := pw_and q1 q2
        exact ⟨fun wh pins s σ H Q I z => q.run wh pins s σ H Q I (tAndT_of σ H Q z)⟩
      | Or =>
        cases h
        have q := pw_or q1 q2
        exact ⟨fun wh pins s σ H Q I z => q.run wh pins s σ H Q I (tOrT_of σ H Q z)⟩
    · cases h
def cmpT (f : Expr → Option DE) : Nat → Expr → Option DT
  | 0, _ => none
  | m + 1, e => (match e with
    | .UnaryOp .Not a _ => (match cmpT f m a with
      | some d => some (dNotT d)
      | none => none)
    | .BoolOp op vs _ => cmpBs (cmpT f m) op vs
    | .Compare a ops bs _ => (match cmpCmp f a ops bs with
      | some d => some (dBl d)
      | none => none)
    | e => if oddTest e then none else (match f e with
      | some d => some (dTru d)
      | none => none))
theorem cmpT_ok {f : Expr → Option DE} (g : GX B G Φ k P W cc X) (hf : ∀ e d, f e = some d → PE X e (tE B P W d)) : ∀ (m : Nat) (e : Expr) (d : DT), cmpT f m e = some d → PT X e (tT B P W d)
  | 0, _, _, h => by cases h
  | m + 1, e, d, h => by
    unfold cmpT at h
    split at h
    · split at h
      · rename_i d1 h1
        cases h
        exact PT.imp (pt_not (cmpT_ok g hf m _ _ h1)) tNotT_of
      · cases h
    · exact (cmpBs_ok (fun e d => cmpT_ok g hf m e d) h).pt
    · split at h
      · rename_i d1 h1
        cases h
        exact (cmpCmp_ok g hf h1 _).2
      · cases h
    · split at h
      · cases h
      · rename_i ho
        have ho : oddTest e = false := by simpa using ho
        split at h
        · rename_i d1 h1
          cases h
          refine PT.imp (pt_truth (hf _ _ h1) (test_plain ho)) ?_
          rw [g.hK]
          exact tTru_of
        · cases h
/-! ### and, or as values -/
def cmpBV (f : Expr → Option DE) (op : PySem.BoolOp) : List Expr → Option DE
  | [] => none
  | a :: r => (match r with
    | [] => f a
    | _ :: _ => (match f a, cmpBV f op r with
      | some da, some dr => some (match op with | .And => dAndV da dr | .Or => dOrV da dr)
      | _, _ => none))
theorem cmpBV_ok {f : Expr → Option DE} (g : GX B G Φ k P W cc X) (hf : ∀ e d, f e = some d → PE X e (tE B P W d)) {op : PySem.BoolOp} {pos : Pos} : ∀ {es : List Expr} {d : DE}, cmpBV f op es = some d → PE X (.BoolOp op es pos) (tE B P W d)
  | [], d, h => by cases h
  | [a], d, h => by
    unfold cmpBV at h
    exact pe_one (hf a d h)
  | a :: b :: r, d, h => by
    unfold cmpBV at h
    dsimp only at h
    split at h
    · rename_i da dr h1 h2
      have q1 := hf a da h1
      have q2 := cmpBV_ok g hf (pos := pos) h2
      cases op with
      | And =>
        cases h
        refine PE.imp (pe_andT q1 q2) ?_
        rw [g.hK]
        exact tAndV_of
      | Or =>
        cases h
        refine PE.imp (pe_orT q1 q2) ?_
        rw [g.hK]
        exact tOrV_of
    · cases h
/-! ### slices -/
def cutP (xs : List PV) (lo hi : Option Int) : List PV := (xs.drop (HT.sIx xs.length 0 lo)).take (HT.sIx xs.length xs.length hi - HT.sIx xs.length 0 lo)
theorem cut_rel {μ : List Addr} {M : Mx} {H : Hp} {xs : List PV} {vs : List V} {lo hi : Option Int} (l : RpL B μ M H xs vs) : RpL B μ M H (cutP xs lo hi) (cutV vs lo hi) := by
  unfold cutP cutV
  rw [l.length]
  exact (l.drop _).take _
def oSl (x : PV) (lo hi : Option Int) (S : Store) : Res PV := match drf S x with
  | .lst xs => .ok (.lst (cutP xs lo hi)) S
  | .tup xs => .ok (.tup (cutP xs lo hi)) S
  | _ => .fail
def rSlB (K : PySem.W.Frag) : V → Option Int → Option Int → Hp → VK → Prop := fun x lo hi H Q => rSlL K x lo hi H Q ∨ rSlF K x lo hi H Q
theorem sl_any : SlR X (rSlB X.K) := sl_list.or sl_tupF
theorem sv_sl {σ : St} {μ : List Addr} {S : Store} {H : Hp} {x : PV} {v : V} {lo hi : Option Int} {Q : VK} (sr : SR B P μ S H) (r : Rp B μ (Mz P μ S) H x v) (g : Go B P (RelP B) W σ (oSl x lo hi S) μ S H Q) : rSlB B.K v lo hi H Q := by
  unfold oSl at g
  split at g
  · rename_i xs e
    obtain ⟨a, vs, rfl, h1, l⟩ := lstV sr r e
    exact .inl ⟨a, vs, rfl, SqL.of h1, fun p hp => go_lst sr hp (cut_rel l) g⟩
  · rename_i xs e
    obtain ⟨a, vs, rfl, h1, l⟩ := tupV sr r e
    refine .inr ⟨a, vs, rfl, h1.sq, fun hw => ?_, fun _ => go_tup sr (cut_rel l) g⟩
    have e1 : cutP xs lo hi = xs := by
      unfold cutP
      rw [l.length, hw.1, hw.2, List.drop_zero, Nat.sub_zero, ← l.length, List.take_length]
    rw [e1] at g
    exact g.done sr (.tup h1 l)
  · exact g.elim
abbrev DO := Frame → Store → Res (Option Int)
def RelE {α : Type} : List Addr → Mx → Hp → α → α → Prop := fun _ _ _ a b => a = b
def dPart (a : DE) : DO := fun fr S => (a fr S).bind fun x S1 => match drf S1 x with
  | .int i => .ok (some i) S1
  | _ => .fail
def dNoPart : DO := fun _ S => .ok none S
def dSl (a : DE) (lo hi : DO) : DE := fun fr S => (a fr S).bind fun x S1 => (lo fr S1).bind fun l S2 => (hi fr S2).bind fun u S3 => oSl x l u S3
def cmpPart (f : Expr → Option DE) : Option Expr → Option DO
  | none => some dNoPart
  | some e => (match f e with
    | some d => some (dPart d)
    | none => none)
theorem cmpPart_ok {f : Expr → Option DE} (hf : ∀ e d, f e = some d → PE X e (tE B P W d)) {o : Option Expr} {d : DO} (h : cmpPart f o = some d) : PO X o (tD B P RelE W d) := by
  cases o with
  | none =>
    cases h
    refine ⟨fun pins s σ H Q I z => po_none.run pins s σ H Q I ?_⟩
    obtain ⟨fr, μ, S, z1, z2, z3⟩ := z
    exact z3.done z2 rfl
  | some e =>
    simp only [cmpPart] at h
    split at h
    · rename_i d1 h1
      cases h
      refine ⟨fun pins s σ H Q I z => (po_some (hf e d1 h1)).run pins s σ H Q I ?_⟩
      obtain ⟨fr, μ, S, z1, z2, z3⟩ := z
      refine ⟨fr, μ, S, z1, z2, z3.bind.imp ?_⟩
      rintro v H1 ⟨μ1, S1, x, e1, sr1, r1, _, g1⟩
      split at g1
      · rename_i i ei
        exact ⟨i, intV sr1 r1 ei, g1.done sr1 rfl⟩
      · exact g1.elim
    · cases h
theorem tSl_of {a : DE} {lo hi : DO} : ∀ σ H Q, tE B P W (dSl a lo hi) σ H Q → tSl (rSlB B.K) (tE B P W a) (tD B P RelE W lo) (tD B P RelE W hi) σ H Q := by
  rintro σ H Q ⟨fr, μ, S, hf, sr, g⟩
  refine ⟨fr, μ, S, hf, sr, g.bind.imp ?_⟩
  rintro v H1 ⟨μ1, S1, x, e1, sr1, r1, _, g1⟩
  have r1 : Rp B μ1 (Mz P μ1 S1) H1 x v := r1
  refine ⟨fr, μ1, S1, hf.mono sr e1, sr1, g1.bind.imp ?_⟩
  rintro l H2 ⟨μ2, S2, l', e2, sr2, r2, _, g2⟩
  cases (show l' = l from r2)
  refine ⟨fr, μ2, S2, (hf.mono sr e1).mono sr1 e2, sr2, g2.bind.imp ?_⟩
  rintro u H3 ⟨μ3, S3, u', e3, sr3, r3, _, g3⟩
  cases (show u' = u from r3)
  exact sv_sl sr3 ((r1.mono sr1 e2).mono sr2 e3) g3
def cmpSub (f : Expr → Option DE) (a b : Expr) : Option DE := match b with
  | .Slice lo hi none _ => (match f a, cmpPart f lo, cmpPart f hi with
    | some da, some dl, some dh => some (dSl da dl dh)
    | _, _, _ => none)
  | b => if isSlc b then none else (match f a, f b with
    | some da, some db => some (dBin oIx da db)
    | _, _ => none)
theorem cmpSub_ok {f : Expr → Option DE} (g : GX B G Φ k P W cc X) (hf : ∀ e d, f e = some d → PE X e (tE B P W d)) {a b : Expr} {d : DE} {pos : Pos} (h : cmpSub f a b = some d) : PE X (.Subscript a b pos) (tE B P W d) := by
  unfold cmpSub at h
  split at h
  · split at h
    · rename_i da dl dh h1 h2 h3
      cases h
      refine PE.imp (pe_slice sl_any (hf _ _ h1) (cmpPart_ok hf h2) (cmpPart_ok hf h3)) ?_
      rw [g.hK]
      exact tSl_of
    · cases h
  · split at h
    · cases h
    · rename_i hs
      have hs : isSlc b = false := by simpa using hs
      split at h
      · rename_i da db h1 h2
        cases h
        have hu := g.units
        refine PE.imp (pe_ix (ix_any (by omega)) (hf _ _ h1) (hf _ _ h2) (ix_plain hs)) ?_
        rw [g.hK]
        exact tOp_of sv_ix
      · cases h
/-! ### iterables -/
/-- the signs of a text -/
def chrs (z : Str) : List PV := z.cps.toList.map fun c => .str ⟨#[c]⟩
theorem its_str {μ : List Addr} {S : Store} {H : Hp} (sr : SR B P μ S H) (z : Str) : ItS B P (Its z) (chrs z) μ S H := by
  have ll : (chrs z).length = z.cps.size := by simp [chrs]
  refine ⟨fun P' μ2 S2 H2 i ex sr2 hi => by show i < z.cps.size; rw [← ll]; exact hi, fun P' μ2 S2 H2 i x H3 hp ex sr2 hi0 y => ?_, fun P' μ2 S2 H2 i ex sr2 hi => by show z.cps.size ≤ i; rw [← ll]; exact hi⟩
  obtain ⟨e, c, hc, ex1⟩ := y
  subst e
  subst ex1
  refine ⟨.str ⟨#[c]⟩, ?_, .refl, sr2, .str _, fun _ _ z => z⟩
  unfold chrs
  rw [List.getElem?_map, Array.getElem?_toList, hc]
  rfl
def dSeqI (a : DE) : DI := fun fr S => (a fr S).bind fun x S1 => match x with
  | .lst xs => .ok xs S1
  | .tup xs => .ok xs S1
  | .str z => .ok (chrs z) S1
  | _ => .fail
def rngOk (j : Int) : Bool := decide (-4611686018427387904 ≤ j) && decide (j < 4611686018427387904)
theorem rngOk_ok {j : Int} (h : rngOk j = true) : -(2 ^ 62) ≤ j ∧ j < 2 ^ 62 := by
  unfold rngOk at h
  simp only [Bool.and_eq_true, decide_eq_true_eq] at h
  have e : (2 : Int) ^ 62 = 4611686018427387904 := by decide
  rw [e]; exact h
def dRng1 (a : DA) : DI := fun fr S => (a fr S).bind fun xs S1 => match xs with
  | [x] => (match drf S1 x with
    | .int j => if rngOk j then .ok (rngP 0 j.toNat) S1 else .fail
    | _ => .fail)
  | _ => .fail
def dRng2 (a : DA) : DI := fun fr S => (a fr S).bind fun xs S1 => match xs with
  | [x, y] => (match drf S1 x, drf S1 y with
    | .int i, .int j => if rngOk i && rngOk j then .ok (rngP i (j - i).toNat) S1 else .fail
    | _, _ => .fail)
  | _ => .fail
def iSeq (K : PySem.W.Frag) (tl : TE) : TI := fun σ H R => tl σ H fun x H1 => (∃ a, x = .ref a ∧ (((∃ xs, SqL K H1 a xs) ∧ R (Itl K a) H1) ∨ ((∃ xs, SqT K H1 a xs) ∧ R (Itt K a) H1))) ∨ ∃ z, x = .str z ∧ R (Its z) H1
theorem pi_seq {tg l : Expr} {tl : TE} (hl : PE X l tl) : PI X tg l (iSeq X.K tl) := by
  refine ⟨fun pins s σ H R I h => ?_⟩
  refine thn (hl.run pins s σ H _ I h) fun v s1 ⟨x, H1, I1, r1, q1⟩ => ?_
  obtain ⟨a, e, ⟨⟨xs, hq⟩, q⟩ | ⟨⟨xs, hq⟩, q⟩⟩ | ⟨z, e, q⟩ := q1
  · subst e
    cases r1
    obtain ⟨its, rv, p, hz⟩ := I1.list hq
    refine wpAny_pyIter_list p.isList ?_
    refine ⟨s1.heap.objs.size, [s1.heap.objs.size], _, _, H1, rfl, I1.kept (t' := s1.toks) fun b o e => Heap.get?_push_of_some _ e, turn_list a _, ⟨_, Heap.get?_push_size _ rfl, rfl, rfl⟩, fun b hb => ?_, q⟩
    have e : b = s1.heap.objs.size := by simpa using hb
    subst e
    exact I1.fpOk (Nat.le_refl _) (I1.hok.fresh (Nat.le_refl _))
  · subst e
    cases r1
    obtain ⟨its, rv, p, hz⟩ := I1.tuple hq
    refine wpAny_pyIter_tuple (show s1.heap.IsTuple a its.toArray from p) ?_
    refine ⟨s1.heap.objs.size, [s1.heap.objs.size], _, _, H1, rfl, I1.kept (t' := s1.toks) fun b o e => Heap.get?_push_of_some _ e, turn_tuple a _, ⟨_, Heap.get?_push_size _ rfl, rfl, rfl⟩, fun b hb => ?_, q⟩
    have e : b = s1.heap.objs.size := by simpa using hb
    subst e
    exact I1.fpOk (Nat.le_refl _) (I1.hok.fresh (Nat.le_refl _))
  · subst e
    obtain ⟨t, rfl⟩ := r1
    cases ha : z.cps.all (· < 128)
    · exact wpAny_pyIter_wide ha (pi_one (tk := s1.toks) I1 _ (turn_str _ z t "str_iterator" (.inr rfl)) ⟨_, Heap.get?_push_size _ rfl, rfl, rfl⟩ q)
    · exact wpAny_pyIter_ascii ha (pi_one (tk := s1.toks) I1 _ (turn_str _ z t "str_ascii_iterator" (.inl rfl)) ⟨_, Heap.get?_push_size _ rfl, rfl, rfl⟩ q)
theorem PI.imp {tg e : Expr} {t t' : TI} (h : PI X tg e t) (i : ∀ σ H Q, t' σ H Q → t σ H Q) : PI X tg e t' := ⟨fun pins s σ H Q I q => h.run pins s σ H Q I (i σ H Q q)⟩
theorem GoI.bind {α β : Type} {Rel : List Addr → Mx → Hp → α → β → Prop} {σ : St} {μ : List Addr} {S : Store} {H : Hp} {r : Res α} {kk : α → Store → Res (List PV)} {R : It → Hp → Prop} (g : GoI B P W σ (r.bind kk) μ S H R) :
    Go B P Rel W σ r μ S H (fun b H1 => ∃ μ1 S1 a, Ex μ S H μ1 S1 H1 ∧ SR B P μ1 S1 H1 ∧ Rel μ1 (Mz P μ1 S1) H1 a b ∧ GoI B P W σ (kk a S1) μ1 S1 H1 R) := by
  cases r with
  | ok a S1 =>
    intro μ1 H1 b x s q
    refine ⟨μ1, S1, a, x, s, q, ?_⟩
    have g : GoI B P W σ (kk a S1) μ S H R := g
    cases z : kk a S1 with
    | ok items S2 => rw [z] at g; exact fun μ2 H2 J x2 s2 i2 => g μ2 H2 J (x.trans (B := B) x2) s2 i2
    | exc c t S2 => rw [z] at g; exact fun μ2 H2 C dx v x2 s2 => g μ2 H2 C dx v (x.trans (B := B) x2) s2
    | fail => rw [z] at g; exact g
  | exc c t S' => exact g
  | fail => exact g
theorem tSeqI_of {a : DE} : ∀ σ H Q, tI B P W (dSeqI a) σ H Q → iSeq B.K (tE B P W a) σ H Q := by
  rintro σ H Q ⟨fr, μ, S, hf, sr, g⟩
  refine ⟨fr, μ, S, hf, sr, (GoI.bind g).imp ?_⟩
  rintro v H1 ⟨μ1, S1, x, e1, sr1, r1, g1⟩
  have r1 : Rp B μ1 (Mz P μ1 S1) H1 x v := r1
  split at g1
  · cases r1 with
    | lst h n l => exact .inl ⟨_, rfl, .inl ⟨⟨_, SqL.of h⟩, g1 μ1 H1 _ .refl sr1 (its_list sr1 h n l)⟩⟩
  · cases r1 with
    | tup h l => exact .inl ⟨_, rfl, .inr ⟨⟨_, h.sq⟩, g1 μ1 H1 _ .refl sr1 (its_tup sr1 h l)⟩⟩
  · cases r1 with
    | str y => exact .inr ⟨_, rfl, g1 μ1 H1 _ .refl sr1 (its_str sr1 _)⟩
  · exact g1.elim
theorem tRng1_of {a : DA} : ∀ σ H Q, tI B P W (dRng1 a) σ H Q → iRng1 (tA B P W a) σ H Q := by
  rintro σ H Q ⟨fr, μ, S, hf, sr, g⟩
  refine ⟨fr, μ, S, hf, sr, (GoI.bind g).imp ?_⟩
  rintro v H1 ⟨μ1, S1, x, e1, sr1, r1, g1⟩
  have r1 : RpL B μ1 (Mz P μ1 S1) H1 x v := r1
  split at g1
  · split at g1
    · rename_i x1 j e
      split at g1
      · rename_i h
        obtain ⟨w, rfl, r⟩ := RpL.one (xs := []) r1
        rw [intV sr1 r e]
        exact ⟨j, rfl, (rngOk_ok h).1, (rngOk_ok h).2, g1 μ1 H1 _ .refl sr1 (its_rng 0 j.toNat)⟩
      · exact g1.elim
    · exact g1.elim
  · exact g1.elim
theorem tRng2_of {a : DA} : ∀ σ H Q, tI B P W (dRng2 a) σ H Q → iRng2 (tA B P W a) σ H Q := by
  rintro σ H Q ⟨fr, μ, S, hf, sr, g⟩
  refine ⟨fr, μ, S, hf, sr, (GoI.bind g).imp ?_⟩
  rintro v H1 ⟨μ1, S1, x, e1, sr1, r1, g1⟩
  have r1 : RpL B μ1 (Mz P μ1 S1) H1 x v := r1
  split at g1
  · split at g1
    · rename_i x1 x2 i j e1 e2
      split at g1
      · rename_i h
        rw [Bool.and_eq_true] at h
        obtain ⟨w, u, rfl, ra, rb⟩ := RpL.two r1
        rw [intV sr1 ra e1, intV sr1 rb e2]
        exact ⟨i, j, rfl, ⟨(rngOk_ok h.1).1, (rngOk_ok h.1).2, (rngOk_ok h.2).1, (rngOk_ok h.2).2⟩, g1 μ1 H1 _ .refl sr1 (its_rng i (j - i).toNat)⟩
      · exact g1.elim
    · exact g1.elim
  · exact g1.elim
end
end E2
end
section
set_option Elab.async false
set_option linter.all false
set_option maxRecDepth 100000
set_option maxHeartbeats 4000000
set_option autoImplicit false
/-! ### enumerate(tuple) -/
namespace PySem
open PySem.Sem (wp)
theorem meets_enum1 {v : Value} {o : Obj} {H : Heap → Prop} (B : Begins v o H) :
    Meets (Builtin.«enumerate.__new__» ⟨[.type "enumerate", v], []⟩) (fun _ R s => H s.heap ∧
      R (.ok (.ret (.ref (s.heap.push o).objs.size))) { s with heap := (s.heap.push o).push { cls := .type "enumerate", data := .fields #[.none, .bool false, .ref s.heap.objs.size, rawInt 0, .none, .none] } }) :=
  .of_wp fun prog w A R s h => by
    obtain ⟨hp, g, d, tk, os⟩ := s
    obtain ⟨h1, h⟩ := h
    have hsub := sub_enumerate
    have q1 : ∀ {A' : Around} {E : Value → Shared → Prop} {Q : Value → Shared → Prop}, Q (.ref hp.objs.size) ⟨(hp.push o), g, d, tk, os⟩ → wpAny (model prog w) A' (pyIter v) Q E ⟨hp, g, d, tk, os⟩ := fun q => B.iter prog w _ _ ⟨hp, g, d, tk, os⟩ _ h1 q
    wp_walk
    refine wpAny_stack_any fun st => wpAny_pure ?_
    split
    · rename_i c _ _ _ _ _
      cases (c == Value.type "enumerate")
      · wp_walk using q1
        exact ⟨_, rfl, h⟩
      · wp_walk using q1
        exact ⟨_, rfl, h⟩
    · wp_walk using q1
      exact ⟨_, rfl, h⟩
section
variable {prog : Program} {w : World} {A : Around} {E : Value → Shared → Prop} {s : Shared}
theorem call_enum1 {v : Value} {o : Obj} {H : Heap → Prop} (B : Begins v o H) {Q : Value → Shared → Prop} (hH : H s.heap)
    (h : ∀ h', IsEnum h' (s.heap.objs.size + 1) s.heap.objs.size 0 .none → h'.get? s.heap.objs.size = some o → (∀ b o', s.heap.get? b = some o' → h'.get? b = some o') → Q (.ref (s.heap.objs.size + 1)) { s with heap := h' }) :
    wpAny (model prog w) A (call (.type "enumerate") [v]) Q E s := by
  refine callType_new F.called_enumerate (by decide) (F.typeCall_enumerate_1 _) (F.newCall_enumerate_1 _) (fun obj => F.args_object_init_2 obj _) F.entry_enumerate_new (meets_enum1 B) ⟨hH, ?_⟩
  have hz : (s.heap.push o).objs.size = s.heap.objs.size + 1 := Heap.size_push ..
  show _ ∧ _
  rw [hz]
  have he : IsEnum ((s.heap.push o).push { cls := .type "enumerate", data := .fields #[.none, .bool false, .ref s.heap.objs.size, rawInt 0, .none, .none] }) (s.heap.objs.size + 1) s.heap.objs.size 0 .none := by
    have z := Heap.get?_push_size (s.heap.push o) (o := { cls := .type "enumerate", data := .fields #[.none, .bool false, .ref s.heap.objs.size, rawInt 0, .none, .none] }) rfl
    rw [hz] at z; exact z
  exact ⟨⟨_, he, rfl⟩, h _ he (Heap.get?_push_of_some _ (Heap.get?_push_size _ B.free)) fun b o' x => Heap.get?_push_of_some _ (Heap.get?_push_of_some _ x)⟩
theorem next_enumT_end {e it t : Addr} {i : Nat} {items : Array Value} {old : Value} {Q : Option Value → Shared → Prop} (hh : A.handled = none) (he : IsEnum s.heap e it i old) (hit : s.heap.IsTupleIter it t i) (hl : s.heap.IsTuple t items) (hx : items[i]? = none)
    (hQ : ∀ h', Heap.ExtBut it s.heap h' → Q none { s with heap := h' }) : wpAny (model prog w) A (pyNext (.ref e)) Q E s := by
  have hT : s.TypeIs (.ref e) "enumerate" := ⟨_, he, rfl⟩
  unfold pyNext
  refine wpAny_bind (wpAny_attempt (wpAny_callSpecial?_slot (name := Str.ofString "__next__") hT F.slot_enumerate_next (wpAny_call_entry F.slot_enumerate_next hT F.entry_enumerate_next ?_ (F.args_enumerate_next_1 _))))
  show wpAny _ _ (field (.ref e) 2 >>= _) _ _ _
  refine wpAny_bind (wpAny_field he rfl (x := .ref it) rfl (wpAny_bind (wpAny_nextOf_tuple_end hh hit hl hx fun h' x he' hx' => ?_)))
  obtain ⟨o, ho, hc⟩ := hx'
  exact wpAny_bind (wpAny_isInstance (T := "StopIteration") (b := true) ⟨o, ho, hc⟩ isSubtype_stop (wpAny_pure (hQ _ he')))
end
end PySem
namespace E2
open PySem PySem.Spec PyProof.Rows L2
variable {P P' : Pv}
/-- the tuple at a, each item in a new pair -/
def Iet (K : PySem.W.Frag) (a : Addr) : It :=
  ⟨fun i H => ∃ (xs : List V) (x : V), SqT K H a xs ∧ xs[i]? = some x, fun i H v H' => ∃ T x, v = .ref T ∧ H T = none ∧ H' = upd H T (.tup [.int (i : Nat), x]) ∧ ∀ xs, SqT K H a xs → xs[i]? = some x, fun i H => ∃ xs : List V, SqT K H a xs ∧ xs.length ≤ i⟩
theorem turn_enumT {P : Program} {w : World} {K : PySem.W.Frag} {elts : List Expr} {kk : Nat} {tpos : Pos} (a e it : Addr) :
    Turn P w K (.Tuple elts kk tpos) (Iet K a) [e, it] e (fun i h => (∃ old, IsEnum h e it ((i : Nat) : Int) old) ∧ h.IsTupleIter it a i ∧ e ≠ it ∧ a ≠ it ∧ a ≠ e) where
  mem := by simp
  obj := fun i h st b hb => by
    obtain ⟨⟨old, he⟩, ⟨o, ho, hc, hd⟩, _⟩ := st
    rcases List.mem_cons.mp hb with rfl | z
    · exact ⟨_, he, fun v q => nomatch q⟩
    · rw [List.mem_singleton.mp z]; exact ⟨o, ho, fun v q => by rw [hd] at q; cases q⟩
  keep := fun i h h' st k => ⟨st.1.imp fun old he => k e (by simp) _ he, st.2.1.at fun o q => k it (by simp) o q, st.2.2⟩
  item := by
    rintro X rfl rfl rfl hc i pins s σ H E I hf ⟨⟨old, he⟩, hit, n1, n2, n3⟩ ⟨xs, x, hq, hx⟩
    obtain ⟨its, rv, p, hz⟩ := I.tuple hq
    obtain ⟨u, hu, ru⟩ := rv.get hx
    have le : e < s.heap.objs.size := Heap.lt_size he
    have li : it < s.heap.objs.size := by obtain ⟨_, q, _⟩ := hit; exact Heap.lt_size q
    have hn : i < its.toArray.size := by rw [List.size_toArray]; exact (List.getElem?_eq_some_iff.mp hu).1
    refine wpAny_pyNext_enum_itemD (Draws.tuple (prog := X.prog) (w := X.w) (A := X.A.in1) (I.ok.hd hc) it a n2 its.toArray) he ⟨hit, p⟩ hn n1 (by simp only [List.mem_cons, List.not_mem_nil, or_false, not_or]; exact ⟨n1, fun z => n3 z.symm⟩) fun y h' tk hy ho st' hT hsz hk => ?_
    obtain rfl : u = y := by
      have hy : its.toArray[i]? = some y := hy
      rw [List.getElem?_toArray, hu] at hy
      exact Option.some.inj hy
    refine ⟨_, rfl, wpAny_letOwnedTupleGo_enum (s := { s with heap := h', toks := tk + 1 }) ho fun h2 he' sb => ?_⟩
    have hT2 : h2.get? s.heap.objs.size = some { cls := .type "tuple", data := .seq #[.int i tk, u] } := (sb.2 _ (Nat.ne_of_gt le)).trans hT
    have new : ObjOk X.prog X.w (upd H s.heap.objs.size (.tup [.int (i : Nat), x])) h2 s.heap.objs.size (.tup [.int (i : Nat), x]) := ⟨by show 2 ≤ sizeLine; decide, [.int i tk, u], .cons ⟨_, rfl⟩ (.cons ru .nil), ⟨_, hT2, rfl, _, rfl⟩⟩
    have I1 : Inv X pins σ (upd H s.heap.objs.size (.tup [.int (i : Nat), x])) { s with heap := h2, toks := tk + 1 } :=
      I.turnedNew (ch := [e, it]) (fun b ob hb q => (sb.2 b (fun z => hb (by simp [z]))).trans (hk b ob (fun z => hb (by simp [z])) (fun z => hb (by simp [z])) q)) hf (Nat.le_refl _) new
    refine ⟨.ref s.heap.objs.size, _, I1, rfl, ⟨_, x, rfl, I.hok.fresh (Nat.le_refl _), rfl, fun ys hy => by rw [I.tuple_inj hy hq]; exact hx⟩, ⟨⟨u, ?_⟩, st'.1.at fun o q => (sb.2 it (Ne.symm n1)).trans q, n1, n2, n3⟩, fun b hb => ?_⟩
    · rw [show ((i + 1 : Nat) : Int) = (i : Int) + 1 by omega]; exact he'
    · have hb' : b < s.heap.objs.size := by
        rcases List.mem_cons.mp hb with rfl | z
        · exact le
        · rw [List.mem_singleton.mp z]; exact li
      rw [upd_ne (Nat.ne_of_lt hb')]
      exact (hf b hb).1
  done := by
    rintro X rfl rfl rfl hc i pins s σ H E I hf ⟨⟨old, he⟩, hit, n1, n2, n3⟩ ⟨xs, hq, hx⟩
    obtain ⟨its, rv, p, hz⟩ := I.tuple hq
    obtain ⟨f0, f1, f2, f3, f4, f5⟩ := hf it (by simp)
    have hl := rv.length
    exact next_enumT_end (I.ok.hd hc) he hit p (by simp; omega) fun h' eb => ⟨rfl, I.turned (t' := s.toks) (fun b o hb q => eb b o hb q) f0 f1 f3 f4 f5⟩
  self := fun A i s Q E st h => let ⟨⟨_, he⟩, _⟩ := st; wpAny_pyIter_enum he h
/-- enumerate of a list or of a tuple -/
def iEnA (K : PySem.W.Frag) (ta : TA) : TI := fun σ H R => ta σ H fun vs H1 => ∃ a, vs = [.ref a] ∧ (((∃ xs, SqL K H1 a xs) ∧ R (Ite K a) H1) ∨ ((∃ xs, SqT K H1 a xs) ∧ R (Iet K a) H1))
theorem pi_enA {X : Cx} {e : Expr} {ta : TA} {p pos tpos : Pos} {elts : List Expr} {kk : Nat} (hg : Gl X "enumerate") (hm : X.mg "enumerate" = none) (ha : PA X [e] ta) (hs : isStar e = false) :
    PI X (.Tuple elts kk tpos) (.Call (.Name "enumerate" p) [e] [] pos) (iEnA X.K ta) := by
  refine ⟨fun pins s σ H R I h => ?_⟩
  refine Call_ (ld_blt I hg hm boot_enumerate (PyProof.Rows.callWith_type1 (thn (ha.run pos pins s σ H _ I h) fun us s1 ⟨vs, H1, I1, r1, q1⟩ => ?_) (starEach_cons hs) rfl))
  obtain ⟨a, rfl, ⟨⟨xs, hq⟩, q⟩ | ⟨⟨xs, hq⟩, q⟩⟩ := q1
  · cases r1 with
    | cons r rr =>
      cases rr
      cases r
      obtain ⟨its, rv, p', hz⟩ := I1.list hq
      refine call_enumerate_list p'.isList fun h' he hit hsz hk => wpAny_pyIter_enum he ?_
      refine ⟨_, [s1.heap.objs.size + 1, s1.heap.objs.size], _, _, H1, rfl, I1.kept (t' := s1.toks) hk, turn_enum a _ _, ⟨⟨.none, he⟩, hit, Nat.succ_ne_self _⟩, fun b hb => ?_, q⟩
      have hle : s1.heap.objs.size ≤ b := by
        rcases List.mem_cons.mp hb with rfl | z
        · exact Nat.le_add_right _ _
        · rw [List.mem_singleton.mp z]; exact Nat.le_refl _
      exact I1.fpOk hle (I1.hok.fresh hle)
  · cases r1 with
    | cons r rr =>
      cases rr
      cases r
      obtain ⟨its, rv, p', hz⟩ := I1.tuple hq
      have la : a < s1.heap.objs.size := by obtain ⟨o, ho, _⟩ := p'; exact Heap.lt_size ho
      refine call_enum1 (begins_tuple a its.toArray) p' fun h' he hit hk => wpAny_pyIter_enum he ?_
      refine ⟨_, [s1.heap.objs.size + 1, s1.heap.objs.size], _, _, H1, rfl, I1.kept (t' := s1.toks) hk, turn_enumT a _ _, ⟨⟨.none, he⟩, ⟨_, hit, rfl, rfl⟩, Nat.succ_ne_self _, Nat.ne_of_lt la, Nat.ne_of_lt (Nat.lt_succ_of_lt la)⟩, fun b hb => ?_, q⟩
      have hle : s1.heap.objs.size ≤ b := by
        rcases List.mem_cons.mp hb with rfl | z
        · exact Nat.le_add_right _ _
        · rw [List.mem_singleton.mp z]; exact Nat.le_refl _
      exact I1.fpOk hle (I1.hok.fresh hle)
/-! ### by values -/
def enuP (i : Int) : List PV → List PV
  | [] => []
  | x :: r => .pr [.int i, x] :: enuP (i + 1) r
theorem enuP_length : ∀ (xs : List PV) (i : Int), (enuP i xs).length = xs.length
  | [], _ => rfl
  | _ :: r, i => by simp [enuP, enuP_length r]
theorem enuP_get : ∀ (xs : List PV) (lo : Int) (i : Nat) (x : PV), xs[i]? = some x → (enuP lo xs)[i]? = some (.pr [.int (lo + i), x])
  | [], _, _, _, h => by simp at h
  | y :: r, lo, 0, x, h => by simp at h; subst h; simp [enuP]
  | y :: r, lo, i + 1, x, h => by
    rw [enuP, List.getElem?_cons_succ, enuP_get r (lo + 1) i x (by simpa using h)]
    simp only [Option.some.injEq, PV.pr.injEq, List.cons.injEq, PV.int.injEq, and_true]
    omega
theorem its_en {B : Base} {μ : List Addr} {S : Store} {H : Hp} {J : It} {xs : List PV} {G : Nat → Hp → V → Prop} (hi : ItS B P J xs μ S H) {Je : It}
    (h1 : ∀ i H2, J.go i H2 → Je.go i H2) (h2 : ∀ i H2 v H3, Je.yld i H2 v H3 → ∃ T x, v = .ref T ∧ H2 T = none ∧ H3 = upd H2 T (.tup [.int (i : Nat), x]) ∧ J.yld i H2 x H2) (h3 : ∀ i H2, J.stop i H2 → Je.stop i H2) : ItS B P Je (enuP 0 xs) μ S H := by
  refine ⟨fun P' μ2 S2 H2 i ex sr2 hl => h1 _ _ (hi.go P' μ2 S2 H2 i ex sr2 (by rw [enuP_length] at hl; exact hl)), fun P' μ2 S2 H2 i v H3 hp ex sr2 hl y => ?_, fun P' μ2 S2 H2 i ex sr2 hl => h3 _ _ (hi.stop P' μ2 S2 H2 i ex sr2 (by rw [enuP_length] at hl; exact hl))⟩
  obtain ⟨T, x, rfl, hT, rfl, hy⟩ := h2 i H2 v H3 y
  obtain ⟨pv, e1, e2, e3, e4, e5⟩ := hi.yld P' μ2 S2 H2 i x H2 hp ex sr2 (by rw [enuP_length] at hl; exact hl) hy
  have k := ext_new (o := .tup [.int (i : Nat), x]) hT
  refine ⟨.pr [.int i, pv], ?_, ex_ext k, sr2.ext k, .pr upd_same (.cons (.int _) (.cons (e4.mono sr2 (ex_ext k)) .nil)), fun b o e => k b o e⟩
  have := enuP_get xs 0 i pv e1
  rw [this]
  simp
def dEnum (a : DA) : DI := fun fr S => (a fr S).bind fun xs S1 => match xs with
  | [.lst ys] => .ok (enuP 0 ys) S1
  | [.tup ys] => .ok (enuP 0 ys) S1
  | _ => .fail
theorem tEnum_of {B : Base} {W : WX} {a : DA} : ∀ σ H Q, tI B P W (dEnum a) σ H Q → iEnA B.K (tA B P W a) σ H Q := by
  rintro σ H Q ⟨fr, μ, S, hf, sr, g⟩
  refine ⟨fr, μ, S, hf, sr, (GoI.bind g).imp ?_⟩
  rintro v H1 ⟨μ1, S1, x, e1, sr1, r1, g1⟩
  have r1 : RpL B μ1 (Mz P μ1 S1) H1 x v := r1
  split at g1
  · obtain ⟨w, rfl, r⟩ := RpL.one (xs := []) r1
    cases r with
    | lst h n l => exact ⟨_, rfl, .inl ⟨⟨_, SqL.of h⟩, g1 μ1 H1 _ .refl sr1 (its_en (G := fun _ _ _ => True) (its_list sr1 h n l) (fun i H2 z => z) (fun i H2 v H3 ⟨T, x, e1, e2, e3, e4⟩ => ⟨T, x, e1, e2, e3, rfl, e4⟩) fun i H2 z => z)⟩⟩
  · obtain ⟨w, rfl, r⟩ := RpL.one (xs := []) r1
    cases r with
    | tup h l => exact ⟨_, rfl, .inr ⟨⟨_, h.sq⟩, g1 μ1 H1 _ .refl sr1 (its_en (G := fun _ _ _ => True) (its_tup sr1 h l) (fun i H2 z => z) (fun i H2 v H3 ⟨T, x, e1, e2, e3, e4⟩ => ⟨T, x, e1, e2, e3, rfl, e4⟩) fun i H2 z => z)⟩⟩
  · exact g1.elim
/-! ### zip of two lists, or of two tuples -/
def zipP : List PV → List PV → List PV
  | x :: xs, y :: ys => .pr [x, y] :: zipP xs ys
  | _, _ => []
theorem zipP_length : ∀ xs ys : List PV, (zipP xs ys).length = min xs.length ys.length
  | [], _ => by simp [zipP]
  | _ :: _, [] => by simp [zipP]
  | _ :: xs, _ :: ys => by simp [zipP, zipP_length xs ys] <;> omega
theorem zipP_get : ∀ (xs ys : List PV) (i : Nat) (x y : PV), xs[i]? = some x → ys[i]? = some y → (zipP xs ys)[i]? = some (.pr [x, y])
  | [], _, _, _, _, h, _ => by simp at h
  | _ :: _, [], _, _, _, _, h => by simp at h
  | a :: xs, b :: ys, 0, x, y, h1, h2 => by simp at h1 h2; subst h1 h2; simp [zipP]
  | a :: xs, b :: ys, i + 1, x, y, h1, h2 => by
    rw [zipP, List.getElem?_cons_succ]
    exact zipP_get xs ys i x y (by simpa using h1) (by simpa using h2)
theorem its_zip {B : Base} {μ : List Addr} {S : Store} {H : Hp} {J J' Je : It} {xs ys : List PV} (hi : ItS B P J xs μ S H) (hj : ItS B P J' ys μ S H) (h1 : ∀ i H2, J.go i H2 → J'.go i H2 → Je.go i H2)
    (h2 : ∀ i H2 v H3, Je.yld i H2 v H3 → ∃ T x y, v = .ref T ∧ H2 T = none ∧ H3 = upd H2 T (.tup [x, y]) ∧ J.yld i H2 x H2 ∧ J'.yld i H2 y H2) (h3 : ∀ i H2, (J.stop i H2 ∧ (J'.go i H2 ∨ J'.stop i H2)) ∨ (J'.stop i H2 ∧ (J.go i H2 ∨ J.stop i H2)) → Je.stop i H2) : ItS B P Je (zipP xs ys) μ S H := by
  refine ⟨fun P' μ2 S2 H2 i ex sr2 hl => ?_, fun P' μ2 S2 H2 i v H3 hp ex sr2 hl hyl => ?_, fun P' μ2 S2 H2 i ex sr2 hl => ?_⟩
  · rw [zipP_length] at hl
    exact h1 _ _ (hi.go P' μ2 S2 H2 i ex sr2 (by omega)) (hj.go P' μ2 S2 H2 i ex sr2 (by omega))
  · rw [zipP_length] at hl
    obtain ⟨T, x, y, rfl, hT, rfl, hx, hy⟩ := h2 i H2 v H3 hyl
    obtain ⟨p1, a1, a2, a3, a4, a5⟩ := hi.yld P' μ2 S2 H2 i x H2 hp ex sr2 (by omega) hx
    obtain ⟨p2, b1, b2, b3, b4, b5⟩ := hj.yld P' μ2 S2 H2 i y H2 hp ex sr2 (by omega) hy
    have k := ext_new (o := .tup [x, y]) hT
    exact ⟨.pr [p1, p2], zipP_get xs ys i p1 p2 a1 b1, ex_ext k, sr2.ext k, .pr upd_same (.cons (a4.mono sr2 (ex_ext k)) (.cons (b4.mono sr2 (ex_ext k)) .nil)), fun b o e => k b o e⟩
  · rw [zipP_length] at hl
    by_cases q : xs.length ≤ i
    · refine h3 _ _ (.inl ⟨hi.stop P' μ2 S2 H2 i ex sr2 q, ?_⟩)
      by_cases q2 : ys.length ≤ i
      · exact .inr (hj.stop P' μ2 S2 H2 i ex sr2 q2)
      · exact .inl (hj.go P' μ2 S2 H2 i ex sr2 (by omega))
    · refine h3 _ _ (.inr ⟨hj.stop P' μ2 S2 H2 i ex sr2 (by omega), .inl (hi.go P' μ2 S2 H2 i ex sr2 (by omega))⟩)
def dZip (a : DA) : DI := fun fr S => (a fr S).bind fun xs S1 => match xs with
  | [.lst ys, .lst zs] => .ok (zipP ys zs) S1
  | [.tup ys, .tup zs] => .ok (zipP ys zs) S1
  | _ => .fail
theorem tZip_of {B : Base} {W : WX} {a : DA} : ∀ σ H Q, tI B P W (dZip a) σ H Q → RZ.iZipA B.K (tA B P W a) σ H Q := by
  rintro σ H Q ⟨fr, μ, S, hf, sr, g⟩
  refine ⟨fr, μ, S, hf, sr, (GoI.bind g).imp ?_⟩
  rintro v H1 ⟨μ1, S1, x, e1, sr1, r1, g1⟩
  have r1 : RpL B μ1 (Mz P μ1 S1) H1 x v := r1
  split at g1
  · obtain ⟨w, u, rfl, ra, rb⟩ := RpL.two r1
    cases ra with
    | lst h n l =>
      cases rb with
      | lst h' n' l' =>
        refine ⟨_, _, _, _, rfl, .inl ⟨SqL.of h, SqL.of h', g1 μ1 H1 _ .refl sr1 (its_zip (its_list sr1 h n l) (its_list sr1 h' n' l') ?_ ?_ ?_)⟩⟩
        · rintro i H2 ⟨xs, x, a1, a2⟩ ⟨ys, y, b1, b2⟩
          exact ⟨xs, ys, x, y, a1, b1, a2, b2⟩
        · rintro i H2 v H3 ⟨T, x, y, c1, c2, c3, c4, c5⟩
          exact ⟨T, x, y, c1, c2, c3, ⟨rfl, c4⟩, ⟨rfl, c5⟩⟩
        · rintro i H2 (⟨⟨xs, a1, a2⟩, ⟨ys, y, b1, b2⟩ | ⟨ys, b1, b2⟩⟩ | ⟨⟨ys, b1, b2⟩, ⟨xs, x, a1, a2⟩ | ⟨xs, a1, a2⟩⟩)
          · exact ⟨xs, ys, a1, b1, .inl a2⟩
          · exact ⟨xs, ys, a1, b1, .inl a2⟩
          · exact ⟨xs, ys, a1, b1, .inr b2⟩
          · exact ⟨xs, ys, a1, b1, .inr b2⟩
  · obtain ⟨w, u, rfl, ra, rb⟩ := RpL.two r1
    cases ra with
    | tup h l =>
      cases rb with
      | tup h' l' =>
        refine ⟨_, _, _, _, rfl, .inr ⟨h.sq, h'.sq, g1 μ1 H1 _ .refl sr1 (its_zip (its_tup sr1 h l) (its_tup sr1 h' l') ?_ ?_ ?_)⟩⟩
        · rintro i H2 ⟨xs, x, a1, a2⟩ ⟨ys, y, b1, b2⟩
          exact ⟨xs, ys, x, y, a1, b1, a2, b2⟩
        · rintro i H2 v H3 ⟨T, x, y, c1, c2, c3, c4, c5⟩
          exact ⟨T, x, y, c1, c2, c3, ⟨rfl, c4⟩, ⟨rfl, c5⟩⟩
        · rintro i H2 (⟨⟨xs, a1, a2⟩, ⟨ys, y, b1, b2⟩ | ⟨ys, b1, b2⟩⟩ | ⟨⟨ys, b1, b2⟩, ⟨xs, x, a1, a2⟩ | ⟨xs, a1, a2⟩⟩)
          · exact ⟨xs, ys, a1, b1, .inl a2⟩
          · exact ⟨xs, ys, a1, b1, .inl a2⟩
          · exact ⟨xs, ys, a1, b1, .inr b2⟩
          · exact ⟨xs, ys, a1, b1, .inr b2⟩
  · exact g1.elim
/-! ### {} -/
def dDict0 : DE := fun _ S => .ok (.dct []) S
theorem tDict0_of {B : Base} {W : WX} : ∀ σ H Q, tE B P W dDict0 σ H Q → tDNewK σ H Q := by
  rintro σ H Q ⟨fr, μ, S, hf, sr, g⟩ p hp
  have k := ext_new (o := .dK []) hp
  exact g μ _ (.ref p) (ex_ext k) (sr.ext k) (.dK (.inl upd_same) (sr.notMz hp) .nil)
/-- {} that is changed: a cell -/
def dDict0R : DE := fun _ S => .ok (.ref S.length) (S ++ [(true, .dct [])])
theorem tDict0R_of {B : Base} {W : WX} : ∀ σ H Q, tE B P W dDict0R σ H Q → tDNewK σ H Q := by
  rintro σ H Q ⟨fr, μ, S, hf, sr, g⟩ p hp
  obtain ⟨ex, sr2⟩ := new_cellG (pv0 := .dct []) (o0 := .dK []) sr hp fun ex => ⟨[], .inl upd_same, .nil⟩
  exact g (μ ++ [p]) _ (.ref p) ex sr2 (.ref (by rw [← sr.len, List.getElem?_append_right (Nat.le_refl _)]; simp))
/-- .. with tuple keys -/
def dDict0T : DE := fun _ S => .ok (.ref S.length) (S ++ [(true, .dtt [])])
theorem tDict0T_of {B : Base} {W : WX} : ∀ σ H Q, tE B P W dDict0T σ H Q → tDNewT σ H Q := by
  rintro σ H Q ⟨fr, μ, S, hf, sr, g⟩ p hp
  obtain ⟨ex, sr2⟩ := new_cellG (pv0 := .dtt []) (o0 := .dT []) sr hp fun ex => ⟨[], .inl upd_same, .nil⟩
  exact g (μ ++ [p]) _ (.ref p) ex sr2 (.ref (by rw [← sr.len, List.getElem?_append_right (Nat.le_refl _)]; simp))
/-! ### {c: c'} of constants -/
def cstP : Expr → Option (PV × V)
  | .Constant .none _ _ => some (.non, .non)
  | .Constant (.bool b) _ _ => some (.bl b, .bl b)
  | .Constant (.int i) _ _ => some (.int i, .int i)
  | .Constant (.str x) _ _ => some (.str x, .str x)
  | _ => none
def cstK : Expr → Option Key
  | .Constant (.int i) _ _ => some (.inl i)
  | .Constant (.str x) _ _ => some (.inr x)
  | _ => none
def kP : Key → PV
  | .inl i => .int i
  | .inr x => .str x
theorem cstP_ok {e : Expr} {q : PV × V} (h : cstP e = some q) {X : Cx} : PE X e (tC q.2) ∧ ∀ (B : Base) μ M H, Rp B μ M H q.1 q.2 := by
  unfold cstP at h
  split at h <;> cases h
  · exact ⟨pe_non, fun _ _ _ _ => .non⟩
  · exact ⟨pe_bl, fun _ _ _ _ => .bl _⟩
  · exact ⟨pe_int, fun _ _ _ _ => .int _⟩
  · exact ⟨pe_str, fun _ _ _ _ => .str _⟩
theorem cstK_ok {e : Expr} {k : Key} (h : cstK e = some k) {X : Cx} : PE X e (tC (kV k)) := by
  unfold cstK at h
  split at h <;> cases h
  · exact pe_int
  · exact pe_str
def dDict1 (k : Key) (x : PV) : DE := fun _ S => .ok (.dct [(kP k, x)]) S
theorem tDict1_of {B : Base} {W : WX} {k : Key} {q : PV × V} (hq : ∀ μ M H, Rp B μ M H q.1 q.2) : ∀ σ H Q, tE B P W (dDict1 k q.1) σ H Q → tDisp [(tC (kV k), tC q.2)] σ H Q := by
  rintro σ H Q ⟨fr, μ, S, hf, sr, g⟩ p hp
  show upd H p (.dK []) p = some (.dK []) ∧ ∃ kvs : List (Key × V), _
  refine ⟨upd_same, [(k, q.2)], rfl, by simp, ?_⟩
  have e : upd (upd H p (.dK [])) p (.dK (mergeK [] [(k, q.2)])) = upd H p (.dK [(k, q.2)]) := by
    funext b
    by_cases hb : b = p
    · subst hb; rw [upd_same, upd_same]; rfl
    · rw [upd_ne hb, upd_ne hb, upd_ne hb]
  rw [e]
  have kx := ext_new (o := .dK [(k, q.2)]) hp
  refine g μ _ (.ref p) (ex_ext kx) (sr.ext kx) (.dK (.inl upd_same) (sr.notMz hp) ?_)
  cases k with
  | inl i => exact .int (hq _ _ _) .nil
  | inr x => exact .str (hq _ _ _) .nil
end E2
end
section
set_option Elab.async false
set_option linter.all false
set_option maxRecDepth 100000
set_option maxHeartbeats 4000000
set_option autoImplicit false
namespace E2
open PySem PySem.Spec PyProof.Rows L2
variable {P P' : Pv}
/-! ### a comprehension over a cell's list -/
def lcMGo (fin : List PV → Store → Res PV) (n : Nat) (t : Tgt) (tt : DT) (te : DE) (fr : Frame) : Nat → Nat → List PV → Store → Res PV
  | 0, _, _, _ => .fail
  | f + 1, i, acc, S => (match S[n]? with
    | some (_, .lst xs) => (match xs[i]? with
      | none => fin acc S
      | some x => (match bindG S t x fr with
        | some fr2 => (tt fr2 S).noX.bind fun b S1 => if b = true then (te fr2 S1).noX.bind fun y S2 => if acc.length < sizeLine then lcMGo fin n t tt te fr f (i + 1) (acc ++ [y]) S2 else .fail else lcMGo fin n t tt te fr f (i + 1) acc S1
        | none => .fail))
    | _ => .fail)
def dLcM (fin : List PV → Store → Res PV) (e : DE) (t : Tgt) (tt : DT) (te : DE) (own : List Nat) : DE := fun fr S => (e fr S).bind fun x S1 => match x with
  | .ref n => (match S1[n]? with
    | some (_, .lst xs) => lcMGo fin n t tt te (wipeF fr own) (xs.length + 1) 0 [] S1
    | _ => .fail)
  | _ => .fail
theorem lcM_core {B : Base} {W : WX} {fin : List PV → Store → Res PV} (hfin : FinOk B fin) {n fl : Nat} {a : Addr} {t : Tgt} {tt : DT} {te : DE} {own : List Nat} {σ : L2.St} {Q : VK} {μ0 : List Addr} {S0 : Store} {H0 : Hp} {fr : Frame} {D : Addr} (sr0 : SR B P μ0 S0 H0) (ha : μ0[n]? = some a) (hf : FR B μ0 (Mz P μ0 S0) H0 fr σ) (hD : H0 D = none) (ho : ∀ i ∈ t.slots, i ∈ own)
    (g : Go B P (RelP B) W σ (lcMGo fin n t tt te (wipeF fr own) fl 0 [] S0) μ0 S0 H0 Q) :
    ∃ Wi : Nat → Nat → Hp → Prop, (∃ m, Wi 0 m (upd H0 D (.lst []))) ∧ ∀ i m H, Wi i m H →
      ((Itl B.K a).stop i H ∧ Q (.ref D) H) ∨ ((Itl B.K a).go i H ∧ ∃ Nx : Hp → Prop, (∀ H', Nx H' → ∃ m', m' < m ∧ Wi (i + 1) m' H') ∧ ∀ x H', (Itl B.K a).yld i H x H' → gOf B.K t x (wipe σ own) H' fun σ2 H2 => wipe σ2 own = wipe σ own ∧ tTx B W0 tt σ2 H2 fun b H3 =>
        if b = true then tEx B W0 te σ2 H3 fun y H4 => ∃ acc, H4 D = some (.lst acc) ∧ acc.length < sizeLine ∧ Nx (upd H4 D (.lst (acc ++ [y]))) else Nx H3) := by
  have hp : ∀ a, (Pw P D).p a → P.p a ∨ H0 a = none := fun a z => z.imp id fun e => by rw [e]; exact hD
  let St' : Nat → Nat → Hp → Prop := fun i m H => ∃ μ S acc vs, Ex μ0 S0 H0 μ S H ∧ SR B (Pw P D) μ S H ∧ H D = some (.lst vs) ∧ RpL B μ (Mz (Pw P D) μ S) H acc vs ∧
    Go B P (RelP B) W σ (lcMGo fin n t tt te (wipeF fr own) m i acc S) μ0 S0 H0 Q
  refine ⟨St', ⟨fl, μ0, S0, [], [], ex_ext (ext_new hD), sr0.priv hD, upd_same, .nil, g⟩, ?_⟩
  rintro i m H ⟨μ, S, acc, vs, ex, sr, hDl, l, g⟩
  cases m with
  | zero => exact g.elim
  | succ m =>
  simp only [lcMGo] at g
  split at g
  · rename_i bb xs hS
    have hm : μ[n]? = some a := ex.get ha
    obtain ⟨us, hH, lx⟩ := sr.cell n bb (.lst xs) a hS hm
    split at g
    · rename_i hx
      refine .inl ⟨⟨us, SqL.of hH, by rw [← lx.length]; exact List.getElem?_eq_none_iff.mp hx⟩, ?_⟩
      exact hfin P W σ Q μ0 μ S0 S H0 H D acc vs hD sr0 ex sr hDl l g
    · rename_i pv hx
      obtain ⟨u, hu, r1⟩ := lx.get hx
      refine .inr ⟨⟨us, u, SqL.of hH, hu⟩, St' (i + 1) m, fun H' z => ⟨m, Nat.lt_succ_self _, z⟩, fun x H' y => ?_⟩
      obtain ⟨e, y⟩ := y
      subst e
      have y1 := y us (SqL.of hH)
      rw [hu] at y1
      cases y1
      have nM : ¬ Mu μ S D := fun ⟨n, pv, _, h2⟩ => sr.pd D (.inr rfl) (List.mem_of_getElem? h2)
      split at g
      · rename_i fr2 eb
        have hf1 := ((hf.monoP sr0 ex hp rfl).wipe own)
        refine gOf_of (own := own) sr r1 hf1 eb fun σ2 hf2 hw => ⟨by rw [hw ho, wipe_twice], ?_⟩
        refine ⟨Pw P D, fr2, μ, S, hf2, sr, (Go.bindP (Rel := RelB) g).imp ?_⟩
        rintro b H3 ⟨μ3, S3, b', ex3, sr3, rb, g3⟩
        cases (show b' = b from rb)
        have hD3 := ex3.keep _ _ hDl nM (fun ps z => nomatch z)
        have nM3 := ex3.notM hDl (fun ps z => nomatch z) nM
        split at g3
        · rename_i hb
          show if b = true then _ else _
          rw [if_pos hb]
          refine ⟨Pw P D, fr2, μ3, S3, hf2.mono sr ex3, sr3, (Go.bindP (Rel := RelP B) g3).imp ?_⟩
          rintro z H4 ⟨μ4, S4, y', ex4, sr4, rz, g4⟩
          have rz : Rp B μ4 (Mz (Pw P D) μ4 S4) H4 y' z := rz
          have hD4 := ex4.keep _ _ hD3 nM3 (fun ps z => nomatch z)
          split at g4
          · rename_i hz
            have l4 := (l.mono sr ex3).mono sr3 ex4
            refine ⟨vs, hD4, by rw [← l4.length]; exact hz, ?_⟩
            exact ⟨μ4, S4, acc ++ [y'], vs ++ [z], (ex.trans (B := B) (ex3.trans (B := B) ex4)).privW hD hD4, sr4.privW (.inr rfl) hD4 (P.st sr0.anc ((ex.trans (B := B) (ex3.trans (B := B) ex4)).privW hD hD4)), upd_same, (l4.append (.cons rz .nil)).privW (P := Pw P D) (Or.inr rfl) hD4, g4⟩
          · exact g4.elim
        · rename_i hb
          show if b = true then _ else _
          rw [if_neg hb]
          exact ⟨μ3, S3, acc, vs, ex.trans (B := B) ex3, sr3, hD3, l.mono sr ex3, g3⟩
      · exact g.elim
  · exact g.elim
theorem tLcM_of {B : Base} {W : WX} {fin : List PV → Store → Res PV} (hfin : FinOk B fin) {e : DE} {t : Tgt} {tt : DT} {te : DE} {own : List Nat} (ho : ∀ i ∈ t.slots, i ∈ own) : ∀ σ H Q, tE B P W (dLcM fin e t tt te own) σ H Q → tLc (iSeq B.K (tE B P W e)) (gOf B.K t) (tTx B W0 tt) (tEx B W0 te) own σ H Q := by
  rintro σ H Q ⟨fr, μ, S, hf, sr, g⟩
  refine ⟨fr, μ, S, hf, sr, (Go.bind (Rel := RelP B) g).imp ?_⟩
  rintro v H1 ⟨μ1, S1, x, e1, sr1, r1, er, g1⟩
  replace r1 : Rp B μ1 (Mz P μ1 S1) H1 x v := r1
  split at g1
  · rename_i n
    cases r1 with
    | ref hn =>
      rename_i a
      split at g1
      · rename_i bb xs hS
        obtain ⟨us, hH, lx⟩ := sr1.cell n bb (.lst xs) a hS hn
        exact .inl ⟨a, rfl, .inl ⟨⟨us, SqL.of hH⟩, fun D hD => lcM_core hfin sr1 hn (hf.mono sr e1) hD ho g1⟩⟩
      · exact g1.elim
  · exact g1.elim
end E2
end
section
set_option Elab.async false
set_option linter.all false
set_option maxRecDepth 100000
set_option maxHeartbeats 4000000
set_option autoImplicit false
namespace E2
open PySem PySem.Spec PyProof.Rows L2 LamX
variable {P P' : Pv}
section
variable {X : Cx} {pins : List (Addr × Obj)} {σ : L2.St} {H HZ : Hp} {s s1 : Shared}
/-- the thunk a() in its taker's context, what leaves it told of the taker's names -/
theorem pe_act2 {CXg : CXT} {Eg : XK} {Ng : List Str} {qg : Str} {sg : Scope} {g f c' : Addr} {cdg pm ctv : Value} {params : Arguments} {body : Expr} {scope : Scope} {k i : Nat} {a : Str} {pn : List (Addr × Obj)} {xe : Value → Shared → Prop} {W : WX} {tb : XK → TE} {p1 p2 : Pos}
    (I : Inv X pins σ H s) (L : LamS X.env.scope scope) (hf : s.heap.get? f = some (PySem.W.kla_obj "<lambda>" (X.env.qual ++ "<lambda>") params body scope (cloFrom X.env.cells scope.names []) pm c' ctv)) (hfn : H f = none) (hfr : f ∉ frs X.stack)
    (hbind : bindArgs (PySem.W.kla_fn "<lambda>" (X.env.qual ++ "<lambda>") params body scope (cloFrom X.env.cells scope.names []) pm (.ref c') ctv) ⟨[], []⟩ = pure [])
    (tk : Takes ((cxOf CXg X.prog X.w X.K X.mg X.base Ng qg sg g cdg X.A X.stack s H Eg).tr pn xe) W) (hr : Room (k + 1) (X.A.deeper (envOfC qg sg s.heap.objs.size g cdg)))
    (hgd : X.A.guards = some []) (hbody : ∀ (E : XK) (A : Around) (outer : List Env) (s : Shared) (H : Hp), Room k (A.deeper (lamEnv X scope s.heap.objs.size f c')) → A.guards = some [] → PE (lamCx X A outer s H E scope f c') body (tb E))
    (hN : Ng[i]? = some a) (hv : Vis sg a) (hd : (a == ("__debug__" : Str)) = false) (hcd : (a == ("__classdict__" : Str)) = false) :
    PE ((cxOf CXg X.prog X.w X.K X.mg X.base Ng qg sg g cdg X.A X.stack s H Eg).tr pn xe) (.Call (.Name a p1) [] [] p2)
      (fun σZ HZ Q => σZ[i]? = some (some (.ref f)) ∧ HZ c' = some (CodeO c' (X.env.qual ++ "<lambda>")) ∧ tb (WE W σZ) σ HZ Q) := by
  refine ⟨fun pinsZ sZ σZ HZ Q IZ h => ?_⟩
  obtain ⟨hs, hc, ht⟩ := h
  refine wpAny_Call_Name_kw (thn ((pe_var (pos := p1) (i := i) hN hv hd hcd).run pinsZ sZ σZ HZ (fun v H1 => v = .ref f ∧ H1 = HZ) IZ ⟨.ref f, hs, rfl, rfl⟩) fun u s1 ⟨v, H1, I1, r1, q1⟩ => ?_)
  obtain ⟨ev, eH⟩ := q1
  subst ev
  rw [eH] at I1
  obtain rfl : u = Value.ref f := r1
  have of1 : s1.heap.get? f = some (PySem.W.kla_obj "<lambda>" (X.env.qual ++ "<lambda>") params body scope (cloFrom X.env.cells scope.names []) pm c' ctv) := I1.base.keep f _ hf hfn hfr (fun z => nomatch (show f ∈ ([] : List Addr) from z))
  refine PySem.W.callWith_F0 ⟨_, _, _, _, of1⟩ ?_
  have un : Un (frs X.stack) [] H HZ s.heap s1.heap := I1.base
  obtain ⟨⟨oc, vs, t, hoc, hdc, hvc⟩, _, _⟩ := I1.hok c' _ hc
  have rc : codeAny (model X.prog X.w) (X.A.deeper (envOfC qg sg s.heap.objs.size g cdg)) (.call (.ref f) ⟨[], []⟩) (CR (L2.CX X.prog X.w) (envOfC qg sg s.heap.objs.size g cdg :: X.stack) X.prog X.w HZ s1 Q (WE W σZ)) s1 := by
    refine PySem.W.kla_callFunE hr.depth of1 rfl L.co L.gen rfl ⟨c', oc, vs, t, rfl, hoc, hdc, hvc⟩ ?_
    rw [hbind]
    refine wpAny_pure (wpAny_newFunctionEnv (fun y hy => (L.own y hy).2) (fun y hy => absurd hy (by simp)) (fun h₁ hns hsb => ⟨I1.nolimit.fresh _ hsb, ?_⟩) L.kind)
    show codeAny _ _ (.expr body (lamEnv X scope s1.heap.objs.size f c')) _ _
    have kp : ∀ b o, s1.heap.get? b = some o → h₁.get? b = some o := fun b o e => hsb.extBut b o (Nat.ne_of_lt (Heap.lt_size e)) (Heap.get?_push_of_some _ e)
    have J : Inv (lamCx X (X.A.deeper (envOfC qg sg s.heap.objs.size g cdg)) (envOfC qg sg s.heap.objs.size g cdg :: X.stack) s1 HZ (WE W σZ) scope f c') [] σ HZ { s1 with heap := h₁, toks := s1.toks + ([] : List (Str × Value)).length } :=
      lam_start2 I L I1.env0 hr.hd un hns kp
    refine PySem.W.kla_codeExpr (wpAny_mono ((hbody (WE W σZ) _ _ s1 HZ (hr.deeper _) hgd).run [] _ _ HZ Q J ht) (fun v s' hq => ?_) fun e s' hq => hq)
    obtain ⟨w', H', J', rv, q⟩ := hq
    exact ⟨w', H', J'.os, J'.bare, J'.base, J'.hok, rv, q⟩
  have hx : PassesAt (L2.CX X.prog X.w) ((cxOf CXg X.prog X.w X.K X.mg X.base Ng qg sg g cdg X.A X.stack s H Eg).tr pn xe) σZ (WE W σZ) := passAt tk σZ
  refine wpAny_call (codeAny_mono rc fun r s' hq => ?_)
  cases r with
  | error e => exact hx pinsZ HZ s1 e s' I1 hq
  | ok fl =>
    cases fl with
    | ret u => exact I1.after hq
    | next => exact False.elim hq
    | brk => exact False.elim hq
    | cont => exact False.elim hq
end
theorem SR.extN {B : Base} {μ : List Addr} {S : Store} {H H' : Hp} (sr : SR B P μ S H) (k : ExtN H H') (t : Tabs B.T H') : Ex μ S H μ S H' ∧ SR B P μ S H' := by
  have ex : Ex μ S H μ S H' := ⟨⟨[], by simp⟩, fun b o e _ t => k b o e t, fun _ h => .inl h, fun _ h => .inl h⟩
  refine ⟨ex, sr.len, sr.nd, fun n m pv a h1 h2 => ?_, t, sr.pd, fun a h => (sr.pt a h).imp (fun ⟨vs, q⟩ => ⟨vs, k _ _ q (fun ps z => nomatch z)⟩) (fun z => z.imp (fun ⟨vs, q⟩ => ⟨vs, k _ _ q (fun ps z => nomatch z)⟩) fun ⟨o, q, d⟩ => ⟨o, k _ _ q (fun ps z => nomatch z), d⟩), P.st sr.anc ex⟩
  have c := sr.cell n m pv a h1 h2
  refine c.mono sr ex ?_
  obtain ⟨o', q, nt⟩ := c.there
  rw [q, k _ _ q nt]
/-- x(lambda: body), by values -/
def dLam (φ : (Store → Res PV) → Store → Res PV) (body : DE) : DE := fun fr S => (φ (fun S' => body fr S') S).noX
section
variable {B : Base} {G : Pg} {Φ : Nat → Phi} {k : Nat} {W : WX} {cc : Cc} {X : Cx}
theorem pe_lam {φ : (Store → Res PV) → Store → Res PV} {x : Str} {params : Arguments} {body : Expr} {scope : Scope} {d : DE} {p lpos pos : Pos} (hK : X.K = B.K) (F : TkF B φ k X.prog X.w X.mg X.base x) (hg : Gl X x) (hr : Room (k + 2) X.A) (hgd : X.A.guards = some [])
    (hl : ∃ c Pt, X.env.code = .ref c ∧ LamX.TabB X.base X.mg c Pt ∧ (Pt, X.env.qual ++ "<lambda>") ∈ B.T ∧ ∀ p ∈ B.T, p.1 = Pt → p.2 = X.env.qual ++ "<lambda>") (L : LamS X.env.scope scope) (hdef : defaultsOf params X.env = ([], []))
    (hbind : ∀ (q : Str) (cl : List (Str × Addr)) (pm cv ctv : Value), bindArgs (PySem.W.kla_fn "<lambda>" q params body scope cl pm cv ctv) ⟨[], []⟩ = pure [])
    (hbody : ∀ (A : Around) (outer : List Env) (s : Shared) (H : Hp) (E : XK) (f c' : Addr), Room k (A.deeper (lamEnv X scope s.heap.objs.size f c')) → A.guards = some [] → PE (lamCx X A outer s H E scope f c') body (tE B P (fun cls d _ H => E cls d H) d))
    (hdb : (x == ("__debug__" : Str)) = false) :
    PE X (.Call (.Name x p) [.Lambda params body scope lpos] [] pos) (tE B P W (dLam φ d)) := by
  obtain ⟨c, Pt, hcode, TB, hmT, hu⟩ := hl
  obtain ⟨g, a, pg, bg, sg, dV, kV, doc, pm, cdv, ct, oc, an, od, osl, Ng, hm, hk, lk, hcg, hb, Sg, hNg, hva, hd, hcd, gives⟩ := F.ex
  refine ⟨fun pins s σ H Q I h => ?_⟩
  obtain ⟨fr, μ, S, hf0, sr, h⟩ := h
  have hT : Tabs B.T H := sr.tabs
  refine wpAny_Call_Name_kw (ld_glob I hg hm ?_ hdb)
  refine PySem.W.callWith_K (h₀ := X.base) I.ok.mod.kin (by rw [hK]; exact hk) ?_ (by rfl) (by rfl)
  show wpAny _ _ (spliced ((false, eval (.Lambda params body scope lpos) X.env) :: backTo pos (starEach [] X.env))) _ _ s
  refine Calls.spliced_cons (lam_make2 I TB hcode hmT hu hT hdef (L.has I.ok) fun f c' pm' ctv H1 s' I1 eN T1 hf hfn hfr hco => ?_)
  refine Calls.spliced_nil ⟨I1.kIn, ?_⟩
  -- the state with the lambda made
  obtain ⟨ex, sr1⟩ := sr.extN eN T1
  have rc : codeAny (model X.prog X.w) X.A (.call (.ref g) ⟨[.ref f], []⟩) (CR C8.CX0 X.stack X.prog X.w H1 s' Q C8.E0) s' := by
    have kin := I1.kIn
    have env0 := I1.env0
    rw [hK] at kin env0
    refine run_ofS (K := B.K) (N := Ng) (ps := [a]) (us := [.ref f]) (vs := [.ref f]) lk hcg Sg hr env0 (hb s' [.ref f] kin rfl) (.cons rfl .nil) rfl fun hr' => ?_
    obtain ⟨t', ht', hq'⟩ := gives X.A X.stack s' H1 f c' (X.env.qual ++ "<lambda>") Q (fun E H' Q' => tE B P (fun cls d _ H => E cls d H) d σ H' Q') hr' hgd
      (fun W pn xe p1 p2 tk => by
        have q := pe_act2 (CXg := C8.CX0) (Eg := C8.E0) (Ng := Ng) (qg := x) (sg := sg) (g := g) (cdg := cdv) (i := 0) (pn := pn) (xe := xe) (W := W) (p1 := p1) (p2 := p2) (tb := fun E => tE B P (fun cls d _ H => E cls d H) d) (k := k) I1 L hf hfn hfr (hbind _ _ _ _ _) (by rw [hK]; exact tk) hr' hgd (fun E A outer s H hr2 hg2 => hbody A outer s H E f c' hr2 hg2) hNg hva hd hcd
        rw [hK] at q
        exact q) hco
      ⟨P, μ, S, fun S' => d fr S', sr1, fun E μ' S' H' Q' ex' sr' g' => ⟨fr, μ', S', hf0.mono sr (ex.trans (B := B) ex'), sr', g'.change fun _ _ _ z => z⟩, (h.after ex).noX⟩
    exact ⟨t', ht'.nox, hq'⟩
  refine wpAny_call (codeAny_mono rc fun r s2 hq => ?_)
  cases r with
  | error e => exact (show False from hq).elim
  | ok fl =>
    cases fl with
    | ret u => exact I1.after hq
    | next => exact False.elim hq
    | brk => exact False.elim hq
    | cont => exact False.elim hq
end
end E2
end
section
set_option Elab.async false
set_option linter.all false
set_option maxRecDepth 100000
set_option maxHeartbeats 4000000
set_option autoImplicit false
namespace E2
open PySem PySem.Spec PyProof.Rows L2 LamX
variable {P P' : Pv}
/-! ### a lambda of one parameter -/
structure LamP (sc scope : Scope) (p : Str) : Prop where
  kind : scope.kind = .function
  co : scope.isCoroutine = false
  gen : scope.isGenerator = false
  par : scope.names.lookup p = some .local
  own : ∀ y ∈ scope.names, y.2 ≠ .cell ∧ (y.2 = .local → y.1 = p)
  free : ∀ y ∈ scope.names, y.2 = .free → sc.names.lookup y.1 = some .cell ∨ sc.names.lookup y.1 = some .free
def lamPB (sc scope : Scope) (p : Str) : Bool :=
  decide (scope.kind = .function) && !scope.isCoroutine && !scope.isGenerator && decide (scope.names.lookup p = some .local) && scope.names.all fun y => !decide (y.2 = .cell) && (!decide (y.2 = .local) || decide (y.1 = p)) && (!decide (y.2 = .free) || decide (sc.names.lookup y.1 = some .cell) || decide (sc.names.lookup y.1 = some .free))
theorem lamP_by {sc scope : Scope} {p : Str} (h : lamPB sc scope p = true) : LamP sc scope p := by
  unfold lamPB at h
  simp only [Bool.and_eq_true, Bool.or_eq_true, Bool.not_eq_true', decide_eq_true_eq, decide_eq_false_iff_not, List.all_eq_true] at h
  obtain ⟨⟨⟨⟨h1, h2⟩, h3⟩, h4⟩, h5⟩ := h
  refine ⟨h1, h2, h3, h4, fun y hy => ⟨(h5 y hy).1.1, fun e => (h5 y hy).1.2.resolve_left fun n => n e⟩, fun y hy e => ?_⟩
  rcases (h5 y hy).2 with (z | z) | z
  · exact absurd e z
  · exact .inl z
  · exact .inr z
theorem LamP.has {X : Cx} {scope : Scope} {p : Str} (L : LamP X.env.scope scope p) (ok : X.Ok) : ∀ y ∈ scope.names, y.2 = .free → ∃ c, X.env.cells.lookup y.1 = some c := fun y hy e => by
  rcases L.free y hy e with k | k
  · exact ok.has _ (.inl k)
  · exact ok.has _ (.inr k)
section
variable {X : Cx} {pins : List (Addr × Obj)} {σ : L2.St} {H HZ : Hp} {s s1 : Shared}
theorem lamP_start {A : Around} {outer : List Env} {E : XK} {scope : Scope} {f c' : Addr} {h₁ : Heap} {tk : Nat} {p : Str} {j : Nat} {u0 : Value} {v0 : V} (I : Inv X pins σ H s) (hN : X.N.Nodup) (hj : X.N[j]? = some p) (r0 : RelV v0 u0) (L : LamP X.env.scope scope p) (e0 : Env0 X.prog X.w X.K X.mg X.base A outer s1 HZ) (hd : A.handled = none)
    (un : Un (frs X.stack) [] H HZ s.heap s1.heap) (hns : h₁.Ns s1.heap.objs.size fun y => [(p, u0)].reverse.lookup y) (kp : ∀ b o, s1.heap.get? b = some o → h₁.get? b = some o) :
    Inv (lamCx X A outer s1 HZ E scope f c') [] (σ.set j (some v0)) HZ { s1 with heap := h₁, toks := tk } := by
  have hfree := L.has I.ok
  have cm : ∀ {y c}, (cloFrom X.env.cells scope.names []).lookup y = some c → X.env.cells.lookup y = some c := fun {y c} e => by
    rcases cloFrom_mem (PySem.mem_of_lookup e) with hm | ⟨h1, h2⟩
    · cases hm
    · obtain ⟨c1, hc⟩ := hfree _ h1 rfl
      have hc : X.env.cells.lookup y = some c1 := hc
      have e2 : c = c1 := by
        rw [h2, hc] <;> rfl
      rw [e2]
      exact hc
  have look : ∀ {y}, scope.names.lookup y = some .free → ∃ c, (cloFrom X.env.cells scope.names []).lookup y = some c := fun {y} hl => mem_lookup (cloFrom_has (cells := X.env.cells) (acc := []) (PySem.mem_of_lookup hl))
  have cellK : ∀ {c : Addr} {v : Option Value}, H c = none → s.heap.IsCell c v → h₁.IsCell c v := fun {c v} n ⟨o, ho, hd⟩ => by
    obtain ⟨sl, q⟩ := un.any ho n (by simp)
    exact ⟨_, kp _ _ q, hd⟩
  have noA : ∀ b : Addr, b ∉ (lamCx X A outer s1 HZ E scope f c').ex := fun b z => absurd (show b ∈ ([] : List Addr) from z) (by simp)
  refine ⟨⟨e0.mod, L.kind, rfl, rfl, Nat.le_refl _, fun y z c e1 e2 => I.ok.inj y z c (cm e1) (cm e2), fun y hy => ?_, fun y c z _ => ?_, fun _ => hd, Around.frames_deeper e0.frames, .inr ⟨rfl, rfl⟩, fun b z => absurd z (noA b), e0.bs, e0.bsz, fun b _ _ => noA b,
      fun b z => absurd z (noA b), e0.funs, e0.frf⟩,
    rfl, e0.bare, Un.kept kp, ⟨_, hns, fun i y v e1 e2 e3 => ?_⟩, fun y c e => ?_, e0.hok.fresh (Nat.le_refl _), fun y c e => ?_, fun q hq => absurd (show q ∈ ([] : List (Addr × Obj)) ++ [] from hq) (by simp), e0.hok.kept kp, by rw [List.length_set]; exact I.len⟩
  · have hy : scope.names.lookup y = some .cell ∨ scope.names.lookup y = some .free := hy
    rcases hy with hy | hy
    · exact absurd rfl (L.own _ (PySem.mem_of_lookup hy)).1
    · exact look hy
  · have z : false = true := z
    cases z
  · have e3 : Vis scope y := e3
    have e1 : X.N[i]? = some y := e1
    rcases e3 with k | k | k
    · have ey : y = p := (L.own _ (PySem.mem_of_lookup k)).2 rfl
      subst ey
      have ei := nodup_ix hN e1 hj
      subst ei
      rw [List.getElem?_set_self (by rw [I.len]; exact (List.getElem?_eq_some_iff.mp hj).1)] at e2
      cases e2
      exact ⟨u0, r0, .inl ⟨k, by simp⟩⟩
    · exact absurd rfl (L.own _ (PySem.mem_of_lookup k)).1
    · have ne : j ≠ i := fun z => by
        rw [z, e1] at hj
        cases hj
        have := L.par
        rw [k] at this
        cases this
      rw [List.getElem?_set_ne ne] at e2
      obtain ⟨m, hn, hl⟩ := I.loc
      have hvis : Vis X.env.scope y := (L.free _ (PySem.mem_of_lookup k) rfl).elim (fun k => .inr (.inl k)) (fun k => .inr (.inr k))
      obtain ⟨w', r, q⟩ := hl i y v e1 e2 hvis
      obtain ⟨c2, h2⟩ := look k
      refine ⟨w', r, .inr ⟨.inr k, c2, h2, ?_⟩⟩
      have c1 := cm h2
      rcases q with ⟨k', _⟩ | ⟨_, c3, e', z⟩
      · have k' : X.env.scope.names.lookup y = some .local := k'
        rcases L.free _ (PySem.mem_of_lookup k) rfl with k2 | k2 <;> rw [show X.env.scope.names.lookup y = _ from k2] at k' <;> cases k'
      · rw [c1] at e'
        cases e'
        exact cellK (I.freeC y _ c1) z
  · obtain ⟨w', z⟩ := I.cell y c (cm e)
    exact ⟨w', cellK (I.freeC y c (cm e)) z⟩
  · obtain ⟨v, o, ho, hd⟩ := I.cell y c (cm e)
    exact un.free c o ho (I.freeC y c (cm e)) (by simp)
end
/-! ### sorted(xs, key=f), f's calls told by what they make of the state -/
theorem hole {h : Heap} {k : Addr} : ∃ h1 : Heap, h1.get? k = none ∧ ∀ b, b ≠ k → h1.get? b = h.get? b := by
  refine ⟨h.update k fun o => { o with data := .freed }, ?_, fun b hb => Heap.get?_update_ne _ _ _ _ hb⟩
  by_cases hk : k < h.objs.size
  · unfold Heap.get? Heap.update
    simp [Array.getElem?_modify, Array.getElem_modify_self, hk]
  · refine Heap.get?_none_of_le ?_
    rw [Heap.size_update]
    exact Nat.le_of_not_lt hk
section
variable {X : Cx} {pins : List (Addr × Obj)} {σ : L2.St} {H : Hp} {s : Shared} {Q : VK}
theorem fp_off {b : Addr} (I : Inv X pins σ H s) (f : FpOk X pins H b) : b ∉ frs X.stack := fun z => (List.mem_cons.mp (I.stkSub b z)).elim f.2.1 f.2.2.1
theorem fp_to {H' : Hp} {b : Addr} (f : FpOk X pins H b) (h : H' b = none) : FpOk X pins H' b := ⟨h, f.2⟩
theorem sortK_run {a f : Addr} {of : Obj} {T : String} {o : Obj} {n : Nat} {its : List Value} {xs : List V} {ds : List PyData} (hu : X.A.units + 65 < cLine) (I : Inv X pins σ H s) (hT : T = "list" ∨ T = "tuple") (ho : s.heap.get? a = some o) (hc : o.cls = .type T) (hdt : o.data = .seq its.toArray n) (rv : Vals xs its) (hz : its.length ≤ sizeLine)
    (hf : s.heap.get? f = some of) (hfn : H f = none) (hff : f ∉ frs X.stack) (hk : kOk ds = true) (hl : ds.length = xs.length) (J : Nat → Hp → List V → Prop) (J0 : J 0 H [])
    (turn : ∀ (i : Nat) (v : Value) (H1 : Hp) (us : List V) (s1 : Shared), Inv X pins σ H1 s1 → s1.heap.get? f = some of → H1 f = none → Un (frs X.stack) [] H H1 s.heap s1.heap → J i H1 us → its[i]? = some v → wpAny (model X.prog X.w) X.A.in1.in1 (call (.ref f) [v]) (CE X.stack X.prog X.w H1 s1 (fun k H2 => J (i + 1) H2 (us ++ [k]))) (fun _ _ => False) s1)
    (fin : ∀ (H1 : Hp) (us : List V) (s1 : Shared), Inv X pins σ H1 s1 → J its.length H1 us → DpAll X.K H1 us ds ∧ ∀ D, H1 D = none → Q (.ref D) (upd H1 D (.lst (sortBy ds xs)))) :
    wpAny (model X.prog X.w) X.A (call (.builtin "sorted") [.ref a] [(Str.ofString "key", .ref f)]) (EP X pins σ Q) X.xe s := by
  obtain ⟨k1, k2, k3⟩ := kOk_ok hk
  have hlz : (sortBy ds xs).length ≤ sizeLine := by rw [sortBy_length hl, rv.length]; exact hz
  refine srt_any hT ho hc hdt (by rw [List.size_toArray]; exact hz) (ksk_s1 _ _) (fun _ => ksk_l1 _ _) fun h' E' kp => ?_
  have I1 : Inv X pins σ H { s with heap := h', toks := s.toks } := I.kept kp
  have hob : (h'.push (seqObj "list" its.toArray 0)).get? h'.objs.size = some (seqObj "list" its.toArray 0) := Heap.get?_push_size _ rfl
  have ne : ∀ b o, h'.get? b = some o → b ≠ h'.objs.size := fun b o e => Nat.ne_of_lt (Heap.lt_size e)
  obtain ⟨e1, ho1⟩ : ∃ e1, ((h'.push (seqObj "list" its.toArray 0)).update h'.objs.size (Obj.mapSeq fun _ => (#[] : Array Value))).get? h'.objs.size = some (seqObj "list" #[] e1) := ⟨_, get?_update_seq hob fun _ => #[]⟩
  rw [ksk_t1]
  unfold ksk_tree
  refine wpAny_bind (listItems_at hob rfl ?_)
  refine wpAny_bind (listUpdate_at hob rfl ?_ (by rw [List.size_toArray]; exact hz) (Nat.zero_le _))
  refine wpAny_bind (seqEpoch_at ho1 rfl ?_)
  refine wpAny_bind (wpAny_newTuple ?_ (by show its.length ≤ _; exact hz))
  refine wpAny_bind (wpAny_newList ?_ (Nat.zero_le _))
  refine wpAny_holding ?_
  generalize hD : h'.objs.size = D at *
  generalize hh2 : ((h'.push (seqObj "list" its.toArray 0)).update D (Obj.mapSeq fun _ => (#[] : Array Value))).push (seqObj "tuple" its.toArray 0) = h2
  have kp2 : ∀ b o, h'.get? b = some o → h2.get? b = some o := fun b o e => by rw [← hh2]; exact Heap.get?_push_of_some _ (keepU (ne b o e) (Heap.get?_push_of_some _ e))
  have hD2 : h2.get? D = some (seqObj "list" #[] e1) := by rw [← hh2]; exact Heap.get?_push_of_some _ ho1
  have I2 : Inv X pins σ H { s with heap := h2, toks := s.toks } := I1.kept kp2
  have fpD : FpOk X pins H D := I1.fpOk (show h'.objs.size ≤ D from Nat.le_of_eq hD) (I1.hok.fresh (show h'.objs.size ≤ D from Nat.le_of_eq hD))
  have fpK : FpOk X pins H h2.objs.size := I2.fpOk (Nat.le_refl _) (I2.hok.fresh (Nat.le_refl _))
  have nDK : h2.objs.size ≠ D := fun z => Nat.lt_irrefl _ (show D < D by have := Heap.lt_size hD2; rw [z] at this; exact this)
  have nDf : D ∉ frs X.stack := fp_off I fpD
  have nKf : h2.objs.size ∉ frs X.stack := fp_off I fpK
  show wpAny (model X.prog X.w) X.A.in1.in1 (ksk_rest D (.ref f) false its.toArray e1 (.ref h2.objs.size)) _ _ { s with heap := h2.push (seqObj "list" #[] 0) }
  unfold ksk_rest
  refine wpAny_bind (wpAny_rule ?_)
  first
    | rw [List.forIn_toArray]
    | (rw [← Array.forIn_toList]; simp only [List.toList_toArray])
  refine wpAny_bind (ksk_fold (fun i s' => ∃ (H1 : Hp) (us : List V) (kA : Array Value) (e : Nat), Inv X pins σ H1 s' ∧ Un (frs X.stack) [] H H1 s.heap s'.heap ∧ J i H1 us ∧ Vals us kA.toList ∧ us.length = i ∧ s'.heap.get? h2.objs.size = some (seqObj "list" kA e) ∧ s'.heap.get? D = some (seqObj "list" #[] e1) ∧ s'.heap.get? f = some of ∧ H1 h2.objs.size = none ∧ H1 D = none ∧ H1 f = none) its 0 _
    ⟨H, [], #[], 0, I2.kept (t' := s.toks) fun b o e => Heap.get?_push_of_some _ e, Un.kept fun b o e => Heap.get?_push_of_some _ (kp2 b o (kp b o e)), J0, .nil, rfl, Heap.get?_push_size _ rfl, Heap.get?_push_of_some _ hD2, Heap.get?_push_of_some _ (kp2 _ _ (kp _ _ hf)), fpK.1, fpD.1, hfn⟩ ?step ?done)
  case step =>
    rintro j x s1 hx ⟨H1, us, kA, e, J1, un1, jj, rk, hlen, nk, nd, nf, hk1, hd1, hf1⟩
    simp only [Nat.zero_add] at hlen jj ⊢
    have hj : j < its.length := (List.getElem?_eq_some_iff.mp hx).1
    have hsz : kA.size = j := by rw [← Array.length_toList, ← rk.length]; exact hlen
    refine wpAny_bind (wpAny_attempt (wpAny_mono (turn j x H1 us s1 J1 nf hf1 un1 jj hx) (fun v s2 he => ?_) fun _ _ hF => hF.elim))
    obtain ⟨k, H2, os, bare, un, hok, rk2, jq⟩ := he
    obtain ⟨k', H2', J2, _, ek, eh⟩ := J1.after (Q := fun k' H' => k' = k ∧ H' = H2) ⟨k, H2, os, bare, un, hok, rk2, rfl, rfl⟩
    subst eh
    have nk2 := un.keep _ _ nk hk1 nKf (by simp)
    have nd2 := un.keep _ _ nd hd1 nDf (by simp)
    have nf2 := un.keep _ _ nf hf1 hff (by simp)
    have hk2 := un.free _ _ nk hk1 (by simp)
    have hd2 := un.free _ _ nd hd1 (by simp)
    have hf2 := un.free _ _ nf hf1 (by simp)
    have un2 := un1.trans un
    try dsimp only
    have kps : ∀ b o, b ≠ h2.objs.size → s2.heap.get? b = some o → (s2.heap.update h2.objs.size (Obj.mapSeq (·.push v))).get? b = some o := fun b o hb e => keepU hb e
    obtain ⟨c2, hc2⟩ : ∃ c2, (s2.heap.update h2.objs.size (Obj.mapSeq (·.push v))).get? h2.objs.size = some (seqObj "list" (kA.push v) c2) := ⟨_, get?_update_seq nk2 (·.push v)⟩
    refine wpAny_bind (listUpdate_at nk2 rfl ?_ (by omega) (by rw [Array.size_push]; omega))
    have fk2 := fp_to fpK hk2
    have J3 : Inv X pins σ H2' { s2 with heap := s2.heap.update h2.objs.size (Obj.mapSeq (·.push v)), toks := s2.toks } := J2.turned kps fk2.1 fk2.2.1 fk2.2.2.2.1 fk2.2.2.2.2.1 fk2.2.2.2.2.2
    have nS : s.heap.get? h2.objs.size = none := by
      cases q : s.heap.get? h2.objs.size with
      | none => rfl
      | some z => exact absurd (Heap.lt_size (kp2 _ _ (kp _ _ q))) (Nat.lt_irrefl _)
    have neS : ∀ b o, s.heap.get? b = some o → b ≠ h2.objs.size := fun b o e z => by rw [z, nS] at e; cases e
    have un3 : Un (frs X.stack) [] H H2' s.heap (s2.heap.update h2.objs.size (Obj.mapSeq (·.push v))) :=
      ⟨fun b o e n hb hx => kps b o (neS b o e) (un2.keep b o e n hb hx), fun b o e n hb hx => let ⟨sl, q⟩ := un2.slot b o e n hb hx; ⟨sl, kps b _ (neS b o e) q⟩, un2.free, fun b o e hx => let ⟨o', q⟩ := un2.there b o e hx; ⟨o', kps b _ (neS b o e) q⟩, un2.tups, un2.frzs, un2.tbls⟩
    refine wpAny_pure ⟨rfl, H2', us ++ [k], kA.push v, c2, J3, un3, jq, ?_, by simp [hlen], hc2, kps _ _ nDK.symm nd2, kps _ _ (fun z => ?_) nf2, hk2, hd2, hf2⟩
    · rw [Array.toList_push]
      exact rk.append (.cons rk2 .nil)
    · rw [z] at hf
      exact absurd (Heap.lt_size (kp2 _ _ (kp _ _ hf))) (Nat.lt_irrefl _)
  case done =>
    rintro s1 ⟨H1, us, kA, e, J1, un1, jj, rk, hlen, nk, nd, nf, hk1, hd1, hf1⟩
    simp only [Nat.zero_add] at hlen jj
    obtain ⟨hdp, hq⟩ := fin H1 us s1 J1 jj
    obtain ⟨as, rds⟩ := Dp.readsAll J1 ds us kA.toList hdp rk
    have er := each_reads rds
    have hsz : kA.size = its.length := by rw [← Array.length_toList, ← rk.length]; exact hlen
    obtain ⟨h5, h5n, h5k⟩ := hole (h := s1.heap) (k := h2.objs.size)
    refine wpAny_bind (listItems_at nk rfl ?_)
    refine W.keyH_end (κ := W.dataKind s1.heap ds) (h₁ := h5) (fun b o hb q => ?_) h5n nk nd nDK (W.SortsAt.data er k1 k2 fun d hd => by have := k3 d hd; show X.A.units + 1 + 1 + d.depth < cLine; omega) hsz hz fun h6 tk c kp6 n6 => ⟨rfl, ?_⟩
    · by_cases z : b = h2.objs.size
      · rw [z, h5n] at q; cases q
      · rw [h5k b z] at q; exact q
    have out := W.keyedOut_each (R := fun v (b : PyData × V) => RelV b.2 v) (rev := false) (bs := ds.zip xs) (vs := its) Prod.fst ⟨s1.heap, kA.toList, by rw [zip_fst hl]; exact k1, rfl, by rw [zip_fst hl]; exact er⟩ (each_zip rv hl)
    rw [zip_fst hl, ← sortBy_merge] at out
    generalize (W.sortVals (W.dataKind s1.heap ds) false kA.toList its) = out' at out n6
    have vo : Vals (sortBy ds xs) out' := vals_each out
    have keep : ∀ b o, b ∉ [h2.objs.size, D] → s1.heap.get? b = some o → h6.get? b = some o := fun b o hb q => by
      simp only [List.mem_cons, List.not_mem_nil, or_false, not_or] at hb
      exact kp6 b o hb.2 (by rw [h5k b hb.1]; exact q)
    have fk := fp_to fpK hk1
    have fd := fp_to fpD hd1
    have nD : ∀ b u, H1 b = some u → b ≠ D := fun b u q z => by rw [z, hd1] at q; cases q
    have nK : ∀ b u, H1 b = some u → b ≠ h2.objs.size := fun b u q z => by rw [z, hk1] at q; cases q
    have cK : ∀ b u, H1 b = some u → b ∉ [h2.objs.size, D] := fun b u q z => by
      simp only [List.mem_cons, List.not_mem_nil, or_false] at z
      exact z.elim (nK b u q) (nD b u q)
    refine ⟨.ref D, upd H1 D (.lst (sortBy ds xs)), ?_, rfl, hq D hd1⟩
    refine J1.step (g' := s1.gens) (d' := s1.drawn) (ch := [h2.objs.size, D]) (fun b hb => ?_) (fun b o _ _ hc q _ => keep b o hc q) (fun b o _ _ hc q _ => ⟨o.slots, keep b o hc q⟩) (fun b o hc q n => ?_) (fun b o hc q => ⟨o, keep b o hc q⟩)
      (fun b xs q => by rw [upd_ne (nD b _ q)]; exact q) (fun b o u q => by rw [upd_ne (nD b _ q)]; exact q) (fun b ps q => ⟨#[], by rw [upd_ne (nD b _ q), q]; simp⟩) (fun m hm => ?_) (fun b u q => ?_) J1.bare
    · simp only [List.mem_cons, List.not_mem_nil, or_false] at hb
      rcases hb with rfl | rfl
      · exact ⟨fk.2.2.2.1, fk.2.1, fk.2.2.2.2.1, fk.2.2.2.2.2⟩
      · exact ⟨fd.2.2.2.1, fd.2.1, fd.2.2.2.2.1, fd.2.2.2.2.2⟩
    · simp only [List.mem_cons, List.not_mem_nil, or_false, not_or] at hc
      rw [upd_ne hc.2]; exact n
    · obtain ⟨ob, es, ep, hob, r⟩ := hm
      refine ⟨ob, es, ep, keep _ ob (fun z => ?_) hob, r⟩
      simp only [List.mem_cons, List.not_mem_nil, or_false] at z
      exact z.elim (fun z => fk.2.1 z.symm) (fun z => fd.2.1 z.symm)
    · by_cases hb : b = D
      · subst hb
        rw [upd_same] at q
        cases q
        exact ⟨hlz, out', c, vo, n6⟩
      · rw [upd_ne hb] at q
        refine (J1.hok b u q).stay (fun d v hd z => keep d v ?_ z) (fun d z => by rw [upd_ne (nD d _ z)]; exact z) fun d xs z => by rw [upd_ne (nD d _ z)]; exact z
        rcases hd with z | z
        · rw [z]; exact cK b u q
        · exact cK d _ z
end
end E2
end
section
set_option Elab.async false
set_option linter.all false
set_option maxRecDepth 100000
set_option maxHeartbeats 4000000
set_option autoImplicit false
namespace E2
open PySem PySem.Spec PyProof.Rows L2 LamX
variable {P P' : Pv}
/-! ### sorted(xs, key=lambda p: ..), by values -/
def keysGo (body : DE) (fr : Frame) (j : Nat) : List PV → List PV → Store → Res (List PV)
  | [], acc, S => .ok acc S
  | x :: r, acc, S => (body (fr.set j (some x)) S).noX.bind fun k S1 => keysGo body fr j r (acc ++ [k]) S1
def endK (ys ks : List PV) (S : Store) : Res PV := match toDL ks with
  | some ds => if kOk ds && decide (ds.length = ys.length) then .ok (.lst (sortBy ds ys)) S else .fail
  | none => .fail
def dSortK (de : DE) (j : Nat) (body : DE) : DE := fun fr S => (de fr S).bind fun x S1 => match drf S1 x with
  | .lst ys => (keysGo body fr j ys [] S1).bind (endK ys)
  | .tup ys => (keysGo body fr j ys [] S1).bind (endK ys)
  | _ => .fail
theorem keysGo_noX {body : DE} {fr : Frame} {j : Nat} : ∀ (xs acc : List PV) (S : Store) (c : Nat) (t : PV) (S' : Store), keysGo body fr j xs acc S ≠ .exc c t S'
  | [], _, _, _, _, _ => fun h => by simp [keysGo] at h
  | x :: r, acc, S, c, t, S' => fun h => by
    unfold keysGo at h
    cases q : body (fr.set j (some x)) S with
    | ok k S1 => rw [q] at h; exact keysGo_noX r _ _ c t S' h
    | exc c t S1 => rw [q] at h; cases h
    | fail => rw [q] at h; cases h
section
variable {B : Base} {G : Pg} {Φ : Nat → Phi} {k : Nat} {W : WX} {cc : Cc} {X : Cx}
theorem pe_sortK {p : Str} {params : Arguments} {e body : Expr} {scope : Scope} {de d : DE} {j : Nat} {p1 lpos kpos pos : Pos} (hK : X.K = B.K) (hg : Gl X "sorted") (hm : X.mg "sorted" = none) (hN : X.N.Nodup) (hr : Room (k + 3) X.A) (hgd : X.A.guards = some [])
    (hl : ∃ c Pt, X.env.code = .ref c ∧ LamX.TabB X.base X.mg c Pt ∧ (Pt, X.env.qual ++ "<lambda>") ∈ B.T ∧ ∀ p ∈ B.T, p.1 = Pt → p.2 = X.env.qual ++ "<lambda>") (L : LamP X.env.scope scope p) (hj : X.N[j]? = some p) (hdef : defaultsOf params X.env = ([], []))
    (hbind : ∀ (q : Str) (cl : List (Str × Addr)) (pm cv ctv u : Value), bindArgs (PySem.W.kla_fn "<lambda>" q params body scope cl pm cv ctv) ⟨[u], []⟩ = pure [(p, u)]) (he : PE X e (tE B P W de)) (hst : isStar e = false)
    (hbody : ∀ (A : Around) (outer : List Env) (s : Shared) (H : Hp) (f c' : Addr), Room k (A.deeper (lamEnv X scope s.heap.objs.size f c')) → A.guards = some [] → PE (lamCx X A outer s H (fun _ _ _ => False) scope f c') body (tE B P W0 d)) :
    PE X (.Call (.Name "sorted" p1) [e] [⟨some "key", .Lambda params body scope lpos, kpos⟩] pos) (tE B P W (dSortK de j d)) := by
  obtain ⟨c, Pt, hcode, TB, hmT, hu⟩ := hl
  have hun : X.A.units + 65 < cLine := by have := hr.un; omega
  have hr2 : Room (k + 1) X.A.in1.in1 := hr.in1.in1
  refine ⟨fun pins s σ H Q I h => ?_⟩
  obtain ⟨fr, μ, S, hf0, sr, g0⟩ := h
  refine wpAny_Call_Name_kw (ld_blt I hg hm (u := .builtin "sorted") (by decide +kernel) ?_ (by decide +kernel) (by decide +kernel))
  refine PyProof.Rows.callWith_kw ?_ (by rw [starEach_cons hst]; rfl) (by rw [starEach_cons hst]; rfl)
  rw [starEach_cons hst]
  refine Calls.spliced_cons (thn (he.run pins s σ H _ I ⟨fr, μ, S, hf0, sr, g0.bind⟩) fun ua s1 ⟨va, H1, I1, r1, q1⟩ => ?_)
  refine Calls.spliced_nil ?_
  obtain ⟨μ1, S1, x, ex1, sr1, rx, _, g1⟩ := q1
  have rx : Rp B μ1 (Mz P μ1 S1) H1 x va := rx
  -- the list or tuple
  have hsrc : ∃ (a : Addr) (ys : List PV) (xs : List V), va = .ref a ∧ RpL B μ1 (Mz P μ1 S1) H1 ys xs ∧ (SqL B.K H1 a xs ∨ SqT B.K H1 a xs) ∧ Go B P (RelP B) W σ ((keysGo d fr j ys [] S1).bind (endK ys)) μ1 S1 H1 Q := by
    split at g1
    · rename_i ys e1
      obtain ⟨a, us, rfl, h1, l⟩ := lstV sr1 rx e1
      exact ⟨a, ys, us, rfl, l, .inl (SqL.of h1), g1⟩
    · rename_i ys e1
      obtain ⟨a, us, rfl, h1, l⟩ := tupV sr1 rx e1
      exact ⟨a, ys, us, rfl, l, .inr h1.sq, g1⟩
    · exact g1.elim
  obtain ⟨a, ys, xs, rfl, l1, hsq, g1⟩ := hsrc
  obtain rfl : ua = Value.ref a := r1
  cases hks : keysGo d fr j ys [] S1 with
  | exc c' t' S' => exact absurd hks (keysGo_noX _ _ _ _ _ _)
  | fail => rw [hks] at g1; exact g1.elim
  | ok ks S2 =>
  rw [hks] at g1
  have g2 : Go B P (RelP B) W σ (endK ys ks S2) μ1 S1 H1 Q := g1
  clear g1
  unfold endK at g2
  split at g2
  · rename_i ds hds
    split at g2
    · rename_i hok
      rw [Bool.and_eq_true, decide_eq_true_eq] at hok
      obtain ⟨hok, hlen⟩ := hok
      show wpAny _ _ (evalAll ((do let v ← eval (.Lambda params body scope lpos) X.env; standAt pos; pure v) :: (backToKw pos (keywordEach [] X.env)).map (·.2))) _ _ s1
      refine wpAny_evalAll_cons (wpAny_bind (lam_make2 I1 TB hcode hmT hu sr1.tabs hdef (L.has I1.ok) fun f c' pm' ctv H2 s2 I2 eN T2 hf hfn hfr hco => ?_))
      refine wpAny_bind (wpAny_standAt (wpAny_pure (wpAny_evalAll_nil ?_)))
      obtain ⟨ex2, sr2⟩ := sr1.extN eN T2
      have hsq2 : SqL X.K H2 a xs ∨ SqT X.K H2 a xs := by
        rw [hK]
        refine hsq.imp (fun z => ?_) (fun z => ?_)
        · rcases z with z | z
          · exact .inl (z.elim (fun q => .inl (eN _ _ q (fun ps z => nomatch z))) (fun ⟨o, q⟩ => .inr ⟨o, eN _ _ q (fun ps z => nomatch z)⟩))
          · exact .inr z
        · rcases z with z | z
          · exact .inl (z.elim (fun q => .inl (eN _ _ q (fun ps z => nomatch z))) (fun ⟨o, q⟩ => .inr ⟨o, eN _ _ q (fun ps z => nomatch z)⟩))
          · exact .inr z
      obtain ⟨its, T, o, n, rv, hT, ho, hc, hdt, hz⟩ := src_obj I2 hsq2
      have lxy : ys.length = its.length := by rw [l1.length, rv.length]
      show wpAny (model X.prog X.w) X.A (call (.builtin "sorted") [.ref a] [(Str.ofString "key", .ref f)]) (EP X pins σ Q) X.xe s2
      refine sortK_run (ds := ds) hun I2 hT ho hc hdt rv hz hf hfn hfr hok (by rw [hlen, l1.length])
        (fun i H3 us => ∃ μ3 S3 acc, Ex μ1 S1 H1 μ3 S3 H3 ∧ SR B P μ3 S3 H3 ∧ RpL B μ3 (Mz P μ3 S3) H3 acc us ∧ keysGo d fr j (ys.drop i) acc S3 = .ok ks S2 ∧ H3 c' = some (CodeO c' (X.env.qual ++ "<lambda>")))
        ⟨μ1, S1, [], ex2, sr2, .nil, by rw [List.drop_zero]; exact hks, hco⟩ ?turn ?fin
      case fin =>
        rintro H3 us s3 I3 ⟨μ3, S3, acc, ex3, sr3, la, hk3, _⟩
        rw [← lxy, List.drop_length] at hk3
        have hk3 : Res.ok acc S3 = Res.ok ks S2 := hk3
        injection hk3 with e1 e2
        subst e1 e2
        refine ⟨by rw [hK]; exact la.dp hds, fun D hD => go_lst sr3 hD ((l1.mono sr1 ex3).sortBy ds) (g2.after ex3)⟩
      case turn =>
        rintro i v H3 us s3 I3 hf3 hfn3 un3 ⟨μ3, S3, acc, ex3, sr3, la, hk3, hco3⟩ hv
        have hi : i < ys.length := by rw [lxy]; exact (List.getElem?_eq_some_iff.mp hv).1
        rw [List.drop_eq_getElem_cons hi] at hk3
        unfold keysGo at hk3
        -- the item
        obtain ⟨w, hw, rw1⟩ := (l1.mono sr1 ex3).get (i := i) (x := ys[i]) (List.getElem?_eq_getElem hi)
        have rvw : RelV w v := by
          obtain ⟨u', h1', h2'⟩ := rv.get hw
          rw [hv] at h1'
          cases h1'
          exact h2'
        have hfr3 : FR B μ3 (Mz P μ3 S3) H3 (fr.set j (some ys[i])) (σ.set j (some w)) := ((hf0.mono sr ex1).mono sr1 ex3).set rw1 j
        cases qb : d (fr.set j (some ys[i])) S3 with
        | exc _ _ _ => rw [qb] at hk3; cases hk3
        | fail => rw [qb] at hk3; cases hk3
        | ok kk S4 =>
        rw [qb] at hk3
        have hk3 : keysGo d fr j (ys.drop (i + 1)) (acc ++ [kk]) S4 = .ok ks S2 := hk3
        have nMc : ∀ {o : HO}, H3 c' = some o → (∀ vs, o ≠ .lst vs) → (∀ qs, o ≠ .dK qs) → (∀ C dx gs, o ≠ .ins C dx gs) → (∀ qs, o ≠ .dT qs) → (∀ o', isD o' → o ≠ IsO c' o') → ¬ Mu μ3 S3 c' := fun e a b c d f => sr3.notTup e a b c d f
        have ht : tE B P W0 d (σ.set j (some w)) H3 (fun k H4 => ∃ μ4 S4' acc', Ex μ1 S1 H1 μ4 S4' H4 ∧ SR B P μ4 S4' H4 ∧ RpL B μ4 (Mz P μ4 S4') H4 acc' (us ++ [k]) ∧ keysGo d fr j (ys.drop (i + 1)) acc' S4' = .ok ks S2 ∧ H4 c' = some (CodeO c' (X.env.qual ++ "<lambda>"))) := by
          refine ⟨_, μ3, S3, hfr3, sr3, ?_⟩
          rw [qb]
          intro μ4 H4 k' ex4 sr4 rk4
          have rk4 : Rp B μ4 (Mz P μ4 S4) H4 kk k' := rk4
          exact ⟨μ4, S4, acc ++ [kk], ex3.trans (B := B) ex4, sr4, (la.mono sr3 ex4).append (.cons rk4 .nil), hk3, ex4.keep _ _ hco3 (nMc hco3 (fun _ z => by unfold CodeO at z; cases z) (fun _ z => by unfold CodeO at z; cases z) (fun _ _ _ z => by unfold CodeO at z; cases z) (fun _ z => by unfold CodeO at z; cases z) (fun _ d => code_notO d)) (fun ps => codeO_ne ps)⟩
        obtain ⟨⟨oc, vs, t, hoc, hdc, hvc⟩, _, _⟩ := I3.hok c' _ hco3
        have e0 : Env0 X.prog X.w X.K X.mg X.base X.A.in1.in1 X.stack s3 H3 := by
          obtain ⟨z1, z2, z3, z4, z5, z6, z7, z8⟩ := I3.env0
          exact ⟨z1, z2, z3, z4, z5, z6, z7, z8⟩
        have rc : codeAny (model X.prog X.w) X.A.in1.in1 (.call (.ref f) ⟨[v], []⟩) (CR (L2.CX X.prog X.w) X.stack X.prog X.w H3 s3 (fun k H4 => ∃ μ4 S4' acc', Ex μ1 S1 H1 μ4 S4' H4 ∧ SR B P μ4 S4' H4 ∧ RpL B μ4 (Mz P μ4 S4') H4 acc' (us ++ [k]) ∧ keysGo d fr j (ys.drop (i + 1)) acc' S4' = .ok ks S2 ∧ H4 c' = some (CodeO c' (X.env.qual ++ "<lambda>"))) (fun _ _ _ => False)) s3 := by
          refine PySem.W.kla_callFunE hr2.depth hf3 rfl L.co L.gen rfl ⟨c', oc, vs, t, rfl, hoc, hdc, hvc⟩ ?_
          rw [hbind]
          refine wpAny_pure (wpAny_newFunctionEnv (fun y hy => (L.own y hy).1) (fun y hy => ?_) (fun h₁ hns hsb => ⟨I3.nolimit.fresh _ hsb, ?_⟩) L.kind)
          · rw [List.mem_singleton] at hy
            subst hy
            exact L.par
          show codeAny _ _ (.expr body (lamEnv X scope s3.heap.objs.size f c')) _ _
          have kp : ∀ b o, s3.heap.get? b = some o → h₁.get? b = some o := fun b o e => hsb.extBut b o (Nat.ne_of_lt (Heap.lt_size e)) (Heap.get?_push_of_some _ e)
          have J : Inv (lamCx X X.A.in1.in1 X.stack s3 H3 (fun _ _ _ => False) scope f c') [] (σ.set j (some w)) H3 { s3 with heap := h₁, toks := s3.toks + ([(p, v)] : List (Str × Value)).length } :=
            lamP_start I2 hN hj rvw L e0 hr2.hd un3 hns kp
          refine PySem.W.kla_codeExpr (wpAny_mono ((hbody _ _ s3 H3 f c' (hr2.deeper _) hgd).run [] _ _ H3 _ J ht) (fun u s' hq => ?_) fun e s' hq => hq)
          obtain ⟨w', H', J', rv', q⟩ := hq
          exact ⟨w', H', J'.os, J'.bare, J'.base, J'.hok, rv', q⟩
        refine wpAny_call (codeAny_mono rc fun r s' hq => ?_)
        cases r with
        | error e =>
          obtain ⟨_, _, _, _, _, _, _, _, _, _, _, _, hF⟩ := (show L2.CX X.prog X.w X.stack H3 s3 (fun _ _ _ => False) e s' from hq)
          exact hF.elim
        | ok fl =>
          cases fl with
          | ret u => exact hq
          | next => exact False.elim hq
          | brk => exact False.elim hq
          | cont => exact False.elim hq
    · exact g2.elim
  · exact g2.elim
end
end E2
end
section
set_option Elab.async false
set_option linter.all false
set_option maxRecDepth 100000
set_option maxHeartbeats 4000000
set_option autoImplicit false
namespace E2
open PySem PySem.Spec PyProof.Rows L2
variable {P P' : Pv}
section
variable {B : Base} {G : Pg} {Φ : Nat → Phi} {k : Nat} {W : WX} {cc : Cc} {X : Cx}
/-! ### targets -/
def cmpSlot (cc : Cc) (x : Str) : Option Nat := if storable cc.sc cc.fn x then slotOf x cc.N else none
theorem cmpSlot_ok {x : Str} {i : Nat} {pos : Pos} (g : GX B G Φ k P W cc X) (h : cmpSlot cc x = some i) : X.N[i]? = some x ∧ Loc X.env.scope x ∧ (X.fn x = true ∨ X.env.scope.names.lookup x = some .local) := by
  unfold cmpSlot at h
  split at h
  · rename_i hs
    refine ⟨by rw [g.hN]; exact slotOf_ok h, ?_⟩
    unfold storable kindIn at hs
    rw [g.hsc]
    split at hs
    · rename_i e; exact ⟨.inl e, .inr e⟩
    · rename_i e; exact ⟨.inr e, .inl (g.hfn x hs)⟩
    · cases hs
  · cases h
def cmpNames (cc : Cc) : List Expr → Option (List Nat)
  | [] => some []
  | .Name x _ :: r => (match cmpSlot cc x, cmpNames cc r with
    | some i, some is => some (i :: is)
    | _, _ => none)
  | _ :: _ => none
def cmpTg (cc : Cc) : Expr → Option Tgt
  | .Name x _ => (match cmpSlot cc x with
    | some i => some (.name i)
    | none => none)
  | .Tuple es _ _ => (match cmpNames cc es with
    | some is => some (.tup is)
    | none => none)
  | _ => none
theorem cmpNames_ok (g : GX B G Φ k P W cc X) : ∀ {es : List Expr} {is : List Nat}, cmpNames cc es = some is → PGs X es (gNames is) ∧ (assignEach es X.env).length = is.length ∧ (assignEach es X.env).findIdx? (·.1) = none
  | [], is, h => by cases h; exact ⟨pgs_nil, rfl, rfl⟩
  | e :: es, is, h => by
    unfold cmpNames at h
    split at h
    · rename_i e0; cases e0
    · rename_i x pos r e0
      cases e0
      split at h
      · rename_i i js h1 h2
        cases h
        obtain ⟨q1, q2, q3⟩ := cmpSlot_ok (pos := pos) g h1
        obtain ⟨q4, q5, q6⟩ := cmpNames_ok g h2
        refine ⟨pgs_cons (pg_name g.nd q1 q2 q3) q4 rfl, ?_, ?_⟩
        · show (assignEach es X.env).length + 1 = _
          rw [q5]; rfl
        · show List.findIdx? _ ((false, assign (.Name x pos) X.env) :: assignEach es X.env) = none
          rw [List.findIdx?_cons, q6]
          rfl
      · cases h
    · cases h
theorem cmpTg_ok {e : Expr} {t : Tgt} (g : GX B G Φ k P W cc X) (h : cmpTg cc e = some t) : PG X e (gOf B.K t) := by
  unfold cmpTg at h
  split at h
  · split at h
    · rename_i i h1
      cases h
      obtain ⟨q1, q2, q3⟩ := cmpSlot_ok (pos := default) g h1
      exact pg_name g.nd q1 q2 q3
    · cases h
  · split at h
    · rename_i is h1
      cases h
      obtain ⟨q4, q5, q6⟩ := cmpNames_ok g h1
      show PG X _ (fun v σ H Q => gTup B.K is.length (gNames is) v σ H Q ∨ gLst B.K is.length (gNames is) v σ H Q)
      rw [← g.hK]
      exact PG.or (pg_tup g.calm q4 q5 q6) (pg_lst g.calm q4 q5 q6)
    · cases h
  · cases h
/-! ### iterables -/
def isRange (e : Expr) : Bool := match e with
  | .Call (.Name x _) _ _ _ => decide (x = "range")
  | _ => false
def glbFree (G : Pg) (cc : Cc) (x : Str) : Bool := isGlb cc.sc x && (match G.gl.lookup x with
  | none => true
  | _ => false)
theorem glbFree_ok {x : Str} (g : GX B G Φ k P W cc X) (hx : x ∈ bnames) (h : glbFree G cc x = true) : Gl X x ∧ X.mg x = none := by
  unfold glbFree at h
  rw [Bool.and_eq_true] at h
  refine ⟨g.gl h.1, g.pf.blt x hx ?_⟩
  have h2 := h.2
  split at h2
  · assumption
  · cases h2
def isTupX : Expr → Bool
  | .Tuple _ _ _ => true
  | _ => false
theorem isTupX_ok {e : Expr} (h : isTupX e = true) : ∃ a b c, e = .Tuple a b c := by
  unfold isTupX at h
  split at h
  · exact ⟨_, _, _, rfl⟩
  · cases h
theorem zip_in : ("zip" : Str) ∈ bnames := by decide +kernel
theorem enumerate_in : ("enumerate" : Str) ∈ bnames := by decide +kernel
def cmpI (f : Expr → Option DE) (G : Pg) (cc : Cc) (tg e : Expr) : Option DI := match e with
  | .Call (.Name x _) [a] [] _ => if decide (x = "range") then (if glbFree G cc "range" && !isStar a then (match cmpA f [a] with
      | some d => some (dRng1 d)
      | none => none) else none) else if decide (x = "enumerate") then (if glbFree G cc "enumerate" && !isStar a && isTupX tg then (match cmpA f [a] with
      | some d => some (dEnum d)
      | none => none) else none) else (match f e with
      | some d => some (dSeqI d)
      | none => none)
  | .Call (.Name x _) [a, b] [] _ => if decide (x = "range") then (if glbFree G cc "range" && !isStar a then (match cmpA f [a, b] with
      | some d => some (dRng2 d)
      | none => none) else none) else if decide (x = "zip") then (if glbFree G cc "zip" && !isStar a && isTupX tg then (match cmpA f [a, b] with
      | some d => some (dZip d)
      | none => none) else none) else (match f e with
      | some d => some (dSeqI d)
      | none => none)
  | _ => (match f e with
      | some d => some (dSeqI d)
      | none => none)
theorem range_in : ("range" : Str) ∈ bnames := by decide +kernel
theorem cmpI_ok {f : Expr → Option DE} (g : GX B G Φ k P W cc X) (hf : ∀ e d, f e = some d → PE X e (tE B P W d)) {e : Expr} {d : DI} (tg : Expr) (h : cmpI f G cc tg e = some d) : PI X tg e (tI B P W d) := by
  have seq : ∀ {e d}, (match f e with | some d => some (dSeqI d) | none => none) = some d → PI X tg e (tI B P W d) := fun {e d} h => by
    split at h
    · rename_i d1 h1
      cases h
      refine PI.imp (pi_seq (hf _ _ h1)) ?_
      rw [g.hK]
      exact tSeqI_of
    · cases h
  unfold cmpI at h
  split at h
  · split at h
    · rename_i a _ ha
      have ha := of_decide_eq_true ha
      subst ha
      split at h
      · rename_i hb
        rw [Bool.and_eq_true] at hb
        obtain ⟨q1, q2⟩ := glbFree_ok g range_in hb.1
        split at h
        · rename_i d1 h1
          cases h
          obtain ⟨q3, q4⟩ := cmpA_ok hf h1
          exact PI.imp (pi_range1 q1 q2 q3 (starEach_cons (by simpa using hb.2))) tRng1_of
        · cases h
      · cases h
    · split at h
      · rename_i ha
        have ha := of_decide_eq_true ha
        subst ha
        split at h
        · rename_i hb
          simp only [Bool.and_eq_true] at hb
          obtain ⟨⟨b1, b2⟩, b3⟩ := hb
          obtain ⟨q1, q2⟩ := glbFree_ok g enumerate_in b1
          obtain ⟨z1, z2, z3, rfl⟩ := isTupX_ok b3
          split at h
          · rename_i d1 h1
            cases h
            obtain ⟨q3, q4⟩ := cmpA_ok hf h1
            refine PI.imp (pi_enA q1 q2 q3 (by simpa using b2)) ?_
            rw [g.hK]
            exact tEnum_of
          · cases h
        · cases h
      · exact seq h
  · split at h
    · rename_i a b _ ha
      have ha := of_decide_eq_true ha
      subst ha
      split at h
      · rename_i hb
        rw [Bool.and_eq_true] at hb
        obtain ⟨q1, q2⟩ := glbFree_ok g range_in hb.1
        split at h
        · rename_i d1 h1
          cases h
          obtain ⟨q3, q4⟩ := cmpA_ok hf h1
          have hs : isStar b = false := by
            simp only [List.all_cons, List.all_nil, Bool.and_true, Bool.and_eq_true] at q4
            simpa using q4.2
          exact PI.imp (pi_range2 q1 q2 q3 ((starEach_cons (by simpa using hb.2)).trans (congrArg (fun z => (false, eval a X.env) :: z) (starEach_cons hs))) (starEach_cons hs)) tRng2_of
        · cases h
      · cases h
    · split at h
      · rename_i ha
        have ha := of_decide_eq_true ha
        subst ha
        split at h
        · rename_i hb
          simp only [Bool.and_eq_true] at hb
          obtain ⟨⟨b1, b2⟩, b3⟩ := hb
          obtain ⟨q1, q2⟩ := glbFree_ok g zip_in b1
          obtain ⟨z1, z2, z3, rfl⟩ := isTupX_ok b3
          split at h
          · rename_i d1 h1
            cases h
            obtain ⟨q3, q4⟩ := cmpA_ok hf h1
            rw [List.all_cons, Bool.and_eq_true] at q4
            refine PI.imp (RZ.pi_zipA q1 q2 q3 (starEach_cons (by simpa using b2)) (starEach_plain q4.2)) ?_
            rw [g.hK]
            exact tZip_of
          · cases h
        · cases h
      · exact seq h
  · exact seq h
/-! ### calls -/
theorem run_fnG {CX : CXT} {f : Addr} {fd : FuncData} {ps : List Str} {sp : Sp} {dvs : List V} {ds : List Value} {E : XK} {pins : List (Addr × Obj)} {σ : L2.St} {H : Hp} {s : Shared} {Q : VK} {us : List Value} {vs : List V} (F : FnG X.prog X.w X.K X.mg X.base CX k f fd ps sp) (hr : Room k X.A) (hgd : X.A.guards = some []) (hb : Binds X.K fd ps ds) (hd : Vals dvs ds) (hx : PassesAt CX X σ E)
    (I : Inv X pins σ H s) (r : Vals vs us) (h : sp (vs ++ dvs) H Q E) : wpAny (model X.prog X.w) X.A (call (.ref f) us) (EP X pins σ Q) X.xe s := by
  have both := r.append hd
  have hlen : (us ++ ds).length = ps.length := both.length.symm.trans (F.ln _ _ _ _ h)
  have go := F.go X.A X.stack s H ⟨us, []⟩ _ _ Q E hr hgd I.env0 (hb s us I.kIn hlen) both h
  refine wpAny_call (codeAny_mono go ?_)
  rintro (e | fl) s' hq
  · exact hx pins H s e s' I hq
  · cases fl <;> first | exact I.after hq | exact False.elim hq
def dfl (fi : Fi) (n : Nat) : List PV := fi.dfl.drop (n + fi.dfl.length - fi.ps.length)
theorem RpL_drop_all {dvs : List V} {ds : List PV} (h : ∀ μ M H, RpL B μ M H ds dvs) (j : Nat) : ∀ μ M H, RpL B μ M H (ds.drop j) (dvs.drop j) := fun μ M H => (h μ M H).drop j
theorem pe_callD {x : Str} {i : Nat} {fi : Fi} {es : List Expr} {d : DA} {p pos : Pos} (g : GX B G Φ k P W cc X) (hl : G.gl.lookup x = some (.fn i)) (hi : G.fi[i]? = some fi) (hg : Gl X x) (hdb : (x == ("__debug__" : Str)) = false) (hle : es.length ≤ fi.ps.length) (hnil : es = [] → d = dNil)
    (ha : PA X es (tA B P W d)) (hs : (es.all fun e => !isStar e) = true) : PE X (.Call (.Name x p) es [] pos) (tE B P W (dCallL (callOp fi.ps.length ((Φ k).f i) (dfl fi es.length)) d)) := by
  obtain ⟨f, hm, F⟩ := g.pf.fnc k (Nat.le_refl k) x i hl
  obtain ⟨fi', fd, dvs, h1, h2, h3, h4⟩ := F.ex
  rw [hi] at h1
  cases h1
  have hlen := (h3 [] ⟨fun _ => False, fun _ => False⟩ (fun _ => none)).length
  obtain ⟨ds, hv, hb⟩ := h4 (es.length + fi.dfl.length - fi.ps.length) (by omega)
  have kp := F.kp
  rw [← g.hK] at kp h2 hb
  have hd : ∀ μ M H, RpL B μ M H (dfl fi es.length) (dvs.drop (es.length + fi.dfl.length - fi.ps.length)) := RpL_drop_all h3 _
  cases es with
  | nil =>
    refine ⟨fun pins s σ H Q I h => ?_⟩
    refine wpAny_Call_Name_kw (ld_glob I hg hm ?_ hdb)
    refine PySem.W.callWith_K0 I.kIn kp ?_
    rw [hnil rfl] at h
    exact run_fnG h2 g.room g.gd hb hv (passAt g.tk σ) I .nil (tNil_of σ H _ (tCall_of hd σ H Q h))
  | cons e es =>
    rw [List.all_cons, Bool.and_eq_true] at hs
    refine PE.imp (t := tCallSD (spOf B fi.ps.length ((Φ k).f i)) (dvs.drop ((e :: es).length + fi.dfl.length - fi.ps.length)) (WE W) (tA B P W d)) ⟨fun pins s σ H Q I h => ?_⟩ (tCall_of hd)
    refine wpAny_Call_Name_kw (ld_glob I hg hm ?_ hdb)
    refine PySem.W.callWith_K (h₀ := X.base) I.ok.mod.kin kp (thn (ha.run pos pins s σ H _ I h) ?_) (starEach_cons (by simpa using hs.1)) (starEach_plain hs.2)
    rintro us s1 ⟨vs, H1, I1, r, q⟩
    exact ⟨I1.kIn, run_fnG h2 g.room g.gd hb hv (passAt g.tk σ) I1 r q⟩
/-! ### a def that a name holds -/
def fnNm (G : Pg) (i : Nat) : Option Str := (G.gl.map (·.1)).find? fun x => (match G.gl.lookup x with
  | some (.fn i') => decide (i' = i)
  | _ => false)
theorem fnNm_ok {G : Pg} {i : Nat} {x : Str} (h : fnNm G i = some x) : G.gl.lookup x = some (.fn i) := by
  have := List.find?_some h
  split at this
  · rename_i i' e
    rw [of_decide_eq_true this] at e
    exact e
  · cases this
def dCallV (G : Pg) (φ : Nat → List PV → Store → Res PV) (j n : Nat) (a : DA) : DE := fun fr S => match fr[j]? with
  | some (some (.fn i)) => (match fnNm G i, G.fi[i]? with
    | some _, some fi => if n ≤ fi.ps.length then dCallL (callOp fi.ps.length (φ i) (dfl fi n)) a fr S else .fail
    | _, _ => .fail)
  | _ => .fail
theorem pe_callP {y : Str} {j : Nat} {e : Expr} {es : List Expr} {d : DA} {p pos : Pos} (g : GX B G Φ k P W cc X) (hj : slotOf y cc.N = some j) (hv : isVis cc.sc y = true) (hdb : noDbg y = true)
    (ha : PA X (e :: es) (tA B P W d)) (hs : ((e :: es).all fun e => !isStar e) = true) : PE X (.Call (.Name y p) (e :: es) [] pos) (tE B P W (dCallV G (Φ k).f j (e :: es).length d)) := by
  refine ⟨fun pins s σ H Q I h => ?_⟩
  obtain ⟨fr, μ, S, hf, sr, gg⟩ := h
  unfold dCallV at gg
  split at gg
  · rename_i i hfr
    split at gg
    · rename_i x fi hx hi
      split at gg
      · rename_i hle
        obtain ⟨f, hm, F⟩ := g.pf.fnc k (Nat.le_refl k) x i (fnNm_ok hx)
        obtain ⟨v, hσ, hr⟩ := hf.get hfr (fun z => nomatch z)
        cases hr with
        | fn hfa =>
        have ef := F.fa.symm.trans hfa
        cases ef
        obtain ⟨fi', fd, dvs, h1, h2, h3, h4⟩ := F.ex
        rw [hi] at h1
        cases h1
        have hlen := (h3 [] ⟨fun _ => False, fun _ => False⟩ (fun _ => none)).length
        obtain ⟨ds, hv2, hb⟩ := h4 ((e :: es).length + fi.dfl.length - fi.ps.length) (by omega)
        have kp := F.kp
        rw [← g.hK] at kp h2 hb
        have hd : ∀ μ M H, RpL B μ M H (dfl fi (e :: es).length) (dvs.drop ((e :: es).length + fi.dfl.length - fi.ps.length)) := RpL_drop_all h3 _
        rw [List.all_cons, Bool.and_eq_true] at hs
        obtain ⟨d1, d2⟩ := noDbg_ok hdb
        have h : tCallSD (spOf B fi.ps.length ((Φ k).f i)) (dvs.drop ((e :: es).length + fi.dfl.length - fi.ps.length)) (WE W) (tA B P W d) σ H Q := tCall_of hd σ H Q ⟨fr, μ, S, hf, sr, gg⟩
        refine wpAny_Call_Name_kw (thn ((pe_var (X := X) (i := j) (x := y) (pos := p) (by rw [g.hN]; exact slotOf_ok hj) (by rw [g.hsc]; exact isVis_ok hv) d1 d2).run pins s σ H (fun v H' => v = .ref f ∧ H' = H) I ⟨_, hσ, rfl, rfl⟩) ?_)
        rintro u s1 ⟨x', H1, I1, r1, rfl, rfl⟩
        obtain rfl : u = Value.ref f := r1
        refine PySem.W.callWith_K (h₀ := X.base) I1.ok.mod.kin kp (thn (ha.run pos pins s1 σ H1 _ I1 h) ?_) (starEach_cons (by simpa using hs.1)) (starEach_plain hs.2)
        rintro us s2 ⟨vs, H2, I2, r2, q⟩
        exact ⟨I2.kIn, run_fnG h2 g.room g.gd hb hv2 (passAt g.tk σ) I2 r2 q⟩
      · exact gg.elim
    · exact gg.elim
  · exact gg.elim
/-! ### tuple(range(..)), list(range(..)) -/
def rgOk (a b : Int) : Bool := rngOk a && rngOk b && decide ((b - a).toNat ≤ 16777216)
theorem rgOk_ok {a b : Int} (h : rgOk a b = true) : RgOk a b := by
  unfold rgOk at h
  simp only [Bool.and_eq_true, decide_eq_true_eq] at h
  obtain ⟨⟨h1, h2⟩, h3⟩ := h
  exact ⟨(rngOk_ok h1).1, (rngOk_ok h1).2, (rngOk_ok h2).1, (rngOk_ok h2).2, h3⟩
def dRgOf (tupl : Bool) (a b : DE) : DE := fun fr S => (a fr S).bind fun x S1 => (b fr S1).bind fun y S2 => match drf S2 x, drf S2 y with
  | .int i, .int j => if rgOk i j then .ok (if tupl then .tup (rngP i (j - i).toNat) else .lst (rngP i (j - i).toNat)) S2 else .fail
  | _, _ => .fail
theorem rng_rel {μ : List Addr} {M : Mx} {H : Hp} : ∀ (n : Nat) (a : Int), RpL B μ M H (rngP a n) ((List.range n).map fun i => V.int (a + (i : Nat)))
  | 0, _ => .nil
  | n + 1, a => by
    rw [List.range_succ_eq_map, List.map_cons, List.map_map]
    refine .cons (by simpa using Rp.int a) ?_
    have h := rng_rel (μ := μ) (M := M) (H := H) n (a + 1)
    have e : (List.range n).map (fun i => V.int (a + 1 + (i : Nat))) = (List.range n).map ((fun i => V.int (a + (i : Nat))) ∘ Nat.succ) := by
      apply List.map_congr_left
      intro i _
      show V.int _ = V.int _
      congr 1
      rw [Int.add_assoc, Int.add_comm 1 (i : Int)]
      rfl
    rw [← e]; exact h
theorem rgV_rel {μ : List Addr} {M : Mx} {H : Hp} (i j : Int) : RpL B μ M H (rngP i (j - i).toNat) (rgV i j) := rng_rel _ _
theorem rg_end {tupl : Bool} {σ : L2.St} {μ : List Addr} {S : Store} {H : Hp} {i j : Int} {Q : VK} (sr : SR B P μ S H) (g : Go B P (RelP B) W σ (if rgOk i j then .ok (if tupl then .tup (rngP i (j - i).toNat) else .lst (rngP i (j - i).toNat)) S else .fail) μ S H Q) :
    RgOk i j ∧ (if tupl then NewT H (rgV i j) Q else ∀ q, H q = none → Q (.ref q) (upd H q (.lst (rgV i j)))) := by
  split at g
  · rename_i h
    refine ⟨rgOk_ok h, ?_⟩
    cases tupl with
    | true => exact go_tup sr (rgV_rel i j) g
    | false => exact fun q hq => go_lst sr hq (rgV_rel i j) g
  · exact g.elim
theorem tRg2_of {tupl : Bool} {a b : DE} : ∀ σ H Q, tE B P W (dRgOf tupl a b) σ H Q → tRg2 (tE B P W a) (tE B P W b) σ H (fun i j H1 => RgOk i j ∧ (if tupl then NewT H1 (rgV i j) Q else ∀ q, H1 q = none → Q (.ref q) (upd H1 q (.lst (rgV i j))))) := by
  rintro σ H Q ⟨fr, μ, S, hf, sr, g⟩
  refine ⟨fr, μ, S, hf, sr, g.bind.imp ?_⟩
  rintro v H1 ⟨μ1, S1, x, e1, sr1, r1, _, g1⟩
  have r1 : Rp B μ1 (Mz P μ1 S1) H1 x v := r1
  refine ⟨fr, μ1, S1, hf.mono sr e1, sr1, g1.bind.imp ?_⟩
  rintro u H2 ⟨μ2, S2, y, e2, sr2, r2, _, g2⟩
  split at g2
  · rename_i i j ei ej
    exact ⟨i, j, intV sr2 (r1.mono sr1 e2) ei, intV sr2 r2 ej, rg_end sr2 g2⟩
  · exact g2.elim
theorem tRg1_of {tupl : Bool} {b : DE} : ∀ σ H Q, tE B P W (dRgOf tupl (dC (.int 0)) b) σ H Q → tRg1 (tE B P W b) σ H (fun i j H1 => RgOk i j ∧ (if tupl then NewT H1 (rgV i j) Q else ∀ q, H1 q = none → Q (.ref q) (upd H1 q (.lst (rgV i j))))) := by
  rintro σ H Q ⟨fr, μ, S, hf, sr, g⟩
  have g : Go B P (RelP B) W σ ((b fr S).bind fun y S2 => match drf S2 (.int 0), drf S2 y with
    | .int i, .int j => if rgOk i j then .ok (if tupl then .tup (rngP i (j - i).toNat) else .lst (rngP i (j - i).toNat)) S2 else .fail
    | _, _ => .fail) μ S H Q := g
  refine ⟨fr, μ, S, hf, sr, g.bind.imp ?_⟩
  rintro u H2 ⟨μ2, S2, y, e2, sr2, r2, _, g2⟩
  split at g2
  · rename_i i j ei ej
    have e0 : (0 : Int) = i := by simpa [drf] using ei
    subst e0
    exact ⟨j, intV sr2 r2 ej, rg_end sr2 g2⟩
  · exact g2.elim
/-- the range within tuple(..), list(..) -/
def cmpRg (f : Expr → Option DE) (G : Pg) (cc : Cc) (tupl : Bool) (e : Expr) : Option DE := match e with
  | .Call (.Name x _) [a] [] _ => if decide (x = "range") && glbFree G cc "range" && !isStar a then (match f a with
      | some d => some (dRgOf tupl (dC (.int 0)) d)
      | none => none) else none
  | .Call (.Name x _) [a, b] [] _ => if decide (x = "range") && glbFree G cc "range" && !isStar a && !isStar b then (match f a, f b with
      | some d, some d' => some (dRgOf tupl d d')
      | _, _ => none) else none
  | _ => none
theorem list_in : ("list" : Str) ∈ bnames := by decide +kernel
theorem tuple_in : ("tuple" : Str) ∈ bnames := by decide +kernel
theorem cmpRg_ok {f : Expr → Option DE} (g : GX B G Φ k P W cc X) (hf : ∀ e d, f e = some d → PE X e (tE B P W d)) {tupl : Bool} {e : Expr} {d : DE} {p pos : Pos} (h : cmpRg f G cc tupl e = some d) (hx : glbFree G cc (if tupl then "tuple" else "list") = true) :
    PE X (.Call (.Name (if tupl then "tuple" else "list") p) [e] [] pos) (tE B P W d) := by
  unfold cmpRg at h
  split at h
  · split at h
    · rename_i x p1 a p2 hb
      simp only [Bool.and_eq_true, decide_eq_true_eq] at hb
      obtain ⟨⟨rfl, hb1⟩, hb2⟩ := hb
      obtain ⟨q1, q2⟩ := glbFree_ok g range_in hb1
      split at h
      · rename_i d1 h1
        cases h
        have r := prg_1 (p := p1) (pos := p2) q1 q2 (hf _ _ h1) (starEach_cons (by simpa using hb2))
        cases tupl with
        | true =>
          obtain ⟨q3, q4⟩ := glbFree_ok g tuple_in hx
          exact PE.imp (pe_tupRgF g.calm q3 q4 r (starEach_cons rfl)) tRg1_of
        | false =>
          obtain ⟨q3, q4⟩ := glbFree_ok g list_in hx
          exact PE.imp (pe_listRg g.calm q3 q4 r (starEach_cons rfl)) tRg1_of
      · cases h
    · cases h
  · split at h
    · rename_i x p1 a b p2 hb
      simp only [Bool.and_eq_true, decide_eq_true_eq] at hb
      obtain ⟨⟨⟨rfl, hb1⟩, hb2⟩, hb3⟩ := hb
      obtain ⟨q1, q2⟩ := glbFree_ok g range_in hb1
      split at h
      · rename_i d1 d2 h1 h2
        cases h
        have r := prg_2 (p := p1) (pos := p2) q1 q2 (hf _ _ h1) (hf _ _ h2) (starEach_cons (by simpa using hb2)) (starEach_cons (by simpa using hb3)) (starEach_plain (by simpa using hb3))
        cases tupl with
        | true =>
          obtain ⟨q3, q4⟩ := glbFree_ok g tuple_in hx
          exact PE.imp (pe_tupRgF g.calm q3 q4 r (starEach_cons rfl)) tRg2_of
        | false =>
          obtain ⟨q3, q4⟩ := glbFree_ok g list_in hx
          exact PE.imp (pe_listRg g.calm q3 q4 r (starEach_cons rfl)) tRg2_of
      · cases h
    · cases h
  · cases h
/-! ### methods -/
def oIndex (x : PV) (ys : List PV) (S : Store) : Res PV := match drf S x, ys with
  | .lst xs, [y] => (match asInts xs, drf S y with
    | some ns, .int k => (match ns.findIdx? fun m => m == k with
      | some j => .ok (.int (j : Nat)) S
      | none => .fail)
    | _, _ => .fail)
  | _, _ => .fail
theorem sv_index {B : Base} : SvM B (rIndex B.K) oIndex := by
  intro P W σ μ S H x ys v vs Q sr rx ry g
  unfold oIndex at g
  split at g
  · rename_i xs y e1
    obtain ⟨a, us, rfl, h1, l⟩ := lstV sr rx e1
    obtain ⟨w, rfl, r⟩ := RpL.one (xs := []) ry
    split at g
    · rename_i ns k e2 e3
      have := asInts_ok l e2
      subst this
      rw [intV sr r e3]
      split at g
      · rename_i j hj
        obtain ⟨hlt, h3, h4⟩ := List.findIdx?_eq_some_iff_getElem.mp hj
        refine ⟨a, ns.map V.int, .int k, j, .int ns[j], rfl, rfl, SqL.of h1, rfl, ?_, ?_, ?_, fun m z hm hz => ?_, g.done sr (.int _)⟩
        · rw [List.all_eq_true]
          intro z hz
          obtain ⟨i, _, rfl⟩ := List.mem_map.mp hz
          rfl
        · simp [hlt]
        · exact h3
        · have hm' : m < ns.length := by omega
          rw [List.getElem?_map, List.getElem?_eq_getElem hm'] at hz
          cases hz
          have := h4 m hm
          show (ns[m] == k) = false
          exact Bool.eq_false_iff.mpr this
      · exact g.elim
    · exact g.elim
  · exact g.elim
inductive MT where
  | append | extend | pop | index
def MT.nm : MT → Str
  | .append => "append" | .extend => "extend" | .pop => "pop" | .index => "index"
def MT.ty : MT → MTy
  | .append => .list | .extend => .list | .pop => .list | .index => .list
def MT.op : MT → PV → List PV → Store → Res PV
  | .append => oAppend | .extend => oExtend | .pop => oPop | .index => oIndex
def MT.every : List MT := [.append, .extend, .pop, .index]
def mtOf (x : Str) : Option MT := MT.every.find? fun b => decide (b.nm = x)
theorem mtOf_ok {x : Str} {b : MT} (h : mtOf x = some b) : x = b.nm := by
  have := List.find?_some h
  exact (of_decide_eq_true this).symm
theorem MtR.or {X : Cx} {id : String} {r r' : V → List V → Hp → VK → Prop} (h : MtR X id r) (h' : MtR X id r') : MtR X id (fun x xs H Q => r x xs H Q ∨ r' x xs H Q) := by
  intro pins s σ H x xs v us Q I rx rs q
  rcases q with q | q
  · exact h pins s σ H x xs v us Q I rx rs q
  · exact h' pins s σ H x xs v us Q I rx rs q
theorem MT.rule (b : MT) (B : Base) {X : Cx} (hK : X.K = B.K) (hc : X.calm = true) : ∃ id r, PlainAttrs b.ty.name ∧ Slot b.ty.name b.nm id ∧ typeOf (.builtin id) = pure (.type "method_descriptor") ∧ MtR X id r ∧ SvM B r b.op := by
  cases b with
  | append => exact ⟨_, _, PySem.F.plainAttrs_list, PySem.F.slot_list_append, PySem.F.type_list_append, mt_append, sv_append⟩
  | extend => exact ⟨_, _, PySem.F.plainAttrs_list, PySem.F.slot_list_extend, PySem.F.type_list_extend, mt_extend, sv_extend⟩
  | pop => exact ⟨_, _, PySem.F.plainAttrs_list, PySem.F.slot_list_pop, PySem.F.type_list_pop, MtR.or mt_pop mt_popAt, sv_pop⟩
  | index => exact ⟨_, _, PySem.F.plainAttrs_list, PySem.F.slot_list_index, PySem.F.type_list_index, mt_index, by rw [hK]; exact sv_index⟩
theorem few_plain {env : Env} {cpos : Pos} {es : List Expr} (h : (es.all fun e => !isStar e) = true) (hl : es.length < 30) :
    ((backTo cpos (starEach es env)).all (fun x => !x.1) && (backToKw cpos (keywordEach [] env)).all (fun x => x.1.isSome) && decide (es.length + ([] : List Keyword).length + (if ([] : List Keyword).isEmpty then 0 else 1) < 30)) = true := by
  have h1 : ∀ {es : List Expr}, (es.all fun e => !isStar e) = true → ((backTo cpos (starEach es env)).all (fun x => !x.1)) = true := by
    intro es
    induction es with
    | nil => intro _; rfl
    | cons e es ih =>
      intro h
      rw [List.all_cons, Bool.and_eq_true] at h
      rw [starEach_cons (by simpa using h.1)]
      exact ih h.2
  rw [h1 h]
  simp only [Bool.true_and, Bool.and_eq_true, decide_eq_true_eq]
  refine ⟨rfl, ?_⟩
  simpa using hl
def cmpMeth (f : Expr → Option DE) (o : Expr) (name : Str) (apos : Pos) (es : List Expr) (cpos : Pos) : Option DE := match mtOf name with
  | some b => if !call0 o && (apos.endLine == cpos.line) && decide (es.length < 30) then (match f o, cmpA f es with
    | some d, some da => some (dMeth b.ty b.op d da)
    | _, _ => none) else none
  | none => none
theorem cmpMeth_ok {f : Expr → Option DE} (g : GX B G Φ k P W cc X) (hf : ∀ e d, f e = some d → PE X e (tE B P W d)) {o : Expr} {name : Str} {apos cpos : Pos} {es : List Expr} {d : DE} (h : cmpMeth f o name apos es cpos = some d) :
    PE X (.Call (.Attribute o name apos) es [] cpos) (tE B P W d) := by
  unfold cmpMeth at h
  split at h
  · rename_i b hb
    have := mtOf_ok hb
    subst this
    split at h
    · rename_i hc
      simp only [Bool.and_eq_true, decide_eq_true_eq] at hc
      obtain ⟨⟨hc1, hc2⟩, hc3⟩ := hc
      have hc1 : call0 o = false := by simpa using hc1
      split at h
      · rename_i d1 da h1 h2
        cases h
        obtain ⟨id, r, m1, m2, m3, m4, m5⟩ := b.rule B g.hK g.calm
        obtain ⟨a1, a2⟩ := cmpA_ok hf h2
        cases es with
        | nil =>
          cases h2
          refine PE.imp (pe_bm0 m1 m2 m3 m4 (hf _ _ h1) (base_plain hc1) hc2) ?_
          rw [g.hK]
          exact tBM0_of m5
        | cons e es =>
          have a3 := a2
          rw [List.all_cons, Bool.and_eq_true] at a3
          refine PE.imp (pe_bm m1 m2 m3 m4 (hf _ _ h1) a1 (base_plain hc1) (few_plain a2 hc3) hc2 (starEach_cons (by simpa using a3.1)) (starEach_plain a3.2)) ?_
          rw [g.hK]
          exact tBM_of m5
      · cases h
    · cases h
  · cases h
/-! ### comprehensions -/
def ownOf (N : List Str) : List (Str × NameKind) → List (Str × Nat)
  | [] => []
  | (n, k) :: r => (match k with
    | .local => (match slotOf n N with | some i => (n, i) :: ownOf N r | none => ownOf N r)
    | .cell => (match slotOf n N with | some i => (n, i) :: ownOf N r | none => ownOf N r)
    | _ => ownOf N r)
def Cc.blk (cc : Cc) (scope : Scope) : Cc := ⟨relS scope cc.sc, cc.N, fun x => scope.names.lookup x == some .cell, none, false⟩
theorem GX.blk (g : GX B G Φ k P W cc X) (P' : Pv) (s : Shared) (H : Hp) (scope : Scope) (C : Addr) (cl : List (Str × Addr)) (fp : List Addr) : GX B G Φ k P' W0 (cc.blk scope) (X.blk s H scope (compEnvC scope cl C X.env) fp) :=
  ⟨g.hK, g.nd, g.room, g.gd, g.calm, LamX.takes0, g.pf, by show relS scope X.env.scope = relS scope cc.sc; rw [g.hsc], g.hN, fun x h => h, fun a th h => (by cases h), fun h => (by cases h)⟩
def dYes : DT := fun _ S => .ok true S
def cmpIfs (ft : Expr → Option DT) : List Expr → Option DT
  | [] => some dYes
  | [c] => ft c
  | _ => none
theorem cmpIfs_ok {ft : Expr → Option DT} {X : Cx} {ifs : List Expr} {d : DT} (hf : ∀ e d, ft e = some d → ∀ P', PT X e (tT B P' W0 d)) (h : cmpIfs ft ifs = some d) : PTs X ifs (tTx B W0 d) := by
  unfold cmpIfs at h
  split at h
  · cases h
    refine ⟨fun pins s σ H Q I ⟨P', fr, μ, S, _, sr, g⟩ => pts_nil.run pins s σ H Q I (g.done sr rfl)⟩
  · exact pts_one (PT.ex (hf _ _ h))
  · cases h
/-- a name whose cell is walked as it stands -/
def cmpLive (G : Pg) (cc : Cc) : Expr → Option DE
  | .Name x pos => if G.at_ pos && noDbg x && isVis cc.sc x then (match slotOf x cc.N with
    | some i => some (dVar i)
    | none => none) else none
  | _ => none
theorem cmpLive_ok {e : Expr} {d : DE} (g : GX B G Φ k P W cc X) (h : cmpLive G cc e = some d) : PE X e (tE B P W d) := by
  unfold cmpLive at h
  split at h
  · split at h
    · rename_i hc
      simp only [Bool.and_eq_true] at hc
      obtain ⟨d1, d2⟩ := noDbg_ok hc.1.2
      split at h
      · rename_i i hi
        cases h
        exact PE.imp (pe_var (by rw [g.hN]; exact slotOf_ok hi) (by rw [g.hsc]; exact isVis_ok hc.2) d1 d2) tVar_of
      · cases h
    · cases h
  · cases h
def cmpLc (fin : List PV → Store → Res PV) (f : Expr → Option DE) (fe : Cc → Expr → Option DE) (ft : Cc → Expr → Option DT) (G : Pg) (cc : Cc) (elt tg iter : Expr) (ifs : List Expr) (scope : Scope) : Option DE :=
  if blkC cc.N cc.sc scope (ownOf cc.N scope.names) && !isSet iter then (match cmpTg (cc.blk scope) tg, cmpIfs (ft (cc.blk scope)) ifs, fe (cc.blk scope) elt with
    | some t, some dt, some de => if t.slots.all fun i => ((ownOf cc.N scope.names).map (·.2)).contains i then (match cmpLive G cc iter with
      | some dn => some (dLcM fin dn t dt de ((ownOf cc.N scope.names).map (·.2)))
      | none => (match cmpI f G cc tg iter with
        | some di => some (dLc fin di t dt de ((ownOf cc.N scope.names).map (·.2)))
        | none => none)) else none
    | _, _, _ => none) else none
/-- what serves a comprehension -/
theorem cmpLc_parts {fin : List PV → Store → Res PV} {f : Expr → Option DE} {fe : Cc → Expr → Option DE} {ft : Cc → Expr → Option DT} (g : GX B G Φ k P W cc X) (hf : ∀ e d, f e = some d → PE X e (tE B P W d))
    (hfe : ∀ cc P W X e d, GX B G Φ k P W cc X → fe cc e = some d → PE X e (tE B P W d)) (hft : ∀ cc P W X e d, GX B G Φ k P W cc X → ft cc e = some d → PT X e (tT B P W d)) {elt tg iter : Expr} {ifs : List Expr} {scope : Scope} {d : DE} (hfin : FinOk B fin) (h : cmpLc fin f fe ft G cc elt tg iter ifs scope = some d) :
    ∃ (own : List (Str × Nat)) (wi : TI) (t : Tgt) (dt : DT) (de : DE), PI X tg iter wi ∧ BlkOk X.N X.env.scope scope own ∧ (∀ (s : Shared) (H : Hp) (C : Addr) (cl : List (Str × Addr)) (fp : List Addr), PG (X.blk s H scope (compEnvC scope cl C X.env) fp) tg (gOf B.K t)) ∧
      (∀ (s : Shared) (H : Hp) (C : Addr) (cl : List (Str × Addr)) (fp : List Addr), PTs (X.blk s H scope (compEnvC scope cl C X.env) fp) ifs (tTx B W0 dt)) ∧
      (∀ (s : Shared) (H : Hp) (C : Addr) (cl : List (Str × Addr)) (fp : List Addr), PE (X.blk s H scope (compEnvC scope cl C X.env) fp) elt (tEx B W0 de)) ∧ (∀ x, foldedSetIterable iter X.env x = pure x) ∧
      ∀ σ H Q, tE B P W d σ H Q → tLc wi (gOf B.K t) (tTx B W0 dt) (tEx B W0 de) (own.map (·.2)) σ H Q := by
  unfold cmpLc at h
  split at h
  · rename_i hb
    rw [Bool.and_eq_true] at hb
    split at h
    · rename_i t dt de h2 h3 h4
      split at h
      · rename_i hs
        have sl : ∀ i ∈ t.slots, i ∈ (ownOf cc.N scope.names).map (·.2) := fun i hi => by
          have := List.all_eq_true.mp hs i hi
          simpa using this
        have all : ∀ {wi : TI} {d : DE}, PI X tg iter wi → (∀ σ H Q, tE B P W d σ H Q → tLc wi (gOf B.K t) (tTx B W0 dt) (tEx B W0 de) ((ownOf cc.N scope.names).map (·.2)) σ H Q) → _ := fun {wi d} pi z =>
          (⟨_, wi, t, dt, de, pi, by rw [g.hN, g.hsc]; exact blkOk_by hb.1, fun s H C cl fp => cmpTg_ok (g.blk P s H scope C cl fp) h2, fun s H C cl fp => cmpIfs_ok (fun e d q P' => hft _ _ _ _ e d (g.blk P' s H scope C cl fp) q) h3, fun s H C cl fp => PE.ex fun P' => hfe _ _ _ _ _ _ (g.blk P' s H scope C cl fp) h4, folded_plain (by simpa using hb.2), z⟩ :
            ∃ (own : List (Str × Nat)) (wi : TI) (t : Tgt) (dt : DT) (de : DE), PI X tg iter wi ∧ BlkOk X.N X.env.scope scope own ∧ (∀ (s : Shared) (H : Hp) (C : Addr) (cl : List (Str × Addr)) (fp : List Addr), PG (X.blk s H scope (compEnvC scope cl C X.env) fp) tg (gOf B.K t)) ∧
      (∀ (s : Shared) (H : Hp) (C : Addr) (cl : List (Str × Addr)) (fp : List Addr), PTs (X.blk s H scope (compEnvC scope cl C X.env) fp) ifs (tTx B W0 dt)) ∧
      (∀ (s : Shared) (H : Hp) (C : Addr) (cl : List (Str × Addr)) (fp : List Addr), PE (X.blk s H scope (compEnvC scope cl C X.env) fp) elt (tEx B W0 de)) ∧ (∀ x, foldedSetIterable iter X.env x = pure x) ∧
      ∀ σ H Q, tE B P W d σ H Q → tLc wi (gOf B.K t) (tTx B W0 dt) (tEx B W0 de) (own.map (·.2)) σ H Q)
        split at h
        · rename_i dn h1
          cases h
          exact all (pi_seq (cmpLive_ok g h1)) (by rw [g.hK]; exact tLcM_of hfin sl)
        · split at h
          · rename_i di h1
            cases h
            exact all (cmpI_ok g hf tg h1) (tLc_of hfin sl)
          · cases h
      · cases h
    · cases h
  · cases h
/-- a name that has a dict whose keys are walked: told by the hints, a million lines below -/
def Pg.dk (G : Pg) (p : Pos) : Bool := G.hint.any fun q => q.1 == p.line + 1000000 && q.2 == p.col
def cmpKeys (G : Pg) (cc : Cc) : Expr → Option Nat
  | .Name x pos => if G.dk pos && noDbg x && isVis cc.sc x then slotOf x cc.N else none
  | _ => none
theorem cmpKeys_ok {e : Expr} {i : Nat} (g : GX B G Φ k P W cc X) (h : cmpKeys G cc e = some i) : PE X e (tVar i) := by
  unfold cmpKeys at h
  split at h
  · split at h
    · rename_i hc
      simp only [Bool.and_eq_true] at hc
      obtain ⟨d1, d2⟩ := noDbg_ok hc.1.2
      exact pe_var (by rw [g.hN]; exact slotOf_ok h) (by rw [g.hsc]; exact isVis_ok hc.2) d1 d2
    · cases h
  · cases h
def cmpLcK (fin : List PV → Store → Res PV) (fe : Cc → Expr → Option DE) (ft : Cc → Expr → Option DT) (G : Pg) (cc : Cc) (elt tg iter : Expr) (ifs : List Expr) (scope : Scope) : Option DE :=
  if blkC cc.N cc.sc scope (ownOf cc.N scope.names) && !isSet iter then (match cmpTg (cc.blk scope) tg, cmpIfs (ft (cc.blk scope)) ifs, fe (cc.blk scope) elt, cmpKeys G cc iter with
    | some t, some dt, some de, some i => if t.slots.all fun i => ((ownOf cc.N scope.names).map (·.2)).contains i then some (dLcK fin i t dt de ((ownOf cc.N scope.names).map (·.2))) else none
    | _, _, _, _ => none) else none
theorem cmpLcK_ok {fin : List PV → Store → Res PV} {fe : Cc → Expr → Option DE} {ft : Cc → Expr → Option DT} (g : GX B G Φ k P W cc X)
    (hfe : ∀ cc P W X e d, GX B G Φ k P W cc X → fe cc e = some d → PE X e (tE B P W d)) (hft : ∀ cc P W X e d, GX B G Φ k P W cc X → ft cc e = some d → PT X e (tT B P W d)) {elt tg iter : Expr} {ifs : List Expr} {scope : Scope} {pos : Pos} {d : DE} (hfin : FinOk B fin) (h : cmpLcK fin fe ft G cc elt tg iter ifs scope = some d) :
    PE X (.ListComp elt [⟨tg, iter, ifs, 0⟩] scope pos) (tE B P W d) := by
  unfold cmpLcK at h
  split at h
  · rename_i hb
    rw [Bool.and_eq_true] at hb
    split at h
    · rename_i t dt de i h2 h3 h4 h5
      split at h
      · rename_i hs
        have sl : ∀ i ∈ t.slots, i ∈ (ownOf cc.N scope.names).map (·.2) := fun i hi => by
          have := List.all_eq_true.mp hs i hi
          simpa using this
        cases h
        have pe : PE X (.ListComp elt [⟨tg, iter, ifs, 0⟩] scope pos) (tLc (iKeys (tVar i)) (gOf B.K t) (tTx B W0 dt) (tEx B W0 de) ((ownOf cc.N scope.names).map (·.2))) :=
          pe_lc g.calm g.nd (pi_keys (cmpKeys_ok g h5)) (by rw [g.hN, g.hsc]; exact blkOk_by hb.1) (fun s H C cl fp => cmpTg_ok (g.blk P s H scope C cl fp) h2) (fun s H C cl fp => cmpIfs_ok (fun e d q P' => hft _ _ _ _ e d (g.blk P' s H scope C cl fp) q) h3) (fun s H C cl fp => PE.ex fun P' => hfe _ _ _ _ _ _ (g.blk P' s H scope C cl fp) h4) (folded_plain (by simpa using hb.2))
        exact ⟨fun pins s σ H Q I q => (tLcK_of hfin sl σ H Q q).elim (fun z => (pe_lock pe).run pins s σ H Q I z) (fun z => pe.run pins s σ H Q I z)⟩
      · cases h
    · cases h
  · cases h
/-- .. one with tuples as keys: two million lines below -/
def Pg.dt (G : Pg) (p : Pos) : Bool := G.hint.any fun q => q.1 == p.line + 2000000 && q.2 == p.col
def cmpKeysT (G : Pg) (cc : Cc) : Expr → Option Nat
  | .Name x pos => if G.dt pos && noDbg x && isVis cc.sc x then slotOf x cc.N else none
  | _ => none
theorem cmpKeysT_ok {e : Expr} {i : Nat} (g : GX B G Φ k P W cc X) (h : cmpKeysT G cc e = some i) : PE X e (tVar i) ∧ call0 e = false := by
  unfold cmpKeysT at h
  split at h
  · split at h
    · rename_i hc
      simp only [Bool.and_eq_true] at hc
      obtain ⟨d1, d2⟩ := noDbg_ok hc.1.2
      exact ⟨pe_var (by rw [g.hN]; exact slotOf_ok h) (by rw [g.hsc]; exact isVis_ok hc.2) d1 d2, rfl⟩
    · cases h
  · cases h
def cmpWalkT (G : Pg) (cc : Cc) : Expr → Option (Bool × Nat)
  | .Call (.Attribute e nm apos) [] [] cpos => if decide (nm = "values") && (apos.endLine == cpos.line) then (match cmpKeysT G cc e with | some i => some (true, i) | none => none) else none
  | e => (match cmpKeysT G cc e with | some i => some (false, i) | none => none)
def cmpLcT (fin : List PV → Store → Res PV) (fe : Cc → Expr → Option DE) (ft : Cc → Expr → Option DT) (G : Pg) (cc : Cc) (elt tg iter : Expr) (ifs : List Expr) (scope : Scope) : Option DE :=
  if blkC cc.N cc.sc scope (ownOf cc.N scope.names) && !isSet iter then (match cmpTg (cc.blk scope) tg, cmpIfs (ft (cc.blk scope)) ifs, fe (cc.blk scope) elt, cmpWalkT G cc iter with
    | some t, some dt, some de, some (b, i) => if t.slots.all fun i => ((ownOf cc.N scope.names).map (·.2)).contains i then some (dLcT (if b then valsT else keysT) fin i t dt de ((ownOf cc.N scope.names).map (·.2))) else none
    | _, _, _, _ => none) else none
theorem cmpLcT_ok {fin : List PV → Store → Res PV} {fe : Cc → Expr → Option DE} {ft : Cc → Expr → Option DT} (g : GX B G Φ k P W cc X)
    (hfe : ∀ cc P W X e d, GX B G Φ k P W cc X → fe cc e = some d → PE X e (tE B P W d)) (hft : ∀ cc P W X e d, GX B G Φ k P W cc X → ft cc e = some d → PT X e (tT B P W d)) {elt tg iter : Expr} {ifs : List Expr} {scope : Scope} {pos : Pos} {d : DE} (hfin : FinOk B fin) (h : cmpLcT fin fe ft G cc elt tg iter ifs scope = some d) :
    PE X (.ListComp elt [⟨tg, iter, ifs, 0⟩] scope pos) (tE B P W d) := by
  unfold cmpLcT at h
  split at h
  · rename_i hb
    rw [Bool.and_eq_true] at hb
    split at h
    · rename_i t dt de b i h2 h3 h4 h5
      split at h
      · rename_i hs
        have sl : ∀ i ∈ t.slots, i ∈ (ownOf cc.N scope.names).map (·.2) := fun i hi => by
          have := List.all_eq_true.mp hs i hi
          simpa using this
        cases h
        have pe : ∀ {ti : TI}, PI X tg iter ti → PE X (.ListComp elt [⟨tg, iter, ifs, 0⟩] scope pos) (tLc ti (gOf B.K t) (tTx B W0 dt) (tEx B W0 de) ((ownOf cc.N scope.names).map (·.2))) := fun hi =>
          pe_lc g.calm g.nd hi (by rw [g.hN, g.hsc]; exact blkOk_by hb.1) (fun s H C cl fp => cmpTg_ok (g.blk P s H scope C cl fp) h2) (fun s H C cl fp => cmpIfs_ok (fun e d q P' => hft _ _ _ _ e d (g.blk P' s H scope C cl fp) q) h3) (fun s H C cl fp => PE.ex fun P' => hfe _ _ _ _ _ _ (g.blk P' s H scope C cl fp) h4) (folded_plain (by simpa using hb.2))
        unfold cmpWalkT at h5
        split at h5
        · split at h5
          · rename_i hq
            rw [Bool.and_eq_true] at hq
            split at h5
            · rename_i h6
              cases h5
              obtain ⟨p1, p2⟩ := cmpKeysT_ok g h6
              have hnm := of_decide_eq_true hq.1
              subst hnm
              exact ⟨fun pins s σ H Q I q => (tLcTv_of hfin sl σ H Q q).elim (fun z => (pe_lock (pe (pi_valsT p1 (base_plain p2) hq.2))).run pins s σ H Q I z) (fun z => (pe (pi_valsT p1 (base_plain p2) hq.2)).run pins s σ H Q I z)⟩
            · cases h5
          · cases h5
        · split at h5
          · rename_i h6
            cases h5
            obtain ⟨p1, p2⟩ := cmpKeysT_ok g h6
            exact ⟨fun pins s σ H Q I q => (tLcTk_of hfin sl σ H Q q).elim (fun z => (pe_lock (pe (pi_keys p1))).run pins s σ H Q I z) (fun z => (pe (pi_keys p1)).run pins s σ H Q I z)⟩
          · cases h5
      · cases h
    · cases h
  · cases h
/-- {k: v for t in items if ..} -/
def cmpDc (f : Expr → Option DE) (fe : Cc → Expr → Option DE) (ft : Cc → Expr → Option DT) (G : Pg) (cc : Cc) (kx vx tg iter : Expr) (ifs : List Expr) (scope : Scope) : Option DE :=
  if blkC cc.N cc.sc scope (ownOf cc.N scope.names) && !isSet iter then (match cmpTg (cc.blk scope) tg, cmpIfs (ft (cc.blk scope)) ifs, fe (cc.blk scope) kx, fe (cc.blk scope) vx, cmpI f G cc tg iter with
    | some t, some dt, some dk, some dv, some di => if t.slots.all fun i => ((ownOf cc.N scope.names).map (·.2)).contains i then some (dDc di t dt dk dv ((ownOf cc.N scope.names).map (·.2))) else none
    | _, _, _, _, _ => none) else none
theorem cmpDc_parts {f : Expr → Option DE} {fe : Cc → Expr → Option DE} {ft : Cc → Expr → Option DT} (g : GX B G Φ k P W cc X) (hf : ∀ e d, f e = some d → PE X e (tE B P W d))
    (hfe : ∀ cc P W X e d, GX B G Φ k P W cc X → fe cc e = some d → PE X e (tE B P W d)) (hft : ∀ cc P W X e d, GX B G Φ k P W cc X → ft cc e = some d → PT X e (tT B P W d)) {kx vx tg iter : Expr} {ifs : List Expr} {scope : Scope} {d : DE} (h : cmpDc f fe ft G cc kx vx tg iter ifs scope = some d) :
    ∃ (own : List (Str × Nat)) (wi : TI) (t : Tgt) (dt : DT) (dk dv : DE), PI X tg iter wi ∧ BlkOk X.N X.env.scope scope own ∧ (∀ (s : Shared) (H : Hp) (C : Addr) (cl : List (Str × Addr)) (fp : List Addr), PG (X.blk s H scope (compEnvC scope cl C X.env) fp) tg (gOf B.K t)) ∧
      (∀ (s : Shared) (H : Hp) (C : Addr) (cl : List (Str × Addr)) (fp : List Addr), PTs (X.blk s H scope (compEnvC scope cl C X.env) fp) ifs (tTx B W0 dt)) ∧
      (∀ (s : Shared) (H : Hp) (C : Addr) (cl : List (Str × Addr)) (fp : List Addr), PE (X.blk s H scope (compEnvC scope cl C X.env) fp) kx (tEx B W0 dk)) ∧
      (∀ (s : Shared) (H : Hp) (C : Addr) (cl : List (Str × Addr)) (fp : List Addr), PE (X.blk s H scope (compEnvC scope cl C X.env) fp) vx (tEx B W0 dv)) ∧ (∀ x, foldedSetIterable iter X.env x = pure x) ∧
      ∀ σ H Q, tE B P W d σ H Q → tDc wi (gOf B.K t) (tTx B W0 dt) (tEx B W0 dk) (tEx B W0 dv) (own.map (·.2)) σ H Q := by
  unfold cmpDc at h
  split at h
  · rename_i hb
    rw [Bool.and_eq_true] at hb
    split at h
    · rename_i t dt dk dv di h2 h3 h4 h5 h1
      split at h
      · rename_i hs
        have sl : ∀ i ∈ t.slots, i ∈ (ownOf cc.N scope.names).map (·.2) := fun i hi => by
          have := List.all_eq_true.mp hs i hi
          simpa using this
        cases h
        exact ⟨_, _, t, dt, dk, dv, cmpI_ok g hf tg h1, by rw [g.hN, g.hsc]; exact blkOk_by hb.1, fun s H C cl fp => cmpTg_ok (g.blk P s H scope C cl fp) h2, fun s H C cl fp => cmpIfs_ok (fun e d q P' => hft _ _ _ _ e d (g.blk P' s H scope C cl fp) q) h3, fun s H C cl fp => PE.ex fun P' => hfe _ _ _ _ _ _ (g.blk P' s H scope C cl fp) h4, fun s H C cl fp => PE.ex fun P' => hfe _ _ _ _ _ _ (g.blk P' s H scope C cl fp) h5, folded_plain (by simpa using hb.2), tDc_of sl⟩
      · cases h
    · cases h
  · cases h
/-- {k: True for t in items if ..}, keys nested tuples; a cell -/
def cmpDcN (f : Expr → Option DE) (fe : Cc → Expr → Option DE) (ft : Cc → Expr → Option DT) (G : Pg) (cc : Cc) (kx vx tg iter : Expr) (ifs : List Expr) (scope : Scope) : Option DE :=
  if blkC cc.N cc.sc scope (ownOf cc.N scope.names) && !isSet iter then (match cmpTg (cc.blk scope) tg, cmpIfs (ft (cc.blk scope)) ifs, fe (cc.blk scope) kx, fe (cc.blk scope) vx, cmpI f G cc tg iter with
    | some t, some dt, some dk, some dv, some di => if t.slots.all fun i => ((ownOf cc.N scope.names).map (·.2)).contains i then some (dDcN di t dt dk dv ((ownOf cc.N scope.names).map (·.2))) else none
    | _, _, _, _, _ => none) else none
theorem cmpDcN_parts {f : Expr → Option DE} {fe : Cc → Expr → Option DE} {ft : Cc → Expr → Option DT} (g : GX B G Φ k P W cc X) (hf : ∀ e d, f e = some d → PE X e (tE B P W d))
    (hfe : ∀ cc P W X e d, GX B G Φ k P W cc X → fe cc e = some d → PE X e (tE B P W d)) (hft : ∀ cc P W X e d, GX B G Φ k P W cc X → ft cc e = some d → PT X e (tT B P W d)) {kx vx tg iter : Expr} {ifs : List Expr} {scope : Scope} {d : DE} (h : cmpDcN f fe ft G cc kx vx tg iter ifs scope = some d) :
    ∃ (own : List (Str × Nat)) (wi : TI) (t : Tgt) (dt : DT) (dk dv : DE), PI X tg iter wi ∧ BlkOk X.N X.env.scope scope own ∧ (∀ (s : Shared) (H : Hp) (C : Addr) (cl : List (Str × Addr)) (fp : List Addr), PG (X.blk s H scope (compEnvC scope cl C X.env) fp) tg (gOf B.K t)) ∧
      (∀ (s : Shared) (H : Hp) (C : Addr) (cl : List (Str × Addr)) (fp : List Addr), PTs (X.blk s H scope (compEnvC scope cl C X.env) fp) ifs (tTx B W0 dt)) ∧
      (∀ (s : Shared) (H : Hp) (C : Addr) (cl : List (Str × Addr)) (fp : List Addr), PE (X.blk s H scope (compEnvC scope cl C X.env) fp) kx (tEx B W0 dk)) ∧
      (∀ (s : Shared) (H : Hp) (C : Addr) (cl : List (Str × Addr)) (fp : List Addr), PE (X.blk s H scope (compEnvC scope cl C X.env) fp) vx (tEx B W0 dv)) ∧ (∀ x, foldedSetIterable iter X.env x = pure x) ∧
      ∀ σ H Q, tE B P W d σ H Q → tDcN B.K wi (gOf B.K t) (tTx B W0 dt) (tEx B W0 dk) (tEx B W0 dv) (own.map (·.2)) σ H Q := by
  unfold cmpDcN at h
  split at h
  · rename_i hb
    rw [Bool.and_eq_true] at hb
    split at h
    · rename_i t dt dk dv di h2 h3 h4 h5 h1
      split at h
      · rename_i hs
        have sl : ∀ i ∈ t.slots, i ∈ (ownOf cc.N scope.names).map (·.2) := fun i hi => by
          have := List.all_eq_true.mp hs i hi
          simpa using this
        cases h
        exact ⟨_, _, t, dt, dk, dv, cmpI_ok g hf tg h1, by rw [g.hN, g.hsc]; exact blkOk_by hb.1, fun s H C cl fp => cmpTg_ok (g.blk P s H scope C cl fp) h2, fun s H C cl fp => cmpIfs_ok (fun e d q P' => hft _ _ _ _ e d (g.blk P' s H scope C cl fp) q) h3, fun s H C cl fp => PE.ex fun P' => hfe _ _ _ _ _ _ (g.blk P' s H scope C cl fp) h4, fun s H C cl fp => PE.ex fun P' => hfe _ _ _ _ _ _ (g.blk P' s H scope C cl fp) h5, folded_plain (by simpa using hb.2), tDcN_of sl⟩
      · cases h
    · cases h
  · cases h
/-- two fors -/
def cmpLc2 (fin : List PV → Store → Res PV) (f : Expr → Option DE) (fe : Cc → Expr → Option DE) (ft : Cc → Expr → Option DT) (G : Pg) (cc : Cc) (elt tg iter tg1 iter1 : Expr) (ifs ifs1 : List Expr) (scope : Scope) : Option DE :=
  if blkC cc.N cc.sc scope (ownOf cc.N scope.names) && !isSet iter && !isSet iter1 then (match cmpI f G cc tg iter, cmpTg (cc.blk scope) tg, cmpIfs (ft (cc.blk scope)) ifs, cmpI (fe (cc.blk scope)) G (cc.blk scope) tg1 iter1, cmpTg (cc.blk scope) tg1, cmpIfs (ft (cc.blk scope)) ifs1, fe (cc.blk scope) elt with
    | some di, some t, some dt, some di1, some t1, some dt1, some de => if (t.slots.all fun i => ((ownOf cc.N scope.names).map (·.2)).contains i) && (t1.slots.all fun i => ((ownOf cc.N scope.names).map (·.2)).contains i) then some (dLc2 fin di t dt di1 t1 dt1 de ((ownOf cc.N scope.names).map (·.2)) t1.slots) else none
    | _, _, _, _, _, _, _ => none) else none
theorem PI.ex {W : WX} {d : DI} {X : Cx} {tg e : Expr} (h : ∀ P, PI X tg e (tI B P W d)) : PI X tg e (tIx B W d) := ⟨fun pins s σ H R I ⟨P, q⟩ => (h P).run pins s σ H R I q⟩
theorem cmpLc2_parts {fin : List PV → Store → Res PV} {f : Expr → Option DE} {fe : Cc → Expr → Option DE} {ft : Cc → Expr → Option DT} (g : GX B G Φ k P W cc X) (hf : ∀ e d, f e = some d → PE X e (tE B P W d))
    (hfe : ∀ cc P W X e d, GX B G Φ k P W cc X → fe cc e = some d → PE X e (tE B P W d)) (hft : ∀ cc P W X e d, GX B G Φ k P W cc X → ft cc e = some d → PT X e (tT B P W d)) {elt tg iter tg1 iter1 : Expr} {ifs ifs1 : List Expr} {scope : Scope} {d : DE} (hfin : FinOk B fin) (h : cmpLc2 fin f fe ft G cc elt tg iter tg1 iter1 ifs ifs1 scope = some d) :
    ∃ (own : List (Str × Nat)) (di di1 : DI) (t t1 : Tgt) (dt dt1 : DT) (de : DE), PI X tg iter (tI B P W di) ∧ BlkOk X.N X.env.scope scope own ∧ (∀ i ∈ t1.slots, i ∈ own.map (·.2)) ∧ (∀ (s : Shared) (H : Hp) (C : Addr) (cl : List (Str × Addr)) (fp : List Addr), PG (X.blk s H scope (compEnvC scope cl C X.env) fp) tg (gOf B.K t)) ∧
      (∀ (s : Shared) (H : Hp) (C : Addr) (cl : List (Str × Addr)) (fp : List Addr), PTs (X.blk s H scope (compEnvC scope cl C X.env) fp) ifs (tTx B W0 dt)) ∧
      (∀ (s : Shared) (H : Hp) (C : Addr) (cl : List (Str × Addr)) (fp : List Addr), PI (X.blk s H scope (compEnvC scope cl C X.env) fp) tg1 iter1 (tIx B W0 di1)) ∧
      (∀ (s : Shared) (H : Hp) (C : Addr) (cl : List (Str × Addr)) (fp : List Addr), PG (X.blk s H scope (compEnvC scope cl C X.env) fp) tg1 (gOf B.K t1)) ∧
      (∀ (s : Shared) (H : Hp) (C : Addr) (cl : List (Str × Addr)) (fp : List Addr), PTs (X.blk s H scope (compEnvC scope cl C X.env) fp) ifs1 (tTx B W0 dt1)) ∧
      (∀ (s : Shared) (H : Hp) (C : Addr) (cl : List (Str × Addr)) (fp : List Addr), PE (X.blk s H scope (compEnvC scope cl C X.env) fp) elt (tEx B W0 de)) ∧ (∀ x, foldedSetIterable iter X.env x = pure x) ∧ (∀ env x, foldedSetIterable iter1 env x = pure x) ∧
      ∀ σ H Q, tE B P W d σ H Q → tLc2 (tI B P W di) (gOf B.K t) (tTx B W0 dt) (tIx B W0 di1) (gOf B.K t1) (tTx B W0 dt1) (tEx B W0 de) (own.map (·.2)) t1.slots σ H Q := by
  unfold cmpLc2 at h
  split at h
  · rename_i hb
    simp only [Bool.and_eq_true] at hb
    split at h
    · rename_i di t dt di1 t1 dt1 de h1 h2 h3 h5 h6 h7 h4
      split at h
      · rename_i hs
        rw [Bool.and_eq_true] at hs
        cases h
        have in1 : ∀ i ∈ t1.slots, i ∈ (ownOf cc.N scope.names).map (·.2) := fun i hi => by
          have := List.all_eq_true.mp hs.2 i hi
          simpa using this
        refine ⟨_, di, di1, t, t1, dt, dt1, de, cmpI_ok g hf tg h1, by rw [g.hN, g.hsc]; exact blkOk_by hb.1.1, in1, fun s H C cl fp => cmpTg_ok (g.blk P s H scope C cl fp) h2, fun s H C cl fp => cmpIfs_ok (fun e d q P' => hft _ _ _ _ e d (g.blk P' s H scope C cl fp) q) h3,
          fun s H C cl fp => PI.ex fun P' => cmpI_ok (g.blk P' s H scope C cl fp) (fun e d q => hfe _ _ _ _ e d (g.blk P' s H scope C cl fp) q) tg1 h5, fun s H C cl fp => cmpTg_ok (g.blk P s H scope C cl fp) h6, fun s H C cl fp => cmpIfs_ok (fun e d q P' => hft _ _ _ _ e d (g.blk P' s H scope C cl fp) q) h7,
          fun s H C cl fp => PE.ex fun P' => hfe _ _ _ _ _ _ (g.blk P' s H scope C cl fp) h4, folded_plain (by simpa using hb.1.2), fun env => folded_plain (by simpa using hb.2), tLc2_of hfin ?_ fun i hi => hi⟩
        intro i hi
        have := List.all_eq_true.mp hs.1 i hi
        simpa using this
      · cases h
    · cases h
  · cases h
end
end E2
end
section
set_option Elab.async false
set_option linter.all false
set_option maxRecDepth 100000
set_option maxHeartbeats 4000000
set_option autoImplicit false
namespace E2
open PySem PySem.Spec PyProof.Rows L2
variable {P P' : Pv}
def cmpUn : UnaryOp → Option (PV → Store → Res PV)
  | .USub => some oNeg
  | _ => none
def noArgs : Arguments → Bool
  | ⟨[], [], none, [], [], none, []⟩ => true
  | _ => false
/-- the parameter of a lambda that has one -/
def onePar : Arguments → Option Str
  | ⟨[], [⟨p, none, _⟩], none, [], [], none, []⟩ => some p
  | _ => none
def cmpSlotN (cc : Cc) (p : Str) : Option Nat := match cc.N.findIdx? fun y => decide (y = p) with
  | some j => if decide (cc.N[j]? = some p) then some j else none
  | none => none
/-- f(..) of a name -/
def cmpCall (f : Expr → Option DE) (G : Pg) (Φ : Nat → Phi) (k : Nat) (cc : Cc) (x : Str) (es : List Expr) : Option DE :=
  if noDbg x && isGlb cc.sc x then (match G.gl.lookup x with
    | some (.fn i) => (match G.fi[i]? with
      | some fi => if es.length ≤ fi.ps.length then (match cmpA f es with
        | some d => some (dCallL (callOp fi.ps.length ((Φ k).f i) (dfl fi es.length)) d)
        | none => none) else none
      | none => none)
    | some _ => none
    | none => (match btOf x with
      | some b => (match es with
        | [] => none
        | e :: es => (match cmpRg f G cc (decide (x = "tuple")) e with
          | some d => if (decide (x = "tuple") || decide (x = "list")) && decide (es = []) then some d else none
          | none => (match cmpA f (e :: es) with
            | some d => some (dCallL b.op d)
            | none => none)))
      | none => none))
  else none
def cmpE (G : Pg) (Φ : Nat → Phi) : Nat → Nat → Cc → Expr → Option DE
  | 0, _, _, _ => none
  | m + 1, k, cc, e => (match e with
    | .Name x pos => cmpName G cc x pos
    | .Constant .none _ _ => some (dC .non)
    | .Constant (.bool b) _ _ => some (dC (.bl b))
    | .Constant (.int i) _ _ => some (dC (.int i))
    | .Constant (.str s) _ _ => some (dC (.str s))
    | .BinOp a op b _ => (match binOp op, cmpE G Φ m k cc a, cmpE G Φ m k cc b with
      | some o, some da, some db => some (dBin o da db)
      | _, _, _ => none)
    | .UnaryOp .Not a _ => (match cmpE G Φ m k cc a with
      | some da => some (dNotV da)
      | none => none)
    | .UnaryOp op a _ => (match cmpUn op, cmpE G Φ m k cc a with
      | some o, some da => some (dUn o da)
      | _, _ => none)
    | .BoolOp op vs _ => cmpBV (cmpE G Φ m k cc) op vs
    | .Compare a ops bs _ => cmpCmp (cmpE G Φ m k cc) a ops bs
    | .IfExp c a b _ => (match cmpT (cmpE G Φ m k cc) m c, cmpE G Φ m k cc a, cmpE G Φ m k cc b with
      | some dc, some da, some db => some (dIfE dc da db)
      | _, _, _ => none)
    | .Tuple es _ _ => (match cmpDs (cmpE G Φ m k cc) es with
      | some d => some (dCallL oTup d)
      | none => none)
    | .List es pos => (match cmpDs (cmpE G Φ m k cc) es with
      | some d => some (dCallL (if G.at_ pos then oLstR else oLst) d)
      | none => none)
    | .Dict [] [] pos => some (if G.at_ pos then dDict0R else if G.dt pos then dDict0T else dDict0)
    | .Dict [some kx] [vx] _ => (match cstK kx, cstP vx with
      | some kk, some q => some (dDict1 kk q.1)
      | _, _ => none)
    | .Subscript a b _ => cmpSub (cmpE G Φ m k cc) a b
    | .ListComp elt [⟨tg, iter, ifs, 0⟩] scope pos => (match cmpLcK (if G.at_ pos then finR else finV) (cmpE G Φ m k) (fun cc => cmpT (cmpE G Φ m k cc) m) G cc elt tg iter ifs scope, cmpLcT (if G.at_ pos then finR else finV) (cmpE G Φ m k) (fun cc => cmpT (cmpE G Φ m k cc) m) G cc elt tg iter ifs scope with
      | some d, _ => some d
      | none, some d => some d
      | none, none => cmpLc (if G.at_ pos then finR else finV) (cmpE G Φ m k cc) (cmpE G Φ m k) (fun cc => cmpT (cmpE G Φ m k cc) m) G cc elt tg iter ifs scope)
    | .ListComp elt [⟨tg, iter, ifs, 0⟩, ⟨tg1, iter1, ifs1, 0⟩] scope pos => cmpLc2 (if G.at_ pos then finR else finV) (cmpE G Φ m k cc) (cmpE G Φ m k) (fun cc => cmpT (cmpE G Φ m k cc) m) G cc elt tg iter tg1 iter1 ifs ifs1 scope
    | .DictComp kx vx [⟨tg, iter, ifs, 0⟩] scope pos => if G.at_ pos then cmpDcN (cmpE G Φ m k cc) (cmpE G Φ m k) (fun cc => cmpT (cmpE G Φ m k cc) m) G cc kx vx tg iter ifs scope else cmpDc (cmpE G Φ m k cc) (cmpE G Φ m k) (fun cc => cmpT (cmpE G Φ m k cc) m) G cc kx vx tg iter ifs scope
    | .Call (.Name x _) [e] [⟨some ky, .Lambda ps body scope _, _⟩] _ => (match onePar ps with
      | some p => if decide (x = "sorted") && decide (ky = "key") && glbFree G cc "sorted" && cc.lam && lamPB cc.sc scope p && !isStar e then (match k, cmpSlotN cc p with
        | k + 3, some j => (match cmpE G Φ m (k + 3) cc e, cmpE G Φ m k ⟨scope, cc.N, fun _ => false, none, false⟩ body with
          | some de, some d => some (dSortK de j d)
          | _, _ => none)
        | _, _ => none) else none
      | none => none)
    | .Call (.Name x _) [.Lambda ps body scope _] [] _ => if noDbg x && isGlb cc.sc x && cc.lam && noArgs ps && LamX.lamSB cc.sc scope then (match k, G.gl.lookup x with
      | k + 2, some (.tk i) => (match cmpE G Φ m k ⟨scope, cc.N, fun _ => false, none, false⟩ body with
        | some d => some (dLam ((Φ (k + 2)).t i) d)
        | none => none)
      | _, _ => none) else none
    | .Call (.Name x _) [] [] _ => (match cc.thk with
      | some (a, th) => if decide (x = a) then some (dThk th) else cmpCall (cmpE G Φ m k cc) G Φ k cc x []
      | none => cmpCall (cmpE G Φ m k cc) G Φ k cc x [])
    | .Call (.Name x _) (e :: es) [] pos => if decide (x = "list") && G.at_ pos && glbFree G cc "list" then (match cmpA (cmpE G Φ m k cc) (e :: es) with
      | some d => some (dCallL oLstOfR d)
      | none => none) else if noDbg x && isVis cc.sc x then (match slotOf x cc.N, cmpA (cmpE G Φ m k cc) (e :: es) with
      | some j, some d => some (dCallV G (Φ k).f j (e :: es).length d)
      | _, _ => none) else cmpCall (cmpE G Φ m k cc) G Φ k cc x (e :: es)
    | .Call (.Attribute o name apos) es [] cpos => cmpMeth (cmpE G Φ m k cc) o name apos es cpos
    | _ => none)
section
variable {B : Base} {G : Pg} {Φ : Nat → Phi} {k : Nat} {W : WX} {cc : Cc} {X : Cx}
theorem cmpCall_ok {f : Expr → Option DE} (g : GX B G Φ k P W cc X) (hf : ∀ e d, f e = some d → PE X e (tE B P W d)) {x : Str} {es : List Expr} {d : DE} {p pos : Pos} (h : cmpCall f G Φ k cc x es = some d) : PE X (.Call (.Name x p) es [] pos) (tE B P W d) := by
  unfold cmpCall at h
  split at h
  · rename_i hx
    rw [Bool.and_eq_true] at hx
    have hd := (noDbg_ok hx.1).1
    have hg := g.gl hx.2
    split at h
    · rename_i i hl
      split at h
      · rename_i fi hi
        split at h
        · rename_i hle
          split at h
          · rename_i d1 h1
            cases h
            obtain ⟨a1, a2⟩ := cmpA_ok hf h1
            exact pe_callD g hl hi hg hd hle (fun e => by subst e; cases h1; rfl) a1 a2
          · cases h
        · cases h
      · cases h
    · cases h
    · rename_i hl
      split at h
      · rename_i b hb
        have hxb := btOf_ok hb
        obtain ⟨f1, f2, f3, f4⟩ := b.facts
        have hfree : glbFree G cc x = true := by unfold glbFree; rw [hx.2, hl]; rfl
        split at h
        · cases h
        · rename_i e es
          split at h
          · rename_i d1 h1
            split at h
            · rename_i hc
              cases h
              simp only [Bool.and_eq_true, Bool.or_eq_true, decide_eq_true_eq] at hc
              obtain ⟨hc1, hc2⟩ := hc
              subst hc2
              rcases hc1 with hc1 | hc1
              · subst hc1
                have z : decide (("tuple" : Str) = "tuple") = true := decide_eq_true rfl
                rw [z] at h1
                exact cmpRg_ok (tupl := true) g hf h1 hfree
              · subst hc1
                have z : decide (("list" : Str) = "tuple") = false := by decide +kernel
                rw [z] at h1
                exact cmpRg_ok (tupl := false) g hf h1 hfree
            · cases h
          · split at h
            · rename_i d1 h1
              cases h
              obtain ⟨a1, a2⟩ := cmpA_ok hf h1
              rw [List.all_cons, Bool.and_eq_true] at a2
              obtain ⟨r, q1, q2⟩ := b.rule B g.hK g.calm g.gd g.units
              subst hxb
              exact PE.imp (pe_callV q1 hg (g.pf.blt _ f1 hl) a1 (by simpa using a2.1) a2.2) (tCB_of q2)
            · cases h
      · cases h
  · cases h
theorem cmpUn_ok {op : UnaryOp} {o : PV → Store → Res PV} (h : cmpUn op = some o) : ∃ r, UnR X (unaryOp op) r ∧ Sv1 B r o := by
  cases op <;> simp only [cmpUn] at h <;> cases h
  exact ⟨_, un_neg, sv_neg⟩
theorem noArgs_ok {ps : Arguments} (h : noArgs ps = true) : ps = ⟨[], [], none, [], [], none, []⟩ := by
  unfold noArgs at h
  split at h
  · rfl
  · cases h
theorem onePar_ok {ps : Arguments} {p : Str} (h : onePar ps = some p) : ∃ pos, ps = ⟨[], [⟨p, none, pos⟩], none, [], [], none, []⟩ := by
  unfold onePar at h
  split at h
  · cases h; exact ⟨_, rfl⟩
  · cases h
theorem cmpSlotN_ok {p : Str} {j : Nat} (h : cmpSlotN cc p = some j) : cc.N[j]? = some p := by
  unfold cmpSlotN at h
  split at h
  · split at h
    · rename_i hd
      cases h
      exact of_decide_eq_true hd
    · cases h
  · cases h
theorem bind1 (p : Str) (pp : Pos) (q : Str) (body : Expr) (scope : Scope) (cl : List (Str × Addr)) (pm cv ctv u : Value) : bindArgs (PySem.W.kla_fn "<lambda>" q ⟨[], [⟨p, none, pp⟩], none, [], [], none, []⟩ body scope cl pm cv ctv) ⟨[u], []⟩ = pure [(p, u)] := by
  unfold bindArgs
  simp [PySem.W.kla_fn, seqItems?, List.lookup]
  rfl
theorem GX.lamK (g : GX B G Φ (k + 3) P W cc X) {scope : Scope} (A : Around) (outer : List Env) (s : Shared) (H : Hp) (f c' : Addr) (hr : Room k (A.deeper (LamX.lamEnv X scope s.heap.objs.size f c'))) (hgd : A.guards = some []) :
    GX B G Φ k P W0 ⟨scope, cc.N, fun _ => false, none, false⟩ (LamX.lamCx X A outer s H (fun _ _ _ => False) scope f c') :=
  ⟨g.hK, g.nd, hr, hgd, rfl, LamX.takes0, g.pf.mono (by omega), rfl, g.hN, fun x h => (by cases h), fun a th h => (by cases h), fun h => (by cases h)⟩
theorem GX.lamb (g : GX B G Φ (k + 2) P W cc X) {scope : Scope} (A : Around) (outer : List Env) (s : Shared) (H : Hp) (E : XK) (f c' : Addr) (hr : Room k (A.deeper (LamX.lamEnv X scope s.heap.objs.size f c'))) (hgd : A.guards = some []) :
    GX B G Φ k P (fun cls d _ H => E cls d H) ⟨scope, cc.N, fun _ => false, none, false⟩ (LamX.lamCx X A outer s H E scope f c') :=
  ⟨g.hK, g.nd, hr, hgd, rfl, takes_of rfl rfl rfl rfl, g.pf.mono (by omega), rfl, g.hN, fun x h => (by cases h), fun a th h => (by cases h), fun h => (by cases h)⟩
theorem cmpE_ok : ∀ (m k : Nat) (cc : Cc) (P : Pv) (W : WX) (X : Cx) (e : Expr) (d : DE), GX B G Φ k P W cc X → cmpE G Φ m k cc e = some d → PE X e (tE B P W d)
  | 0, _, _, _, _, _, _, _, _, h => by cases h
  | m + 1, k, cc, P, W, X, e, d, g, h => by
    have hf : ∀ e d, cmpE G Φ m k cc e = some d → PE X e (tE B P W d) := fun e d => cmpE_ok m k cc P W X e d g
    unfold cmpE at h
    split at h
    · exact cmpName_ok g h
    · cases h; exact PE.imp pe_non (tC_of fun _ _ _ => .non)
    · cases h; exact PE.imp pe_bl (tC_of fun _ _ _ => .bl _)
    · cases h; exact PE.imp pe_int (tC_of fun _ _ _ => .int _)
    · cases h; exact PE.imp pe_str (tC_of fun _ _ _ => .str _)
    · split at h
      · rename_i o da db h1 h2 h3
        cases h
        obtain ⟨r, q1, q2⟩ := binOp_ok g.hK h1
        exact PE.imp (pe_op q1 (hf _ _ h2) (hf _ _ h3)) (tOp_of q2)
      · cases h
    · split at h
      · rename_i da h1
        cases h
        refine PE.imp (pe_notT (hf _ _ h1)) ?_
        rw [g.hK]
        exact tNotV_of
      · cases h
    · split at h
      · rename_i o da h1 h2
        cases h
        obtain ⟨r, q1, q2⟩ := cmpUn_ok (B := B) (X := X) h1
        exact PE.imp (pe_un q1 (hf _ _ h2)) (tUn_of q2)
      · cases h
    · exact cmpBV_ok g hf h
    · exact (cmpCmp_ok g hf h _).1
    · split at h
      · rename_i dc da db h1 h2 h3
        cases h
        exact PE.imp (pe_ifExp (cmpT_ok g hf m _ _ h1) (hf _ _ h2) (hf _ _ h3)) tIfE_of
      · cases h
    · split at h
      · rename_i d1 h1
        cases h
        exact PE.imp (pe_tupF (cmpDs_ok g.hK hf h1)) tTup_of
      · cases h
    · split at h
      · rename_i pos _ d1 h1
        cases h
        split
        · exact PE.imp (pe_lst (cmpDs_ok g.hK hf h1)) tLstR_of
        · exact PE.imp (pe_lst (cmpDs_ok g.hK hf h1)) tLst_of
      · cases h
    · cases h
      split
      · exact PE.imp pe_dnewK tDict0R_of
      · split
        · exact PE.imp pe_dnewT tDict0T_of
        · exact PE.imp pe_dnewK tDict0_of
    · split at h
      · rename_i kk q h1 h2
        cases h
        obtain ⟨p1, p2⟩ := cstP_ok h2 (X := X)
        exact PE.imp (pe_disp (pps_cons (cstK_ok h1) p1 pps_nil) rfl rfl (by simp) (by simp)) (tDict1_of (p2 B))
      · cases h
    · exact cmpSub_ok g hf h
    · rename_i elt tg iter ifs scope pos
      have hfin : FinOk B (if G.at_ pos = true then finR else finV) := by
        split
        · exact finR_ok
        · exact finV_ok
      split at h
      · rename_i d1 h1
        cases h
        exact cmpLcK_ok g (fun cc P W X e d g => cmpE_ok m k cc P W X e d g) (fun cc P W X e d g => cmpT_ok g (fun e d => cmpE_ok m k cc P W X e d g) m e d) hfin h1
      · rename_i d1 _ h1
        cases h
        exact cmpLcT_ok g (fun cc P W X e d g => cmpE_ok m k cc P W X e d g) (fun cc P W X e d g => cmpT_ok g (fun e d => cmpE_ok m k cc P W X e d g) m e d) hfin h1
      · obtain ⟨own, di, t, dt, de, c1, c2, c3, c4, c5, c6, c7⟩ := cmpLc_parts g hf (fun cc P W X e d g => cmpE_ok m k cc P W X e d g) (fun cc P W X e d g => cmpT_ok g (fun e d => cmpE_ok m k cc P W X e d g) m e d) hfin h
        exact PE.imp (pe_lc g.calm g.nd c1 c2 c3 c4 c5 c6) c7
    · rename_i elt tg iter ifs tg1 iter1 ifs1 scope pos
      have hfin : FinOk B (if G.at_ pos = true then finR else finV) := by
        split
        · exact finR_ok
        · exact finV_ok
      obtain ⟨own, di, di1, t, t1, dt, dt1, de, c1, c2, cv, c3, c4, d1, d2, d3, c5, c6, d6, c7⟩ := cmpLc2_parts g hf (fun cc P W X e d g => cmpE_ok m k cc P W X e d g) (fun cc P W X e d g => cmpT_ok g (fun e d => cmpE_ok m k cc P W X e d g) m e d) hfin h
      exact PE.imp (pe_lc2 g.calm g.nd c1 c2 cv c3 c4 d1 d2 d3 c5 c6 d6) c7
    · rename_i kx vx tg iter ifs scope pos
      split at h
      · obtain ⟨own, di, t, dt, dk, dv, c1, c2, c3, c4, c5, c5', c6, c7⟩ := cmpDcN_parts g hf (fun cc P W X e d g => cmpE_ok m k cc P W X e d g) (fun cc P W X e d g => cmpT_ok g (fun e d => cmpE_ok m k cc P W X e d g) m e d) h
        exact PE.imp (pe_dcN (by have := g.units; omega) g.calm g.nd c1 c2 c3 c4 c5 c5' c6) (by rw [g.hK]; exact c7)
      · obtain ⟨own, di, t, dt, dk, dv, c1, c2, c3, c4, c5, c5', c6, c7⟩ := cmpDc_parts g hf (fun cc P W X e d g => cmpE_ok m k cc P W X e d g) (fun cc P W X e d g => cmpT_ok g (fun e d => cmpE_ok m k cc P W X e d g) m e d) h
        exact PE.imp (pe_dc g.calm g.nd c1 c2 c3 c4 c5 c5' c6) c7
    · rename_i x p1 ea ky ps body scope p2 p3 p4
      split at h
      · rename_i p hp
        obtain ⟨pp, rfl⟩ := onePar_ok hp
        split at h
        · rename_i hc
          simp only [Bool.and_eq_true, decide_eq_true_eq, Bool.not_eq_true'] at hc
          obtain ⟨⟨⟨⟨⟨c1, c2⟩, c3⟩, c4⟩, c5⟩, c6⟩ := hc
          subst c1 c2
          split at h
          · rename_i k j hj
            split at h
            · rename_i de db h1 h2
              cases h
              obtain ⟨q1, q2⟩ := glbFree_ok g (by decide +kernel) c3
              exact pe_sortK g.hK q1 q2 g.nd g.room g.gd (g.lam c4) (by rw [g.hsc]; exact lamP_by c5) (by rw [g.hN]; exact cmpSlotN_ok hj) rfl (fun q cl pm cv ctv u => bind1 p pp q _ _ cl pm cv ctv u) (cmpE_ok m _ _ _ _ _ _ _ g h1) c6 (fun A outer s H f c' hr hgd => cmpE_ok m k _ _ _ _ _ _ (g.lamK A outer s H f c' hr hgd) h2)
            · cases h
          · cases h
        · cases h
      · cases h
    · split at h
      · rename_i x p1 ps body scope p2 p3 hc
        simp only [Bool.and_eq_true] at hc
        obtain ⟨⟨⟨⟨c1, c2⟩, c3⟩, c4⟩, c5⟩ := hc
        have := noArgs_ok c4
        subst this
        split at h
        · rename_i k i hl
          split at h
          · rename_i d1 h1
            cases h
            refine pe_lam g.hK (g.pf.tkc k (Nat.le_refl _) x i hl) (g.gl c2) g.room g.gd (g.lam c3) (by rw [g.hsc]; exact LamX.lamS_by c5) rfl (fun _ _ _ _ _ => rfl) (fun A outer s H E f c' hr hgd => cmpE_ok m k _ _ _ _ _ _ (g.lamb A outer s H E f c' hr hgd) h1) (noDbg_ok c1).1
          · cases h
        · cases h
      · cases h
    · split at h
      · rename_i a th ht
        split at h
        · rename_i hx
          cases h
          have := of_decide_eq_true hx
          subst this
          exact g.thk _ th ht X.pn X.xe W g.tk _ _
        · exact cmpCall_ok g hf h
      · exact cmpCall_ok g hf h
    · split at h
      · rename_i hc
        simp only [Bool.and_eq_true, decide_eq_true_eq] at hc
        obtain ⟨⟨rfl, _⟩, hc3⟩ := hc
        split at h
        · rename_i d1 h1
          cases h
          obtain ⟨a1, a2⟩ := cmpA_ok hf h1
          rw [List.all_cons, Bool.and_eq_true] at a2
          obtain ⟨q1, q2⟩ := glbFree_ok g list_in hc3
          exact PE.imp (pe_callV (b := .list) (call_lstA g.calm) q1 q2 a1 (by simpa using a2.1) a2.2) (tCB_of (by rw [g.hK]; exact sv_lstOfR))
        · cases h
      split at h
      · rename_i hc
        rw [Bool.and_eq_true] at hc
        split at h
        · rename_i j d1 hj h1
          cases h
          obtain ⟨a1, a2⟩ := cmpA_ok hf h1
          exact pe_callP g hj hc.2 hc.1 a1 a2
        · cases h
      · exact cmpCall_ok g hf h
    · exact cmpMeth_ok g hf h
    · cases h
end
end E2
end
section
set_option Elab.async false
set_option linter.all false
set_option maxRecDepth 100000
set_option maxHeartbeats 4000000
set_option autoImplicit false
namespace E2
open PySem PySem.Spec PyProof.Rows L2
variable {P P' : Pv}
/-! ### raise -/
def dRaise (c : Nat) (e : DE) : DS := fun fr S => liftE (e fr S) fr fun v S1 => .exc c v fr S1
theorem made_heap {H1 : Hp} {a dx : Addr} {o1 o2 o3 : HO} (ha : H1 a = none) (hd : H1 dx = none) (ne : dx ≠ a) (fs : List (Str × V)) : upd (del (upd (upd (upd H1 a o1) dx o2) a o3) a) dx (.xd fs) = upd H1 dx (.xd fs) := by
  funext b
  by_cases h1 : b = dx
  · rw [h1, upd_same, upd_same]
  · rw [upd_ne h1, upd_ne h1]
    by_cases h2 : b = a
    · rw [h2, del_same, ha]
    · rw [del_ne h2, upd_ne h2, upd_ne h1, upd_ne h2]
section
variable {B : Base} {W : WX}
theorem tRaise_of {c : Nat} {C : Addr} {e : DE} (hC : B.ec c = some C) : ∀ D σ H, tS B P W (dRaise c e) D σ H → tMkO C (spI C (B.ea c)) [] (tA B P W (dCons e dNil)) σ H (fun cls d H' => W cls d σ H') := by
  rintro D σ H ⟨fr, μ, S, hf, sr, g⟩
  unfold dRaise at g
  have g2 : Go B P (RelL B) W σ (dCons e dNil fr S) μ S H (fun vs H1 => vs.length ≤ 1000 ∧ ∀ a, H1 a = none → spI C (B.ea c) (.ref a :: (vs ++ [])) (upd H1 a (exo a C none))
      (fun v H2 => v = .non ∧ ∃ (d : Addr) (fs : List (Str × V)), H2 a = some (exo a C (some d)) ∧ H2 d = some (exd d fs) ∧ H1 d = none ∧ W (.ref C) (some d) σ (upd (del H2 a) d (.xd fs))) (fun _ _ _ => False)) := by
    cases q : e fr S with
    | ok x S1 =>
      rw [q] at g
      show Go B P (RelL B) W σ ((e fr S).bind fun x S1 => .ok [x] S1) μ S H _
      rw [q]
      intro μ1 H1 vs ex sr1 rv
      have rv : RpL B μ1 (Mz P μ1 S1) H1 [x] vs := rv
      obtain ⟨v, rfl, r⟩ := RpL.one (xs := []) rv
      refine ⟨by simp, fun a ha => ⟨a, v, rfl, upd_same, fun dx hdx ne => ⟨rfl, dx, [(B.ea c, v)], upd_same, ?_, ?_, ?_⟩⟩⟩
      · rw [upd_ne ne, upd_same]
      · rw [upd_ne ne] at hdx; exact hdx
      · rw [upd_ne ne] at hdx
        rw [made_heap ha hdx ne]
        have k := ext_new (o := .xd [(B.ea c, v)]) hdx
        exact g μ1 (upd H1 dx (.xd [(B.ea c, v)])) σ C dx v (ex.trans (B := B) (ex_ext k)) (sr1.ext k) ((hf.mono sr ex).mono sr1 (ex_ext k)) hC upd_same (r.mono sr1 (ex_ext k))
    | exc c' t S1 =>
      rw [q] at g
      show Go B P (RelL B) W σ ((e fr S).bind fun x S1 => .ok [x] S1) μ S H _
      rw [q]
      exact fun μ1 H1 C dx v x s e1 e2 e3 => g μ1 H1 σ C dx v x s (hf.mono sr x) e1 e2 e3
    | fail => rw [q] at g; exact g.elim
  exact ⟨fr, μ, S, hf, sr, g2⟩
end
/-! ### several except clauses with a name -/
def wMA (K : PySem.W.Frag) (Wout : WX) (D : Ends) (i : Nat) : List (Value × (Addr → Value → Option Addr → TS)) → WX
  | [] => Wout
  | q :: r => wAs K q.1 i q.2 (wMA K Wout D i r) D
/-- what comes of an exception that no clause of those looked at takes: b: there are clauses that are not looked at -/
def cutW (b : Bool) (Wo : WX) : WX := if b = true then W0 else Wo
inductive HdsAs (X : Cx) (n : Str) : Bool → List ExceptHandler → List (Value × (Addr → Value → Option Addr → TS)) → Prop
  | nil : HdsAs X n false [] []
  | cut {hds : List ExceptHandler} : HdsAs X n true hds []
  | cons {b : Bool} {x : Str} {c : Value} {ts : Addr → Value → Option Addr → TS} {b₀ : Stmt} {su : List Stmt} {p1 p2 : Pos} {hds : List ExceptHandler} {l : List (Value × (Addr → Value → Option Addr → TS))} :
      Names X x c → (∀ (a : Addr) (oe : Obj) (cls : Value) (d : Option Addr) (pn : List (Addr × Obj)), Zc cls d oe → (∃ vs, oe.data = .fields vs) → PSs (X.suite a ((a, oe) :: pn)) (b₀ :: su) (ts a cls d)) → HdsAs X n b hds l →
      HdsAs X n b (.ExceptHandler (some (.Name x p1)) (some n) (b₀ :: su) p2 :: hds) ((c, ts) :: l)
section
variable {X : Cx}
theorem ps_try_mAs {bc : Bool} {body : List Stmt} {hd : ExceptHandler} {hds : List ExceptHandler} {n : Str} {i : Nat} {l : List (Value × (Addr → Value → Option Addr → TS))} {pos : Pos} {tb : WX → TS} {Wo : WX} (stk : X.stack = X.env :: X.outer) (frm : X.env.frame = some X.env.locals) (nd : X.N.Nodup) (hi : X.N[i]? = some n) (lcl : X.env.kindOf n = some .local) (tk : Takes X Wo)
    (hbody : ∀ (W : WX) (pn : List (Addr × Obj)) (xe : Value → Shared → Prop), Takes (X.tr pn xe) W → PassesOwn (model X.prog X.w) X.A X.env xe → PSs (X.tr pn xe) body (tb W)) (hh : HdsAs X n bc (hd :: hds) l) :
    PS X (.Try body (hd :: hds) [] [] pos) (fun D σ H => tb (wMA X.K (cutW bc Wo) D i l) D σ H) := by
  refine ⟨fun pins s σ H D I h0 => ?_⟩
  have ok := I.ok
  have fr0 : X.A.frames = some (X.env :: X.outer) := ok.frames.trans (by rw [stk])
  refine wpAny_Try_except ?_
  have run := (hbody (wMA X.K (cutW bc Wo) D i l) (X.pn ++ pins) (fun e s₁ => wpAny (model X.prog X.w) X.A (noteFrame e X.env) (fun _ s₂ => wpAny (model X.prog X.w) X.A (setFlight e none) (fun _ s₃ => wpAny (model X.prog X.w) X.A (handleBy e X.env (hd :: hds)) (SP X pins D) X.xe s₃) X.xe s₂) X.xe s₁) ?hc PassesOwn.looking).run [] s σ H D (I.toTry _) h0
  case hc =>
    rintro u s' ⟨a, Bs, sI, pins', σ', H', cls, d, rfl, J', nb, up, sky, na, os, ag, want⟩
    have J : Inv X pins σ' H' sI := J'.ofTry ok
    rw [stk] at sky
    show wpAny (model X.prog X.w) X.A (noteFrame (.ref a) X.env) _ _ _
    refine Sky.land Zc.steady fr0 frm sky fun h3 fl3 up3 => ?_
    have J3 : Inv X pins σ' H' { s' with heap := h3 } := J.landed nb fl3.1 (up.trans up3) os ag
    obtain ⟨oe3, vs3, he3, hz3, hd3⟩ := fl3.there
    have away : a ∉ frs (X.env :: X.outer) := fun hm => by
      obtain ⟨_, o', e', nf⟩ := fl3.2.2.1.mem hm
      cases he3.symm.trans e'
      exact nf _ hd3
    have nL : a ≠ X.env.locals := fun z => away (List.mem_filterMap.mpr ⟨X.env, List.mem_cons_self, by rw [frm, z]⟩)
    have nF : a ∉ X.fs := fun hm => by
      obtain ⟨e, he, q⟩ := List.mem_filterMap.mp hm
      exact away (List.mem_filterMap.mpr ⟨e, List.mem_cons_of_mem _ he, q⟩)
    have S3 := J3.suite he3 hd3 na nL nF
    have turn : ∀ {bc : Bool} {hs : List ExceptHandler} {m : List (Value × (Addr → Value → Option Addr → TS))}, HdsAs X n bc hs m → wMA X.K (cutW bc Wo) D i m cls d σ' H' → wpAny (model X.prog X.w) X.A (handleBy (.ref a) X.env hs) (SP X pins D) X.xe { s' with heap := h3 } := by
      intro bc hs m hm
      induction hm with
      | cut => exact fun want => (show False from want).elim
      | nil =>
        intro want
        have want : Wo cls d σ' H' := want
        refine wpAny_handleBy_nil ?_
        obtain ⟨_, _, _, oe, vs, T, oT, ts', he, _, hdt, h1, _⟩ := id fl3
        have last : wpAny (model X.prog X.w) X.A (setFlight (.ref a) X.env.frame) (fun _ s4 => wpAny (model X.prog X.w) X.A (throw (.ref a) : Sem Flow) (SP X pins D) X.xe s4) X.xe { s' with heap := h3 } := by
          rw [frm]
          exact HandSPX.setFlight_upZ fl3 fun h4 hh4 up4 => wpAny_throw (tk _ _ ⟨a, Bs, sI, pins, σ', H', cls, d, rfl, J, nb, (up.trans up3).trans up4, .inr (.inr (by rw [stk]; exact hh4)), na, os, ag, want⟩)
        unfold PySem.passOn
        refine wpAny_bind (wpAny_field he hdt h1 ?_)
        rw [if_neg (show ¬ ((Value.ref T == Value.none) = true) from by simp)]
        first | exact wpAny_bind (wpAny_pure (wpAny_bind last)) | exact wpAny_bind last
      | @cons bb x c ts b₀ su p1 p2 hs2 m2 hc hsu hr ih =>
        rintro ⟨b, hb1, yes, no⟩
        have look : PySem.W.Looks (model X.prog X.w) h3 (typeOf (.ref a)) cls := fun A Q E s k q => wpAny_typeOf_ref (k _ _ he3) (by rw [hz3.1]; exact q)
        have named : ∀ {Q E : Value → Shared → Prop}, Q c { s' with heap := h3 } → wpAny (model X.prog X.w) (X.A.mark (some (.ref a))) (eval (.Name x p1) X.env) Q E { s' with heap := h3 } := fun {Q E} q => by
          obtain ⟨hg, hdb, hm | ⟨hm, hv, hnn⟩⟩ := hc
          · exact ld_glob (X := X.suite a ((a, oe3) :: (X.pn ++ pins))) S3 hg hm q hdb
          · exact ld_blt (X := X.suite a ((a, oe3) :: (X.pn ++ pins))) S3 hg hm hv q hnn hdb
        refine wpAny_handleBy_cons (codeAny_handlers_test (named ((PySem.W.exm_one (M := model X.prog X.w) J3.kIn look hb1).here ?_))) (by intro q; cases q)
        cases b with
        | false => exact ih (no rfl)
        | true =>
          refine codeAny_handlers_suite_as (HandSPX.lands_againZ fl3 fun h4 fl4 up4 => ?_)
          have J4 : Inv X pins σ' H' { s' with heap := h4 } := J.landed nb fl4.1 ((up.trans up3).trans up4) os ag
          obtain ⟨oe4, vs4, he4, hz4, hd4⟩ := fl4.there
          refine store_ok (X := X.suite a ((a, oe4) :: (X.pn ++ pins))) (v := .ref a) (J4.suite he4 hd4 na nL nF) nd hi (.inl lcl) rfl (fun s5 S5 => ?_) (.inr lcl)
          refine wpAny_mono ((hsu a oe4 cls d (X.pn ++ pins) hz4 ⟨_, hd4⟩).run [] s5 _ H' _ S5 (yes rfl a na)) (fun f s6 hsp => ?_) (fun _ _ z => False.elim z)
          have gone : ∀ {σ6 : L2.St} {H6 : Hp} {Q : Shared → Prop}, Inv (X.suite a ((a, oe4) :: (X.pn ++ pins))) [] σ6 H6 s6 → (∀ s7, Inv X pins (σ6.set i none) H6 s7 → Q s7) → wpAny (model X.prog X.w) X.A (do bindName X.env n .none; unbindBehindTheSuite X.env n p2) (fun _ s7 => Q s7) X.xe s6 := fun S6 hq => gone_ok (S6.unsuite ok) nd hi lcl hq
          cases f with
          | next => obtain ⟨_, _, S6, q6⟩ := hsp; exact gone S6 fun s7 J7 => ⟨_, _, J7, q6⟩
          | brk => obtain ⟨_, _, S6, q6⟩ := hsp; exact gone S6 fun s7 J7 => ⟨_, _, J7, q6⟩
          | cont => obtain ⟨_, _, S6, q6⟩ := hsp; exact gone S6 fun s7 J7 => ⟨_, _, J7, q6⟩
          | ret u => obtain ⟨_, _, _, S6, r6, q6⟩ := hsp; exact gone S6 fun s7 J7 => ⟨_, _, _, J7, r6, q6⟩
    exact turn hh want
  refine wpAny_mono run (fun f s1 hsp => ?_) (fun e s1 he => he)
  cases f with
  | next => obtain ⟨σ', H', J', q⟩ := hsp; exact wpAny_execs_nil ⟨σ', H', J'.ofTry ok, q⟩
  | brk => obtain ⟨σ', H', J', q⟩ := hsp; exact ⟨σ', H', J'.ofTry ok, q⟩
  | cont => obtain ⟨σ', H', J', q⟩ := hsp; exact ⟨σ', H', J'.ofTry ok, q⟩
  | ret u => obtain ⟨v, σ', H', J', r, q⟩ := hsp; exact ⟨v, σ', H', J'.ofTry ok, r, q⟩
end
/-! ### try -/
inductive Su where
  | con (pv : PV)
  | tld (w at_ : Str)
  | isT (c2 : Nat) (at_ : Str) (j : Nat)
  | stop
def Su.isStop : Su → Bool
  | .stop => true
  | _ => false
def suRun (G : Pg) (c : Nat) (told : PV) (fr : Frame) (S : Store) : Su → RS
  | .con pv => .rt pv S
  | .tld w at_ => if G.ea c = at_ then (match oRepr [told] S with
    | .ok r S1 => .rt (.lst [.str w, r]) S1
    | _ => .fail) else .fail
  | .isT c2 at_ j => if G.ea c = at_ then (match fr[j]? with
    | some (some y) => if isThk y then .fail else if G.sub c c2 then (match oRepr [told] S with
      | .ok r S1 => (match oRepr [y] S1 with
        | .ok r' S2 => (match oEq r r' S2 with
          | .ok b S3 => .rt b S3
          | _ => .fail)
        | _ => .fail)
      | _ => .fail) else .rt (.bl false) S
    | _ => .fail) else .fail
  | .stop => .fail
/-- the clauses, one after the other -/
def clRun (G : Pg) (i c : Nat) (told : PV) (fr : Frame) (S : Store) : List (Nat × Su) → RS
  | [] => .exc c told fr S
  | q :: r => if q.2.isStop = true then .fail else if G.sub c q.1 then (if i < fr.length then suRun G c told fr S q.2 else .fail) else clRun G i c told fr S r
/-- try: body / except X as e: suite / .. -/
def dTryAs (G : Pg) (i : Nat) (cl : List (Nat × Su)) (body : DS) : DS := fun fr S => match body fr S with
  | .exc c told fr' S' => clRun G i c told fr' S' cl
  | r => r
structure GS (B : Base) (G : Pg) (Φ : Nat → Phi) (k : Nat) (P : Pv) (W : WX) (cc : Cc) (X : Cx) : Prop extends GX B G Φ k P W cc X where
  po : PassesOwn (model X.prog X.w) X.A X.env X.xe
  stk : X.stack = X.env :: X.outer
  frm : X.env.frame = some X.env.locals
  kin : X.env.scope.kind = .function
section
variable {B : Base} {G : Pg} {Φ : Nat → Phi} {k : Nat} {W : WX} {cc : Cc} {X : Cx}
theorem GS.tr (g : GS B G Φ k P W cc X) {W' : WX} (pn : List (Addr × Obj)) (xe : Value → Shared → Prop) (tk : Takes (X.tr pn xe) W') (po : PassesOwn (model X.prog X.w) X.A X.env xe) : GS B G Φ k P W' cc (X.tr pn xe) :=
  ⟨⟨g.hK, g.nd, g.room, g.gd, g.calm, tk, g.pf, g.hsc, g.hN, g.hfn, g.thk, g.lam⟩, po, g.stk, g.frm, g.kin⟩
/-- the values of constants -/
def PV.v : PV → V
  | .bl b => .bl b | .int i => .int i | .str x => .str x | _ => .non
/-- isinstance(e, C2), e the exception that the suite holds -/
def rIsX (K : PySem.W.Frag) (C a : Addr) (d : Option Addr) : List V → Hp → VK → Prop := fun xs H Q => ∃ (C2 : Addr) (b : Bool) (dx : Addr) (fs : List (Str × V)), xs = [.ref a, .ref C2] ∧ d = some dx ∧ H dx = some (.xd fs) ∧ PySem.W.kitOne K (.ref C) (.ref C2) = some b ∧ Q (.bl b) H
theorem call_isX {X : Cx} {a C : Addr} {oe : Obj} {d : Option Addr} {pn : List (Addr × Obj)} (T : XfC X.K C) (Y : XiC X.K C) (hz : Zc (.ref C) d oe) (hf : ∃ vs, oe.data = .fields vs) : CallR (X.suite a ((a, oe) :: pn)) (.builtin "isinstance") (rIsX X.K C a d) := by
  rintro pns s σ H xs us Q I r ⟨C2, b, dx, fs, rfl, rfl, hdx, e, q⟩
  obtain ⟨u1, u2, rfl, r1, r2⟩ := vals2 r
  cases (show u1 = Value.ref a from r1)
  cases (show u2 = Value.ref C2 from r2)
  obtain ⟨ha, _⟩ := I.pin (a, oe) (List.mem_append_left _ List.mem_cons_self)
  obtain ⟨vs, hv⟩ := hf
  obtain ⟨mA, hns, hr⟩ := (show ObjOk X.prog X.w H s.heap dx (.xd fs) from I.hok dx _ hdx)
  obtain ⟨od, ho, hl⟩ := lookIn_ns hns
  have J : PySem.W.InstAt s.heap a oe C (some od) := ⟨ha, hz.1, by unfold PySem.W.notCls; rw [hv] <;> rfl, by rw [hz.2]; exact ho⟩
  exact PySem.W.kia_one (PySem.W.kitx_exc (gt := none) Y.cl T.ga T.gg T.exC Y.ha Y.hn Y.ht Y.hm) I.kIn J e (fun z => nomatch z) fun tk => ⟨.bl b, H, I.kept (t' := tk) fun _ _ z => z, rfl, q⟩
def tsSu (B : Base) (i : Nat) : Su → Addr → Value → Option Addr → TS
  | .con pv => fun _ _ _ => tRet (tC pv.v)
  | .tld w at_ => fun a cls d D σ H => ∃ C c, cls = .ref C ∧ B.ec c = some C ∧ B.ea c = at_ ∧ tRet (tLst (tCons (tC (.str w)) (tCons (tCB (rRepr B.K) (tCons (tXf a cls d C at_ (tVar i)) tNil)) tNil))) D σ H
  | .isT c2 at_ j => fun a cls d D σ H => ∃ C c C2, cls = .ref C ∧ B.ec c = some C ∧ B.ec c2 = some C2 ∧ B.ea c = at_ ∧ tRet (tAndT B.K (tCB (rIsX B.K C a d) (tCons (tVar i) (tCons (tC (.ref C2)) tNil))) (tOp (rEqD B.K) (tCB (rRepr B.K) (tCons (tXf a cls d C at_ (tVar i)) tNil)) (tCB (rRepr B.K) (tCons (tVar j) tNil)))) D σ H
  | .stop => fun _ _ _ _ _ _ => False
def excIx (G : Pg) (x : Str) : Option Nat := match G.gl.lookup x with
  | some (.exc c) => some c
  | some (.xb c) => some c
  | _ => none
theorem excIx_ok (g : GS B G Φ k P W cc X) {x : Str} {c : Nat} (h : excIx G x = some c) : ∃ C, B.ec c = some C ∧ X.mg x = some (.ref C) := by
  unfold excIx at h
  split at h
  · cases h; exact g.pf.xb _ c (.inl (by assumption))
  · cases h; exact g.pf.xb _ c (.inr (by assumption))
  · cases h
def cmpSu (G : Pg) (cc : Cc) (n : Str) (body : List Stmt) : Option Su := match body with
  | [.Return (some (.Constant .none _ _)) _] => some (.con .non)
  | [.Return (some (.Constant (.bool b) _ _)) _] => some (.con (.bl b))
  | [.Return (some (.Constant (.str x) _ _)) _] => some (.con (.str x))
  | [.Return (some (.List [.Constant (.str w) _ _, .Call (.Name r _) [.Attribute (.Name e _) at_ _] [] _] _)) _] => if decide (r = "repr") && decide (e = n) && glbFree G cc "repr" && noDbg n then some (.tld w at_) else none
  | [.Return (some (.BoolOp .And [.Call (.Name f _) [.Name e _, .Name x _] [] _, .Compare (.Call (.Name r _) [.Attribute (.Name e' _) at_ _] [] _) [.Eq] [.Call (.Name r' _) [.Name y _] [] _] _] _)) _] =>
    if decide (f = "isinstance") && decide (r = "repr") && decide (r' = "repr") && decide (e = n) && decide (e' = n) && glbFree G cc "repr" && glbFree G cc "isinstance" && noDbg n && noDbg x && isGlb cc.sc x && noDbg y && isVis cc.sc y && decide (y ≠ n) then (match excIx G x, slotOf y cc.N with
    | some c2, some j => some (.isT c2 at_ j)
    | _, _ => none) else none
  | _ => none
theorem repr_in : ("repr" : Str) ∈ bnames := by decide +kernel
theorem isi_in : ("isinstance" : Str) ∈ bnames := by decide +kernel
theorem su_ok (g : GS B G Φ k P W cc X) {n : Str} {i : Nat} {body : List Stmt} {su : Su} (h : cmpSu G cc n body = some su) (hi : X.N[i]? = some n) (hn : X.env.scope.names.lookup n = some .local) (a : Addr) (oe : Obj) (cls : Value) (d : Option Addr) (pn : List (Addr × Obj)) (hz : Zc cls d oe) (hf : ∃ vs, oe.data = .fields vs) :
    PSs (X.suite a ((a, oe) :: pn)) body (tsSu B i su a cls d) := by
  unfold cmpSu at h
  split at h
  · cases h; exact pss_one (ps_ret pe_non)
  · cases h; exact pss_one (ps_ret pe_bl)
  · cases h; exact pss_one (ps_ret pe_str)
  · split at h
    · rename_i w p1 p2 r p3 e p4 at_ p5 p6 p7 p8 hc
      cases h
      simp only [Bool.and_eq_true, decide_eq_true_eq] at hc
      obtain ⟨⟨⟨rfl, rfl⟩, h3⟩, h4⟩ := hc
      obtain ⟨d1, d2⟩ := noDbg_ok h4
      obtain ⟨q1, q2⟩ := glbFree_ok g.toGX repr_in h3
      refine ⟨fun pins s σ H D I hh => ?_⟩
      obtain ⟨C, c, hcls, hC, hat, hh⟩ := hh
      obtain ⟨xf, hno⟩ := g.pf.xf c C hC
      rw [← g.hK] at xf hno
      rw [hat] at hno
      rw [← g.hK] at hh
      have pv : PE (X.suite a ((a, oe) :: pn)) (.Name e p4) (tVar i) := pe_var hi (.inl hn) d1 d2
      have px := pe_xf (pos := p5) xf hno hz hf pv
      have pc : PE (X.suite a ((a, oe) :: pn)) (.Call (.Name "repr" p3) [.Attribute (.Name e p4) at_ p5] [] p6) _ := pe_callV (b := .repr) (call_reprA g.gd g.units) q1 q2 (pa_cons px pa_nil) rfl rfl
      exact (pss_one (ps_ret (pe_lst (pa_cons pe_str (pa_cons pc pa_nil))))).run pins s σ H D I hh
    · cases h
  · split at h
    · rename_i f p1 e p2 x p3 p4 r p5 e' p6 at_ p7 p8 r' p9 y p10 p11 p12 p13 p14 hc
      split at h
      · rename_i c2 j hx hy
        cases h
        simp only [Bool.and_eq_true, decide_eq_true_eq] at hc
        obtain ⟨⟨⟨⟨⟨⟨⟨⟨⟨⟨⟨⟨rfl, rfl⟩, rfl⟩, rfl⟩, rfl⟩, h3⟩, h3'⟩, h4⟩, h5⟩, h6⟩, h7⟩, h8⟩, h9⟩ := hc
        obtain ⟨d1, d2⟩ := noDbg_ok h4
        obtain ⟨q1, q2⟩ := glbFree_ok g.toGX repr_in h3
        obtain ⟨q3, q4⟩ := glbFree_ok g.toGX isi_in h3'
        obtain ⟨C2', hc2, hm2⟩ := excIx_ok g hx
        refine ⟨fun pins s σ H D I hh => ?_⟩
        obtain ⟨C, c, C2, hcls, hC, hC2, hat, hh⟩ := hh
        rw [hc2] at hC2
        cases hC2
        subst hcls
        obtain ⟨xf, hno⟩ := g.pf.xf c C hC
        have xi := g.pf.xi c C hC
        rw [← g.hK] at xf hno xi
        rw [hat] at hno
        rw [← g.hK] at hh
        have pv : ∀ p, PE (X.suite a ((a, oe) :: pn)) (.Name e' p) (tVar i) := fun p => pe_var hi (.inl hn) d1 d2
        have py : PE (X.suite a ((a, oe) :: pn)) (.Name y p10) (tVar j) := pe_var (by show X.N[j]? = _; rw [g.hN]; exact slotOf_ok hy) (by show Vis X.env.scope y; rw [g.hsc]; exact isVis_ok h8) (noDbg_ok h7).1 (noDbg_ok h7).2
        have px := pe_xf (pos := p7) xf hno hz hf (pv p6)
        have pc : PE (X.suite a ((a, oe) :: pn)) (.Call (.Name "repr" p5) [.Attribute (.Name e' p6) at_ p7] [] p8) _ := pe_callV (b := .repr) (call_reprA g.gd g.units) q1 q2 (pa_cons px pa_nil) rfl rfl
        have pd : PE (X.suite a ((a, oe) :: pn)) (.Call (.Name "repr" p9) [.Name y p10] [] p11) _ := pe_callV (b := .repr) (call_reprA g.gd g.units) q1 q2 (pa_cons py pa_nil) rfl rfl
        have pg : PE (X.suite a ((a, oe) :: pn)) (.Name x p3) (tC (.ref C2')) := pe_glob (g.gl h6) hm2 rfl (noDbg_ok h5).1
        have pi : PE (X.suite a ((a, oe) :: pn)) (.Call (.Name "isinstance" p1) [.Name e' p2, .Name x p3] [] p4) _ := pe_callV (b := .isinstance) (call_isX xf xi hz hf) q3 q4 (pa_cons (pv p2) (pa_cons pg pa_nil)) rfl rfl
        have pq := pe_cmpR (pos := p12) (op_eqD (X := X.suite a ((a, oe) :: pn)) (by have := g.units; show X.A.units + 64 < cLine; omega)) pc pd rfl
        exact (pss_one (ps_ret (pe_andT pi (pe_one pq)))).run pins s σ H D I hh
      · cases h
    · cases h
  · cases h
theorem con_rel {n : Str} {body : List Stmt} {pv : PV} (h : cmpSu G cc n body = some (.con pv)) : ∀ μ M H, Rp B μ M H pv pv.v := by
  unfold cmpSu at h
  split at h
  · cases h; exact fun _ _ _ => .non
  · cases h; exact fun _ _ _ => .bl _
  · cases h; exact fun _ _ _ => .str _
  · split at h
    · cases h
    · cases h
  · split at h
    · split at h <;> cases h
    · cases h
  · cases h
theorem isT_ok (g : GS B G Φ k P W cc X) {n : Str} {i : Nat} {body : List Stmt} {c2 : Nat} {at_ : Str} {j : Nat} (h : cmpSu G cc n body = some (.isT c2 at_ j)) (hi : X.N[i]? = some n) : (∃ C2, B.ec c2 = some C2 ∧ j ≠ i) := by
  unfold cmpSu at h
  split at h
  · cases h
  · cases h
  · cases h
  · split at h <;> cases h
  · split at h
    · rename_i hc
      split at h
      · rename_i c2' j' hx hy
        cases h
        simp only [Bool.and_eq_true, decide_eq_true_eq] at hc
        obtain ⟨C2, hc2, _⟩ := excIx_ok g hx
        refine ⟨C2, hc2, fun z => ?_⟩
        subst z
        have := slotOf_ok hy
        rw [← g.hN, hi] at this
        exact hc.2 (Option.some.inj this).symm
      · cases h
    · cases h
  · cases h
def cmpH1 (G : Pg) (cc : Cc) (n : Str) : ExceptHandler → Option (Nat × Su)
  | .ExceptHandler (some (.Name x _)) (some n') (b₀ :: suite) _ => if noDbg x && isGlb cc.sc x && decide (n' = n) then (match excIx G x, cmpSu G cc n (b₀ :: suite) with
    | some c, some su => if su.isStop then none else some (c, su)
    | _, _ => none) else none
  | _ => none
/-- the clauses up to the first that is not taken: what comes there fails -/
def cmpHs (G : Pg) (cc : Cc) (n : Str) : List ExceptHandler → Option (List (Nat × Su))
  | [] => some []
  | hd :: r => (match cmpH1 G cc n hd with
    | some q => (match cmpHs G cc n r with
      | some l => some (q :: l)
      | none => none)
    | none => some [(0, .stop)])
theorem cl_of (g : GS B G Φ k P W cc X) {n : Str} {i : Nat} (hi : X.N[i]? = some n) (hn : X.env.scope.names.lookup n = some .local) : ∀ (hds : List ExceptHandler) (cl : List (Nat × Su)), cmpHs G cc n hds = some cl → ∃ bc l, HdsAs X n bc hds l ∧
    ∀ {D : Ends} {c : Nat} {told : PV} {fr' : Frame} {S' : Store} {μ : List Addr} {S : Store} {H : Hp} {μ' : List Addr} {H' : Hp} {σ' : L2.St} {C dx : Addr} {v : V}, GoS B P W (clRun G i c told fr' S' cl) μ S H D → Ex μ S H μ' S' H' → SR B P μ' S' H' → FR B μ' (Mz P μ' S') H' fr' σ' → B.ec c = some C → H' dx = some (.xd [(B.ea c, v)]) → Rp B μ' (Mz P μ' S') H' told v → wMA B.K (cutW bc W) D i l (.ref C) (some dx) σ' H'
  | [], cl, h => by
    cases h
    exact ⟨false, [], .nil, fun gg ex sr' hf' hC hdx r => gg _ _ _ _ _ _ ex sr' hf' hC hdx r⟩
  | hd :: hds, cl, h => by
    unfold cmpHs at h
    split at h
    · rename_i q hq
      split at h
      · rename_i l0 h3
        cases h
        unfold cmpH1 at hq
        split at hq
        · rename_i x np n' b₀ suite pos'
          split at hq
          · rename_i hc0
            simp only [Bool.and_eq_true, decide_eq_true_eq] at hc0
            obtain ⟨⟨c1, c2⟩, rfl⟩ := hc0
            split at hq
            · rename_i c' su h1 hs
              split at hq
              · cases hq
              · rename_i hst
                cases hq
                obtain ⟨C', hc', e2⟩ := excIx_ok g h1
                obtain ⟨bc, l, hl, ih⟩ := cl_of g hi hn hds l0 h3
                refine ⟨bc, (.ref C', tsSu B i su) :: l, .cons ⟨g.gl c2, (noDbg_ok c1).1, .inl e2⟩ (fun a oe cls d pn => su_ok g hs hi hn a oe cls d pn) hl, fun {D c told fr' S' μ S H μ' H' σ' C dx v} gg ex sr' hf' hC hdx r => ?_⟩
                have gg : GoS B P W (if su.isStop = true then .fail else if G.sub c c' = true then (if i < fr'.length then suRun G c told fr' S' su else .fail) else clRun G i c told fr' S' l0) μ S H D := gg
                rw [if_neg hst] at gg
                refine ⟨G.sub c c', g.pf.sub c C c' C' hC hc', fun hb a ha => ?_, fun hb => ?_⟩
                · rw [if_pos hb] at gg
                  split at gg
                  rotate_left 1
                  · exact gg.elim
                  rename_i hil
                  have gg := gg.after ex
                  cases su with
                  | stop => exact gg.elim
                  | con pv =>
                    exact gg μ' H' pv.v .refl sr' (con_rel hs _ _ _)
                  | isT c2 at_ j =>
                    obtain ⟨C2, hC2, hji⟩ := isT_ok g hs hi
                    unfold suRun at gg
                    dsimp only at gg
                    split at gg
                    · rename_i hea
                      refine ⟨C, c, C2, rfl, hC, hC2, by rw [g.pf.ea]; exact hea, ?_⟩
                      have hset : (σ'.set i (some (V.ref a)))[i]? = some (some (V.ref a)) := by rw [List.getElem?_set_self (by rw [← hf'.1]; exact hil)]
                      split at gg
                      · rename_i y hy
                        split at gg
                        · exact gg.elim
                        · rename_i nt
                          obtain ⟨vy, hv1, hv2⟩ := hf'.get hy (isThk_ne nt)
                          have hget : (σ'.set i (some (V.ref a)))[j]? = some (some vy) := by rw [List.getElem?_set_ne (Ne.symm hji)]; exact hv1
                          show tAndT _ _ _ _ _ _
                          refine ⟨.ref a, hset, C2, G.sub c c2, dx, [(B.ea c, v)], rfl, rfl, hdx, g.pf.kit c C c2 C2 hC hC2, G.sub c c2, rfl, ?_⟩
                          split at gg
                          · rename_i hsb
                            rw [if_pos hsb]
                            cases hr : oRepr [told] S' with
                            | ok rp S1 =>
                              rw [hr] at gg
                              dsimp only at gg
                              refine ⟨.ref a, hset, rfl, rfl, dx, [(B.ea c, v)], v, rfl, hdx, by rw [g.pf.ea, hea]; simp [List.lookup_cons], ?_⟩
                              have hg : Go B P (RelP B) W [] (oRepr [told] S') μ' S' H' (fun z H1 => ∃ μ1, Ex μ' S' H' μ1 S1 H1 ∧ SR B P μ1 S1 H1 ∧ Rp B μ1 (Mz P μ1 S1) H1 rp z) := by
                                rw [hr]
                                exact fun μ1 H1 z x1 s1 r1 => ⟨μ1, x1, s1, r1⟩
                              show rRepr B.K [v] H' (fun x H1 => tCB (rRepr B.K) (tCons (tVar j) tNil) (σ'.set i (some (V.ref a))) H1 fun y H2 => rEqD B.K x y H2 D.rt)
                              refine sv_repr P W [] μ' S' H' [told] [v] _ sr' (.cons r .nil) (hg.imp ?_)
                              rintro z1 H1 ⟨μ1, x1, s1, r1⟩
                              have gg := gg.after x1
                              cases hr2 : oRepr [y] S1 with
                              | ok rp2 S2 =>
                                rw [hr2] at gg
                                dsimp only at gg
                                have hg2 : Go B P (RelP B) W [] (oRepr [y] S1) μ1 S1 H1 (fun z H2 => ∃ μ2, Ex μ1 S1 H1 μ2 S2 H2 ∧ SR B P μ2 S2 H2 ∧ Rp B μ2 (Mz P μ2 S2) H2 rp2 z) := by
                                  rw [hr2]
                                  exact fun μ2 H2 z x2 s2 r2 => ⟨μ2, x2, s2, r2⟩
                                refine ⟨vy, hget, ?_⟩
                                show rRepr B.K [vy] H1 (fun y H2 => rEqD B.K z1 y H2 D.rt)
                                refine sv_repr P W [] μ1 S1 H1 [y] [vy] _ s1 (.cons (hv2.mono sr' x1) .nil) (hg2.imp ?_)
                                rintro z2 H2 ⟨μ2, x2, s2, r2⟩
                                have gg := gg.after x2
                                refine sv_eq P W [] μ2 S2 H2 rp rp2 z1 z2 _ s2 (r1.mono s1 x2) r2 ?_
                                cases hr3 : oEq rp rp2 S2 with
                                | ok b S3 =>
                                  rw [hr3] at gg
                                  exact fun μ3 H3 z x3 s3 r3 => gg μ3 H3 z x3 s3 r3
                                | exc _ _ _ => rw [hr3] at gg; exact gg.elim
                                | fail => rw [hr3] at gg; exact gg.elim
                              | exc _ _ _ => rw [hr2] at gg; exact gg.elim
                              | fail => rw [hr2] at gg; exact gg.elim
                            | exc _ _ _ => rw [hr] at gg; exact gg.elim
                            | fail => rw [hr] at gg; exact gg.elim
                          · rename_i hsb
                            rw [if_neg hsb]
                            have e0 : G.sub c c2 = false := by simpa using hsb
                            rw [e0]
                            exact gg μ' H' (.bl false) .refl sr' (.bl false)
                      · exact gg.elim
                    · exact gg.elim
                  | tld w at_ =>
                    unfold suRun at gg
                    dsimp only at gg
                    split at gg
                    · rename_i hea
                      refine ⟨C, c, rfl, hC, by rw [g.pf.ea]; exact hea, ?_⟩
                      cases hr : oRepr [told] S' with
                      | ok rp S1 =>
                        rw [hr] at gg
                        show tLst _ _ _ _
                        refine ⟨.ref a, ?_, rfl, rfl, dx, [(B.ea c, v)], v, rfl, hdx, ?_, ?_⟩
                        · rw [List.getElem?_set_self (by rw [← hf'.1]; exact hil)]
                        · rw [g.pf.ea, hea]; simp [List.lookup_cons]
                        · show rRepr B.K [v] H' (fun y H1 => [V.str w, y].length ≤ sizeLine ∧ ∀ p, H1 p = none → D.rt (.ref p) (upd H1 p (.lst [.str w, y])))
                          have hg : Go B P (RelP B) W [] (oRepr [told] S') μ' S' H' (fun y H1 => ∃ μ1 S1, Ex μ' S' H' μ1 S1 H1 ∧ SR B P μ1 S1 H1 ∧ Rp B μ1 (Mz P μ1 S1) H1 rp y ∧ GoS B P W (.rt (.lst [.str w, rp]) S1) μ1 S1 H1 D) := by
                            rw [hr]
                            exact fun μ1 H1 y x1 s1 r1 => ⟨μ1, S1, x1, s1, r1, gg.after x1⟩
                          refine sv_repr P W [] μ' S' H' [told] [v] _ sr' (.cons r .nil) (hg.imp ?_)
                          rintro y H1 ⟨μ1, S2, x1, s1, r1, g1⟩
                          refine ⟨by show 2 ≤ sizeLine; rw [sizeLine_eq]; omega, fun p hp => ?_⟩
                          exact g1 μ1 _ (.ref p) (ex_ext (ext_new hp)) (s1.ext (ext_new hp)) (.lst upd_same (s1.notMz hp) ((RpL.cons (.str w) (.cons r1 .nil)).mono s1 (ex_ext (ext_new hp))))
                      | exc _ _ _ => rw [hr] at gg; exact gg.elim
                      | fail => rw [hr] at gg; exact gg.elim
                    · exact gg.elim
                · rw [if_neg (by simp [hb])] at gg
                  exact ih gg ex sr' hf' hC hdx r
            · cases hq
          · cases hq
        · cases hq
      · cases h
    · cases h
      exact ⟨true, [], .cut, fun gg ex sr' hf' hC hdx r => (show False from gg).elim⟩
theorem tTryAs_of {bc : Bool} {i : Nat} {cl : List (Nat × Su)} {l : List (Value × (Addr → Value → Option Addr → TS))} {body : DS} (hl : ∀ {D : Ends} {c : Nat} {told : PV} {fr' : Frame} {S' : Store} {μ : List Addr} {S : Store} {H : Hp} {μ' : List Addr} {H' : Hp} {σ' : L2.St} {C dx : Addr} {v : V}, GoS B P W (clRun G i c told fr' S' cl) μ S H D → Ex μ S H μ' S' H' → SR B P μ' S' H' → FR B μ' (Mz P μ' S') H' fr' σ' → B.ec c = some C → H' dx = some (.xd [(B.ea c, v)]) → Rp B μ' (Mz P μ' S') H' told v → wMA B.K (cutW bc W) D i l (.ref C) (some dx) σ' H') :
    ∀ D σ H, tS B P W (dTryAs G i cl body) D σ H → tS B P (wMA B.K (cutW bc W) D i l) body D σ H := by
  rintro D σ H ⟨fr, μ, S, hf, sr, gg⟩
  refine ⟨fr, μ, S, hf, sr, ?_⟩
  unfold dTryAs at gg
  cases q : body fr S with
  | nx fr' S' => rw [q] at gg; exact gg
  | rt v S' => rw [q] at gg; exact gg
  | bk fr' S' => rw [q] at gg; exact gg
  | ct fr' S' => rw [q] at gg; exact gg
  | fail => rw [q] at gg; exact gg
  | exc c told fr' S' =>
    rw [q] at gg
    exact fun μ' H' σ' C dx v ex sr' hf' hC hdx r => hl gg ex sr' hf' hC hdx r
end
end E2
end
section
set_option Elab.async false
set_option linter.all false
set_option maxRecDepth 100000
set_option maxHeartbeats 4000000
set_option autoImplicit false
namespace E2
open PySem PySem.Spec PyProof.Rows L2
variable {P P' : Pv}
/-! ### which stores are turned round -/
def swapNm (sc : Scope) (ts vs : List Expr) : Option (Option (List Str)) :=
  if !(ts.length == 2 || ts.length == 3) || vs.length != ts.length then some none else
  if vs.any fun | .Starred .. => true | _ => false then some none else
  let line := (ts.head?.map (·.pos.line)).getD 0
  let names := ts.filterMap fun
    | .Name id pos => if sc.names.lookup id == some .local && pos.line == line then some id else none
    | _ => none
  if names.length != ts.length || names.eraseDups.length != names.length then some none else
  if vs.all (foldedForSure 8) then some none else
  if vs.all (constantsAlone 8) then none else
  some (some names)
theorem swapNm_ok {env : Env} {ts vs : List Expr} {a b c d} {r : Option (List Str)} (hk : env.scope.kind = .function) (h : swapNm env.scope ts vs = some r) : swappedStores [.Tuple ts a b] (.Tuple vs c d) env = pure r := by
  have hb : env.blockKind = .function := by unfold Env.blockKind; rw [hk]; rfl
  have hb2 : (env.blockKind != .function) = false := by rw [hb]; rfl
  unfold swappedStores
  unfold swapNm at h
  simp only [hb2, Bool.or_false]
  split at h
  · rename_i h1
    cases h
    rw [if_pos h1]
  · rename_i h1
    rw [if_neg h1]
    split at h
    · rename_i h2
      cases h
      exact if_pos h2
    · rename_i h2
      refine (if_neg h2).trans ?_
      dsimp only at h
      split at h
      · rename_i h3
        cases h
        exact if_pos h3
      · rename_i h3
        split at h
        · rename_i h4
          cases h
          refine (if_neg h3).trans ?_
          exact if_pos h4
        · rename_i h4
          split at h
          · cases h
          · rename_i h5
            cases h
            refine (if_neg h3).trans ?_
            refine (if_neg h4).trans ?_
            exact if_neg h5
def isTupE : Expr → Bool
  | .Tuple _ _ _ => true
  | _ => false
theorem swapped_none {env : Env} {ts : List Expr} {a b} {e : Expr} (h : isTupE e = false) : swappedStores [.Tuple ts a b] e env = pure none := by
  cases e <;> first | rfl | cases h
theorem swaps_tup {env : Env} {ts : List Expr} {a b} {e : Expr} {l : Nat} : swapsWithSole [.Tuple ts a b] e l env = pure false := by
  cases e <;> rfl
theorem swaps_sub {env : Env} {o i : Expr} {b} {e : Expr} {l : Nat} : swapsWithSole [.Subscript o i b] e l env = pure false := by
  cases e <;> rfl
def swLc (sc : Scope) (y : Str) (py pos : Pos) (scope : Scope) : Bool := (sc.names.lookup y == some .local) && (py.line == pos.line) && !(scope.names.any fun (n, k) => n == y && (k == .local || k == .cell))
theorem swLc_ok {elt : Expr} {gs : List Comprehension} {scope : Scope} {pos py : Pos} {y : Str} {l : Nat} {env : Env} (hk : env.scope.kind = .function) : swapsWith (.ListComp elt gs scope pos) (some (.Name y py)) l env = pure (swLc env.scope y py pos scope) := by
  have hb : env.blockKind = .function := by unfold Env.blockKind; rw [hk]; rfl
  unfold swapsWith
  simp only [hb]
  rfl
theorem swDc_ok {kx vx : Expr} {gs : List Comprehension} {scope : Scope} {pos py : Pos} {y : Str} {l : Nat} {env : Env} (hk : env.scope.kind = .function) : swapsWith (.DictComp kx vx gs scope pos) (some (.Name y py)) l env = pure (swLc env.scope y py pos scope) := by
  have hb : env.blockKind = .function := by unfold Env.blockKind; rw [hk]; rfl
  unfold swapsWith
  simp only [hb]
  rfl
/-- a dict by comprehension given to a local name, on one line -/
theorem ps_setDc {X : Cx} {i : Nat} {y : Str} {py : Pos} {kx vx tg iter : Expr} {ifs : List Expr} {scope : Scope} {own : List (Str × Nat)} {pos spos : Pos} {wi : TI} {g : TG} {tt : TT} {tk tv : TE} (hc : X.calm = true) (hN : X.N.Nodup) (hy : X.N[i]? = some y) (hyl : X.env.scope.names.lookup y = some .local)
    (hsw : swapsWith (.DictComp kx vx [⟨tg, iter, ifs, 0⟩] scope pos) (some (.Name y py)) spos.line X.env = pure true) (hi : PI X tg iter wi) (ok : BlkOk X.N X.env.scope scope own)
    (hg : ∀ s H C cl fp, PG (X.blk s H scope (compEnvC scope cl C X.env) fp) tg g) (ht : ∀ s H C cl fp, PTs (X.blk s H scope (compEnvC scope cl C X.env) fp) ifs tt)
    (hk : ∀ s H C cl fp, PE (X.blk s H scope (compEnvC scope cl C X.env) fp) kx tk)
    (he : ∀ s H C cl fp, PE (X.blk s H scope (compEnvC scope cl C X.env) fp) vx tv) (hs : ∀ x, foldedSetIterable iter X.env x = pure x) :
    PS X (.Assign [.Name y py] (.DictComp kx vx [⟨tg, iter, ifs, 0⟩] scope pos) spos) (tAsg (tDc wi g tt tk tv (own.map (·.2))) (gName i)) := by
  refine ⟨fun pins s σ H D I h => ?_⟩
  rw [exec_Assign_Name_used _ _ _ _ hsw]
  refine wpAny_bind (wpAny_standAt (wpAny_bind ?_))
  show wpAny _ X.A (do let _ ← comprehension (.DictComp kx vx [⟨tg, iter, ifs, 0⟩] scope pos) scope X.env (firstIterPos [⟨tg, iter, ifs, 0⟩] pos) newDict false (eval iter X.env) (some (assign (.Name y py) X.env))) _ _ s
  have h' : tDc wi g tt tk tv (own.map (·.2)) σ H (fun x H1 => gName i x σ H1 D.nx) := h
  refine wpAny_bind (thn (dc_core (Qf := fun _ s2 => SP X pins D .next s2) hc hN I hi ok hg ht hk he hs h' fun L C s2 m H2 I2 q hn f => ?_) fun _ s2 hq => wpAny_pure (wpAny_pure hq))
  show wpAny _ _ (assign (.Name y py) X.env (.ref L)) _ _ _
  obtain ⟨f0, f1, f2, f3, f4, f5⟩ := f
  refine wpAny_assign_Name (store_ok2 (v := V.ref L) I2 hN hy (.inl hyl) rfl (fun s3 I3 ⟨a, sb, ha⟩ => ?_) (.inr hyl))
  have haC : C ≠ a := ha.elim (fun z => by rw [z]; exact f1) fun z e => f4 y a z e.symm
  exact ⟨m, hn.sameBut sb haC, fun h3 sb3 => ⟨_, H2, I3.turned (t' := s3.toks) (fun b o hb e => (sb3.2 b hb).trans e) f0 f1 f3 f4 f5, q⟩⟩
/-- a dict with nested keys by comprehension given to a local name, on one line -/
theorem ps_setDcN {X : Cx} {i : Nat} {y : Str} {py : Pos} {kx vx tg iter : Expr} {ifs : List Expr} {scope : Scope} {own : List (Str × Nat)} {pos spos : Pos} {wi : TI} {g : TG} {tt : TT} {tk tv : TE} (hu : X.A.units + 9 < cLine) (hc : X.calm = true) (hN : X.N.Nodup) (hy : X.N[i]? = some y) (hyl : X.env.scope.names.lookup y = some .local)
    (hsw : swapsWith (.DictComp kx vx [⟨tg, iter, ifs, 0⟩] scope pos) (some (.Name y py)) spos.line X.env = pure true) (hi : PI X tg iter wi) (ok : BlkOk X.N X.env.scope scope own)
    (hg : ∀ s H C cl fp, PG (X.blk s H scope (compEnvC scope cl C X.env) fp) tg g) (ht : ∀ s H C cl fp, PTs (X.blk s H scope (compEnvC scope cl C X.env) fp) ifs tt)
    (hk : ∀ s H C cl fp, PE (X.blk s H scope (compEnvC scope cl C X.env) fp) kx tk)
    (he : ∀ s H C cl fp, PE (X.blk s H scope (compEnvC scope cl C X.env) fp) vx tv) (hs : ∀ x, foldedSetIterable iter X.env x = pure x) :
    PS X (.Assign [.Name y py] (.DictComp kx vx [⟨tg, iter, ifs, 0⟩] scope pos) spos) (tAsg (tDcN X.K wi g tt tk tv (own.map (·.2))) (gName i)) := by
  refine ⟨fun pins s σ H D I h => ?_⟩
  rw [exec_Assign_Name_used _ _ _ _ hsw]
  refine wpAny_bind (wpAny_standAt (wpAny_bind ?_))
  show wpAny _ X.A (do let _ ← comprehension (.DictComp kx vx [⟨tg, iter, ifs, 0⟩] scope pos) scope X.env (firstIterPos [⟨tg, iter, ifs, 0⟩] pos) newDict false (eval iter X.env) (some (assign (.Name y py) X.env))) _ _ s
  have h' : tDcN X.K wi g tt tk tv (own.map (·.2)) σ H (fun x H1 => gName i x σ H1 D.nx) := h
  refine wpAny_bind (thn (dcN_core (Qf := fun _ s2 => SP X pins D .next s2) hu hc hN I hi ok hg ht hk he hs h' fun L C s2 m H2 I2 q hn f => ?_) fun _ s2 hq => wpAny_pure (wpAny_pure hq))
  show wpAny _ _ (assign (.Name y py) X.env (.ref L)) _ _ _
  obtain ⟨f0, f1, f2, f3, f4, f5⟩ := f
  refine wpAny_assign_Name (store_ok2 (v := V.ref L) I2 hN hy (.inl hyl) rfl (fun s3 I3 ⟨a, sb, ha⟩ => ?_) (.inr hyl))
  have haC : C ≠ a := ha.elim (fun z => by rw [z]; exact f1) fun z e => f4 y a z e.symm
  exact ⟨m, hn.sameBut sb haC, fun h3 sb3 => ⟨_, H2, I3.turned (t' := s3.toks) (fun b o hb e => (sb3.2 b hb).trans e) f0 f1 f3 f4 f5, q⟩⟩
end E2
end
section
set_option Elab.async false
set_option linter.all false
set_option maxRecDepth 100000
set_option maxHeartbeats 4000000
set_option autoImplicit false
namespace E2
open PySem PySem.Spec PyProof.Rows L2
variable {P P' : Pv}
def cmpSs (f : Stmt → Option DS) : List Stmt → Option DS
  | [] => some dNext
  | s :: r => (match f s, cmpSs f r with
    | some a, some b => some (dSeq a b)
    | _, _ => none)
/-- target = value -/
def cmpAsg (G : Pg) (Φ : Nat → Phi) (m k : Nat) (cc : Cc) (tg e : Expr) : Option DS := match tg with
  | .Name y py => (match cmpSlot cc y with
    | some i => (match e with
      | .ListComp elt [⟨tg, iter, ifs, 0⟩] scope pos => (match cmpLc (if G.at_ pos then finR else finV) (cmpE G Φ m k cc) (cmpE G Φ m k) (fun cc => cmpT (cmpE G Φ m k cc) m) G cc elt tg iter ifs scope with
        | some d => some (dAsg (.name i) d)
        | none => none)
      | .ListComp elt [⟨tg, iter, ifs, 0⟩, ⟨tg1, iter1, ifs1, 0⟩] scope pos => (match cmpLc2 (if G.at_ pos then finR else finV) (cmpE G Φ m k cc) (cmpE G Φ m k) (fun cc => cmpT (cmpE G Φ m k cc) m) G cc elt tg iter tg1 iter1 ifs ifs1 scope with
        | some d => some (dAsg (.name i) d)
        | none => none)
      | .DictComp kx vx [⟨tg, iter, ifs, 0⟩] scope pos => if G.at_ pos then (match cmpDcN (cmpE G Φ m k cc) (cmpE G Φ m k) (fun cc => cmpT (cmpE G Φ m k cc) m) G cc kx vx tg iter ifs scope with
        | some d => some (dAsg (.name i) d)
        | none => none) else (match cmpDc (cmpE G Φ m k cc) (cmpE G Φ m k) (fun cc => cmpT (cmpE G Φ m k cc) m) G cc kx vx tg iter ifs scope with
        | some d => some (dAsg (.name i) d)
        | none => none)
      | e => if isComp e then none else (match cmpE G Φ m k cc e with
        | some d => some (dAsg (.name i) d)
        | none => none))
    | none => none)
  | .Tuple ts _ _ => (match e with
    | .Tuple vs _ _ => (match swapNm cc.sc ts vs with
      | some none => (match cmpNames cc ts, cmpA (cmpE G Φ m k cc) vs with
        | some is, some d => some (dAsg (.tup is) (dCallL oTup d))
        | _, _ => none)
      | some (some nms) => (match ts, vs with
        | [.Name x _, .Name y _], [_, _] => (match cmpSlot cc x, cmpSlot cc y, cmpA (cmpE G Φ m k cc) vs with
          | some i, some j, some d => if isLocal cc x && isLocal cc y && decide (i ≠ j) && decide (nms = [x, y]) then some (dPar [i, j] d) else none
          | _, _, _ => none)
        | [.Name x _, .Name y _, .Name z _], [_, _, _] => (match cmpSlot cc x, cmpSlot cc y, cmpSlot cc z, cmpA (cmpE G Φ m k cc) vs with
          | some i, some j, some l, some d => if isLocal cc x && isLocal cc y && isLocal cc z && decide (i ≠ j) && decide (i ≠ l) && decide (j ≠ l) && decide (nms = [x, y, z]) then some (dPar [i, j, l] d) else none
          | _, _, _, _ => none)
        | _, _ => none)
      | none => none)
    | e => if isTupE e then none else (match cmpNames cc ts, cmpE G Φ m k cc e with
      | some is, some d => some (dAsg (.tup is) d)
      | _, _ => none))
  | .Subscript o (.Tuple es tx tp) _ => if isSlc (.Tuple es tx tp) then none else (match cmpE G Φ m k cc o, cmpA (cmpE G Φ m k cc) es, cmpE G Φ m k cc e with
    | some d1, some d2, some d3 => some (dSetTp d1 d2 d3)
    | _, _, _ => none)
  | .Subscript o i _ => if isSlc i then none else (match cmpE G Φ m k cc o, cmpE G Φ m k cc i, cmpE G Φ m k cc e with
    | some d1, some d2, some d3 => some (dSetIx d1 d2 d3)
    | _, _, _ => none)
  | _ => none
where
  isLocal (cc : Cc) (x : Str) : Bool := cc.sc.names.lookup x == some .local
def cmpS (G : Pg) (Φ : Nat → Phi) : Nat → Nat → Cc → Stmt → Option DS
  | 0, _, _, _ => none
  | m + 1, k, cc, st => (match st with
    | .Pass _ => some dNext
    | .Break _ => some dBreak
    | .Continue _ => some dCont
    | .Return none _ => some dRetN
    | .Return (some e) _ => (match cmpE G Φ m k cc e with
      | some d => some (dRet d)
      | none => none)
    | .Expr e _ => if isComp e then none else (match cmpE G Φ m k cc e with
      | some d => some (dDrop d)
      | none => none)
    | .If c a b _ => (match cmpT (cmpE G Φ m k cc) m c, cmpSs (cmpS G Φ m k cc) a, cmpSs (cmpS G Φ m k cc) b with
      | some dc, some da, some db => some (dIf dc da db)
      | _, _, _ => none)
    | .For tg iter body [] _ => if isSet iter then none else (match cmpI (cmpE G Φ m k cc) G cc tg iter, cmpTg cc tg, cmpSs (cmpS G Φ m k cc) body with
      | some di, some t, some d => some (dFor di t d)
      | _, _, _ => none)
    | .While c body [] _ => (match cmpT (cmpE G Φ m k cc) m c, cmpSs (cmpS G Φ m k cc) body with
      | some dc, some d => some (whileGo dc d G.wf)
      | _, _ => none)
    | .Assign [tg] e _ => cmpAsg G Φ m k cc tg e
    | .AugAssign (.Name x _) op e _ => (match cmpSlot cc x, augOp op, cmpE G Φ m k cc e with
      | some i, some o, some d => some (dAug i o d)
      | _, _, _ => none)
    | .Raise (some (.Call (.Name x _) [e] [] _)) none _ => if noDbg x && isGlb cc.sc x && !isStar e && decide (2 ≤ k) then (match G.gl.lookup x, cmpE G Φ m k cc e with
      | some (.exc c), some d => some (dRaise c d)
      | _, _ => none) else none
    | .Try body (.ExceptHandler ty (some n) su ps :: hds) [] [] _ => if (cc.sc.names.lookup n == some .local) then (match slotOf n cc.N, cmpHs G cc n (.ExceptHandler ty (some n) su ps :: hds), cmpSs (cmpS G Φ m k cc) body with
      | some i, some cl, some d => some (dTryAs G i cl d)
      | _, _, _ => none) else none
    | _ => none)
section
variable {B : Base} {G : Pg} {Φ : Nat → Phi} {k : Nat} {W : WX} {cc : Cc} {X : Cx}
theorem cmpSs_ok {f : Stmt → Option DS} (hf : ∀ s d, f s = some d → PS X s (tS B P W d)) : ∀ {ss : List Stmt} {d : DS}, cmpSs f ss = some d → PSs X ss (tS B P W d)
  | [], d, h => by cases h; exact PSs.imp pss_nil tNext_of
  | s :: r, d, h => by
    unfold cmpSs at h
    split at h
    · rename_i a b h1 h2
      cases h
      exact PSs.imp (pss_cons (hf _ _ h1) (cmpSs_ok hf h2)) tSeq_of
    · cases h
theorem assign_sub {o i : Expr} {pos : Pos} {env : Env} (h : isSlc i = false) : ∀ v, assign (.Subscript o i pos) env v = (do
      let ov ← holding [v] (eval o env)
      let iv ← holding [v, ov] (eval i env)
      standAt pos
      holding [v, ov, iv] (setItem ov iv v)
      release [v, ov, iv] []) := by
  intro v
  cases i <;> first | rfl | cases h
theorem cmpAsg_ok {m : Nat} (g : GS B G Φ k P W cc X) {tg e : Expr} {d : DS} {pos : Pos} (h : cmpAsg G Φ m k cc tg e = some d) : PS X (.Assign [tg] e pos) (tS B P W d) := by
  have hf : ∀ e d, cmpE G Φ m k cc e = some d → PE X e (tE B P W d) := fun e d => cmpE_ok m k cc P W X e d g.toGX
  unfold cmpAsg at h
  split at h
  · rename_i y py
    split at h
    · rename_i i hi
      obtain ⟨q1, q2, q3⟩ := cmpSlot_ok (pos := py) g.toGX hi
      split at h
      · rename_i elt tg iter ifs scope lp
        split at h
        · rename_i d1 h1
          cases h
          have hfin : FinOk B (if G.at_ lp = true then finR else finV) := by
            split
            · exact finR_ok
            · exact finV_ok
          obtain ⟨own, di, t, dt, de, c1, c2, c3, c4, c5, c6, c7⟩ := cmpLc_parts g.toGX hf (fun cc P W X e d g => cmpE_ok m k cc P W X e d g) (fun cc P W X e d g => cmpT_ok g (fun e d => cmpE_ok m k cc P W X e d g) m e d) hfin h1
          have hsw := swLc_ok (elt := elt) (gs := [⟨tg, iter, ifs, 0⟩]) (scope := scope) (pos := lp) (py := py) (y := y) (l := pos.line) (env := X.env) g.kin
          cases hb : swLc X.env.scope y py lp scope with
          | true =>
            rw [hb] at hsw
            have hyl : X.env.scope.names.lookup y = some .local := by
              unfold swLc at hb
              simp only [Bool.and_eq_true, beq_iff_eq] at hb
              exact hb.1.1
            refine PS.imp (ps_setLc g.calm g.nd q1 hyl hsw c1 c2 c3 c4 c5 c6) fun D σ H z => ?_
            have z2 := tAsg_of D σ H z
            exact c7 σ H _ z2
          | false =>
            rw [hb] at hsw
            refine PS.imp (ps_set g.nd q1 q2 (PE.imp (pe_lc g.calm g.nd c1 c2 c3 c4 c5 c6) c7) hsw q3) tAsg_of
        · cases h
      · rename_i elt tg iter ifs tg1 iter1 ifs1 scope lp
        split at h
        · rename_i d1 h1
          cases h
          have hfin : FinOk B (if G.at_ lp = true then finR else finV) := by
            split
            · exact finR_ok
            · exact finV_ok
          obtain ⟨own, di, di1, t, t1, dt, dt1, de, c1, c2, cv, c3, c4, d1, d2, d3, c5, c6, d6, c7⟩ := cmpLc2_parts g.toGX hf (fun cc P W X e d g => cmpE_ok m k cc P W X e d g) (fun cc P W X e d g => cmpT_ok g (fun e d => cmpE_ok m k cc P W X e d g) m e d) hfin h1
          have hsw := swLc_ok (elt := elt) (gs := [⟨tg, iter, ifs, 0⟩, ⟨tg1, iter1, ifs1, 0⟩]) (scope := scope) (pos := lp) (py := py) (y := y) (l := pos.line) (env := X.env) g.kin
          cases hb : swLc X.env.scope y py lp scope with
          | true =>
            rw [hb] at hsw
            have hyl : X.env.scope.names.lookup y = some .local := by
              unfold swLc at hb
              simp only [Bool.and_eq_true, beq_iff_eq] at hb
              exact hb.1.1
            refine PS.imp (ps_setLc2 g.calm g.nd q1 hyl hsw c1 c2 cv c3 c4 d1 d2 d3 c5 c6 d6) fun D σ H z => ?_
            have z2 := tAsg_of D σ H z
            exact c7 σ H _ z2
          | false =>
            rw [hb] at hsw
            refine PS.imp (ps_set g.nd q1 q2 (PE.imp (pe_lc2 g.calm g.nd c1 c2 cv c3 c4 d1 d2 d3 c5 c6 d6) c7) hsw q3) tAsg_of
        · cases h
      · rename_i kx vx tg iter ifs scope lp
        split at h
        · split at h
          · rename_i d1 h1
            cases h
            obtain ⟨own, di, t, dt, dk, dv, c1, c2, c3, c4, c5, c5', c6, c7⟩ := cmpDcN_parts g.toGX hf (fun cc P W X e d g => cmpE_ok m k cc P W X e d g) (fun cc P W X e d g => cmpT_ok g (fun e d => cmpE_ok m k cc P W X e d g) m e d) h1
            have hsw := swDc_ok (kx := kx) (vx := vx) (gs := [⟨tg, iter, ifs, 0⟩]) (scope := scope) (pos := lp) (py := py) (y := y) (l := pos.line) (env := X.env) g.kin
            cases hb : swLc X.env.scope y py lp scope with
            | true =>
              rw [hb] at hsw
              have hyl : X.env.scope.names.lookup y = some .local := by
                unfold swLc at hb
                simp only [Bool.and_eq_true, beq_iff_eq] at hb
                exact hb.1.1
              refine PS.imp (ps_setDcN (by have := g.units; omega) g.calm g.nd q1 hyl hsw c1 c2 c3 c4 c5 c5' c6) fun D σ H z => ?_
              have z2 := tAsg_of D σ H z
              exact (show _ from by rw [g.hK]; exact c7 σ H _ z2)
            | false =>
              rw [hb] at hsw
              refine PS.imp (ps_set g.nd q1 q2 (PE.imp (pe_dcN (by have := g.units; omega) g.calm g.nd c1 c2 c3 c4 c5 c5' c6) (by rw [g.hK]; exact c7)) hsw q3) tAsg_of
          · cases h
        · split at h
          · rename_i d1 h1
            cases h
            obtain ⟨own, di, t, dt, dk, dv, c1, c2, c3, c4, c5, c5', c6, c7⟩ := cmpDc_parts g.toGX hf (fun cc P W X e d g => cmpE_ok m k cc P W X e d g) (fun cc P W X e d g => cmpT_ok g (fun e d => cmpE_ok m k cc P W X e d g) m e d) h1
            have hsw := swDc_ok (kx := kx) (vx := vx) (gs := [⟨tg, iter, ifs, 0⟩]) (scope := scope) (pos := lp) (py := py) (y := y) (l := pos.line) (env := X.env) g.kin
            cases hb : swLc X.env.scope y py lp scope with
            | true =>
              rw [hb] at hsw
              have hyl : X.env.scope.names.lookup y = some .local := by
                unfold swLc at hb
                simp only [Bool.and_eq_true, beq_iff_eq] at hb
                exact hb.1.1
              refine PS.imp (ps_setDc g.calm g.nd q1 hyl hsw c1 c2 c3 c4 c5 c5' c6) fun D σ H z => ?_
              have z2 := tAsg_of D σ H z
              exact c7 σ H _ z2
            | false =>
              rw [hb] at hsw
              refine PS.imp (ps_set g.nd q1 q2 (PE.imp (pe_dc g.calm g.nd c1 c2 c3 c4 c5 c5' c6) c7) hsw q3) tAsg_of
          · cases h
      · split at h
        · cases h
        · rename_i hc
          split at h
          · rename_i d1 h1
            cases h
            exact PS.imp (ps_set g.nd q1 q2 (hf _ _ h1) (swaps_plain (by simpa using hc)) q3) tAsg_of
          · cases h
    · cases h
  · rename_i ts tk tp
    split at h
    · rename_i vs vk vp
      split at h
      · rename_i hsn
        rw [← g.hsc] at hsn
        have hw := swapNm_ok (a := tk) (b := tp) (c := vk) (d := vp) g.kin hsn
        split at h
        · rename_i is d1 h1 h2
          cases h
          have pg : PG X (.Tuple ts tk tp) (gOf B.K (.tup is)) := cmpTg_ok g.toGX (by simp only [cmpTg, h1])
          exact PS.imp (ps_asg (PE.imp (pe_tupF (cmpA_ok hf h2).1) tTup_of) pg swaps_tup hw rfl) tAsg_of
        · cases h
      · rename_i nms hsn
        rw [← g.hsc] at hsn
        have hw := swapNm_ok (a := tk) (b := tp) (c := vk) (d := vp) g.kin hsn
        split at h
        · rename_i x px y py a b
          split at h
          · rename_i i j d1 h1 h2 h3
            split at h
            · rename_i hc
              cases h
              simp only [Bool.and_eq_true, decide_eq_true_eq, cmpAsg.isLocal, beq_iff_eq] at hc
              obtain ⟨⟨⟨c1, c2⟩, c3⟩, hn⟩ := hc
              subst hn
              rw [← g.hsc] at c1 c2
              exact PS.imp (ps_par g.calm g.nd (cmpSlot_ok (pos := px) g.toGX h1).1 (cmpSlot_ok (pos := py) g.toGX h2).1 c3 c1 c2 (cmpA_ok hf h3).1 hw swaps_tup) tPar_of
            · cases h
          · cases h
        · rename_i x px y py z pz a b c
          split at h
          · rename_i i j l d1 h1 h2 h3 h4
            split at h
            · rename_i hc
              cases h
              simp only [Bool.and_eq_true, decide_eq_true_eq, cmpAsg.isLocal, beq_iff_eq] at hc
              obtain ⟨⟨⟨⟨⟨⟨c1, c2⟩, c3⟩, c4⟩, c5⟩, c6⟩, hn⟩ := hc
              subst hn
              rw [← g.hsc] at c1 c2 c3
              exact PS.imp (ps_par3 g.calm g.nd (cmpSlot_ok (pos := px) g.toGX h1).1 (cmpSlot_ok (pos := py) g.toGX h2).1 (cmpSlot_ok (pos := pz) g.toGX h3).1 c4 c5 c6 c1 c2 c3 (cmpA_ok hf h4).1 hw swaps_tup) tPar3_of
            · cases h
          · cases h
        · cases h
      · cases h
    · split at h
      · cases h
      · rename_i ht
        split at h
        · rename_i is d1 h1 h2
          cases h
          have pg : PG X (.Tuple ts tk tp) (gOf B.K (.tup is)) := cmpTg_ok g.toGX (by simp only [cmpTg, h1])
          exact PS.imp (ps_asg (hf _ _ h2) pg swaps_tup (swapped_none (by simpa using ht)) rfl) tAsg_of
        · cases h
  · rename_i o es tx tp sp
    split at h
    · cases h
    · rename_i hs
      split at h
      · rename_i d1 d2 d3 h1 h2 h3
        cases h
        exact PS.imp (ps_asg (hf _ _ h3) (pg_sub (hf _ _ h1) (pe_tup (cmpA_ok hf h2).1) (set_any (by have := g.units; omega)) (assign_sub (by simpa using hs))) swaps_sub rfl rfl) (by rw [g.hK]; exact tSetTp_of)
      · cases h
  · rename_i o i sp _
    split at h
    · cases h
    · rename_i hs
      split at h
      · rename_i d1 d2 d3 h1 h2 h3
        cases h
        exact PS.imp (ps_asg (hf _ _ h3) (pg_sub (hf _ _ h1) (hf _ _ h2) (set_any (by have := g.units; omega)) (assign_sub (by simpa using hs))) swaps_sub rfl rfl) (by rw [g.hK]; exact tSetIx_of)
      · cases h
  · cases h
theorem cmpS_ok : ∀ (m : Nat) (W : WX) (X : Cx) (st : Stmt) (d : DS), GS B G Φ k P W cc X → cmpS G Φ m k cc st = some d → PS X st (tS B P W d)
  | 0, _, _, _, _, _, h => by cases h
  | m + 1, W, X, st, d, g, h => by
    have hf : ∀ e d, cmpE G Φ m k cc e = some d → PE X e (tE B P W d) := fun e d => cmpE_ok m k cc P W X e d g.toGX
    have hs : ∀ s d, cmpS G Φ m k cc s = some d → PS X s (tS B P W d) := fun s d => cmpS_ok m W X s d g
    unfold cmpS at h
    split at h
    · cases h; exact PS.imp ps_pass tNext_of
    · cases h; exact PS.imp ps_break tBreak_of
    · cases h; exact PS.imp ps_continue tCont_of
    · cases h; exact PS.imp ps_retN tRetN_of
    · split at h
      · rename_i d1 h1
        cases h
        exact PS.imp (ps_ret (hf _ _ h1)) tRet_of
      · cases h
    · split at h
      · cases h
      · rename_i hc
        split at h
        · rename_i d1 h1
          cases h
          exact PS.imp (ps_expr (hf _ _ h1) (swaps_plain (by simpa using hc))) tDrop_of
        · cases h
    · split at h
      · rename_i dc da db h1 h2 h3
        cases h
        exact PS.imp (ps_if (cmpT_ok g.toGX hf m _ _ h1) (cmpSs_ok hs h2) (cmpSs_ok hs h3)) tIfS_of
      · cases h
    · split at h
      · cases h
      · rename_i hc
        split at h
        · rename_i di t d1 h1 h2 h3
          cases h
          exact PS.imp (ps_for g.po g.calm (cmpI_ok g.toGX hf _ h1) (cmpTg_ok g.toGX h2) (cmpSs_ok hs h3) (folded_plain (by simpa using hc))) tFor_of
        · cases h
    · split at h
      · rename_i dc d1 h1 h2
        cases h
        exact PS.imp (ps_while g.po (cmpT_ok g.toGX hf m _ _ h1) (cmpSs_ok hs h2)) tWhile_of
      · cases h
    · exact cmpAsg_ok g h
    · split at h
      · rename_i i o d1 h1 h2 h3
        cases h
        obtain ⟨q1, q2, q3⟩ := cmpSlot_ok (pos := default) g.toGX h1
        obtain ⟨r, r1, r2⟩ := augOp_ok (B := B) (X := X) h2
        exact PS.imp (ps_aug g.nd q1 q2 (hf _ _ h3) (pip_of r1) q3) (tAug_of r2)
      · cases h
    · split at h
      · rename_i hc
        simp only [Bool.and_eq_true, decide_eq_true_eq] at hc
        obtain ⟨⟨⟨c1, c2⟩, c3⟩, c4⟩ := hc
        split at h
        · rename_i c d1 h1 h2
          cases h
          obtain ⟨C, fI, slf, tld, e1, e2, e3⟩ := g.pf.exc _ c h1
          rw [← g.hK] at e3
          obtain ⟨fd, i1, i2⟩ := ini_ok (w := X.w) (mg := X.mg) (base := X.base) (CX := fun _ _ _ _ _ _ => False) (k := 0) e3 g.pf.sup
          have hst := starEach_cons (env := X.env) (es := []) (e := _) (show isStar _ = false by simpa using c3)
          have pa : PA X [_] (tA B P W (dCons d1 dNil)) := PA.imp (pa_cons (hf _ _ h2) (PA.imp pa_nil tNil_of) hst) tCons_of
          exact PS.imp (ps_raise g.calm g.tk (pmk_oex (dvs := []) (ds := []) e3.oex e3.ini e3.ty i1 (g.room.mono c4) i2 .nil (fun _ _ _ _ _ _ _ z => z.elim) (g.gl c2) e2 pa (noDbg_ok c1).1 hst rfl)) (tRaise_of e1)
        · cases h
      · cases h
    · rename_i body ty nn su p1 hds p2
      split at h
      · rename_i hc
        simp only [beq_iff_eq] at hc
        split at h
        · rename_i i cl d1 h2 h3 h4
          cases h
          have hi : X.N[i]? = some nn := by rw [g.hN]; exact slotOf_ok h2
          have hn : X.env.scope.names.lookup nn = some .local := by rw [g.hsc]; exact hc
          obtain ⟨bc, l, q1, q2⟩ := cl_of g hi hn _ cl h3
          refine PS.imp (ps_try_mAs (tb := fun W => tS B P W d1) g.stk g.frm g.nd hi hn g.tk (fun W' pn xe tk po => cmpSs_ok (fun s d => cmpS_ok m W' _ s d (g.tr pn xe tk po)) h4) q1) ?_
          rw [g.hK]
          exact tTryAs_of q2
        · cases h
      · cases h
    · cases h
end
end E2
end
section
set_option Elab.async false
set_option linter.all false
set_option maxRecDepth 100000
set_option maxHeartbeats 4000000
set_option autoImplicit false
namespace E2
open PySem PySem.Spec PyProof.Rows L2
variable {P P' : Pv}
/-! ### a def -/
structure Df where
  nm : Str
  params : Arguments
  body : List Stmt
  scope : Scope
  ps : List Str
  N : List Str
  lam : Bool
def startF (N : List Str) (xs : List PV) : Frame := xs.map some ++ List.replicate (N.length - xs.length) none
def resOf : RS → Res PV
  | .rt pv S => .ok pv S
  | .nx _ S => .ok .non S
  | .exc c t _ S => .exc c t S
  | _ => .fail
def failPhi : Phi := ⟨fun _ _ _ => .fail, fun _ _ _ => .fail⟩
def runD (G : Pg) (m : Nat) (Φ : Nat → Phi) (k : Nat) (df : Df) (xs : List PV) (S : Store) : Res PV :=
  match cmpSs (cmpS G Φ m k ⟨df.scope, df.N, fun _ => true, none, df.lam⟩) df.body with
  | some d => resOf (d (startF df.N xs) S)
  | none => .fail
def runT (G : Pg) (m : Nat) (Φ : Nat → Phi) (k : Nat) (df : Df) (th : Store → Res PV) (S : Store) : Res PV :=
  match df.ps with
  | [a] => (match cmpSs (cmpS G Φ m k ⟨df.scope, df.N, fun _ => true, some (a, th), false⟩) df.body with
    | some d => resOf (d (startF df.N [.thk]) S)
    | none => .fail)
  | _ => .fail
def stepPhi (G : Pg) (dfs : List Df) (m : Nat) (Φ : Nat → Phi) (k : Nat) : Phi where
  f i xs S := match dfs[i]? with
    | some df => runD G m Φ k df xs S
    | none => .fail
  t i th S := match dfs[i]? with
    | some df => runT G m Φ k df th S
    | none => .fail
def Lv (G : Pg) (dfs : List Df) (m : Nat) : Nat → Nat → Phi
  | 0, _ => failPhi
  | k + 1, j => if j ≤ k then Lv G dfs m k j else stepPhi G dfs m (Lv G dfs m k) k
theorem Lv_eq {G : Pg} {dfs : List Df} {m : Nat} : ∀ {k j : Nat}, j ≤ k → Lv G dfs m k j = Lv G dfs m j j
  | 0, j, h => by rw [Nat.le_zero.mp h]
  | k + 1, j, h => by
    by_cases hj : j ≤ k
    · rw [show Lv G dfs m (k + 1) j = Lv G dfs m k j from if_pos hj]
      exact Lv_eq hj
    · rw [show j = k + 1 by omega]
theorem Lv_top {G : Pg} {dfs : List Df} {m k : Nat} : Lv G dfs m (k + 1) (k + 1) = stepPhi G dfs m (Lv G dfs m k) k := if_neg (by omega)
theorem start_FR {B : Base} {μ : List Addr} {M : Mx} {H : Hp} {N : List Str} {xs : List PV} {vs : List V} (l : RpL B μ M H xs vs) : FR B μ M H (startF N xs) (L2.start N vs) := by
  have hl := l.length
  refine ⟨by simp [startF, L2.start, hl], fun i pv e => ?_⟩
  unfold startF at e
  by_cases hi : i < xs.length
  · rw [List.getElem?_append_left (by simpa using hi), List.getElem?_map] at e
    cases q : xs[i]? with
    | none => rw [q] at e; cases e
    | some x =>
      rw [q] at e
      cases e
      obtain ⟨v, h1, h2⟩ := l.get q
      refine ⟨v, ?_, .inl h2⟩
      unfold L2.start
      rw [List.getElem?_append_left (by rw [List.length_map, ← hl]; exact hi), List.getElem?_map, h1]
      rfl
  · rw [List.getElem?_append_right (by simpa using hi)] at e
    rw [List.getElem?_replicate] at e
    split at e <;> cases e
/-- how a body's end is taken by a call -/
theorem res_GoS {B : Base} {E : XK} {r : RS} {μ : List Addr} {S : Store} {H : Hp} {Q : VK} (g : Go B P (RelP B) (fun cls d _ H' => E cls d H') [] (resOf r) μ S H Q) : GoS B P (fun cls d _ H' => E cls d H') r μ S H { nx := fun _ H' => Q .non H', rt := Q } := by
  cases r with
  | nx fr S' => exact fun μ' H' σ' x s _ => g μ' H' .non x s .non
  | rt v S' => exact g
  | bk fr S' => exact g.elim
  | ct fr S' => exact g.elim
  | exc c t fr S' => exact fun μ' H' σ' C dx v x s _ e1 e2 e3 => g μ' H' C dx v x s e1 e2 e3
  | fail => exact g.elim
/-- what the written part says of a def -/
structure DfF (B : Base) (df : Df) (f : Addr) (fd : FuncData) (mg : Str → Option Value) (base : Heap) : Prop where
  ex : ∃ (oc : Value) (od : Option Addr) (dV kV doc pm : Value) (an : Option Addr) (cdv ct : Value) (osl : Array (Option Value)),
    fd = PySem.W.fnOf df.nm df.nm df.params df.body df.scope dV kV doc pm an cdv ct ∧ B.K.lookup f = some ⟨oc, od, .func fd, osl⟩ ∧ PySem.W.codeIn B.K cdv df.nm = true ∧
    (df.lam = true → ∃ c Pt, cdv = .ref c ∧ LamX.TabB base mg c Pt ∧ (Pt, (df.nm ++ ".<locals>.") ++ "<lambda>") ∈ B.T ∧ ∀ p ∈ B.T, p.1 = Pt → p.2 = (df.nm ++ ".<locals>.") ++ "<lambda>")
  kp : PySem.W.keepIn B.K (.ref f) = true
  sc : FnScope df.N df.ps df.scope
theorem fn_ok {B : Base} {G : Pg} {Φ : Nat → Phi} {m k : Nat} {prog : Program} {w : World} {mg : Str → Option Value} {base : Heap} {df : Df} {f : Addr} {fd : FuncData} (pf : PF B G Φ k prog w mg base) (F : DfF B df f fd mg base) :
    FnG prog w B.K mg base (L2.CX prog w) (k + 1) f fd df.ps (spOf B df.ps.length (runD G m Φ k df)) := by
  obtain ⟨oc, od, dV, kV, doc, pm, an, cdv, ct, osl, rfl, lk, hcd, hlam⟩ := F.ex
  refine ⟨fun vs H Q E ⟨P, μ, S, xs, sr, l, hl, g⟩ => by rw [← l.length]; exact hl, fun A outer s H args us vs Q E hr0 hgd e0 hb0 rv hsp => ?_⟩
  refine LamX.run_ofS lk hcd F.sc hr0 e0 hb0 rv (by obtain ⟨P, μ, S, xs, sr, l, hl, g⟩ := hsp; rw [← l.length]; exact hl) fun hr => ?_
  obtain ⟨P, μ, S, xs, sr, l, hl, g⟩ := hsp
  unfold runD at g
  split at g
  · rename_i d hd
    have gs : GS B G Φ k P (fun cls d _ H => E cls d H) ⟨df.scope, df.N, fun _ => true, none, df.lam⟩ (cxOf (L2.CX prog w) prog w B.K mg base df.N df.nm df.scope f cdv A outer s H E) := by
      refine ⟨⟨rfl, F.sc.nd, hr, hgd, rfl, takes_of rfl rfl rfl rfl, pf, rfl, rfl, fun _ _ => rfl, fun a th h => (by cases h), fun h => ?_⟩, passes_of rfl, rfl, rfl, F.sc.kind⟩
      obtain ⟨c, Pt, e1, e2, e3, e4⟩ := hlam h
      exact ⟨c, Pt, e1, e2, e3, e4⟩
    exact ⟨_, cmpSs_ok (fun st d => cmpS_ok m _ _ st d gs) hd, startF df.N xs, μ, S, start_FR l, sr, res_GoS g⟩
  · exact g.elim
/-! ### a def that takes a thunk -/
def Pt (P : Pv) (f : Addr) (μ : List Addr) (S : Store) (H : Hp) : Pv := ⟨P.p, fun v => v = .ref f, fun μ' S' H' => P.A μ' S' H' ∧ Ex μ S H μ' S' H', fun {_ _ _ _ _ _} a x => ⟨P.st a.1 x, a.2.trans (B := ⟨[], fun _ => none, fun _ => none, fun _ => "", fun _ => none, []⟩) x⟩⟩
theorem tk_ok {B : Base} {G : Pg} {Φ : Nat → Phi} {m k : Nat} {prog : Program} {w : World} {mg : Str → Option Value} {base : Heap} {df : Df} {f : Addr} {fd : FuncData} {a : Str} (pf : PF B G Φ (k + 1) prog w mg base) (F : DfF B df f fd mg base) (hm : mg df.nm = some (.ref f)) (hb : Binds B.K fd df.ps []) (hps : df.ps = [a]) (hN : df.N[0]? = some a) (hv : Vis df.scope a) (hd : noDbg a = true) :
    TkF B (runT G m Φ (k + 1) df) k prog w mg base df.nm := by
  obtain ⟨oc, od, dV, kV, doc, pm, an, cdv, ct, osl, rfl, lk, hcd, hlam⟩ := F.ex
  have sc := F.sc
  rw [hps] at hb sc
  refine ⟨f, a, df.params, df.body, df.scope, dV, kV, doc, pm, cdv, ct, oc, an, od, osl, df.N, hm, F.kp, lk, hcd, hb, sc, hN, hv, (noDbg_ok hd).1, (noDbg_ok hd).2, fun A outer s H fl c' q Q tl hr hgd act hco htt => ?_⟩
  obtain ⟨P, μ, S, th, sr, hth, g⟩ := htt
  unfold runT at g
  rw [hps] at g
  dsimp only at g
  split at g
  · rename_i d hd
    have less : ∀ {μ' : List Addr} {S' : Store} {H' : Hp}, SR B P μ' S' H' → Ex μ S H μ' S' H' → SR B (Pt P fl μ S H) μ' S' H' := fun s' x' => s'.less (fun _ h => h) ⟨s'.anc, x'⟩
    have back : ∀ {μ' : List Addr} {S' : Store} {H' : Hp}, SR B (Pt P fl μ S H) μ' S' H' → SR B P μ' S' H' := fun s' => s'.less (fun _ h => h) s'.anc.1
    have ncc : ¬ Mu μ S c' := sr.notTup hco (fun _ z => by unfold LamX.CodeO at z; cases z) (fun _ z => by unfold LamX.CodeO at z; cases z) (fun _ _ _ z => by unfold LamX.CodeO at z; cases z) (fun _ z => by unfold LamX.CodeO at z; cases z) (fun _ d => code_notO d)
    have gs : GS B G Φ (k + 1) (Pt P fl μ S H) W0 ⟨df.scope, df.N, fun _ => true, some (a, th), false⟩ (cxOf C8.CX0 prog w B.K mg base df.N df.nm df.scope f cdv A outer s H C8.E0).nox := by
      refine ⟨⟨rfl, F.sc.nd, hr, hgd, rfl, LamX.takes0, pf, rfl, rfl, fun _ _ => rfl, fun a' th' h pn xe W' tk p1 p2 => ?_, fun h => (by cases h)⟩, ?_, rfl, rfl, F.sc.kind⟩
      · cases h
        refine PE.imp (act W' pn xe p1 p2 tk) ?_
        rintro σZ HZ Q' ⟨fr, μ', S', hf, sr', g'⟩
        unfold dThk at g'
        split at g'
        · rename_i e0
          obtain ⟨v, h1, h2⟩ := hf.2 0 .thk e0
          rcases h2 with h2 | h2
          · cases h2
          · obtain ⟨_, h2⟩ := h2
            have h2 : v = .ref fl := h2
            subst h2
            refine ⟨h1, sr'.anc.2.keep c' _ hco ncc (fun ps z => LamX.codeO_ne ps z), hth (WE W' σZ) μ' S' HZ Q' sr'.anc.2 (back sr') ?_⟩
            cases q : th S' with
            | ok pv S2 =>
              rw [q] at g'
              exact fun μ2 H2 b x2 s2 r2 => g' μ2 H2 b x2 (less s2 (sr'.anc.2.trans (B := B) x2)) (Rp.less (P' := Pt P fl μ S H) s2 (fun _ h => h) r2)
            | exc c t S2 =>
              rw [q] at g'
              exact fun μ2 H2 C dx v x2 s2 e1 e2 r2 => g' μ2 H2 C dx v x2 (less s2 (sr'.anc.2.trans (B := B) x2)) e1 e2 (Rp.less (P' := Pt P fl μ S H) s2 (fun _ h => h) r2)
            | fail => rw [q] at g'; exact g'.elim
        · exact g'.elim
      · exact fun e s h => (show False from h).elim
    refine ⟨_, cmpSs_ok (fun st d => cmpS_ok m _ _ st d gs) hd, startF df.N [.thk], μ, S, ?_, less sr .refl, ?_⟩
    · refine ⟨by simp [startF, L2.start], fun i pv e => ?_⟩
      unfold startF at e
      match i with
      | 0 =>
        cases e
        exact ⟨.ref fl, rfl, .inr ⟨rfl, rfl⟩⟩
      | i + 1 =>
        rw [List.getElem?_append_right (by simp), List.getElem?_replicate] at e
        split at e <;> cases e
    · cases q : d (startF df.N [.thk]) S with
      | nx fr S' => rw [q] at g; exact fun μ' H' σ' x s _ => g μ' H' .non x (back s) .non
      | rt v S' => rw [q] at g; exact fun μ' H' b x s r => g μ' H' b x (back s) (Rp.less (P' := P) s (fun _ h => h) r)
      | bk fr S' => rw [q] at g; exact g.elim
      | ct fr S' => rw [q] at g; exact g.elim
      | exc c t fr S' => rw [q] at g; exact fun μ' H' σ' C dx v x s _ e1 e2 e3 => g μ' H' C dx v x (back s) e1 e2 (Rp.less (P' := P) s (fun _ h => h) e3)
      | fail => rw [q] at g; exact g.elim
  · exact g.elim
/-! ### all defs, by levels -/
/-- the static facts -/
structure SF (B : Base) (G : Pg) (dfs : List Df) (prog : Program) (w : World) (mg : Str → Option Value) (base : Heap) : Prop where
  blt : ∀ x, x ∈ bnames → G.gl.lookup x = none → mg x = none
  con : ∀ x pv, G.gl.lookup x = some (.con pv) → ∃ u v, mg x = some u ∧ RelV v u ∧ ∀ μ M H, Rp B μ M H pv v
  fnc : ∀ x i, G.gl.lookup x = some (.fn i) → ∃ df f fd fi dvs, dfs[i]? = some df ∧ G.fi[i]? = some fi ∧ fi.ps = df.ps ∧ mg x = some (.ref f) ∧ B.fa i = some f ∧ DfF B df f fd mg base ∧ (∀ μ M H, RpL B μ M H fi.dfl dvs) ∧ ∀ j, j ≤ dvs.length → ∃ ds, Vals (dvs.drop j) ds ∧ Binds B.K fd fi.ps ds
  tkc : ∀ x i, G.gl.lookup x = some (.tk i) → ∃ df f fd a, dfs[i]? = some df ∧ df.nm = x ∧ mg x = some (.ref f) ∧ DfF B df f fd mg base ∧ Binds B.K fd df.ps [] ∧ df.ps = [a] ∧ df.N[0]? = some a ∧ Vis df.scope a ∧ noDbg a = true
  exc : ∀ x c, G.gl.lookup x = some (.exc c) → ∃ C fI slf tld, B.ec c = some C ∧ mg x = some (.ref C) ∧ TldC B.K prog C fI slf tld (B.ea c)
  xb : ∀ x c, G.gl.lookup x = some (.exc c) ∨ G.gl.lookup x = some (.xb c) → ∃ C, B.ec c = some C ∧ mg x = some (.ref C)
  xf : ∀ c C, B.ec c = some C → XfC B.K C ∧ PySem.W.findIn B.K (.ref C) (B.ea c) = some none
  sub : ∀ c C c' C', B.ec c = some C → B.ec c' = some C' → PySem.W.exmOne B.K (.ref C) (.ref C') = some (G.sub c c')
  ea : ∀ c, B.ea c = G.ea c
  sup : mg "super" = none
  xi : ∀ c C, B.ec c = some C → XiC B.K C
  kit : ∀ c C c' C', B.ec c = some C → B.ec c' = some C' → PySem.W.kitOne B.K (.ref C) (.ref C') = some (G.sub c c')
theorem pf_ok {B : Base} {G : Pg} {dfs : List Df} {m : Nat} {prog : Program} {w : World} {mg : Str → Option Value} {base : Heap} (sf : SF B G dfs prog w mg base) : ∀ k, PF B G (Lv G dfs m k) k prog w mg base := by
  intro k
  induction k using Nat.strongRecOn with
  | ind k ih =>
  refine ⟨sf.blt, sf.con, fun j hj x i hl => ?_, fun j hj x i hl => ?_, sf.exc, sf.xb, sf.xf, sf.sub, sf.ea, sf.sup, sf.xi, sf.kit⟩
  · obtain ⟨df, f, fd, fi, dvs, h1, h2, h3, h4, h5, h6, h7, h8⟩ := sf.fnc x i hl
    refine ⟨f, h4, h5, h6.kp, fi, fd, dvs, h2, ?_, h7, h8⟩
    rw [Lv_eq hj]
    cases j with
    | zero => exact ⟨fun vs H Q E ⟨_, _, _, _, _, _, _, g⟩ => g.elim, fun A outer s H args us vs Q E _ _ _ _ _ ⟨_, _, _, _, _, _, _, g⟩ => g.elim⟩
    | succ j =>
      rw [Lv_top]
      have e : (stepPhi G dfs m (Lv G dfs m j) j).f i = runD G m (Lv G dfs m j) j df := by
        funext xs S
        show (match dfs[i]? with | some df => runD G m (Lv G dfs m j) j df xs S | none => .fail) = _
        rw [h1]
      rw [e, h3]
      exact fn_ok (ih j (by omega)) h6
  · obtain ⟨df, f, fd, a, h1, h2, h3, h4, h5, h6, h7, h8, h9⟩ := sf.tkc x i hl
    rw [Lv_eq hj, Lv_top]
    have e : (stepPhi G dfs m (Lv G dfs m (j + 1)) (j + 1)).t i = runT G m (Lv G dfs m (j + 1)) (j + 1) df := by
      funext xs S
      show (match dfs[i]? with | some df => runT G m (Lv G dfs m (j + 1)) (j + 1) df xs S | none => .fail) = _
      rw [h1]
    rw [e]
    subst h2
    exact tk_ok (ih (j + 1) (by omega)) h4 h3 h5 h6 h7 h8 h9
end E2
end
section
set_option Elab.async false
set_option linter.all false
set_option maxRecDepth 100000
set_option maxHeartbeats 4000000
set_option autoImplicit false
namespace E2
open PySem PySem.Spec PyProof.Rows L2
variable {P P' : Pv}
/-! ### what is read of the heap at the top's end -/
structure Dd where
  at_ : Str × Option Str
  name : Str
  qual : Str
  params : Arguments
  body : List Stmt
  scope : Scope
abbrev FnV2 : Type := Option (Str × Str × Arguments × FuncBody × Scope × Addr × Addr)
def fnV2 (K : PySem.W.Frag) (p : Str × Option Str) : FnV2 := match K.lookup (He.fAd K p) with
  | some ⟨_, _, .func fd, _⟩ => some (fd.name, fd.qualname, fd.params, fd.body, fd.scope, fd.globals, fd.builtins)
  | _ => none
def Dd.val (d : Dd) : FnV2 := some (d.name, d.qual, d.params, .stmts d.body, d.scope, mainGlobals, builtinsNs)
def closA (g : Addr → Option Obj) (a : Addr) : List Addr := match g a with
  | some ⟨_, _, .func fd, _⟩ => fd.closure.map (·.2)
  | _ => []
def asE (n : Nat) (g : Addr → Option Obj) : List Addr := He.asD g n ++ ((He.asD g n).flatMap (closA g) ++ [cStatics])
abbrev AlM : Type := Bool × List FnV2
def obsM (n : Nat) (fn : List Dd) (tf : List He.Defn) (ex : PySem.W.Frag → Bool) (g : Addr → Option Obj) : AlM := (ex (He.frT g (asE n g)) && He.tabsB g tf (He.frT g (asE n g)), fn.map fun d => fnV2 (He.frT g (asE n g)) d.at_)
def valM (fn : List Dd) : AlM := (true, fn.map Dd.val)
structure SaysM (fn : List Dd) (tf : List He.Defn) (ex : PySem.W.Frag → Bool) (h : Heap) (K : PySem.W.Frag) : Prop where
  more : ex K = true
  fns : fn.map (fun d => fnV2 K d.at_) = fn.map Dd.val
  hd : ∀ p ∈ tf, PySem.W.codeHdIn K (He.cT K p).1 (He.cT K p).2 = true
  out : ∀ p ∈ tf, K.lookup (He.cT K p).2 = none
  empty : ∀ p ∈ tf, h.get? (He.cT K p).2 = some { cls := .none, data := .fields #[] }
theorem saysM_of {n : Nat} {fn : List Dd} {tf : List He.Defn} {ex : PySem.W.Frag → Bool} {h : Heap} (e : obsM n fn tf ex h.get? = valM fn) : SaysM fn tf ex h (He.frT h.get? (asE n h.get?)) := by
  have e1 : (ex (He.frT h.get? (asE n h.get?)) && He.tabsB h.get? tf (He.frT h.get? (asE n h.get?))) = true := congrArg (fun z : AlM => z.1) e
  have e2 : fn.map (fun d => fnV2 (He.frT h.get? (asE n h.get?)) d.at_) = fn.map Dd.val := congrArg (fun z : AlM => z.2) e
  obtain ⟨h1, h2⟩ := He.ba e1
  have key : ∀ p ∈ tf, PySem.W.codeHdIn (He.frT h.get? (asE n h.get?)) (He.cT (He.frT h.get? (asE n h.get?)) p).1 (He.cT (He.frT h.get? (asE n h.get?)) p).2 = true ∧ ∃ o, h.get? (He.cT (He.frT h.get? (asE n h.get?)) p).2 = some o ∧ He.emptyTab o = true := fun p hp => by
    obtain ⟨h3, h4⟩ := He.ba (List.all_eq_true.mp h2 p hp)
    refine ⟨h3, ?_⟩
    cases q : h.get? (He.cT (He.frT h.get? (asE n h.get?)) p).2 with
    | none => rw [q] at h4; cases h4
    | some o => rw [q] at h4; exact ⟨o, rfl, h4⟩
  exact ⟨h1, e2, fun p hp => (key p hp).1, fun p hp => by
    obtain ⟨_, o, q, z⟩ := key p hp
    exact He.frT_none q z, fun p hp => by
    obtain ⟨_, o, q, z⟩ := key p hp
    rw [q, He.emptyTab_eq z]⟩
def hookM (n : Nat) (fn : List Dd) (tf : List He.Defn) (ex : PySem.W.Frag → Bool) : PySem.W.Hook where
  α := AlM
  obs := fun s => obsM n fn tf ex s.heap.get?
  val := fun _ => valM fn
  says := fun _ h => ∃ K : PySem.W.Frag, K.In h ∧ SaysM fn tf ex h K
  of := fun _ _ e => ⟨_, He.frT_in, saysM_of e⟩
  keeps := fun _ _ _ ⟨K, hK, c⟩ k => ⟨K, PySem.W.Frag.In.keeps hK k, ⟨c.more, c.fns, c.hd, c.out, fun p hp => k _ _ (c.empty p hp)⟩⟩
theorem obsM_eq {n : Nat} {fn : List Dd} {tf : List He.Defn} {ex : PySem.W.Frag → Bool} {g : Addr → Option Obj} {s : Shared} (h : ∀ a, g a = s.heap.get? a) : obsM n fn tf ex g = (hookM n fn tf ex).obs s := by
  have e : g = s.heap.get? := funext h
  rw [e] <;> rfl
/-! ### constants -/
mutual
def conB (K : PySem.W.Frag) : PV → Value → Bool
  | .non, .none => true
  | .bl b, .bool c => b == c
  | .int i, .int j _ => decide (i = j)
  | .str x, .str y _ => decide (x = y)
  | .tup xs, .ref a => (match K.lookup a with
    | some ⟨.type t, none, .seq its _, _⟩ => decide (t = "tuple") && decide (its.size ≤ sizeLine) && conBL K xs its.toList
    | _ => false)
  | _, _ => false
def conBL (K : PySem.W.Frag) : List PV → List Value → Bool
  | [], [] => true
  | x :: xs, u :: us => conB K x u && conBL K xs us
  | _, _ => false
end
mutual
theorem conB_ok {B : Base} : ∀ {pv : PV} {u : Value}, conB B.K pv u = true → ∃ v, RelV v u ∧ ∀ μ M H, Rp B μ M H pv v := by
  intro pv u h
  unfold conB at h
  split at h
  · exact ⟨.non, rfl, fun _ _ _ => .non⟩
  · rename_i b c
    have e : b = c := by simpa using h
    subst e
    exact ⟨.bl b, rfl, fun _ _ _ => .bl b⟩
  · rename_i i j t
    have e : i = j := of_decide_eq_true h
    subst e
    exact ⟨.int i, ⟨t, rfl⟩, fun _ _ _ => .int i⟩
  · rename_i i j t
    have e : i = j := of_decide_eq_true h
    subst e
    exact ⟨.str i, ⟨t, rfl⟩, fun _ _ _ => .str i⟩
  · rename_i xs a
    split at h
    · rename_i t od its n sl hl
      simp only [Bool.and_eq_true, decide_eq_true_eq] at h
      obtain ⟨⟨h1, h2⟩, h3⟩ := h
      subst h1
      obtain ⟨vs, r1, r2⟩ := conBL_ok h3
      exact ⟨.ref a, rfl, fun _ _ _ => .tup (.inr ⟨_, its, n, hl, rfl, rfl, rfl, h2, r1⟩) (r2 _ _ _)⟩
    · cases h
  · cases h
theorem conBL_ok {B : Base} : ∀ {pv : List PV} {u : List Value}, conBL B.K pv u = true → ∃ vs, Vals vs u ∧ ∀ μ M H, RpL B μ M H pv vs := by
  intro pv u h
  unfold conBL at h
  split at h
  · exact ⟨[], .nil, fun _ _ _ => .nil⟩
  · rw [Bool.and_eq_true] at h
    obtain ⟨v, r1, r2⟩ := conB_ok h.1
    obtain ⟨vs, r3, r4⟩ := conBL_ok h.2
    exact ⟨v :: vs, .cons r1 r3, fun _ _ _ => .cons (r2 _ _ _) (r4 _ _ _)⟩
  · cases h
end
/-! ### binding of plain parameters -/
theorem zip_lookup_none {x : Str} : ∀ {N : List Str} {us : List Value}, x ∉ N → (N.zip us).lookup x = none
  | [], _, _ => rfl
  | _ :: _, [], _ => rfl
  | n :: N, u :: us, h => by
    rw [List.zip_cons_cons, List.lookup_cons]
    have : (x == n) = false := by simpa using fun e => h (by rw [e]; exact List.mem_cons_self ..)
    rw [this]
    exact zip_lookup_none fun z => h (List.mem_cons_of_mem _ z)
theorem zip_lookup_some {x : Str} : ∀ {N : List Str} {us : List Value} {i : Nat}, N[i]? = some x → i < us.length → ((N.zip us).lookup x).isSome = true
  | [], _, _, h, _ => by cases h
  | _ :: _, [], _, _, h => by cases h
  | n :: N, u :: us, i, h, hl => by
    rw [List.zip_cons_cons, List.lookup_cons]
    split
    · rfl
    · rename_i hb
      match i with
      | 0 => cases h; simp at hb
      | i + 1 => exact zip_lookup_some (i := i) (by simpa using h) (by simpa using hl)
theorem lookup_append {x : Str} : ∀ {l m : List (Str × Value)}, (l ++ m).lookup x = ((l.lookup x).or (m.lookup x))
  | [], m => by simp
  | (a, b) :: l, m => by
    rw [List.cons_append, List.lookup_cons, List.lookup_cons]
    split
    · rfl
    · exact lookup_append
theorem filterMap_zip : ∀ {N : List Str} {us : List Value} (pre : List (Str × Value)), N.Nodup → us.length = N.length → (∀ n ∈ N, pre.lookup n = none) → N.filterMap (fun n => ((pre ++ N.zip us).lookup n).map (n, ·)) = N.zip us
  | [], us, pre, _, _, _ => rfl
  | n :: N, [], pre, _, h, _ => by cases h
  | n :: N, u :: us, pre, nd, hl, hp => by
    obtain ⟨n1, n2⟩ := List.nodup_cons.mp nd
    rw [List.filterMap_cons, List.zip_cons_cons, lookup_append, hp n (List.mem_cons_self ..), List.lookup_cons, beq_self_eq_true]
    show (n, u) :: _ = _
    congr 1
    have e : pre ++ (n, u) :: N.zip us = (pre ++ [(n, u)]) ++ N.zip us := by simp
    rw [e]
    refine filterMap_zip (pre ++ [(n, u)]) n2 (by simpa using hl) fun m hm => ?_
    rw [lookup_append, hp m (List.mem_cons_of_mem _ hm), List.lookup_cons]
    have : (m == n) = false := by simpa using fun e => n1 (by rw [← e]; exact hm)
    rw [this]
    rfl
def dflSteps (m : List (Str × Value)) (s : List (Str × Value)) : List (Str × Value) := m.foldl (fun s p => if (s.lookup p.1).isNone then s ++ [p] else s) s
theorem forIn_dfl : ∀ (m s : List (Str × Value)), (forIn m s fun x __s => if (List.lookup x.fst __s).isNone = true then (pure (ForInStep.yield (__s ++ [(x.fst, x.snd)])) : Sem _) else pure (ForInStep.yield __s)) = pure (dflSteps m s)
  | [], s => rfl
  | p :: m, s => by
    rw [List.forIn_cons]
    unfold dflSteps
    rw [List.foldl_cons]
    split
    · rw [pure_bind]; exact forIn_dfl m _
    · rw [pure_bind]; exact forIn_dfl m _
theorem steps_none : ∀ {N : List Str} {its : List Value} (s : List (Str × Value)), N.Nodup → (∀ n ∈ N, s.lookup n = none) → dflSteps (N.zip its) s = s ++ N.zip its
  | [], _, s, _, _ => by simp [dflSteps]
  | _ :: _, [], s, _, _ => by simp [dflSteps]
  | n :: N, u :: us, s, nd, h => by
    obtain ⟨n1, n2⟩ := List.nodup_cons.mp nd
    unfold dflSteps
    rw [List.zip_cons_cons, List.foldl_cons, h n (List.mem_cons_self ..)]
    show List.foldl _ (s ++ [(n, u)]) _ = _
    have := steps_none (N := N) (its := us) (s ++ [(n, u)]) n2 fun m hm => by
      rw [lookup_append, h m (List.mem_cons_of_mem _ hm), List.lookup_cons]
      have : (m == n) = false := by simpa using fun e => n1 (by rw [← e]; exact hm)
      rw [this]; rfl
    unfold dflSteps at this
    rw [this]
    simp
theorem steps_some : ∀ {N : List Str} {its : List Value} (s : List (Str × Value)), (∀ n ∈ N, (s.lookup n).isSome = true) → dflSteps (N.zip its) s = s
  | [], _, s, _ => rfl
  | _ :: _, [], s, _ => rfl
  | n :: N, u :: us, s, h => by
    unfold dflSteps
    rw [List.zip_cons_cons, List.foldl_cons, if_neg (by have := h n (List.mem_cons_self ..); cases q : s.lookup n <;> simp [q] at this ⊢)]
    exact steps_some s fun m hm => h m (List.mem_cons_of_mem _ hm)
theorem steps_app (a b s : List (Str × Value)) : dflSteps (a ++ b) s = dflSteps b (dflSteps a s) := by unfold dflSteps; rw [List.foldl_append]
theorem zip_take {N : List Str} {us : List Value} : N.zip us = (N.take us.length).zip us := by
  induction us generalizing N with
  | nil => simp
  | cons u us ih => cases N with
    | nil => rfl
    | cons n N => simp only [List.zip_cons_cons, List.length_cons, List.take_succ_cons]; rw [ih]
theorem zip_full {N : List Str} {us ws : List Value} : N.zip (us ++ ws) = N.zip us ++ (N.drop us.length).zip ws := by
  induction us generalizing N with
  | nil => simp
  | cons u us ih => cases N with
    | nil => simp
    | cons n N => simp only [List.cons_append, List.zip_cons_cons, List.length_cons, List.drop_succ_cons]; rw [ih]
theorem steps_all {N : List Str} {us its : List Value} {j : Nat} (nd : N.Nodup) (hd : its.length ≤ N.length) (hj : j ≤ its.length) (hl : us.length + (its.length - j) = N.length) : dflSteps ((N.drop (N.length - its.length)).zip its) (N.zip us) = N.zip (us ++ its.drop j) := by
  have hm : us.length = (N.length - its.length) + j := by omega
  have e1 : (N.drop (N.length - its.length)).zip its = ((N.drop (N.length - its.length)).zip (its.take j)) ++ ((N.drop us.length).zip (its.drop j)) := by
    have e0 : (N.drop (N.length - its.length)).zip its = (N.drop (N.length - its.length)).zip (its.take j ++ its.drop j) := by rw [List.take_append_drop]
    rw [e0, zip_full, List.drop_drop, List.length_take, Nat.min_eq_left hj, hm]
  rw [e1, steps_app]
  have e2 : dflSteps ((N.drop (N.length - its.length)).zip (its.take j)) (N.zip us) = N.zip us := by
    rw [zip_take]
    refine steps_some _ fun n hn => ?_
    obtain ⟨i, hi, e⟩ := List.mem_iff_getElem.mp hn
    rw [List.length_take, List.length_take, Nat.min_eq_left hj] at hi
    refine zip_lookup_some (i := (N.length - its.length) + i) ?_ (by omega)
    have hi2 : i < j := by omega
    rw [List.getElem_take, List.getElem_drop] at e
    rw [List.getElem?_eq_getElem (by omega), e]
  rw [e2, zip_full]
  refine steps_none _ (nd.sublist (List.drop_sublist _ _)) fun n hn => ?_
  rw [zip_take]
  refine zip_lookup_none fun hz => ?_
  have nd2 : (N.take us.length ++ N.drop us.length).Nodup := by rw [List.take_append_drop]; exact nd
  exact (List.nodup_append.mp nd2).2.2 n hz n hn rfl
theorem miss_none {N : List Str} {us : List Value} {d : Nat} (h : d ≤ us.length) : (N.take d).filter (fun n => ((N.zip us).lookup n).isNone) = [] := by
  rw [List.filter_eq_nil_iff]
  intro n hn
  obtain ⟨i, hi, e⟩ := List.mem_iff_getElem.mp hn
  rw [List.length_take] at hi
  rw [List.getElem_take] at e
  have := zip_lookup_some (x := n) (N := N) (us := us) (i := i) (by rw [List.getElem?_eq_getElem (by omega), e]) (by omega)
  cases q : (N.zip us).lookup n <;> simp [q] at this ⊢
theorem bind_gen {fd : FuncData} {as : List Arg} {kd : List (Option Expr)} {ds : List Expr} {us its : List Value} {j : Nat} (hp : fd.params = ⟨[], as, none, [], kd, none, ds⟩) (nd : (as.map (·.arg)).Nodup) (hd : its.length ≤ as.length) (hj : j ≤ its.length) (hl : us.length + (its.length - j) = as.length) :
    ∃ kk, bindArgs fd ⟨us, []⟩ = (seqItems? fd.defaults >>= kk) ∧ kk (some its.toArray) = pure ((as.map (·.arg)).zip (us ++ its.drop j)) ∧ (its = [] → kk none = pure ((as.map (·.arg)).zip (us ++ its.drop j))) := by
  have hlen : (as.map (·.arg)).length = as.length := List.length_map ..
  have hd' : its.length ≤ (as.map (·.arg)).length := by rw [hlen]; exact hd
  have hl' : us.length + (its.length - j) = (as.map (·.arg)).length := by rw [hlen]; exact hl
  have fin := steps_all nd hd' hj hl'
  have ms := miss_none (N := as.map (·.arg)) (us := us) (d := (as.map (·.arg)).length - its.length) (by omega)
  have fz := filterMap_zip (N := as.map (·.arg)) (us := us ++ its.drop j) [] nd (by rw [List.length_append, List.length_drop]; omega) (fun _ _ => rfl)
  rw [List.nil_append] at fz
  have ng : decide (us.length > (as.map (·.arg)).length) = false := by simp only [decide_eq_false_iff_not]; omega
  have dz : its.length - (as.map (·.arg)).length = 0 := by omega
  unfold bindArgs
  simp only [hp, List.map_nil, List.nil_append, List.forIn_nil, pure_bind, Option.isNone_none, Bool.and_true, List.append_nil]
  refine ⟨_, rfl, ?_, ?_⟩
  · simp only [Option.getD_some, ng, dz, List.drop_zero, ms, Bool.false_eq_true, if_false, List.isEmpty_nil, Bool.not_true, forIn_dfl, fin, pure_bind, fz]
  · intro e
    subst e
    have e0 : (#[] : Array Value).toList = [] := rfl
    simp only [Option.getD_none, e0, ng, dz, List.drop_zero, ms, Bool.false_eq_true, if_false, List.isEmpty_nil, Bool.not_true, forIn_dfl, fin, pure_bind, fz]
end E2
end
section
set_option Elab.async false
set_option linter.all false
set_option maxRecDepth 100000
set_option maxHeartbeats 4000000
set_option autoImplicit false
namespace E2
open PySem PySem.Spec PyProof.Rows L2
/-! ### an own exception's __init__ by its text -/
theorem ini_ev {tld : Str} {p0 p1 p2 p3 p4 : Pos} (hl : (p2.endLine == p4.line) = true) (env : Env) : eval (.Call (.Attribute (.Call (.Name "super" p0) [] [] p1) "__init__" p2) [.Name tld p3] [] p4) env = (do
      let ov ← attributeBase (.Call (.Name "super" p0) [] [] p1) "__init__" env (eval (.Call (.Name "super" p0) [] [] p1) env)
      standAt p2.atName
      let (f, first) ← holding [ov] (getMethod ov "__init__" (plainOf (.Call (.Name "super" p0) [] [] p1) env))
      callWith p4 f first (backTo p4 (starEach [.Name tld p3] env)) []) := by
  rw [arm_eval_Call]
  have h := fun ov => mcall_line (o := .Call (.Name "super" p0) [] [] p1) (m := "__init__") (apos := p2) (pos := p4) (env := env) (ov := ov) (n := [Expr.Name tld p3].length + ([] : List Keyword).length) (args := backTo p4 (starEach [.Name tld p3] env)) (kws := backToKw p4 (keywordEach [] env)) rfl hl
  simp only [h]
  rfl
def iniPat (body : List Stmt) (at_ : Str) : Option (Pos × Pos × Pos × Pos × Pos × Pos × Pos × Pos × Pos × Pos) := match body with
  | [.Expr (.Call (.Attribute (.Call (.Name s p0) [] [] p1) i p2) [.Name t p3] [] p4) p5, .Assign [.Attribute (.Name sl p6) a p7] (.Name t2 p8) p9] =>
    if decide (s = "super") && decide (i = "__init__") && decide (t = at_) && decide (sl = "self") && decide (a = at_) && decide (t2 = at_) && (p2.endLine == p4.line) then some (p0, p1, p2, p3, p4, p5, p6, p7, p8, p9) else none
  | _ => none
theorem iniPat_ok {body : List Stmt} {at_ : Str} {q : Pos × Pos × Pos × Pos × Pos × Pos × Pos × Pos × Pos × Pos} (h : iniPat body at_ = some q) : ∃ p0 p1 p2 p3 p4 p5 p6 p7 p8 p9, body = iniBody "self" at_ at_ p0 p1 p2 p3 p4 p5 p6 p7 p8 p9 ∧ (p2.endLine == p4.line) = true := by
  unfold iniPat at h
  split at h
  · split at h
    · rename_i hc
      simp only [Bool.and_eq_true, decide_eq_true_eq] at hc
      obtain ⟨⟨⟨⟨⟨⟨h1, h2⟩, h3⟩, h4⟩, h5⟩, h6⟩, h7⟩ := hc
      subst h1 h2 h3 h4 h5 h6
      exact ⟨_, _, _, _, _, _, _, _, _, _, rfl, h7⟩
    · cases h
  · cases h
def parPat (ps : Arguments) (at_ : Str) : Option (Pos × Pos) := match ps with
  | ⟨[], [⟨s, none, q1⟩, ⟨t, none, q2⟩], none, [], [], none, []⟩ => if decide (s = "self") && decide (t = at_) then some (q1, q2) else none
  | _ => none
theorem parPat_ok {ps : Arguments} {at_ : Str} {q : Pos × Pos} (h : parPat ps at_ = some q) : ∃ q1 q2, ps = ⟨[], [⟨"self", none, q1⟩, ⟨at_, none, q2⟩], none, [], [], none, []⟩ := by
  unfold parPat at h
  split at h
  · split at h
    · rename_i hc
      simp only [Bool.and_eq_true, decide_eq_true_eq] at hc
      obtain ⟨h1, h2⟩ := hc
      subst h1 h2
      exact ⟨_, _, rfl⟩
    · cases h
  · cases h
def iniScB (sc : Scope) (at_ : Str) : Bool := decide (sc.kind = .function) && !sc.isCoroutine && !sc.isGenerator && decide (sc.names.lookup ("super" : Str) = some .globalImplicit) && decide (sc.names.lookup ("__class__" : Str) = some .free) && decide (sc.names.lookup ("self" : Str) = some .local) && decide (sc.names.lookup at_ = some .local) &&
  (sc.names.all fun y => !decide (y.2 = .cell)) && (sc.names.all fun y => !decide (y.2 = .free) || decide (y.1 = ("__class__" : Str)))
/-! ### the class -/
def exoB (K : PySem.W.Frag) (C : Addr) : Bool := match K.lookup C with
  | some ⟨.type t, _, .cls cd, sl⟩ => decide (t = "type") && (match cd.mro, sl.toList with
    | .ref C' :: bm, [_, _, _, _, some (.builtin n), _] => decide (C' = C) && decide (n = "ValueError.__new__") && !cd.hasDel && cd.hasDict && PySem.HandSPX.refsVE bm
    | _, _ => false)
  | _ => false
theorem exoB_ok {K : PySem.W.Frag} {C : Addr} (h : exoB K C = true) : ∃ nm q N bs bm sn sub ab col dd k0 k1 k2 k3 k5, K.lookup C = some (excClassObj nm q C N bs bm true sn sub ab col dd k0 k1 k2 k3 k5 "ValueError.__new__") ∧ PySem.HandSPX.refsVE bm = true := by
  unfold exoB at h
  split at h
  · rename_i t dd cd sl ho
    rw [Bool.and_eq_true] at h
    obtain ⟨ht, h⟩ := h
    have ht := of_decide_eq_true ht
    subst ht
    split at h
    · rename_i C' bm k0 k1 k2 k3 n k5 hm hs
      simp only [Bool.and_eq_true, decide_eq_true_eq, Bool.not_eq_true'] at h
      obtain ⟨⟨⟨⟨h1, h2⟩, h3⟩, h4⟩, h5⟩ := h
      subst h1 h2
      obtain ⟨nm, bs, mro, ns, qn, hd, sn, sub, ab, col, del⟩ := cd
      dsimp only at hm h3 h4
      subst hm h3 h4
      have hsl : sl = #[k0, k1, k2, k3, some (.builtin "ValueError.__new__"), k5] := by
        obtain ⟨l⟩ := sl
        simp only at hs
        rw [hs]
      subst hsl
      exact ⟨nm, qn, ns, bs, bm, sn, sub, ab, col, dd, k0, k1, k2, k3, k5, ho, h5⟩
    · cases h
  · cases h
def oexB (K : PySem.W.Frag) (C : Addr) : Bool := exoB K C && decide (PySem.W.findIn K (.ref C) "__setattr__" = some (some (.builtin "object.__setattr__"))) && decide (PySem.W.subIn K (.ref C) (.type "BaseException") = some true) && decide (PySem.W.typeIn K (.ref C) = some (.type "type")) && PySem.W.keepIn K (.ref C)
theorem oexB_ok {K : PySem.W.Frag} {C : Addr} (h : oexB K C = true) : OexC K C := by
  unfold oexB at h
  simp only [Bool.and_eq_true, decide_eq_true_eq] at h
  obtain ⟨⟨⟨⟨h1, h2⟩, h3⟩, h4⟩, h5⟩ := h
  exact ⟨exoB_ok h1, h2, h3, h4, h5⟩
/-- the rest of what is asked of the class C, whose __init__ is the def at fI -/
def tldB (K : PySem.W.Frag) (C fI : Addr) (at_ : Str) (file : Str) (qual : Str) : Bool := oexB K C && decide (PySem.W.findIn K (.ref C) at_ = some none) && decide (PySem.W.findIn K (.ref C) "__init__" = some (some (.ref fI))) && decide (PySem.W.typeIn K (.ref fI) = some (.type "function")) && decide (PySem.W.subIn K (.ref C) (.type "ValueError") = some true) &&
  decide (PySem.W.nsIn K cStatics "thirdparty.any" = some none) && (match K.lookup fI with
    | some ⟨_, _, .func fd, _⟩ => (match fd.closure, fd.code, fd.defaults with
      | [(x, cc)], .ref cda, .none => decide (x = ("__class__" : Str)) && PySem.W.codeIn K (.ref cda) qual && (match K.lookup cda with
        | some ⟨_, _, .fields vs, _⟩ => (match vs[2]? with
          | some (Value.str f _) => file == f
          | _ => false)
        | _ => false) && (match K.lookup cc with
        | some ⟨_, _, .cell (some (.ref D)), _⟩ => (PySem.W.clsIn K D).isSome && decide (PySem.W.mroIn K C (.ref D) = some true) && decide (PySem.W.ks_superIn K C D "__init__" = some (some (.builtin "ValueError.__init__")))
        | _ => false)
      | _, _, _ => false)
    | _ => false)
def atOk (at_ : Str) : Bool := decide (("self" : Str) ≠ at_) && !(at_ == ("__debug__" : Str)) && !(at_ == ("__classdict__" : Str))
theorem tld_ok {K : PySem.W.Frag} {prog : Program} {C fI : Addr} {at_ qual : Str} {params : Arguments} {body : List Stmt} {scope : Scope} {q q'} (ha : atOk at_ = true) (h1 : iniPat body at_ = some q) (h2 : parPat params at_ = some q') (h3 : iniScB scope at_ = true) (ht : tldB K C fI at_ prog.main.file qual = true) (htop : (prog.main.scope.names.lookup ("super" : Str)).isSome = false)
    (hfn : ∃ oc od fd osl, K.lookup fI = some ⟨oc, od, .func fd, osl⟩ ∧ fd.name = "__init__" ∧ fd.qualname = qual ∧ fd.params = params ∧ fd.body = .stmts body ∧ fd.scope = scope ∧ fd.globals = mainGlobals ∧ fd.builtins = builtinsNs) : TldC K prog C fI "self" at_ at_ := by
  unfold atOk at ha
  simp only [Bool.and_eq_true, decide_eq_true_eq, Bool.not_eq_true'] at ha
  obtain ⟨⟨a1, a2⟩, a3⟩ := ha
  obtain ⟨p0, p1, p2, p3, p4, p5, p6, p7, p8, p9, rfl, hl⟩ := iniPat_ok h1
  obtain ⟨q1, q2, rfl⟩ := parPat_ok h2
  unfold iniScB at h3
  simp only [Bool.and_eq_true, decide_eq_true_eq, Bool.not_eq_true', List.all_eq_true, decide_eq_false_iff_not, Bool.or_eq_true] at h3
  obtain ⟨⟨⟨⟨⟨⟨⟨⟨s1, s2⟩, s3⟩, s4⟩, s5⟩, s6⟩, s7⟩, s8⟩, s9⟩ := h3
  unfold tldB at ht
  simp only [Bool.and_eq_true, decide_eq_true_eq] at ht
  obtain ⟨⟨⟨⟨⟨⟨t1, t2⟩, t3⟩, t4⟩, t5⟩, t6⟩, t7⟩ := ht
  obtain ⟨oc, od, fd, osl, lk, f1, f2, f3, f4, f5, f6, f7⟩ := hfn
  rw [lk] at t7
  dsimp only at t7
  split at t7
  · rename_i x cc cda hcl hcode hdf
    simp only [Bool.and_eq_true, decide_eq_true_eq] at t7
    obtain ⟨⟨⟨u1, u2⟩, u3⟩, u4⟩ := t7
    split at u3
    · rename_i ccl cdd vs ccs lcda
      split at u3
      · rename_i fl tf hvs
        split at u4
        · rename_i cl cld D csl lcc
          simp only [Bool.and_eq_true, decide_eq_true_eq] at u4
          obtain ⟨⟨w1, w2⟩, w3⟩ := u4
          obtain ⟨cdD, hD⟩ := Option.isSome_iff_exists.mp w1
          obtain ⟨nm, qn, par, bd, sc, gl, clo, dV, kV, doc, pm, an, cdv, ct, bl⟩ := fd
          dsimp only at f1 f2 f3 f4 f5 f6 f7 hcl hcode hdf
          subst f1 f2 f3 f4 f5 f6 f7 hcl hcode hdf u1
          refine ⟨oexB_ok t1, t2, t3, t4, t5, t6, htop, a1, qn, _, sc, .none, kV, doc, pm, ct, oc, an, od, osl, cda, cc, D, _, vs, fl, tf, ccl, cl, cdd, cld, ccs, csl, cdD, p0, p1, p2, p3, p4, p5, p6, p7, p8, p9, _, ini_ev hl, lk, u2, rfl, rfl, lcda, hvs, u3, lcc, hD, w2, w3, s4, s5, s6, s7, s1, s8, s2, s3, by decide +kernel, a2, by decide +kernel, a3, fun y hy e => ?_, fun u w => ?_⟩
          · rcases s9 y hy with z | z
            · exact absurd e z
            · exact z
          · obtain ⟨kk, b1, b2, b3⟩ := bind_gen (fd := PySem.W.ksFn "__init__" qn ⟨[], [⟨"self", none, q1⟩, ⟨at_, none, q2⟩], none, [], [], none, []⟩ (iniBody "self" at_ at_ p0 p1 p2 p3 p4 p5 p6 p7 p8 p9) sc .none kV doc pm an (.ref cda) ct cc) (as := [⟨"self", none, q1⟩, ⟨at_, none, q2⟩]) (us := [u, w]) (its := []) (j := 0) rfl (by simpa using a1) (by simp) (by simp) (by simp)
            rw [b1]
            show (pure none >>= kk) = _
            rw [pure_bind, b3 rfl]
            rfl
        · cases u4
      · cases u3
    · cases u3
  · cases t7
end E2
end
section
set_option Elab.async false
set_option linter.all false
set_option maxRecDepth 100000
set_option maxHeartbeats 4000000
set_option autoImplicit false
namespace E2
open PySem PySem.Spec PyProof.Rows L2
/-! ### the whole program, as data -/
structure Ini where
  qual : Str
  params : Arguments
  body : List Stmt
  scope : Scope
structure Prg where
  G : Pg
  dfs : List Df
  /-- the exception classes by their numbers -/
  ecs : List Str
  /-- the __init__ of those that are raised -/
  ini : List (Str × Ini)
  /-- defs that make lambdas -/
  tf : List Str
def Df.dd (df : Df) : Dd := ⟨(df.nm, none), df.nm, df.nm, df.params, df.body, df.scope⟩
def Prg.fn (p : Prg) : List Dd := p.dfs.map Df.dd ++ p.ini.map fun q => ⟨(q.1, some "__init__"), "__init__", q.2.qual, q.2.params, q.2.body, q.2.scope⟩
def Prg.tfs (p : Prg) : List He.Defn := p.tf.map fun x => (x, none)
def gloB (K : PySem.W.Frag) (x : Str) : Bool := (He.Fa.glo x).ok K
def freeB (K : PySem.W.Frag) (x : Str) : Bool := (He.Fa.free x).ok K
def parB (ps : Arguments) (ns : List Str) : Bool := match ps with
  | ⟨[], as, none, [], _, none, _⟩ => decide (as.map (·.arg) = ns) && decide ns.Nodup
  | _ => false
def dflB2 (K : PySem.W.Frag) (dV : Value) (dfl : List PV) : Bool := match dV with
  | .none => dfl.isEmpty
  | .ref T => (match K.lookup T with
    | some ⟨_, _, .seq its _, _⟩ => !dfl.isEmpty && conBL K dfl its.toList
    | _ => false)
  | _ => false
def defB (K : PySem.W.Frag) (df : Df) (dfl : List PV) : Bool := PySem.W.keepIn K (.ref (He.ga K df.nm)) && (match K.lookup (He.ga K df.nm) with
  | some ⟨_, _, .func fd, _⟩ => PySem.W.codeIn K fd.code df.nm && fd.closure.isEmpty && dflB2 K fd.defaults dfl
  | _ => false) && parB df.params df.ps && C8.scC df.N df.ps df.scope && decide (dfl.length ≤ df.ps.length)
def visB (sc : Scope) (x : Str) : Bool := isVis sc x
def glB (p : Prg) (file : Str) (K : PySem.W.Frag) (q : Str × Gb) : Bool := match q.2 with
  | .fn i => gloB K q.1 && (match p.dfs[i]?, p.G.fi[i]? with
    | some df, some fi => decide (df.nm = q.1) && decide (fi.ps = df.ps) && defB K df fi.dfl && (!df.lam || decide (df.nm ∈ p.tf))
    | _, _ => false)
  | .tk i => gloB K q.1 && (match p.dfs[i]? with
    | some df => decide (df.nm = q.1) && defB K df [] && !df.lam && (match df.ps with
      | [a] => decide (df.N[0]? = some a) && isVis df.scope a && noDbg a
      | _ => false)
    | _ => false)
  | .con pv => (match PySem.W.nsIn K mainGlobals q.1 with
    | some (some u) => conB K pv u
    | _ => false)
  | .exc c => gloB K q.1 && decide (p.ecs[c]? = some q.1) && atOk (p.G.ea c) && (match p.ini.lookup q.1 with
    | some i => (iniPat i.body (p.G.ea c)).isSome && (parPat i.params (p.G.ea c)).isSome && iniScB i.scope (p.G.ea c) && tldB K (He.ga K q.1) (He.ma K (He.ga K q.1) "__init__") (p.G.ea c) file i.qual
    | none => false)
  | .xb c => gloB K q.1 && decide (p.ecs[c]? = some q.1)
  | .cls _ => false
def Prg.ex (p : Prg) (file : Str) (K : PySem.W.Frag) : Bool := p.G.gl.all (glB p file K) && (bnames.all fun x => (match p.G.gl.lookup x with
    | none => freeB K x
    | some _ => true)) && freeB K "super" &&
  ((List.range p.ecs.length).all fun c => (match p.ecs[c]? with
    | some x => xfB K (He.ga K x) && xiB K (He.ga K x) && decide (PySem.W.findIn K (.ref (He.ga K x)) (p.G.ea c) = some none) && (List.range p.ecs.length).all fun c' => (match p.ecs[c']? with
      | some y => decide (PySem.W.exmOne K (.ref (He.ga K x)) (.ref (He.ga K y)) = some (p.G.sub c c')) && decide (PySem.W.kitOne K (.ref (He.ga K x)) (.ref (He.ga K y)) = some (p.G.sub c c'))
      | none => true)
    | none => true)) && decide ((p.tf.map fun x => (He.cT K (x, none)).2).Nodup)
def Prg.base (p : Prg) (K : PySem.W.Frag) : Base where
  K := K
  fa := fun i => (p.dfs[i]?).map fun df => He.ga K df.nm
  ec := fun c => (p.ecs[c]?).map (He.ga K)
  ea := p.G.ea
  cl := fun _ => none
  T := p.tf.map fun x => ((He.cT K (x, none)).2, (x ++ ".<locals>.") ++ "<lambda>")
section
variable {p : Prg} {K : PySem.W.Frag} {h : Heap} {mg : Str → Option Value} {base : Heap}
theorem fn_mem (c : p.fn.map (fun d => fnV2 K d.at_) = p.fn.map Dd.val) {d : Dd} (hd : d ∈ p.fn) : fnV2 K d.at_ = d.val := by
  obtain ⟨i, hi, e⟩ := List.mem_iff_getElem.mp hd
  have q := congrArg (fun l => l[i]?) c
  simp only [List.getElem?_map, List.getElem?_eq_getElem hi, e, Option.map_some] at q
  exact Option.some.inj q
theorem fnV2_ok {q : Str × Option Str} {d : Dd} (e : fnV2 K q = d.val) : ∃ oc od fd osl, K.lookup (He.fAd K q) = some ⟨oc, od, .func fd, osl⟩ ∧ fd.name = d.name ∧ fd.qualname = d.qual ∧ fd.params = d.params ∧ fd.body = .stmts d.body ∧ fd.scope = d.scope ∧ fd.globals = mainGlobals ∧ fd.builtins = builtinsNs := by
  unfold fnV2 at e
  split at e
  · rename_i oc od fd osl hl
    unfold Dd.val at e
    simp only [Option.some.injEq, Prod.mk.injEq] at e
    obtain ⟨e1, e2, e3, e4, e5, e6, e7⟩ := e
    exact ⟨oc, od, fd, osl, hl, e1, e2, e3, e4, e5, e6, e7⟩
  · cases e
theorem parB_ok {ps : Arguments} {ns : List Str} (h : parB ps ns = true) : ∃ as kd ds, ps = ⟨[], as, none, [], kd, none, ds⟩ ∧ as.map (·.arg) = ns ∧ ns.Nodup := by
  unfold parB at h
  split at h
  · simp only [Bool.and_eq_true, decide_eq_true_eq] at h
    exact ⟨_, _, _, rfl, h.1, h.2⟩
  · cases h
theorem seq_none : seqItems? .none = (pure none : Sem (Option (Array Value))) := rfl
/-- a def, bound and known -/
theorem def_ok {df : Df} {dfl : List PV} (hd : defB K df dfl = true) (e : fnV2 K (df.nm, none) = df.dd.val)
    (hlam : df.lam = true → ∃ c Pt, He.codeOf K (df.nm, none) = c ∧ LamX.TabB base mg c Pt ∧ (Pt, (df.nm ++ ".<locals>.") ++ "<lambda>") ∈ (p.base K).T ∧ ∀ q ∈ (p.base K).T, q.1 = Pt → q.2 = (df.nm ++ ".<locals>.") ++ "<lambda>") :
    ∃ fd dvs, DfF (p.base K) df (He.ga K df.nm) fd mg base ∧ (∀ μ M H, RpL (p.base K) μ M H dfl dvs) ∧ ∀ j, j ≤ dvs.length → ∃ ds, Vals (dvs.drop j) ds ∧ Binds K fd df.ps ds := by
  unfold defB at hd
  simp only [Bool.and_eq_true, decide_eq_true_eq] at hd
  obtain ⟨⟨⟨⟨h1, h2⟩, h3⟩, h4⟩, h5⟩ := hd
  obtain ⟨oc, od, fd, osl, lk, f1, f2, f3, f4, f5, f6, f7⟩ := fnV2_ok e
  have lk : K.lookup (He.ga K df.nm) = some ⟨oc, od, .func fd, osl⟩ := lk
  rw [lk] at h2
  simp only [Bool.and_eq_true] at h2
  obtain ⟨⟨g1, g2⟩, g3⟩ := h2
  obtain ⟨as, kd, ds, hp, hn, nd⟩ := parB_ok h3
  obtain ⟨nm, qn, par, bd, sc, gl, clo, dV, kV, doc, pm, an, cdv, ct, bl⟩ := fd
  dsimp only at f1 f2 f3 f4 f5 f6 f7 g1 g2 g3
  have hclo : clo = [] := by simpa using g2
  subst f1 f2 f3 f4 f5 f6 f7 hclo
  obtain ⟨c, hc⟩ := He.codeIn_ref g1
  have dff : DfF (p.base K) df (He.ga K df.nm) (PySem.W.fnOf df.nm df.nm df.params df.body df.scope dV kV doc pm an cdv ct) mg base := by
    refine ⟨⟨oc, od, dV, kV, doc, pm, an, cdv, ct, osl, rfl, lk, g1, fun hl => ?_⟩, h1, C8.fnScope_by h4⟩
    obtain ⟨c', Pt, e1, e2, e3, e4⟩ := hlam hl
    have : He.codeOf K (df.nm, none) = c := He.codeOf_eq lk hc
    exact ⟨c, Pt, hc, by rw [← this, e1]; exact e2, e3, e4⟩
  have nd' : (as.map (·.arg)).Nodup := by rw [hn]; exact nd
  have hlen : as.length = df.ps.length := by rw [← hn, List.length_map]
  unfold dflB2 at g3
  split at g3
  · have : dfl = [] := by simpa using g3
    subst this
    refine ⟨_, [], dff, fun _ _ _ => .nil, fun j hj => ?_⟩
    have : j = 0 := by simpa using hj
    subst this
    refine ⟨[], .nil, Binds.all fun us hl => ?_⟩
    obtain ⟨kk, b1, b2, b3⟩ := bind_gen (fd := PySem.W.fnOf df.nm df.nm df.params df.body df.scope .none kV doc pm an cdv ct) (as := as) (us := us) (its := []) (j := 0) hp nd' (by simp) (by simp) (by simp [hl, hlen])
    rw [b1]
    show (pure none >>= kk) = _
    rw [pure_bind, b3 rfl, hn, List.drop_nil, List.append_nil]
  · rename_i T
    split at g3
    · rename_i c1 d1 its n sl hT
      simp only [Bool.and_eq_true] at g3
      obtain ⟨dvs, r1, r2⟩ := conBL_ok (B := p.base K) g3.2
      refine ⟨_, dvs, dff, r2, fun j hj => ⟨its.toList.drop j, r1.drop j, fun s us X hl => ?_⟩⟩
      have l1 : dvs.length = its.toList.length := r1.length
      have l2 : dfl.length = dvs.length := (r2 [] ⟨fun _ => False, fun _ => False⟩ (fun _ => none)).length
      rw [List.length_append, List.length_drop] at hl
      obtain ⟨kk, b1, b2, b3⟩ := bind_gen (fd := PySem.W.fnOf df.nm df.nm df.params df.body df.scope (.ref _) kV doc pm an cdv ct) (as := as) (us := us) (its := its.toList) (j := j) hp nd' (by omega) (by omega) (by omega)
      refine BindsTo.of_looks fun M => ?_
      rw [b1]
      refine looks_items X hT rfl ?_
      rw [← hn]
      exact .of_pure b2
    · cases g3
  · cases g3
end
/-! ### all facts -/
theorem nodup_inj {α β : Type} {f : α → β} : ∀ {l : List α}, (l.map f).Nodup → ∀ {x y : α}, x ∈ l → y ∈ l → f x = f y → x = y
  | [], _, _, _, hx, _, _ => by cases hx
  | a :: l, h, x, y, hx, hy, e => by
    rw [List.map_cons, List.nodup_cons] at h
    obtain ⟨h1, h2⟩ := h
    rcases List.mem_cons.mp hx with ex | hx
    · rcases List.mem_cons.mp hy with ey | hy
      · rw [ex, ey]
      · exact absurd (List.mem_map.mpr ⟨y, hy, by rw [← e, ex]⟩) h1
    · rcases List.mem_cons.mp hy with ey | hy
      · exact absurd (List.mem_map.mpr ⟨x, hx, by rw [e, ey]⟩) h1
      · exact nodup_inj h2 hx hy e
theorem mem_lookup' {α : Type} {x : Str} {a : α} {l : List (Str × α)} (h : l.lookup x = some a) : (x, a) ∈ l := PySem.mem_of_lookup h
theorem sf_ok {p : Prg} {K : PySem.W.Frag} {h : Heap} {mg : Str → Option Value} {base : Heap} {prog : Program} {w : World} (X : K.In h) (Gn : h.Ns mainGlobals mg) (c : SaysM p.fn p.tfs (p.ex prog.main.file) h K) (htop : (prog.main.scope.names.lookup ("super" : Str)).isSome = false)
    (tb : ∀ q ∈ p.tfs.map (He.cT K), LamX.TabB base mg q.1 q.2) : SF (p.base K) p.G p.dfs prog w mg base := by
  have hex := c.more
  unfold Prg.ex at hex
  simp only [Bool.and_eq_true, List.all_eq_true, decide_eq_true_eq, List.mem_range] at hex
  obtain ⟨⟨⟨⟨x1, x2⟩, x3⟩, x4⟩, x5⟩ := hex
  have hlam : ∀ df : Df, (df.lam = true → df.nm ∈ p.tf) → df.lam = true → ∃ c Pt, He.codeOf K (df.nm, none) = c ∧ LamX.TabB base mg c Pt ∧ (Pt, (df.nm ++ ".<locals>.") ++ "<lambda>") ∈ (p.base K).T ∧ ∀ q ∈ (p.base K).T, q.1 = Pt → q.2 = (df.nm ++ ".<locals>.") ++ "<lambda>" := fun df hm hl => by
    have hm := hm hl
    refine ⟨_, (He.cT K (df.nm, none)).2, rfl, tb _ (List.mem_map.mpr ⟨(df.nm, none), List.mem_map.mpr ⟨df.nm, hm, rfl⟩, rfl⟩), List.mem_map.mpr ⟨df.nm, hm, rfl⟩, fun q hq e => ?_⟩
    obtain ⟨y, hy, rfl⟩ := List.mem_map.mp hq
    have : y = df.nm := nodup_inj x5 hy hm e
    subst this
    rfl
  refine ⟨?_, ?_, ?_, ?_, ?_, ?_, ?_, ?_, fun _ => rfl, He.free_ok X Gn x3, ?_, ?_⟩
  · intro x hx hl
    have := x2 x hx
    rw [hl] at this
    exact He.free_ok X Gn this
  · intro x pv hl
    have := x1 _ (mem_lookup' hl)
    unfold glB at this
    dsimp only at this
    split at this
    · rename_i u hu
      obtain ⟨v, r1, r2⟩ := conB_ok (B := p.base K) this
      exact ⟨u, v, PySem.W.mg_of X Gn hu, r1, r2⟩
    · cases this
  · intro x i hl
    have := x1 _ (mem_lookup' hl)
    unfold glB at this
    dsimp only at this
    rw [Bool.and_eq_true] at this
    obtain ⟨g1, g2⟩ := this
    split at g2
    · rename_i df fi e1 e2
      simp only [Bool.and_eq_true, decide_eq_true_eq, Bool.or_eq_true, Bool.not_eq_true'] at g2
      obtain ⟨⟨⟨g3, g4⟩, g5⟩, g6⟩ := g2
      have hfv := fn_mem c.fns (d := df.dd) (List.mem_append_left _ (List.mem_map.mpr ⟨df, List.mem_of_getElem? e1, rfl⟩))
      obtain ⟨fd, dvs, d1, d2, d3⟩ := def_ok (p := p) (mg := mg) (base := base) g5 hfv (hlam df fun z => g6.resolve_left (by rw [z]; simp))
      refine ⟨df, _, fd, fi, dvs, e1, e2, g4, ?_, ?_, d1, d2, by rw [g4]; exact d3⟩
      · rw [g3]; exact He.glo_ok X Gn g1
      · show (p.dfs[i]?).map _ = _
        rw [e1]; rfl
    · cases g2
  · intro x i hl
    have := x1 _ (mem_lookup' hl)
    unfold glB at this
    dsimp only at this
    rw [Bool.and_eq_true] at this
    obtain ⟨g1, g2⟩ := this
    split at g2
    · rename_i df e1
      simp only [Bool.and_eq_true, decide_eq_true_eq, Bool.not_eq_true'] at g2
      obtain ⟨⟨⟨g3, g4⟩, g5⟩, g6⟩ := g2
      split at g6
      · rename_i a hps
        simp only [Bool.and_eq_true, decide_eq_true_eq] at g6
        have hfv := fn_mem c.fns (d := df.dd) (List.mem_append_left _ (List.mem_map.mpr ⟨df, List.mem_of_getElem? e1, rfl⟩))
        obtain ⟨fd, dvs, d1, d2, d3⟩ := def_ok (p := p) (mg := mg) (base := base) g4 hfv (fun z => by rw [g5] at z; cases z)
        have hz : dvs = [] := by
          have := (d2 [] ⟨fun _ => False, fun _ => False⟩ (fun _ => none)).length
          exact List.length_eq_zero_iff.mp this.symm
        subst hz
        obtain ⟨ds, v1, v2⟩ := d3 0 (Nat.le_refl _)
        have : ds = [] := by
          cases v1; rfl
        subst this
        refine ⟨df, _, fd, a, e1, g3, ?_, d1, v2, hps, g6.1.1, isVis_ok g6.1.2, g6.2⟩
        rw [g3]; exact He.glo_ok X Gn g1
      · cases g6
    · cases g2
  · intro x cc hl
    have := x1 _ (mem_lookup' hl)
    unfold glB at this
    dsimp only at this
    simp only [Bool.and_eq_true, decide_eq_true_eq] at this
    obtain ⟨⟨⟨g1, g2⟩, g3⟩, g4⟩ := this
    split at g4
    · rename_i i hi
      simp only [Bool.and_eq_true] at g4
      obtain ⟨⟨⟨g5, g6⟩, g7⟩, g8⟩ := g4
      obtain ⟨q, hq⟩ := Option.isSome_iff_exists.mp g5
      obtain ⟨q', hq'⟩ := Option.isSome_iff_exists.mp g6
      have hfv := fn_mem c.fns (d := ⟨(x, some "__init__"), "__init__", i.qual, i.params, i.body, i.scope⟩) (List.mem_append_right _ (List.mem_map.mpr ⟨(x, i), mem_lookup' hi, rfl⟩))
      refine ⟨He.ga K x, _, "self", p.G.ea cc, ?_, He.glo_ok X Gn g1, tld_ok g3 hq hq' g7 g8 htop (fnV2_ok hfv)⟩
      show (p.ecs[cc]?).map _ = _
      rw [g2]; rfl
    · cases g4
  · intro x cc hl
    have key : gloB K x = true ∧ p.ecs[cc]? = some x := by
      rcases hl with hl | hl
      · have := x1 _ (mem_lookup' hl)
        unfold glB at this
        dsimp only at this
        simp only [Bool.and_eq_true, decide_eq_true_eq] at this
        exact ⟨this.1.1.1, this.1.1.2⟩
      · have := x1 _ (mem_lookup' hl)
        unfold glB at this
        dsimp only at this
        simp only [Bool.and_eq_true, decide_eq_true_eq] at this
        exact this
    refine ⟨He.ga K x, ?_, He.glo_ok X Gn key.1⟩
    show (p.ecs[cc]?).map _ = _
    rw [key.2]; rfl
  · intro cc C hC
    have hC : (p.ecs[cc]?).map (He.ga K) = some C := hC
    obtain ⟨x, hx, rfl⟩ := Option.map_eq_some_iff.mp hC
    have := x4 cc (List.getElem?_eq_some_iff.mp hx).1
    rw [hx] at this
    simp only [Bool.and_eq_true, decide_eq_true_eq] at this
    exact ⟨xfB_ok this.1.1.1, this.1.2⟩
  · intro cc C cc' C' hC hC'
    have hC : (p.ecs[cc]?).map (He.ga K) = some C := hC
    have hC' : (p.ecs[cc']?).map (He.ga K) = some C' := hC'
    obtain ⟨x, hx, rfl⟩ := Option.map_eq_some_iff.mp hC
    obtain ⟨x', hx', rfl⟩ := Option.map_eq_some_iff.mp hC'
    have := x4 cc (List.getElem?_eq_some_iff.mp hx).1
    rw [hx] at this
    simp only [Bool.and_eq_true, decide_eq_true_eq, List.all_eq_true, List.mem_range] at this
    have := this.2 cc' (List.getElem?_eq_some_iff.mp hx').1
    rw [hx'] at this
    simp only [Bool.and_eq_true, decide_eq_true_eq] at this
    exact this.1
  · intro cc C hC
    have hC : (p.ecs[cc]?).map (He.ga K) = some C := hC
    obtain ⟨x, hx, rfl⟩ := Option.map_eq_some_iff.mp hC
    have := x4 cc (List.getElem?_eq_some_iff.mp hx).1
    rw [hx] at this
    simp only [Bool.and_eq_true, decide_eq_true_eq] at this
    exact xiB_ok this.1.1.2
  · intro cc C cc' C' hC hC'
    have hC : (p.ecs[cc]?).map (He.ga K) = some C := hC
    have hC' : (p.ecs[cc']?).map (He.ga K) = some C' := hC'
    obtain ⟨x, hx, rfl⟩ := Option.map_eq_some_iff.mp hC
    obtain ⟨x', hx', rfl⟩ := Option.map_eq_some_iff.mp hC'
    have := x4 cc (List.getElem?_eq_some_iff.mp hx).1
    rw [hx] at this
    simp only [Bool.and_eq_true, decide_eq_true_eq, List.all_eq_true, List.mem_range] at this
    have := this.2 cc' (List.getElem?_eq_some_iff.mp hx').1
    rw [hx'] at this
    simp only [Bool.and_eq_true, decide_eq_true_eq] at this
    exact this.2
end E2
end
section
set_option Elab.async false
set_option linter.all false
set_option maxRecDepth 100000
set_option maxHeartbeats 4000000
set_option autoImplicit false
namespace E2
open PySem PySem.Spec PyProof.Rows L2
/-! ### the law's end -/
theorem law_def {K : PySem.W.Frag} {df : Df} {x : Str} (hd : defB K df [] = true) (e : fnV2 K (df.nm, none) = df.dd.val) (hx : df.ps = [x]) :
    ∃ oc od fd osl, K.lookup (He.ga K df.nm) = some ⟨oc, od, .func fd, osl⟩ ∧ ∀ (s : Shared) (u : Value), BindsTo s fd ⟨[u], []⟩ [(x, u)] := by
  unfold defB at hd
  simp only [Bool.and_eq_true, decide_eq_true_eq] at hd
  obtain ⟨⟨⟨⟨h1, h2⟩, h3⟩, h4⟩, h5⟩ := hd
  obtain ⟨oc, od, fd, osl, lk, f1, f2, f3, f4, f5, f6, f7⟩ := fnV2_ok e
  have lk : K.lookup (He.ga K df.nm) = some ⟨oc, od, .func fd, osl⟩ := lk
  refine ⟨oc, od, fd, osl, lk, fun s u => BindsTo.of_eq ?_⟩
  rw [lk] at h2
  simp only [Bool.and_eq_true] at h2
  obtain ⟨⟨g1, g2⟩, g3⟩ := h2
  obtain ⟨as, kd, ds, hp, hn, nd⟩ := parB_ok h3
  have hdef : fd.defaults = .none := by
    unfold dflB2 at g3
    split at g3
    · assumption
    · split at g3
      · simp at g3
      · cases g3
    · cases g3
  have hp : fd.params = ⟨[], as, none, [], kd, none, ds⟩ := f3.trans hp
  have hl : as.length = 1 := by
    have : (as.map (·.arg)).length = df.ps.length := by rw [hn]
    rw [List.length_map, hx] at this
    exact this
  obtain ⟨kk, b1, b2, b3⟩ := bind_gen (fd := fd) (as := as) (us := [u]) (its := []) (j := 0) hp (by rw [hn]; exact nd) (by simp) (by simp) (by simp [hl])
  rw [b1, hdef]
  show (pure none >>= kk) = _
  rw [pure_bind, b3 rfl, hn, hx]
  rfl
/-! ### the call of a law, nothing being shown by repr around it -/
section
variable {P : Program} {w : World} {K : PySem.W.Frag} {mg mb : Str → Option Value} {CX : CXT} {k : Nat} {fa a : Addr} {cs : List (Addr × Addr)} {fd : FuncData} {x : Str} {sp : Sp} {s₁ : Shared} {vs : List Value} {ns : List Int}
/-- from what is tracked at the start: the script, maybe, and the tables -/
theorem law_from (KX : K.In s₁.heap) (hns : s₁.heap.Ns mainGlobals mg) (hb : s₁.heap.Ns builtinsNs mb) (hbb : ∀ y : Str, y ≠ "__name__" → mb y = bootBuiltins y) (hlim : s₁.heap.NoLimit) (hg : s₁.gens = #[])
    (hT : ∀ p ∈ cs, s₁.heap.get? p.2 = some { cls := .none, data := .fields #[] }) (nT : ∀ p ∈ cs, K.lookup p.2 = none) (C : ∀ p ∈ cs, PySem.W.CodeHd s₁.heap p.1 p.2)
    (hbm : ∃ (bm : Addr) (ob : Obj), mg "__builtins__" = some (.ref bm) ∧ bm ≠ builtinsNs ∧ s₁.heap.get? bm = some ob ∧ ob.cls = .type "module" ∧ ob.dict = some builtinsNs ∧ ob.data = .plain)
    (ha : s₁.heap.get? a = some { cls := .type "list", data := .seq vs.toArray }) (hr : Room k callerA)
    (F : ∀ base : Heap, K.In base → base.Ns mainGlobals mg → (∀ p ∈ cs, LamX.TabB base mg p.1 p.2) → FnG P w K mg base CX k fa fd [x] sp) (hbind : ∀ (s : Shared) (u : Value), BindsTo s fd ⟨[u], []⟩ [(x, u)])
    (hCX : ∀ H e s', CX [] H s₁ (fun _ _ _ => False) e s' → False)
    (H : Hp) (hsp : sp [.ref a] H (fun v _ => v = .bl true) fun _ _ _ => False) (hH : ∀ p ∈ cs, H p.2 = some (.tbl #[])) (hok : HOk P w H s₁.heap)
    (hO : ∀ b o, H b = some o → (b = a ∧ K.lookup a = none ∧ ∃ o' xs, o = .frz o' (.lst xs)) ∨ b ∈ cs.map (·.2)) :
    codeAny (model P w) callerA (.call (.ref fa) ⟨[.ref a], []⟩) (fun r s' => r = .ok (.ret (.bool true)) ∧ OldK s₁.heap s'.heap ∧ s'.os = s₁.os ∧ AllBare s'.gens) s₁ := by
  have tab : ∀ b, b ∈ cs.map (·.2) → s₁.heap.get? b = some { cls := .none, data := .fields #[] } := fun b hm => by
    obtain ⟨p, hp, rfl⟩ := List.mem_map.mp hm
    exact hT p hp
  -- an object that is neither a list nor an empty table is not tracked
  have off : ∀ {b : Addr} {o : Obj}, s₁.heap.get? b = some o → (∀ us n, o.data ≠ .seq us n) → o.data ≠ .fields #[] → H b = none := fun {b o} e n1 n2 => by
    cases q : H b with
    | none => rfl
    | some u =>
      exfalso
      rcases hO b u q with ⟨rfl, _⟩ | z
      · cases e.symm.trans ha
        exact n1 _ _ rfl
      · cases e.symm.trans (tab b z)
        exact n2 rfl
  have ns_ : ∀ {b : Addr} {m : Str → Option Value}, s₁.heap.Ns b m → (hidT s₁.heap H).Ns b m := fun {b m} z => by
    obtain ⟨o, es, ep, e, d, r⟩ := z
    exact ⟨o, es, ep, hidT_get e (off e (fun us n z => by rw [d] at z; cases z) (fun z => by rw [d] at z; cases z)), d, r⟩
  have kin : K.In (hidT s₁.heap H) := fun b o e => hidT_get (KX b o e) (by
    cases q : H b with
    | none => rfl
    | some u =>
      exfalso
      rcases hO b u q with ⟨rfl, z, _⟩ | z
      · rw [z] at e; cases e
      · obtain ⟨p, hp, rfl⟩ := List.mem_map.mp z
        rw [nT p hp] at e; cases e)
  have md : L2.Mod K mg (hidT s₁.heap H) := by
    obtain ⟨mc, l1, l2⟩ := hlim
    exact ⟨kin, ns_ hns, ⟨mb, ns_ hb, hbb⟩, mc, ns_ l1, l2⟩
  have tbs : ∀ p ∈ cs, LamX.TabB (hidT s₁.heap H) mg p.1 p.2 := fun p hp => by
    obtain ⟨og, es, ep, eg, dg, _⟩ := id hns
    refine ⟨?_, ?_, fun z => ?_⟩
    · obtain ⟨o, us, file, tf, flags, tg, inF, text, tt, e1, r1, r2, r3, rest⟩ := C p hp
      refine ⟨o, us, file, tf, flags, tg, inF, text, tt, hidT_get e1 (off e1 (fun _ _ z => by rw [r2] at z; cases z) fun z => ?_), r1, r2, r3, rest⟩
      rw [r2] at z
      cases z
      simp at r3
    · obtain ⟨bm, ob, b1, b2, b3, b4, b5, b6⟩ := hbm
      refine ⟨bm, ob, b1, b2, fun q => ?_, fun q => ?_, hidT_get b3 (off b3 (fun _ _ z => by rw [b6] at z; cases z) fun z => by rw [b6] at z; cases z), b4, b5, b6⟩
      · subst q
        cases b3.symm.trans eg
        rw [b6] at dg; cases dg
      · subst q
        cases b3.symm.trans (hT p hp)
        cases b6
    · rw [z, hT p hp] at eg
      cases eg
      cases dg
  have e0 : Env0 P w K mg (hidT s₁.heap H) callerA [] s₁ H := ⟨rfl, md, fun b o e => of_hidT e, Nat.le_of_eq (hidT_size _ _), trivial, fun b hm => (nomatch (show b ∈ ([] : List Addr) from hm)), hok, .of_eq hg⟩
  refine codeAny_mono ((F _ kin (ns_ hns) tbs).go callerA [] s₁ H ⟨[.ref a], []⟩ [.ref a] [.ref a] _ _ hr rfl e0 (hbind s₁ (.ref a)) (.cons rfl .nil) hsp) ?_
  rintro (e | fl) s' hq
  · exact (hCX H e s' hq).elim
  cases fl with
  | next => exact hq.elim
  | brk => exact hq.elim
  | cont => exact hq.elim
  | ret u =>
    obtain ⟨v, H', os, bare, un, hok', rv, q⟩ := hq
    have q : v = .bl true := q
    subst q
    obtain rfl : u = Value.bool true := rv
    have stays : ∀ b o, b ∉ cs.map (·.2) → s₁.heap.get? b = some o → s'.heap.get? b = some o := fun b o nb e => by
      cases q : H b with
      | none => exact un.keep b o e q (fun z => nomatch (show b ∈ ([] : List Addr) from z)) (by simp)
      | some u =>
        rcases hO b u q with ⟨_, _, ob, xs, rfl⟩ | z
        · have f1 := (hok b _ q).1
          have f2 := (hok' b _ (un.frzs b ob _ q)).1
          cases e.symm.trans f1
          exact f2
        · exact (nb z).elim
    have grow : ∀ p ∈ cs, ∃ more : Array Value, s'.heap.get? p.2 = some { cls := .none, data := .fields more } := fun p hp => by
      obtain ⟨more, z⟩ := un.tbls p.2 #[] (hH p hp)
      exact ⟨_, hok' p.2 _ z⟩
    refine ⟨rfl, ⟨fun b o e => ?_, fun b o e => ?_⟩, os, bare⟩
    · by_cases hm : b ∈ cs.map (·.2)
      · obtain ⟨p, hp, rfl⟩ := List.mem_map.mp hm
        obtain ⟨more, hmo⟩ := grow p hp
        cases e.symm.trans (hT p hp)
        exact .inr (.inl ⟨((C p hp).tab (hT p hp)).isCodeTable, rfl, #[], more, rfl, by rw [Array.empty_append]; exact hmo⟩)
      · exact .inl (stays b o hm e)
    · by_cases hm : b ∈ cs.map (·.2)
      · obtain ⟨p, hp, rfl⟩ := List.mem_map.mp hm
        exact ⟨_, (grow p hp).choose_spec⟩
      · exact ⟨o, stays b o hm e⟩
theorem law_callG (KX : K.In s₁.heap) (hns : s₁.heap.Ns mainGlobals mg) (hb : s₁.heap.Ns builtinsNs mb) (hbb : ∀ y : Str, y ≠ "__name__" → mb y = bootBuiltins y) (hlim : s₁.heap.NoLimit) (hg : s₁.gens = #[])
    (hT : ∀ p ∈ cs, s₁.heap.get? p.2 = some { cls := .none, data := .fields #[] }) (nT : ∀ p ∈ cs, K.lookup p.2 = none) (C : ∀ p ∈ cs, PySem.W.CodeHd s₁.heap p.1 p.2)
    (hbm : ∃ (bm : Addr) (ob : Obj), mg "__builtins__" = some (.ref bm) ∧ bm ≠ builtinsNs ∧ s₁.heap.get? bm = some ob ∧ ob.cls = .type "module" ∧ ob.dict = some builtinsNs ∧ ob.data = .plain)
    (ha : s₁.heap.get? a = some { cls := .type "list", data := .seq vs.toArray }) (hi : IntsAre vs ns) (hl : ns.length ≤ sizeLine) (hr : Room k callerA)
    (F : ∀ base : Heap, K.In base → base.Ns mainGlobals mg → (∀ p ∈ cs, LamX.TabB base mg p.1 p.2) → FnG P w K mg base CX k fa fd [x] sp) (hbind : ∀ (s : Shared) (u : Value), BindsTo s fd ⟨[u], []⟩ [(x, u)])
    (hsp : ∀ H : Hp, (∀ p ∈ cs, H p.2 = some (.tbl #[])) → SqL K H a (ns.map V.int) → sp [.ref a] H (fun v _ => v = .bl true) fun _ _ _ => False)
    (hCX : ∀ H e s', CX [] H s₁ (fun _ _ _ => False) e s' → False) :
    codeAny (model P w) callerA (.call (.ref fa) ⟨[.ref a], []⟩) (fun r s' => r = .ok (.ret (.bool true)) ∧ OldK s₁.heap s'.heap ∧ s'.os = s₁.os ∧ AllBare s'.gens) s₁ := by
  have rv := vals_ints hi
  have len := hi.length
  have aT : a ∉ cs.map (·.2) := fun z => by
    obtain ⟨p, hp, e⟩ := List.mem_map.mp z
    have q := hT p hp
    rw [e] at q
    have z' : Data.seq vs.toArray _ = Data.fields #[] := congrArg Obj.data (Option.some.inj (ha.symm.trans q))
    cases z'
  let T : Hp := fun b => if b ∈ cs.map (·.2) then some (.tbl #[]) else none
  have T1 : ∀ p ∈ cs, T p.2 = some (.tbl #[]) := fun p hp => if_pos (List.mem_map.mpr ⟨p, hp, rfl⟩)
  have T2 : ∀ b o, T b = some o → b ∈ cs.map (·.2) ∧ o = .tbl #[] := fun b o e => by
    by_cases hm : b ∈ cs.map (·.2)
    · exact ⟨hm, (Option.some.inj ((if_pos hm).symm.trans e)).symm⟩
    · cases (if_neg hm).symm.trans e
  have T3 : HOk P w T s₁.heap := fun b u e => by
    obtain ⟨hm, rfl⟩ := T2 b u e
    obtain ⟨p, hp, rfl⟩ := List.mem_map.mp hm
    exact hT p hp
  cases hk : K.lookup a with
  | some o =>
    cases (KX a o hk).symm.trans ha
    exact law_from KX hns hb hbb hlim hg hT nT C hbm ha hr F hbind hCX T (hsp T T1 (.inr ⟨_, vs.toArray, _, hk, rfl, rfl, rfl, by rw [List.size_toArray, len]; exact hl, by simpa using rv⟩)) T1 T3 fun b o e => .inr (T2 b o e).1
  | none =>
    let H : Hp := fun b => if b = a then some (.frz { cls := .type "list", data := .seq vs.toArray } (.lst (ns.map V.int))) else T b
    have H1 : ∀ p ∈ cs, H p.2 = some (.tbl #[]) := fun p hp => (if_neg (fun z => aT (by rw [← z]; exact List.mem_map.mpr ⟨p, hp, rfl⟩))).trans (T1 p hp)
    refine law_from KX hns hb hbb hlim hg hT nT C hbm ha hr F hbind hCX H (hsp H H1 (.inl (.inr ⟨{ cls := .type "list", data := .seq vs.toArray }, if_pos rfl⟩))) H1 (fun b u e => ?_) fun b o e => ?_
    · by_cases hm : b = a
      · subst hm
        cases (if_pos rfl).symm.trans e
        exact ⟨ha, by rw [List.length_map]; exact hl, vs, _, rv, ha⟩
      · obtain ⟨hm2, rfl⟩ := T2 b u ((if_neg hm).symm.trans e)
        obtain ⟨p, hp, rfl⟩ := List.mem_map.mp hm2
        exact hT p hp
    · by_cases hm : b = a
      · exact .inl ⟨hm, hk, _, _, (Option.some.inj ((if_pos hm).symm.trans e)).symm⟩
      · exact .inr (T2 b o ((if_neg hm).symm.trans e)).1
end
/-- what is asked of a law -/
def LawG (l : PySem.W.OpenLaw) (w : World) (K : PySem.W.Frag) (CX : CXT) (k n : Nat) (x : Str) (mg : Str → Option Value) (fa : Addr) (h : Heap) : Prop :=
  ∃ (fd : FuncData) (cs : List (Addr × Addr)) (sp : Sp), (∀ p ∈ cs, h.get? p.2 = some { cls := .none, data := .fields #[] }) ∧ (∀ p ∈ cs, K.lookup p.2 = none) ∧ (∀ p ∈ cs, PySem.W.CodeHd h p.1 p.2) ∧ (∀ (s : Shared) (u : Value), BindsTo s fd ⟨[u], []⟩ [(x, u)]) ∧
    (∀ (H : Hp) (a : Addr) (ns : List Int), ns.length ≤ n → (∀ z ∈ ns, Builtin.Int.intBits z ≤ 1048576) → (∀ p ∈ cs, H p.2 = some (.tbl #[])) → SqL K H a (ns.map V.int) → sp [.ref a] H (fun v _ => v = .bl true) fun _ _ _ => False) ∧
    ∀ base : Heap, K.In base → base.Ns mainGlobals mg → (∀ p ∈ cs, LamX.TabB base mg p.1 p.2) → FnG l.prog w K mg base CX k fa fd [x] sp
theorem walkG {l : PySem.W.OpenLaw} {n k : Nat} {q : Program} {loose : List Str} {XP : (Str → Option Value) → Heap → Prop} {YP : World → Heap → Prop} {d : DefRec} {CX : World → CXT} {x : Str} (hn : l.most = some n) (hn2 : n ≤ sizeLine) (hdf : d.params.defaults = []) (hr : Room k callerA)
    (F : ∀ (w : World) (mg : Str → Option Value) (fa : Addr) (h : Heap), YP w h → h.Ns mainGlobals mg → mg d.name = some (.ref fa) → ∃ K : PySem.W.Frag, K.In h ∧ LawG l w K (CX w) k n x mg fa h)
    (hCX : ∀ (w : World) (H : Hp) (s : Shared) (e : Value) (s' : Shared), CX w [] H s (fun _ _ _ => False) e s' → False) :
    PySem.W.WalkO q loose XP YP l.row.toRowW d [] (fun f vs => PySem.call f vs) := by
  refine Att.attach_callB hn hdf fun w s₀ s₁ mg mb fa o pm cd doc a vs ns G Y ho hd hcd hmg hobj hints hlen hbits hg => ?_
  obtain ⟨K, KX, fd, cs, sp, q1, q2, q3, q4, q5, q6⟩ := F w mg fa _ Y G.T.g hmg
  exact law_callG KX G.T.g G.T.b G.T.builtins G.T.nolimit hg q1 q2 q3 G.T.bmain hobj hints (Nat.le_trans hlen hn2) hr q6 q4 (fun H h1 h2 => q5 H a ns hlen hbits h1 h2) fun H e s' => hCX w H s₁ e s'
def P0 : Pv := ⟨fun _ => False, fun _ => False, fun _ _ _ => True, fun _ _ => True.intro⟩
theorem law_at {l : PySem.W.OpenLaw} {w : World} {p : Prg} {K : PySem.W.Frag} {h : Heap} {mg : Str → Option Value} {fa : Addr} {m k n i : Nat} {x : Str} {df : Df} (X : K.In h) (Gn : h.Ns mainGlobals mg) (c : SaysM p.fn p.tfs (p.ex l.prog.main.file) h K) (htop : (l.prog.main.scope.names.lookup ("super" : Str)).isSome = false)
    (hl : p.G.gl.lookup df.nm = some (.fn i)) (hdf : p.dfs[i]? = some df) (hfi : (p.G.fi[i]?).map (·.dfl.length) = some 0) (hx : df.ps = [x]) (hmg : mg df.nm = some (.ref fa))
    (plain : ∀ ns : List Int, ns.length ≤ n → (∀ z ∈ ns, Builtin.Int.intBits z ≤ 1048576) → ∃ S', runD p.G m (Lv p.G p.dfs m k) k df [.scr ns] [] = .ok (.bl true) S') :
    LawG l w K (L2.CX l.prog w) (k + 1) n x mg fa h := by
  have hex := c.more
  unfold Prg.ex at hex
  simp only [Bool.and_eq_true, List.all_eq_true] at hex
  have hgl := hex.1.1.1.1 _ (mem_lookup' hl)
  unfold glB at hgl
  dsimp only at hgl
  rw [Bool.and_eq_true, hdf] at hgl
  obtain ⟨hg1, hg2⟩ := hgl
  have hfa : fa = He.ga K df.nm := by
    have := hmg.symm.trans (He.glo_ok X Gn hg1)
    cases this; rfl
  subst hfa
  split at hg2
  rotate_left 1
  · cases hg2
  rename_i df' fi e1 e2
  cases e1
  simp only [Bool.and_eq_true] at hg2
  have hdfl : fi.dfl = [] := by
    rw [e2] at hfi
    simpa using hfi
  have hdB := hg2.1.2
  rw [hdfl] at hdB
  have hfv := fn_mem c.fns (d := df.dd) (List.mem_append_left _ (List.mem_map.mpr ⟨df, List.mem_of_getElem? hdf, rfl⟩))
  obtain ⟨oc, od, fd, osl, lk, hb⟩ := law_def hdB hfv hx
  refine ⟨fd, p.tfs.map (He.cT K), spOf (p.base K) 1 (runD p.G m (Lv p.G p.dfs m k) k df), fun q hq => ?_, fun q hq => ?_, fun q hq => ?_, hb, fun H a ns hlen hbits hT hS => ?_, fun base kin ns tb => ?_⟩
  · obtain ⟨y, hy, rfl⟩ := List.mem_map.mp hq
    exact c.empty y hy
  · obtain ⟨y, hy, rfl⟩ := List.mem_map.mp hq
    exact c.out y hy
  · obtain ⟨y, hy, rfl⟩ := List.mem_map.mp hq
    exact PySem.W.codeHd_of_K X (c.hd y hy)
  · obtain ⟨S', hp⟩ := plain ns hlen hbits
    refine ⟨P0, [], [], [.scr ns], ⟨rfl, List.nodup_nil, fun n m pv a h1 => by simp at h1, fun q hq => ?_, fun a z => z.elim, fun a z => z.elim, True.intro⟩, .cons (.scr ?_) .nil, rfl, ?_⟩
    · obtain ⟨y, hy, rfl⟩ := List.mem_map.mp hq
      exact LamX.TabS.nil (hT _ (List.mem_map.mpr ⟨(y, none), List.mem_map.mpr ⟨y, hy, rfl⟩, rfl⟩))
    · rcases hS with z | z
      · exact .inl ⟨z, fun q => q.elim (fun ⟨n, pv, h1, _⟩ => by simp at h1) id⟩
      · exact .inr z
    · rw [hp]
      intro μ' H' b _ _ r
      have r : Rp (p.base K) μ' _ H' (.bl true) b := r
      cases r
      rfl
  · have sf := sf_ok (w := w) (base := base) X Gn c htop tb
    obtain ⟨df2, f2, fd2, fi2, dvs, q1, q2, q3, q4, q5, q6, q7, q8⟩ := sf.fnc _ i hl
    rw [hdf] at q1
    cases q1
    rw [hmg] at q4
    cases q4
    obtain ⟨oc2, od2, dV, kV, doc, pm, an, cdv, ct, osl2, r1, r2, _⟩ := q6.ex
    have : fd2 = fd := by
      have r2 : K.lookup (He.ga K df.nm) = some ⟨oc2, od2, .func fd2, osl2⟩ := r2
      rw [lk] at r2
      cases r2; rfl
    subst this
    have ok := fn_ok (m := m) (pf_ok (m := m) sf k) q6
    rw [hx] at ok
    exact ok
end E2
end
section
set_option Elab.async false
set_option linter.all false
set_option maxRecDepth 100000
set_option autoImplicit false
namespace E2
open PySem
/-! ### running by rewriting -/
section
variable {S : Store}
theorem drf_int {i : Int} : drf S (.int i) = .int i := rfl
theorem drf_bl {b : Bool} : drf S (.bl b) = .bl b := rfl
theorem drf_str {b : Str} : drf S (.str b) = .str b := rfl
theorem drf_non : drf S .non = .non := rfl
theorem drf_tup {x : List PV} : drf S (.tup x) = .tup x := rfl
theorem drf_lst {x : List PV} : drf S (.lst x) = .lst x := rfl
theorem drf_scr {x : List Int} : drf S (.scr x) = .scr x := rfl
theorem drf_ty {x : Ty} : drf S (.ty x) = .ty x := rfl
theorem drf_ref {n : Nat} {m : Bool} {v : PV} (h : S[n]? = some (m, v)) : drf S (.ref n) = v := by simp [drf, h]
theorem mutLst_ref {n : Nat} {xs : List PV} (h : S[n]? = some (true, .lst xs)) : mutLst S (.ref n) = some (n, xs) := by simp [mutLst, h]
theorem bind_ok {α β : Type} {a : α} {k : α → Store → Res β} : (Res.ok a S).bind k = k a S := rfl
theorem bind_exc {α β : Type} {c : Nat} {t : PV} {k : α → Store → Res β} : (Res.exc (α := α) c t S).bind k = .exc c t S := rfl
theorem lift_ok {α : Type} {a : α} {fr : Frame} {k : α → Store → RS} : liftE (.ok a S) fr k = k a S := rfl
theorem lift_exc {α : Type} {c : Nat} {t : PV} {fr : Frame} {k : α → Store → RS} : liftE (Res.exc (α := α) c t S) fr k = .exc c t fr S := rfl
theorem dVar_at {i : Nat} {fr : Frame} {v : PV} (h : fr[i]? = some (some v)) (n : isThk v = false) : dVar i fr S = .ok v S := by simp [dVar, h, n]
theorem seq_nx {a b : DS} {fr fr' : Frame} {S' : Store} (h : a fr S = .nx fr' S') : dSeq a b fr S = b fr' S' := by simp [dSeq, h]
theorem seq_rt {a b : DS} {fr : Frame} {v : PV} {S' : Store} (h : a fr S = .rt v S') : dSeq a b fr S = .rt v S' := by simp [dSeq, h]
theorem seq_exc {a b : DS} {fr fr' : Frame} {c : Nat} {v : PV} {S' : Store} (h : a fr S = .exc c v fr' S') : dSeq a b fr S = .exc c v fr' S' := by simp [dSeq, h]
end
/-! ### the same run, by an invariant of the names -/
def KeepsAt (I : Frame → Prop) : RS → Prop
  | .nx fr _ => I fr
  | .ct fr _ => I fr
  | .bk fr _ => I fr
  | _ => True
/-- a and a' run alike where I holds, and keep I -/
def Alike (I : Frame → Prop) (a a' : DS) : Prop := ∀ fr S, I fr → a fr S = a' fr S ∧ KeepsAt I (a fr S)
theorem Alike.seq {I : Frame → Prop} {a a' b b' : DS} (ha : Alike I a a') (hb : Alike I b b') : Alike I (dSeq a b) (dSeq a' b') := by
  intro fr S hI
  obtain ⟨e, kp⟩ := ha fr S hI
  unfold dSeq
  rw [← e]
  cases q : a fr S with
  | nx fr' S' => rw [q] at kp; exact hb fr' S' kp
  | rt v S' => exact ⟨rfl, True.intro⟩
  | bk fr' S' => rw [q] at kp; exact ⟨rfl, kp⟩
  | ct fr' S' => rw [q] at kp; exact ⟨rfl, kp⟩
  | exc c t fr' S' => exact ⟨rfl, True.intro⟩
  | fail => exact ⟨rfl, True.intro⟩
theorem Alike.next {I : Frame → Prop} : Alike I dNext dNext := fun _ _ h => ⟨rfl, h⟩
theorem Alike.ret {I : Frame → Prop} {e e' : DE} (h : ∀ fr S, I fr → e fr S = e' fr S) : Alike I (dRet e) (dRet e') := by
  intro fr S hI
  unfold dRet
  rw [h fr S hI]
  cases e' fr S <;> exact ⟨rfl, True.intro⟩
theorem Alike.drop {I : Frame → Prop} {e e' : DE} (h : ∀ fr S, I fr → e fr S = e' fr S) : Alike I (dDrop e) (dDrop e') := by
  intro fr S hI
  unfold dDrop
  rw [h fr S hI]
  cases e' fr S <;> first | exact ⟨rfl, hI⟩ | exact ⟨rfl, True.intro⟩
theorem Alike.ifs {I : Frame → Prop} {c c' : DT} {a a' b b' : DS} (hc : ∀ fr S, I fr → c fr S = c' fr S) (ha : Alike I a a') (hb : Alike I b b') : Alike I (dIf c a b) (dIf c' a' b') := by
  intro fr S hI
  unfold dIf
  rw [hc fr S hI]
  cases c' fr S with
  | ok k S1 =>
    rw [lift_ok, lift_ok]
    split
    · exact ha fr S1 hI
    · exact hb fr S1 hI
  | exc c t S1 => exact ⟨rfl, True.intro⟩
  | fail => exact ⟨rfl, True.intro⟩
theorem Alike.asg {I : Frame → Prop} {i : Nat} {e e' : DE} (hk : ∀ fr x, I fr → I (fr.set i x)) (h : ∀ fr S, I fr → e fr S = e' fr S) : Alike I (dAsg (.name i) e) (dAsg (.name i) e') := by
  intro fr S hI
  unfold dAsg
  rw [h fr S hI]
  cases e' fr S <;> first | exact ⟨rfl, hk _ _ hI⟩ | exact ⟨rfl, True.intro⟩
theorem forGo_alike {I : Frame → Prop} {i : Nat} {b b' : DS} (hk : ∀ fr x, I fr → I (fr.set i x)) (hb : Alike I b b') : ∀ (xs : List PV) (fr : Frame) (S : Store), I fr → forGo (.name i) b xs fr S = forGo (.name i) b' xs fr S ∧ KeepsAt I (forGo (.name i) b xs fr S)
  | [], fr, S, hI => ⟨rfl, hI⟩
  | x :: r, fr, S, hI => by
    obtain ⟨e, kp⟩ := hb (fr.set i (some x)) S (hk _ _ hI)
    simp only [forGo, bindG]
    rw [← e]
    cases q : b (fr.set i (some x)) S with
    | nx fr' S' => rw [q] at kp; exact forGo_alike hk hb r fr' S' kp
    | ct fr' S' => rw [q] at kp; exact forGo_alike hk hb r fr' S' kp
    | bk fr' S' => rw [q] at kp; exact ⟨rfl, kp⟩
    | rt v S' => exact ⟨rfl, True.intro⟩
    | exc c t fr' S' => exact ⟨rfl, True.intro⟩
    | fail => exact ⟨rfl, True.intro⟩
theorem Alike.for_ {I : Frame → Prop} {i : Nat} {d d' : DI} {b b' : DS} (hk : ∀ fr x, I fr → I (fr.set i x)) (hd : ∀ fr S, I fr → d fr S = d' fr S) (hb : Alike I b b') : Alike I (dFor d (.name i) b) (dFor d' (.name i) b') := by
  intro fr S hI
  unfold dFor
  rw [hd fr S hI]
  cases d' fr S with
  | ok xs S1 => exact forGo_alike hk hb xs fr S1 hI
  | exc c t S1 => exact ⟨rfl, True.intro⟩
  | fail => exact ⟨rfl, True.intro⟩
end E2
end
section
set_option Elab.async false
set_option linter.all false
set_option maxRecDepth 100000
set_option maxHeartbeats 0
namespace K22
open PySem E2 L2
def top (i : Nat) : Stmt := PySem.Challenge.pw_plainstore_k22_whole_walks_that_miss_or.main.body.getD i (.Pass ⟨0, 0, 0, 0⟩)
def clsBody : Stmt → List Stmt
  | .ClassDef _ _ _ b _ _ _ _ _ _ _ => b
  | _ => []
def ini (q : Str) (i j : Nat) : Ini := ⟨q, defArgs ((clsBody (top i)).getD j (.Pass ⟨0, 0, 0, 0⟩)), defBody ((clsBody (top i)).getD j (.Pass ⟨0, 0, 0, 0⟩)), defScope ((clsBody (top i)).getD j (.Pass ⟨0, 0, 0, 0⟩))⟩
def gl_0 : List (Str × Gb) := [
  ("is_whole", .fn 0),
  ("is_number", .fn 1),
  ("is_line", .fn 2),
  ("is_ascending", .fn 3),
  ("check_pages", .fn 4),
  ("is_way", .fn 5),
  ("check_way", .fn 6),
  ("check_page", .fn 7),
  ("ahead_of", .fn 8),
  ("is_visited", .fn 9),
  ("rule_lets", .fn 10),
  ("is_move", .fn 11),
  ("first_wrong", .fn 12),
  ("check_walk", .fn 13),
  ("is_let", .fn 14),
  ("places_ahead", .fn 15),
  ("visits_seen", .fn 16),
  ("sights", .fn 17),
  ("first_states", .fn 18),
  ("visited_next", .fn 19),
  ("moved_states", .fn 20),
  ("states_behind", .fn 21),
  ("all_states", .fn 22),
  ("walk_paper", .fn 23),
  ("are_places", .fn 24),
  ("is_state", .fn 25),
  ("accepts_none", .fn 26),
  ("accepts_miss", .fn 27),
  ("accepts_walk", .fn 28),
  ("check_begins", .fn 29)]
def gl_1 : List (Str × Gb) := [
  ("lesser_of", .fn 30),
  ("with_more", .fn 31),
  ("moved_on", .fn 32),
  ("cost_of", .fn 33),
  ("least_moves", .fn 34),
  ("_law_pool", .fn 35),
  ("_law_take", .fn 36),
  ("_law_one", .fn 37),
  ("_law_visited", .fn 38),
  ("_law_may", .fn 39),
  ("_law_sights", .fn 40),
  ("_law_let_moves", .fn 41),
  ("_law_record_right", .fn 42),
  ("_law_missed_right", .fn 43),
  ("law", .fn 44),
  ("MOST_PAGES", .con (.int 6)),
  ("MOST_BEGINS", .con (.int 5)),
  ("RULES", .con (.tup [(.str "barred"), (.str "free"), (.str "left")])),
  ("StoreError", .xb 0),
  ("NoCount", .exc 1),
  ("NoPage", .exc 2),
  ("NoWay", .exc 3),
  ("NoMoves", .exc 4)]
def gl : List (Str × Gb) := gl_0 ++ gl_1
def fi_0 : List (Fi) := [
  ⟨["value"], []⟩,
  ⟨["value", "low", "high"], []⟩,
  ⟨["value"], []⟩,
  ⟨["value"], []⟩,
  ⟨["pages"], []⟩,
  ⟨["rule"], []⟩,
  ⟨["rule"], []⟩,
  ⟨["pages", "page"], []⟩,
  ⟨["pages", "begin", "page"], []⟩,
  ⟨["pages", "begin", "page", "visit"], []⟩,
  ⟨["pages", "rule", "begin", "visit", "source", "target"], []⟩,
  ⟨["pages", "value", "before", "spot"], []⟩,
  ⟨["pages", "rule", "begin", "page", "moves"], []⟩,
  ⟨["pages", "rule", "begin", "page"], []⟩,
  ⟨["pages", "rule", "begin", "page", "moves"], []⟩,
  ⟨["page", "moves", "visit"], []⟩,
  ⟨["pages", "rule", "begin", "page", "moves"], []⟩,
  ⟨["pages", "rule", "begin", "page", "moves"], []⟩,
  ⟨["pages"], []⟩,
  ⟨["pages", "state"], []⟩,
  ⟨["pages", "rule", "state"], []⟩,
  ⟨["pages", "rule", "state"], []⟩,
  ⟨["pages", "rule"], []⟩,
  ⟨["pages", "rule"], []⟩,
  ⟨["pages", "rule", "value"], []⟩,
  ⟨["pages", "rule", "value"], []⟩,
  ⟨["pages", "rule", "value"], []⟩,
  ⟨["pages", "rule", "begin", "page", "moves"], []⟩,
  ⟨["pages", "rule", "value"], []⟩,
  ⟨["pages", "begins"], []⟩]
def fi_1 : List (Fi) := [
  ⟨["one", "other"], []⟩,
  ⟨["number", "more"], []⟩,
  ⟨["pages", "begin", "costs"], []⟩,
  ⟨["pages", "begins", "page"], []⟩,
  ⟨["pages", "begins", "page"], []⟩,
  ⟨["_law_script", "_law_k"], []⟩,
  ⟨["_law_source", "_law_top"], []⟩,
  ⟨["_law_source", "_law_things"], []⟩,
  ⟨["_law_size", "_law_begin", "_law_done"], []⟩,
  ⟨["_law_size", "_law_way", "_law_begin", "_law_done", "_law_spot", "_law_target"], []⟩,
  ⟨["_law_size", "_law_way", "_law_begin", "_law_spot", "_law_steps"], []⟩,
  ⟨["_law_source", "_law_size", "_law_way", "_law_begin", "_law_spot", "_law_top"], []⟩,
  ⟨["_law_source", "_law_size", "_law_way", "_law_begin", "_law_spot"], []⟩,
  ⟨["_law_size", "_law_begin", "_law_spot"], []⟩,
  ⟨["_law_script"], []⟩]
def fi : List (Fi) := fi_0 ++ fi_1
def dfs_0 : List (Df) := [
  ⟨"is_whole", defArgs (top 8), defBody (top 8), defScope (top 8), ["value"], ["value"], false⟩,
  ⟨"is_number", defArgs (top 9), defBody (top 9), defScope (top 9), ["value", "low", "high"], ["value", "low", "high"], false⟩,
  ⟨"is_line", defArgs (top 10), defBody (top 10), defScope (top 10), ["value"], ["value"], false⟩,
  ⟨"is_ascending", defArgs (top 11), defBody (top 11), defScope (top 11), ["value"], ["value", "one", "other"], false⟩,
  ⟨"check_pages", defArgs (top 15), defBody (top 15), defScope (top 15), ["pages"], ["pages"], false⟩,
  ⟨"is_way", defArgs (top 16), defBody (top 16), defScope (top 16), ["rule"], ["rule"], false⟩,
  ⟨"check_way", defArgs (top 17), defBody (top 17), defScope (top 17), ["rule"], ["rule"], false⟩,
  ⟨"check_page", defArgs (top 18), defBody (top 18), defScope (top 18), ["pages", "page"], ["pages", "page"], false⟩,
  ⟨"ahead_of", defArgs (top 19), defBody (top 19), defScope (top 19), ["pages", "begin", "page"], ["pages", "begin", "page"], false⟩,
  ⟨"is_visited", defArgs (top 20), defBody (top 20), defScope (top 20), ["pages", "begin", "page", "visit"], ["pages", "begin", "page", "visit"], false⟩,
  ⟨"rule_lets", defArgs (top 21), defBody (top 21), defScope (top 21), ["pages", "rule", "begin", "visit", "source", "target"], ["pages", "rule", "begin", "visit", "source", "target"], false⟩,
  ⟨"is_move", defArgs (top 22), defBody (top 22), defScope (top 22), ["pages", "value", "before", "spot"], ["pages", "value", "before", "spot"], false⟩,
  ⟨"first_wrong", defArgs (top 23), defBody (top 23), defScope (top 23), ["pages", "rule", "begin", "page", "moves"], ["pages", "rule", "begin", "page", "moves", "before", "spot", "index", "move"], false⟩,
  ⟨"check_walk", defArgs (top 24), defBody (top 24), defScope (top 24), ["pages", "rule", "begin", "page"], ["pages", "rule", "begin", "page"], false⟩,
  ⟨"is_let", defArgs (top 25), defBody (top 25), defScope (top 25), ["pages", "rule", "begin", "page", "moves"], ["pages", "rule", "begin", "page", "moves"], false⟩,
  ⟨"places_ahead", defArgs (top 26), defBody (top 26), defScope (top 26), ["page", "moves", "visit"], ["page", "moves", "visit", "moment", "target"], false⟩,
  ⟨"visits_seen", defArgs (top 27), defBody (top 27), defScope (top 27), ["pages", "rule", "begin", "page", "moves"], ["pages", "rule", "begin", "page", "moves", "found", "visit", "places"], false⟩,
  ⟨"sights", defArgs (top 28), defBody (top 28), defScope (top 28), ["pages", "rule", "begin", "page", "moves"], ["pages", "rule", "begin", "page", "moves", "wrong"], false⟩,
  ⟨"first_states", defArgs (top 29), defBody (top 29), defScope (top 29), ["pages"], ["pages", "begin", "page"], false⟩,
  ⟨"visited_next", defArgs (top 30), defBody (top 30), defScope (top 30), ["pages", "state"], ["pages", "state", "begin", "done", "places", "seen"], false⟩,
  ⟨"moved_states", defArgs (top 31), defBody (top 31), defScope (top 31), ["pages", "rule", "state"], ["pages", "rule", "state", "begin", "done", "places", "seen", "found", "page", "place"], false⟩,
  ⟨"states_behind", defArgs (top 32), defBody (top 32), defScope (top 32), ["pages", "rule", "state"], ["pages", "rule", "state"], false⟩,
  ⟨"all_states", defArgs (top 33), defBody (top 33), defScope (top 33), ["pages", "rule"], ["pages", "rule", "found", "waiting", "state"], false⟩,
  ⟨"walk_paper", defArgs (top 34), defBody (top 34), defScope (top 34), ["pages", "rule"], ["pages", "rule"], false⟩,
  ⟨"are_places", defArgs (top 35), defBody (top 35), defScope (top 35), ["pages", "rule", "value"], ["pages", "rule", "value", "page"], false⟩,
  ⟨"is_state", defArgs (top 36), defBody (top 36), defScope (top 36), ["pages", "rule", "value"], ["pages", "rule", "value"], false⟩,
  ⟨"accepts_none", defArgs (top 37), defBody (top 37), defScope (top 37), ["pages", "rule", "value"], ["pages", "rule", "value", "known", "state", "later"], false⟩,
  ⟨"accepts_miss", defArgs (top 38), defBody (top 38), defScope (top 38), ["pages", "rule", "begin", "page", "moves"], ["pages", "rule", "begin", "page", "moves"], false⟩,
  ⟨"accepts_walk", defArgs (top 39), defBody (top 39), defScope (top 39), ["pages", "rule", "value"], ["pages", "rule", "value"], false⟩,
  ⟨"check_begins", defArgs (top 40), defBody (top 40), defScope (top 40), ["pages", "begins"], ["pages", "begins", "page"], false⟩]
def dfs_1 : List (Df) := [
  ⟨"lesser_of", defArgs (top 41), defBody (top 41), defScope (top 41), ["one", "other"], ["one", "other"], false⟩,
  ⟨"with_more", defArgs (top 42), defBody (top 42), defScope (top 42), ["number", "more"], ["number", "more"], false⟩,
  ⟨"moved_on", defArgs (top 43), defBody (top 43), defScope (top 43), ["pages", "begin", "costs"], ["pages", "begin", "costs", "found", "target", "best", "page"], false⟩,
  ⟨"cost_of", defArgs (top 44), defBody (top 44), defScope (top 44), ["pages", "begins", "page"], ["pages", "begins", "page", "costs", "begin", "best", "spot"], false⟩,
  ⟨"least_moves", defArgs (top 45), defBody (top 45), defScope (top 45), ["pages", "begins", "page"], ["pages", "begins", "page"], false⟩,
  ⟨"_law_pool", defArgs (top 47), defBody (top 47), defScope (top 47), ["_law_script", "_law_k"], ["_law_script", "_law_k", "_law_cell", "_law_big", "_law_mixed"], false⟩,
  ⟨"_law_take", defArgs (top 48), defBody (top 48), defScope (top 48), ["_law_source", "_law_top"], ["_law_source", "_law_top", "_law_told"], false⟩,
  ⟨"_law_one", defArgs (top 49), defBody (top 49), defScope (top 49), ["_law_source", "_law_things"], ["_law_source", "_law_things"], false⟩,
  ⟨"_law_visited", defArgs (top 50), defBody (top 50), defScope (top 50), ["_law_size", "_law_begin", "_law_done"], ["_law_size", "_law_begin", "_law_done", "_law_visit"], false⟩,
  ⟨"_law_may", defArgs (top 51), defBody (top 51), defScope (top 51), ["_law_size", "_law_way", "_law_begin", "_law_done", "_law_spot", "_law_target"], ["_law_size", "_law_way", "_law_begin", "_law_done", "_law_spot", "_law_target", "_law_seen_pages"], false⟩,
  ⟨"_law_sights", defArgs (top 52), defBody (top 52), defScope (top 52), ["_law_size", "_law_way", "_law_begin", "_law_spot", "_law_steps"], ["_law_size", "_law_way", "_law_begin", "_law_spot", "_law_steps", "_law_found", "_law_lay", "_law_visit", "_law_there", "_law_moment", "_law_target"], false⟩,
  ⟨"_law_let_moves", defArgs (top 53), defBody (top 53), defScope (top 53), ["_law_source", "_law_size", "_law_way", "_law_begin", "_law_spot", "_law_top"], ["_law_source", "_law_size", "_law_way", "_law_begin", "_law_spot", "_law_top", "_law_found", "_law_before", "_law_lies", "_law_turn", "_law_moment", "_law_target"], false⟩,
  ⟨"_law_record_right", defArgs (top 54), defBody (top 54), defScope (top 54), ["_law_source", "_law_size", "_law_way", "_law_begin", "_law_spot"], ["_law_source", "_law_size", "_law_way", "_law_begin", "_law_spot", "_law_turn", "_law_steps", "_law_told"], false⟩,
  ⟨"_law_missed_right", defArgs (top 55), defBody (top 55), defScope (top 55), ["_law_size", "_law_begin", "_law_spot"], ["_law_size", "_law_begin", "_law_spot", "_law_steps"], false⟩,
  ⟨"law", defArgs (top 56), defBody (top 56), defScope (top 56), ["_law_script"], ["_law_script", "_law_k", "_law_source", "_law_size", "_law_way", "_law_begin", "_law_spot", "_law_paper"], false⟩]
def dfs : List (Df) := dfs_0 ++ dfs_1
def G : Pg := ⟨gl, fi, [(208, 11), (78, 12), (83, 11), (99, 12), (107, 11), (114, 14), (175, 12), (184, 11), (226, 28), (232, 11), (234, 42), (240, 11), (113, 12), (140, 12)], fun c => (["told", "told", "told", "told", "told"] : List Str).getD c "told", fun c c' => ([(0, 0), (1, 0), (1, 1), (2, 0), (2, 2), (3, 0), (3, 3), (4, 0), (4, 4)] : List (Nat × Nat)).contains (c, c'), 100000⟩
def prg : Prg := ⟨G, dfs, ["StoreError", "NoCount", "NoPage", "NoWay", "NoMoves"], [("NoCount", ini "NoCount.__init__" 2 0), ("NoPage", ini "NoPage.__init__" 3 0), ("NoWay", ini "NoWay.__init__" 4 0), ("NoMoves", ini "NoMoves.__init__" 5 0)], []⟩
def loose_0 : List (Str) := [
  "StoreError",
  "NoCount",
  "NoPage",
  "NoWay",
  "NoMoves",
  "MOST_PAGES",
  "is_whole",
  "is_number",
  "is_line",
  "is_ascending",
  "MOST_BEGINS",
  "RULES",
  "check_pages",
  "is_way",
  "check_way",
  "check_page",
  "ahead_of",
  "is_visited",
  "rule_lets",
  "is_move",
  "first_wrong",
  "check_walk",
  "is_let",
  "places_ahead",
  "visits_seen",
  "sights",
  "first_states",
  "visited_next",
  "moved_states",
  "states_behind"]
def loose_1 : List (Str) := [
  "all_states",
  "walk_paper",
  "are_places",
  "is_state",
  "accepts_none",
  "accepts_miss",
  "accepts_walk",
  "check_begins",
  "lesser_of",
  "with_more",
  "moved_on",
  "cost_of",
  "least_moves",
  "_law_pool",
  "_law_take",
  "_law_one",
  "_law_visited",
  "_law_may",
  "_law_sights",
  "_law_let_moves",
  "_law_record_right",
  "_law_missed_right"]
def loose : List (Str) := loose_0 ++ loose_1
def lawIx : Nat := 44
def lawTop : Nat := 56
end K22

namespace K22
open PySem PySem.Spec PyProof.Rows E2 L2
abbrev R : PySem.W.OpenRow := PySem.W.OpenLaw.row PySem.Challenge.rw_plainstore_k22_whole_walks_that_miss_or
abbrev hk : PySem.W.Hook := hookM 5 prg.fn prg.tfs (prg.ex PySem.Challenge.pw_plainstore_k22_whole_walks_that_miss_or.main.file)
def ob (s : PySem.W.SharedT) : AlM := obsM 5 prg.fn prg.tfs (prg.ex PySem.Challenge.pw_plainstore_k22_whole_walks_that_miss_or.main.file) (HandSHeadRun.getT s)
theorem ob_eq (s : PySem.W.SharedT) : ob s = hk.obs s.abs := obsM_eq (HandSHeadRun.getT_eq s)
theorem run (w : World) : HandSHeadRun.RunEq R (PySem.W.view R.prog [lawTop]) hk ob 20000 loose w := by
  intro os
  kernel_rfl
end K22
end
section
set_option Elab.async false
set_option linter.all false
set_option maxRecDepth 100000
set_option maxHeartbeats 0
namespace K22
open PySem PySem.Spec PyProof.Rows E2 L2
theorem cx_no {p : Program} {w : World} {H : Hp} {s : Shared} {e : Value} {s' : Shared} (h : L2.CX p w [] H s (fun _ _ _ => False) e s') : False := by
  obtain ⟨_, _, _, _, _, _, _, _, _, _, _, _, z⟩ := h
  exact z
def lawDf : Df := dfs.getD lawIx ⟨"", ⟨[], [], none, [], [], none, []⟩, [], ⟨.function, [], false, false, []⟩, [], [], false⟩
def Plain : Prop := ∀ ns : List Int, ns.length ≤ 63 → (∀ z ∈ ns, Builtin.Int.intBits z ≤ 1048576) → ∃ S', runD G 60 (Lv G dfs 60 20) 20 lawDf [.scr ns] [] = .ok (.bl true) S'
end K22
open PySem PySem.W PySem.Calls PyProof.Rows
theorem k22_of (plain : K22.Plain) : PySem.Challenge.rw_plainstore_k22_whole_walks_that_miss_or.Holds := by
  w_on; o_law
  refine HandSHeadRun.head_any (r := OpenLaw.row PySem.Challenge.rw_plainstore_k22_whole_walks_that_miss_or) (q := view (OpenLaw.row PySem.Challenge.rw_plainstore_k22_whole_walks_that_miss_or).prog [K22.lawTop]) (H := K22.hk) (ob := K22.ob) (M := 20000) (loose := K22.loose) (d := HandSHeadRun.topDef (OpenLaw.row PySem.Challenge.rw_plainstore_k22_whole_walks_that_miss_or).prog K22.lawTop) (kwd := []) K22.ob_eq
    (by kernel_rfl) (fun s => by kernel_rfl) K22.run (by kernel_rfl) (by kernel_rfl) (by kernel_rfl) (by rfl) (by first | assumption | decide +kernel) (by decide +kernel) ⟨rfl, rfl, rfl, rfl, rfl, by decide +kernel⟩ ?hw ?hc
  case hw => w_witness2
  case hc =>
    refine E2.walkG (l := PySem.Challenge.rw_plainstore_k22_whole_walks_that_miss_or) (n := 63) (k := 21) (x := "_law_script") (CX := fun w => L2.CX PySem.Challenge.pw_plainstore_k22_whole_walks_that_miss_or w) rfl (by decide) (by kernel_rfl) ⟨rfl, by decide, by decide⟩ ?F (fun _ _ _ _ _ z => K22.cx_no z)
    intro w mg fa h Y Gn hmg0
    obtain ⟨K, KX, c⟩ := Y
    have hmg : mg (K22.lawDf.nm) = some (.ref fa) := by
      have e : (HandSHeadRun.topDef (OpenLaw.row PySem.Challenge.rw_plainstore_k22_whole_walks_that_miss_or).prog K22.lawTop).name = K22.lawDf.nm := by kernel_rfl
      rw [← e]
      exact hmg0
    exact ⟨K, KX, E2.law_at (p := K22.prg) (m := 60) (k := 20) (i := K22.lawIx) (df := K22.lawDf) KX Gn c (by kernel_rfl) (by kernel_rfl) (by kernel_rfl) (by kernel_rfl) (by kernel_rfl) hmg plain⟩
end
section
set_option Elab.async false
set_option linter.all false
set_option maxRecDepth 100000
set_option maxHeartbeats 0
namespace K22
open PySem E2 L2
def d0 (Φ : Nat → Phi) (k : Nat) : DS := (dSeq (dRet (dAndV (dCallL oIsi (dCons (dVar 0) (dCons (dC (.ty .int)) dNil))) (dNotV (dCallL oIsi (dCons (dVar 0) (dCons (dC (.ty .bool)) dNil)))))) dNext)
theorem c0 (Φ : Nat → Phi) (k : Nat) : cmpSs (cmpS G Φ 60 (k + 2) ⟨defScope (top 8), ["value"], fun _ => true, none, false⟩) (defBody (top 8)) = some (d0 Φ k) := by kernel_rfl
theorem f0 (k : Nat) (xs : List PV) (S : Store) : (Lv G dfs 60 (k + 3) (k + 3)).f 0 xs S = resOf (d0 (Lv G dfs 60 (k + 2)) k (startF ["value"] xs) S) := by
  rw [Lv_top]
  show runD G 60 (Lv G dfs 60 (k + 2)) (k + 2) ⟨"is_whole", defArgs (top 8), defBody (top 8), defScope (top 8), ["value"], ["value"], false⟩ xs S = _
  unfold runD
  dsimp only
  rw [c0]
def d1 (Φ : Nat → Phi) (k : Nat) : DS := (dSeq (dRet (dAndV (dCallL (callOp 1 ((Φ (k + 2)).f 0) []) (dCons (dVar 0) dNil)) (dChain (oCmpI fun i j => decide (i ≤ j)) (oCmpI fun i j => decide (i ≤ j)) (dVar 1) (dVar 0) (dVar 2)))) dNext)
theorem c1 (Φ : Nat → Phi) (k : Nat) : cmpSs (cmpS G Φ 60 (k + 2) ⟨defScope (top 9), ["value", "low", "high"], fun _ => true, none, false⟩) (defBody (top 9)) = some (d1 Φ k) := by kernel_rfl
theorem f1 (k : Nat) (xs : List PV) (S : Store) : (Lv G dfs 60 (k + 3) (k + 3)).f 1 xs S = resOf (d1 (Lv G dfs 60 (k + 2)) k (startF ["value", "low", "high"] xs) S) := by
  rw [Lv_top]
  show runD G 60 (Lv G dfs 60 (k + 2)) (k + 2) ⟨"is_number", defArgs (top 9), defBody (top 9), defScope (top 9), ["value", "low", "high"], ["value", "low", "high"], false⟩ xs S = _
  unfold runD
  dsimp only
  rw [c1]
def d2 (Φ : Nat → Phi) (k : Nat) : DS := (dSeq (dRet (dCallL oIsi (dCons (dVar 0) (dCons (dCallL oTup (dCons (dC (.ty .list)) (dCons (dC (.ty .tuple)) dNil))) dNil)))) dNext)
theorem c2 (Φ : Nat → Phi) (k : Nat) : cmpSs (cmpS G Φ 60 (k + 2) ⟨defScope (top 10), ["value"], fun _ => true, none, false⟩) (defBody (top 10)) = some (d2 Φ k) := by kernel_rfl
theorem f2 (k : Nat) (xs : List PV) (S : Store) : (Lv G dfs 60 (k + 3) (k + 3)).f 2 xs S = resOf (d2 (Lv G dfs 60 (k + 2)) k (startF ["value"] xs) S) := by
  rw [Lv_top]
  show runD G 60 (Lv G dfs 60 (k + 2)) (k + 2) ⟨"is_line", defArgs (top 10), defBody (top 10), defScope (top 10), ["value"], ["value"], false⟩ xs S = _
  unfold runD
  dsimp only
  rw [c2]
def d3 (Φ : Nat → Phi) (k : Nat) : DS := (dSeq (dRet (dCallL oAll (dCons (dLc finV (dZip (dCons (dVar 0) (dCons (dSl (dVar 0) (dPart (dC (.int 1))) dNoPart) dNil))) (.tup [1, 2]) dYes (dBin oLt (dVar 1) (dVar 2)) [1, 2]) dNil))) dNext)
theorem c3 (Φ : Nat → Phi) (k : Nat) : cmpSs (cmpS G Φ 60 (k + 2) ⟨defScope (top 11), ["value", "one", "other"], fun _ => true, none, false⟩) (defBody (top 11)) = some (d3 Φ k) := by kernel_rfl
theorem f3 (k : Nat) (xs : List PV) (S : Store) : (Lv G dfs 60 (k + 3) (k + 3)).f 3 xs S = resOf (d3 (Lv G dfs 60 (k + 2)) k (startF ["value", "one", "other"] xs) S) := by
  rw [Lv_top]
  show runD G 60 (Lv G dfs 60 (k + 2)) (k + 2) ⟨"is_ascending", defArgs (top 11), defBody (top 11), defScope (top 11), ["value"], ["value", "one", "other"], false⟩ xs S = _
  unfold runD
  dsimp only
  rw [c3]
def d4 (Φ : Nat → Phi) (k : Nat) : DS := (dSeq (dIf (dNotT (dTru (dCallL (callOp 3 ((Φ (k + 2)).f 1) []) (dCons (dVar 0) (dCons (dC (.int 1)) (dCons (dC (.int 6)) dNil)))))) (dSeq (dRaise 1 (dVar 0)) dNext) dNext) dNext)
theorem c4 (Φ : Nat → Phi) (k : Nat) : cmpSs (cmpS G Φ 60 (k + 2) ⟨defScope (top 15), ["pages"], fun _ => true, none, false⟩) (defBody (top 15)) = some (d4 Φ k) := by kernel_rfl
theorem f4 (k : Nat) (xs : List PV) (S : Store) : (Lv G dfs 60 (k + 3) (k + 3)).f 4 xs S = resOf (d4 (Lv G dfs 60 (k + 2)) k (startF ["pages"] xs) S) := by
  rw [Lv_top]
  show runD G 60 (Lv G dfs 60 (k + 2)) (k + 2) ⟨"check_pages", defArgs (top 15), defBody (top 15), defScope (top 15), ["pages"], ["pages"], false⟩ xs S = _
  unfold runD
  dsimp only
  rw [c4]
def d5 (Φ : Nat → Phi) (k : Nat) : DS := (dSeq (dRet (dAndV (dCallL oIsi (dCons (dVar 0) (dCons (dC (.ty .str)) dNil))) (dBin (oIn false) (dVar 0) (dC (.tup [(.str "barred"), (.str "free"), (.str "left")]))))) dNext)
theorem c5 (Φ : Nat → Phi) (k : Nat) : cmpSs (cmpS G Φ 60 (k + 2) ⟨defScope (top 16), ["rule"], fun _ => true, none, false⟩) (defBody (top 16)) = some (d5 Φ k) := by kernel_rfl
theorem f5 (k : Nat) (xs : List PV) (S : Store) : (Lv G dfs 60 (k + 3) (k + 3)).f 5 xs S = resOf (d5 (Lv G dfs 60 (k + 2)) k (startF ["rule"] xs) S) := by
  rw [Lv_top]
  show runD G 60 (Lv G dfs 60 (k + 2)) (k + 2) ⟨"is_way", defArgs (top 16), defBody (top 16), defScope (top 16), ["rule"], ["rule"], false⟩ xs S = _
  unfold runD
  dsimp only
  rw [c5]
def d6 (Φ : Nat → Phi) (k : Nat) : DS := (dSeq (dIf (dNotT (dTru (dCallL (callOp 1 ((Φ (k + 2)).f 5) []) (dCons (dVar 0) dNil)))) (dSeq (dRaise 3 (dVar 0)) dNext) dNext) dNext)
theorem c6 (Φ : Nat → Phi) (k : Nat) : cmpSs (cmpS G Φ 60 (k + 2) ⟨defScope (top 17), ["rule"], fun _ => true, none, false⟩) (defBody (top 17)) = some (d6 Φ k) := by kernel_rfl
theorem f6 (k : Nat) (xs : List PV) (S : Store) : (Lv G dfs 60 (k + 3) (k + 3)).f 6 xs S = resOf (d6 (Lv G dfs 60 (k + 2)) k (startF ["rule"] xs) S) := by
  rw [Lv_top]
  show runD G 60 (Lv G dfs 60 (k + 2)) (k + 2) ⟨"check_way", defArgs (top 17), defBody (top 17), defScope (top 17), ["rule"], ["rule"], false⟩ xs S = _
  unfold runD
  dsimp only
  rw [c6]
def d7 (Φ : Nat → Phi) (k : Nat) : DS := (dSeq (dIf (dNotT (dTru (dCallL (callOp 3 ((Φ (k + 2)).f 1) []) (dCons (dVar 1) (dCons (dC (.int 0)) (dCons (dBin oSub (dVar 0) (dC (.int 1))) dNil)))))) (dSeq (dRaise 2 (dVar 1)) dNext) dNext) dNext)
theorem c7 (Φ : Nat → Phi) (k : Nat) : cmpSs (cmpS G Φ 60 (k + 2) ⟨defScope (top 18), ["pages", "page"], fun _ => true, none, false⟩) (defBody (top 18)) = some (d7 Φ k) := by kernel_rfl
theorem f7 (k : Nat) (xs : List PV) (S : Store) : (Lv G dfs 60 (k + 3) (k + 3)).f 7 xs S = resOf (d7 (Lv G dfs 60 (k + 2)) k (startF ["pages", "page"] xs) S) := by
  rw [Lv_top]
  show runD G 60 (Lv G dfs 60 (k + 2)) (k + 2) ⟨"check_page", defArgs (top 18), defBody (top 18), defScope (top 18), ["pages", "page"], ["pages", "page"], false⟩ xs S = _
  unfold runD
  dsimp only
  rw [c7]
def d8 (Φ : Nat → Phi) (k : Nat) : DS := (dSeq (dRet (dBin oMod (dBin oSub (dVar 2) (dVar 1)) (dVar 0))) dNext)
theorem c8 (Φ : Nat → Phi) (k : Nat) : cmpSs (cmpS G Φ 60 (k + 2) ⟨defScope (top 19), ["pages", "begin", "page"], fun _ => true, none, false⟩) (defBody (top 19)) = some (d8 Φ k) := by kernel_rfl
theorem f8 (k : Nat) (xs : List PV) (S : Store) : (Lv G dfs 60 (k + 3) (k + 3)).f 8 xs S = resOf (d8 (Lv G dfs 60 (k + 2)) k (startF ["pages", "begin", "page"] xs) S) := by
  rw [Lv_top]
  show runD G 60 (Lv G dfs 60 (k + 2)) (k + 2) ⟨"ahead_of", defArgs (top 19), defBody (top 19), defScope (top 19), ["pages", "begin", "page"], ["pages", "begin", "page"], false⟩ xs S = _
  unfold runD
  dsimp only
  rw [c8]
def d9 (Φ : Nat → Phi) (k : Nat) : DS := (dSeq (dRet (dBin (oCmpI fun i j => decide (i ≤ j)) (dCallL (callOp 3 ((Φ (k + 2)).f 8) []) (dCons (dVar 0) (dCons (dVar 1) (dCons (dVar 2) dNil)))) (dVar 3))) dNext)
theorem c9 (Φ : Nat → Phi) (k : Nat) : cmpSs (cmpS G Φ 60 (k + 2) ⟨defScope (top 20), ["pages", "begin", "page", "visit"], fun _ => true, none, false⟩) (defBody (top 20)) = some (d9 Φ k) := by kernel_rfl
theorem f9 (k : Nat) (xs : List PV) (S : Store) : (Lv G dfs 60 (k + 3) (k + 3)).f 9 xs S = resOf (d9 (Lv G dfs 60 (k + 2)) k (startF ["pages", "begin", "page", "visit"] xs) S) := by
  rw [Lv_top]
  show runD G 60 (Lv G dfs 60 (k + 2)) (k + 2) ⟨"is_visited", defArgs (top 20), defBody (top 20), defScope (top 20), ["pages", "begin", "page", "visit"], ["pages", "begin", "page", "visit"], false⟩ xs S = _
  unfold runD
  dsimp only
  rw [c9]
def d10 (Φ : Nat → Phi) (k : Nat) : DS := (dSeq (dIf (dBl (dBin oNe (dVar 1) (dC (.str "barred")))) (dSeq (dRet (dC (.bl true))) dNext) dNext) (dSeq (dRet (dOrV (dCallL (callOp 4 ((Φ (k + 2)).f 9) []) (dCons (dVar 0) (dCons (dVar 2) (dCons (dVar 4) (dCons (dVar 3) dNil))))) (dNotV (dCallL (callOp 4 ((Φ (k + 2)).f 9) []) (dCons (dVar 0) (dCons (dVar 2) (dCons (dVar 5) (dCons (dVar 3) dNil)))))))) dNext))
theorem c10 (Φ : Nat → Phi) (k : Nat) : cmpSs (cmpS G Φ 60 (k + 2) ⟨defScope (top 21), ["pages", "rule", "begin", "visit", "source", "target"], fun _ => true, none, false⟩) (defBody (top 21)) = some (d10 Φ k) := by kernel_rfl
theorem f10 (k : Nat) (xs : List PV) (S : Store) : (Lv G dfs 60 (k + 3) (k + 3)).f 10 xs S = resOf (d10 (Lv G dfs 60 (k + 2)) k (startF ["pages", "rule", "begin", "visit", "source", "target"] xs) S) := by
  rw [Lv_top]
  show runD G 60 (Lv G dfs 60 (k + 2)) (k + 2) ⟨"rule_lets", defArgs (top 21), defBody (top 21), defScope (top 21), ["pages", "rule", "begin", "visit", "source", "target"], ["pages", "rule", "begin", "visit", "source", "target"], false⟩ xs S = _
  unfold runD
  dsimp only
  rw [c10]
def d11 (Φ : Nat → Phi) (k : Nat) : DS := (dSeq (dIf (dOrT (dNotT (dTru (dCallL oIsi (dCons (dVar 1) (dCons (dC (.ty .tuple)) dNil))))) (dOrT (dBl (dBin oNe (dCallL oLen (dCons (dVar 1) dNil)) (dC (.int 2)))) (dNotT (dTru (dCallL (callOp 3 ((Φ (k + 2)).f 1) []) (dCons (dBin oIx (dVar 1) (dC (.int 0))) (dCons (dVar 2) (dCons (dBin oSub (dVar 0) (dC (.int 2))) dNil)))))))) (dSeq (dRet (dC (.bl false))) dNext) dNext) (dSeq (dRet (dAndV (dCallL (callOp 3 ((Φ (k + 2)).f 1) []) (dCons (dBin oIx (dVar 1) (dC (.int 1))) (dCons (dC (.int 0)) (dCons (dBin oSub (dVar 0) (dC (.int 1))) dNil)))) (dBin oNe (dBin oIx (dVar 1) (dC (.int 1))) (dVar 3)))) dNext))
theorem c11 (Φ : Nat → Phi) (k : Nat) : cmpSs (cmpS G Φ 60 (k + 2) ⟨defScope (top 22), ["pages", "value", "before", "spot"], fun _ => true, none, false⟩) (defBody (top 22)) = some (d11 Φ k) := by kernel_rfl
theorem f11 (k : Nat) (xs : List PV) (S : Store) : (Lv G dfs 60 (k + 3) (k + 3)).f 11 xs S = resOf (d11 (Lv G dfs 60 (k + 2)) k (startF ["pages", "value", "before", "spot"] xs) S) := by
  rw [Lv_top]
  show runD G 60 (Lv G dfs 60 (k + 2)) (k + 2) ⟨"is_move", defArgs (top 22), defBody (top 22), defScope (top 22), ["pages", "value", "before", "spot"], ["pages", "value", "before", "spot"], false⟩ xs S = _
  unfold runD
  dsimp only
  rw [c11]
def d12 (Φ : Nat → Phi) (k : Nat) : DS := (dSeq (dPar [5, 6] (dCons (dC (.int 0)) (dCons (dVar 3) dNil))) (dSeq (dFor (dEnum (dCons (dVar 4) dNil)) (.tup [7, 8]) (dSeq (dIf (dOrT (dNotT (dTru (dCallL (callOp 4 ((Φ (k + 2)).f 11) []) (dCons (dVar 0) (dCons (dVar 8) (dCons (dVar 5) (dCons (dVar 6) dNil))))))) (dNotT (dTru (dCallL (callOp 6 ((Φ (k + 2)).f 10) []) (dCons (dVar 0) (dCons (dVar 1) (dCons (dVar 2) (dCons (dBin oIx (dVar 8) (dC (.int 0))) (dCons (dVar 6) (dCons (dBin oIx (dVar 8) (dC (.int 1))) dNil)))))))))) (dSeq (dRet (dVar 7)) dNext) dNext) (dSeq (dAsg (.tup [5, 6]) (dVar 8)) dNext))) (dSeq (dRet (dC .non)) dNext)))
theorem c12 (Φ : Nat → Phi) (k : Nat) : cmpSs (cmpS G Φ 60 (k + 2) ⟨defScope (top 23), ["pages", "rule", "begin", "page", "moves", "before", "spot", "index", "move"], fun _ => true, none, false⟩) (defBody (top 23)) = some (d12 Φ k) := by kernel_rfl
theorem f12 (k : Nat) (xs : List PV) (S : Store) : (Lv G dfs 60 (k + 3) (k + 3)).f 12 xs S = resOf (d12 (Lv G dfs 60 (k + 2)) k (startF ["pages", "rule", "begin", "page", "moves", "before", "spot", "index", "move"] xs) S) := by
  rw [Lv_top]
  show runD G 60 (Lv G dfs 60 (k + 2)) (k + 2) ⟨"first_wrong", defArgs (top 23), defBody (top 23), defScope (top 23), ["pages", "rule", "begin", "page", "moves"], ["pages", "rule", "begin", "page", "moves", "before", "spot", "index", "move"], false⟩ xs S = _
  unfold runD
  dsimp only
  rw [c12]
def d13 (Φ : Nat → Phi) (k : Nat) : DS := (dSeq (dDrop (dCallL (callOp 1 ((Φ (k + 2)).f 4) []) (dCons (dVar 0) dNil))) (dSeq (dDrop (dCallL (callOp 1 ((Φ (k + 2)).f 6) []) (dCons (dVar 1) dNil))) (dSeq (dDrop (dCallL (callOp 2 ((Φ (k + 2)).f 7) []) (dCons (dVar 0) (dCons (dVar 2) dNil)))) (dSeq (dDrop (dCallL (callOp 2 ((Φ (k + 2)).f 7) []) (dCons (dVar 0) (dCons (dVar 3) dNil)))) dNext))))
theorem c13 (Φ : Nat → Phi) (k : Nat) : cmpSs (cmpS G Φ 60 (k + 2) ⟨defScope (top 24), ["pages", "rule", "begin", "page"], fun _ => true, none, false⟩) (defBody (top 24)) = some (d13 Φ k) := by kernel_rfl
theorem f13 (k : Nat) (xs : List PV) (S : Store) : (Lv G dfs 60 (k + 3) (k + 3)).f 13 xs S = resOf (d13 (Lv G dfs 60 (k + 2)) k (startF ["pages", "rule", "begin", "page"] xs) S) := by
  rw [Lv_top]
  show runD G 60 (Lv G dfs 60 (k + 2)) (k + 2) ⟨"check_walk", defArgs (top 24), defBody (top 24), defScope (top 24), ["pages", "rule", "begin", "page"], ["pages", "rule", "begin", "page"], false⟩ xs S = _
  unfold runD
  dsimp only
  rw [c13]
def d14 (Φ : Nat → Phi) (k : Nat) : DS := (dSeq (dDrop (dCallL (callOp 4 ((Φ (k + 2)).f 13) []) (dCons (dVar 0) (dCons (dVar 1) (dCons (dVar 2) (dCons (dVar 3) dNil)))))) (dSeq (dRet (dAndV (dCallL (callOp 1 ((Φ (k + 2)).f 2) []) (dCons (dVar 4) dNil)) (dBin (oIs false) (dCallL (callOp 5 ((Φ (k + 2)).f 12) []) (dCons (dVar 0) (dCons (dVar 1) (dCons (dVar 2) (dCons (dVar 3) (dCons (dVar 4) dNil)))))) (dC .non)))) dNext))
theorem c14 (Φ : Nat → Phi) (k : Nat) : cmpSs (cmpS G Φ 60 (k + 2) ⟨defScope (top 25), ["pages", "rule", "begin", "page", "moves"], fun _ => true, none, false⟩) (defBody (top 25)) = some (d14 Φ k) := by kernel_rfl
theorem f14 (k : Nat) (xs : List PV) (S : Store) : (Lv G dfs 60 (k + 3) (k + 3)).f 14 xs S = resOf (d14 (Lv G dfs 60 (k + 2)) k (startF ["pages", "rule", "begin", "page", "moves"] xs) S) := by
  rw [Lv_top]
  show runD G 60 (Lv G dfs 60 (k + 2)) (k + 2) ⟨"is_let", defArgs (top 25), defBody (top 25), defScope (top 25), ["pages", "rule", "begin", "page", "moves"], ["pages", "rule", "begin", "page", "moves"], false⟩ xs S = _
  unfold runD
  dsimp only
  rw [c14]
def d15 (Φ : Nat → Phi) (k : Nat) : DS := (dSeq (dRet (dBin oAdd (dCallL oLst (dCons (dVar 0) dNil)) (dLc finV (dSeqI (dVar 1)) (.tup [3, 4]) (dBl (dBin oLt (dVar 3) (dVar 2))) (dVar 4) [3, 4]))) dNext)
theorem c15 (Φ : Nat → Phi) (k : Nat) : cmpSs (cmpS G Φ 60 (k + 2) ⟨defScope (top 26), ["page", "moves", "visit", "moment", "target"], fun _ => true, none, false⟩) (defBody (top 26)) = some (d15 Φ k) := by kernel_rfl
theorem f15 (k : Nat) (xs : List PV) (S : Store) : (Lv G dfs 60 (k + 3) (k + 3)).f 15 xs S = resOf (d15 (Lv G dfs 60 (k + 2)) k (startF ["page", "moves", "visit", "moment", "target"] xs) S) := by
  rw [Lv_top]
  show runD G 60 (Lv G dfs 60 (k + 2)) (k + 2) ⟨"places_ahead", defArgs (top 26), defBody (top 26), defScope (top 26), ["page", "moves", "visit"], ["page", "moves", "visit", "moment", "target"], false⟩ xs S = _
  unfold runD
  dsimp only
  rw [c15]
def d16 (Φ : Nat → Phi) (k : Nat) : DS := (dSeq (dAsg (.name 5) (dCallL oLstR dNil)) (dSeq (dFor (dRng1 (dCons (dVar 0) dNil)) (.name 6) (dSeq (dAsg (.name 7) (dCallL (callOp 3 ((Φ (k + 2)).f 15) []) (dCons (dVar 3) (dCons (dVar 4) (dCons (dVar 6) dNil))))) (dSeq (dIf (dBl (dBin (oIn false) (dBin oMod (dBin oAdd (dVar 2) (dVar 6)) (dVar 0)) (dIfE (dBl (dBin oEq (dVar 1) (dC (.str "left")))) (dVar 7) (dSl (dVar 7) (dPart (dUn oNeg (dC (.int 1)))) dNoPart)))) (dSeq (dDrop (dMeth .list oAppend (dVar 5) (dCons (dVar 6) dNil))) dNext) dNext) dNext))) (dSeq (dRet (dVarF 5)) dNext)))
theorem c16 (Φ : Nat → Phi) (k : Nat) : cmpSs (cmpS G Φ 60 (k + 2) ⟨defScope (top 27), ["pages", "rule", "begin", "page", "moves", "found", "visit", "places"], fun _ => true, none, false⟩) (defBody (top 27)) = some (d16 Φ k) := by kernel_rfl
theorem f16 (k : Nat) (xs : List PV) (S : Store) : (Lv G dfs 60 (k + 3) (k + 3)).f 16 xs S = resOf (d16 (Lv G dfs 60 (k + 2)) k (startF ["pages", "rule", "begin", "page", "moves", "found", "visit", "places"] xs) S) := by
  rw [Lv_top]
  show runD G 60 (Lv G dfs 60 (k + 2)) (k + 2) ⟨"visits_seen", defArgs (top 27), defBody (top 27), defScope (top 27), ["pages", "rule", "begin", "page", "moves"], ["pages", "rule", "begin", "page", "moves", "found", "visit", "places"], false⟩ xs S = _
  unfold runD
  dsimp only
  rw [c16]
def d17 (Φ : Nat → Phi) (k : Nat) : DS := (dSeq (dDrop (dCallL (callOp 4 ((Φ (k + 2)).f 13) []) (dCons (dVar 0) (dCons (dVar 1) (dCons (dVar 2) (dCons (dVar 3) dNil)))))) (dSeq (dIf (dNotT (dTru (dCallL (callOp 1 ((Φ (k + 2)).f 2) []) (dCons (dVar 4) dNil)))) (dSeq (dRaise 4 (dC .non)) dNext) dNext) (dSeq (dAsg (.name 5) (dCallL (callOp 5 ((Φ (k + 2)).f 12) []) (dCons (dVar 0) (dCons (dVar 1) (dCons (dVar 2) (dCons (dVar 3) (dCons (dVar 4) dNil))))))) (dSeq (dIf (dBl (dBin (oIs true) (dVar 5) (dC .non))) (dSeq (dRaise 4 (dVar 5)) dNext) dNext) (dSeq (dRet (dCallL oLen (dCons (dCallL (callOp 5 ((Φ (k + 2)).f 16) []) (dCons (dVar 0) (dCons (dVar 1) (dCons (dVar 2) (dCons (dVar 3) (dCons (dVar 4) dNil)))))) dNil))) dNext)))))
theorem c17 (Φ : Nat → Phi) (k : Nat) : cmpSs (cmpS G Φ 60 (k + 2) ⟨defScope (top 28), ["pages", "rule", "begin", "page", "moves", "wrong"], fun _ => true, none, false⟩) (defBody (top 28)) = some (d17 Φ k) := by kernel_rfl
theorem f17 (k : Nat) (xs : List PV) (S : Store) : (Lv G dfs 60 (k + 3) (k + 3)).f 17 xs S = resOf (d17 (Lv G dfs 60 (k + 2)) k (startF ["pages", "rule", "begin", "page", "moves", "wrong"] xs) S) := by
  rw [Lv_top]
  show runD G 60 (Lv G dfs 60 (k + 2)) (k + 2) ⟨"sights", defArgs (top 28), defBody (top 28), defScope (top 28), ["pages", "rule", "begin", "page", "moves"], ["pages", "rule", "begin", "page", "moves", "wrong"], false⟩ xs S = _
  unfold runD
  dsimp only
  rw [c17]
def d18 (Φ : Nat → Phi) (k : Nat) : DS := (dSeq (dRet (dLc2 finV (dRng1 (dCons (dVar 0) dNil)) (.name 1) dYes (dRng1 (dCons (dVar 0) dNil)) (.name 2) dYes (dCallL oTup (dCons (dVar 1) (dCons (dC (.int 0)) (dCons (dCallL oTup (dCons (dVar 2) dNil)) (dCons (dC (.int 0)) dNil))))) [1, 2] [2])) dNext)
theorem c18 (Φ : Nat → Phi) (k : Nat) : cmpSs (cmpS G Φ 60 (k + 2) ⟨defScope (top 29), ["pages", "begin", "page"], fun _ => true, none, false⟩) (defBody (top 29)) = some (d18 Φ k) := by kernel_rfl
theorem f18 (k : Nat) (xs : List PV) (S : Store) : (Lv G dfs 60 (k + 3) (k + 3)).f 18 xs S = resOf (d18 (Lv G dfs 60 (k + 2)) k (startF ["pages", "begin", "page"] xs) S) := by
  rw [Lv_top]
  show runD G 60 (Lv G dfs 60 (k + 2)) (k + 2) ⟨"first_states", defArgs (top 29), defBody (top 29), defScope (top 29), ["pages"], ["pages", "begin", "page"], false⟩ xs S = _
  unfold runD
  dsimp only
  rw [c18]
def d19 (Φ : Nat → Phi) (k : Nat) : DS := (dSeq (dAsg (.tup [2, 3, 4, 5]) (dVar 1)) (dSeq (dRet (dCallL oTup (dCons (dVar 2) (dCons (dBin oAdd (dVar 3) (dC (.int 1))) (dCons (dVar 4) (dCons (dIfE (dBl (dBin (oIn false) (dBin oMod (dBin oAdd (dVar 2) (dVar 3)) (dVar 0)) (dVar 4))) (dC (.int 1)) (dVar 5)) dNil)))))) dNext))
theorem c19 (Φ : Nat → Phi) (k : Nat) : cmpSs (cmpS G Φ 60 (k + 2) ⟨defScope (top 30), ["pages", "state", "begin", "done", "places", "seen"], fun _ => true, none, false⟩) (defBody (top 30)) = some (d19 Φ k) := by kernel_rfl
theorem f19 (k : Nat) (xs : List PV) (S : Store) : (Lv G dfs 60 (k + 3) (k + 3)).f 19 xs S = resOf (d19 (Lv G dfs 60 (k + 2)) k (startF ["pages", "state", "begin", "done", "places", "seen"] xs) S) := by
  rw [Lv_top]
  show runD G 60 (Lv G dfs 60 (k + 2)) (k + 2) ⟨"visited_next", defArgs (top 30), defBody (top 30), defScope (top 30), ["pages", "state"], ["pages", "state", "begin", "done", "places", "seen"], false⟩ xs S = _
  unfold runD
  dsimp only
  rw [c19]
def d20 (Φ : Nat → Phi) (k : Nat) : DS := (dSeq (dAsg (.tup [3, 4, 5, 6]) (dVar 2)) (dSeq (dAsg (.name 7) (dCallL oLstR dNil)) (dSeq (dFor (dRng1 (dCons (dVar 0) dNil)) (.name 8) (dSeq (dIf (dBl (dBin (oIn false) (dVar 8) (dVar 5))) (dSeq dCont dNext) dNext) (dSeq (dIf (dBl (dBin oEq (dVar 1) (dC (.str "left")))) (dSeq (dDrop (dMeth .list oAppend (dVar 7) (dCons (dCallL oTup (dCons (dVar 3) (dCons (dVar 4) (dCons (dCallL oTupOf (dCons (dCallL oSortedD (dCons (dLc finV (dSeqI (dCallL oTup (dStar (dVar 5) (dCons (dVar 8) dNil)))) (.name 9) dYes (dCallL oInt (dCons (dVar 9) dNil)) [9]) dNil)) dNil)) (dCons (dVar 6) dNil))))) dNil))) dNext) (dSeq (dIf (dTru (dCallL oAll (dCons (dLc finV (dSeqI (dVar 5)) (.name 9) dYes (dCallL (callOp 6 ((Φ (k + 2)).f 10) []) (dCons (dVar 0) (dCons (dVar 1) (dCons (dVar 3) (dCons (dBin oSub (dVar 4) (dC (.int 1))) (dCons (dVar 9) (dCons (dVar 8) dNil))))))) [9]) dNil))) (dSeq (dDrop (dMeth .list oAppend (dVar 7) (dCons (dCallL oTup (dCons (dVar 3) (dCons (dVar 4) (dCons (dCallL oTup (dCons (dVar 8) dNil)) (dCons (dVar 6) dNil))))) dNil))) dNext) dNext) dNext)) dNext))) (dSeq (dRet (dVarF 7)) dNext))))
theorem c20 (Φ : Nat → Phi) (k : Nat) : cmpSs (cmpS G Φ 60 (k + 2) ⟨defScope (top 31), ["pages", "rule", "state", "begin", "done", "places", "seen", "found", "page", "place"], fun _ => true, none, false⟩) (defBody (top 31)) = some (d20 Φ k) := by kernel_rfl
theorem f20 (k : Nat) (xs : List PV) (S : Store) : (Lv G dfs 60 (k + 3) (k + 3)).f 20 xs S = resOf (d20 (Lv G dfs 60 (k + 2)) k (startF ["pages", "rule", "state", "begin", "done", "places", "seen", "found", "page", "place"] xs) S) := by
  rw [Lv_top]
  show runD G 60 (Lv G dfs 60 (k + 2)) (k + 2) ⟨"moved_states", defArgs (top 31), defBody (top 31), defScope (top 31), ["pages", "rule", "state"], ["pages", "rule", "state", "begin", "done", "places", "seen", "found", "page", "place"], false⟩ xs S = _
  unfold runD
  dsimp only
  rw [c20]
def d21 (Φ : Nat → Phi) (k : Nat) : DS := (dSeq (dIf (dBl (dBin oEq (dBin oIx (dVar 2) (dC (.int 1))) (dVar 0))) (dSeq (dRet (dCallL oLst dNil)) dNext) dNext) (dSeq (dRet (dBin oAdd (dCallL oLst (dCons (dCallL (callOp 2 ((Φ (k + 2)).f 19) []) (dCons (dVar 0) (dCons (dVar 2) dNil))) dNil)) (dIfE (dBl (dBin (oCmpI fun i j => decide (j < i)) (dBin oIx (dVar 2) (dC (.int 1))) (dC (.int 0)))) (dCallL (callOp 3 ((Φ (k + 2)).f 20) []) (dCons (dVar 0) (dCons (dVar 1) (dCons (dVar 2) dNil)))) (dCallL oLst dNil)))) dNext))
theorem c21 (Φ : Nat → Phi) (k : Nat) : cmpSs (cmpS G Φ 60 (k + 2) ⟨defScope (top 32), ["pages", "rule", "state"], fun _ => true, none, false⟩) (defBody (top 32)) = some (d21 Φ k) := by kernel_rfl
theorem f21 (k : Nat) (xs : List PV) (S : Store) : (Lv G dfs 60 (k + 3) (k + 3)).f 21 xs S = resOf (d21 (Lv G dfs 60 (k + 2)) k (startF ["pages", "rule", "state"] xs) S) := by
  rw [Lv_top]
  show runD G 60 (Lv G dfs 60 (k + 2)) (k + 2) ⟨"states_behind", defArgs (top 32), defBody (top 32), defScope (top 32), ["pages", "rule", "state"], ["pages", "rule", "state"], false⟩ xs S = _
  unfold runD
  dsimp only
  rw [c21]
def d22 (Φ : Nat → Phi) (k : Nat) : DS := (dSeq (dAsg (.name 2) (dDcN (dSeqI (dCallL (callOp 1 ((Φ (k + 2)).f 18) []) (dCons (dVar 0) dNil))) (.name 4) dYes (dVar 4) (dC (.bl true)) [4])) (dSeq (dAsg (.name 3) (dCallL oLstOfR (dCons (dVar 2) dNil))) (dSeq (whileGo (dBl (dBin oNe (dVar 3) (dCallL oLst dNil))) (dSeq (dFor (dSeqI (dCallL (callOp 3 ((Φ (k + 2)).f 21) []) (dCons (dVar 0) (dCons (dVar 1) (dCons (dMeth .list oPop (dVar 3) dNil) dNil))))) (.name 4) (dSeq (dIf (dBl (dBin (oIn true) (dVar 4) (dVar 2))) (dSeq (dSetIx (dVar 2) (dVar 4) (dC (.bl true))) (dSeq (dDrop (dMeth .list oAppend (dVar 3) (dCons (dVar 4) dNil))) dNext)) dNext) dNext)) dNext) 100000) (dSeq (dRet (dCallL oSortedD (dCons (dVar 2) dNil))) dNext))))
theorem c22 (Φ : Nat → Phi) (k : Nat) : cmpSs (cmpS G Φ 60 (k + 2) ⟨defScope (top 33), ["pages", "rule", "found", "waiting", "state"], fun _ => true, none, false⟩) (defBody (top 33)) = some (d22 Φ k) := by kernel_rfl
theorem f22 (k : Nat) (xs : List PV) (S : Store) : (Lv G dfs 60 (k + 3) (k + 3)).f 22 xs S = resOf (d22 (Lv G dfs 60 (k + 2)) k (startF ["pages", "rule", "found", "waiting", "state"] xs) S) := by
  rw [Lv_top]
  show runD G 60 (Lv G dfs 60 (k + 2)) (k + 2) ⟨"all_states", defArgs (top 33), defBody (top 33), defScope (top 33), ["pages", "rule"], ["pages", "rule", "found", "waiting", "state"], false⟩ xs S = _
  unfold runD
  dsimp only
  rw [c22]
def d23 (Φ : Nat → Phi) (k : Nat) : DS := (dSeq (dDrop (dCallL (callOp 1 ((Φ (k + 2)).f 4) []) (dCons (dVar 0) dNil))) (dSeq (dDrop (dCallL (callOp 1 ((Φ (k + 2)).f 6) []) (dCons (dVar 1) dNil))) (dSeq (dIf (dAndT (dBl (dBin oEq (dVar 1) (dC (.str "free")))) (dBl (dBin (oCmpI fun i j => decide (j < i)) (dVar 0) (dC (.int 1))))) (dSeq (dRet (dCallL oTup (dCons (dC (.str "miss")) (dCons (dC (.int 0)) (dCons (dC (.int 1)) (dCons (dCallL oLst (dCons (dCallL oTup (dCons (dC (.int 0)) (dCons (dC (.int 0)) dNil))) dNil)) dNil)))))) dNext) dNext) (dSeq (dRet (dCallL oTup (dCons (dC (.str "none")) (dCons (dCallL (callOp 2 ((Φ (k + 2)).f 22) []) (dCons (dVar 0) (dCons (dVar 1) dNil))) dNil)))) dNext))))
theorem c23 (Φ : Nat → Phi) (k : Nat) : cmpSs (cmpS G Φ 60 (k + 2) ⟨defScope (top 34), ["pages", "rule"], fun _ => true, none, false⟩) (defBody (top 34)) = some (d23 Φ k) := by kernel_rfl
theorem f23 (k : Nat) (xs : List PV) (S : Store) : (Lv G dfs 60 (k + 3) (k + 3)).f 23 xs S = resOf (d23 (Lv G dfs 60 (k + 2)) k (startF ["pages", "rule"] xs) S) := by
  rw [Lv_top]
  show runD G 60 (Lv G dfs 60 (k + 2)) (k + 2) ⟨"walk_paper", defArgs (top 34), defBody (top 34), defScope (top 34), ["pages", "rule"], ["pages", "rule"], false⟩ xs S = _
  unfold runD
  dsimp only
  rw [c23]
def d24 (Φ : Nat → Phi) (k : Nat) : DS := (dSeq (dIf (dOrT (dNotT (dTru (dCallL oIsi (dCons (dVar 2) (dCons (dC (.ty .tuple)) dNil))))) (dNotT (dTru (dCallL oAll (dCons (dLc finV (dSeqI (dVar 2)) (.name 3) dYes (dCallL (callOp 3 ((Φ (k + 2)).f 1) []) (dCons (dVar 3) (dCons (dC (.int 0)) (dCons (dBin oSub (dVar 0) (dC (.int 1))) dNil)))) [3]) dNil))))) (dSeq (dRet (dC (.bl false))) dNext) dNext) (dSeq (dRet (dAndV (dCallL (callOp 1 ((Φ (k + 2)).f 3) []) (dCons (dVar 2) dNil)) (dOrV (dBin oEq (dCallL oLen (dCons (dVar 2) dNil)) (dC (.int 1))) (dAndV (dBin oEq (dVar 1) (dC (.str "left"))) (dBin (oCmpI fun i j => decide (j < i)) (dCallL oLen (dCons (dVar 2) dNil)) (dC (.int 1))))))) dNext))
theorem c24 (Φ : Nat → Phi) (k : Nat) : cmpSs (cmpS G Φ 60 (k + 2) ⟨defScope (top 35), ["pages", "rule", "value", "page"], fun _ => true, none, false⟩) (defBody (top 35)) = some (d24 Φ k) := by kernel_rfl
theorem f24 (k : Nat) (xs : List PV) (S : Store) : (Lv G dfs 60 (k + 3) (k + 3)).f 24 xs S = resOf (d24 (Lv G dfs 60 (k + 2)) k (startF ["pages", "rule", "value", "page"] xs) S) := by
  rw [Lv_top]
  show runD G 60 (Lv G dfs 60 (k + 2)) (k + 2) ⟨"are_places", defArgs (top 35), defBody (top 35), defScope (top 35), ["pages", "rule", "value"], ["pages", "rule", "value", "page"], false⟩ xs S = _
  unfold runD
  dsimp only
  rw [c24]
def d25 (Φ : Nat → Phi) (k : Nat) : DS := (dSeq (dIf (dOrT (dNotT (dTru (dCallL oIsi (dCons (dVar 2) (dCons (dC (.ty .tuple)) dNil))))) (dOrT (dBl (dBin oNe (dCallL oLen (dCons (dVar 2) dNil)) (dC (.int 4)))) (dNotT (dTru (dCallL (callOp 3 ((Φ (k + 2)).f 1) []) (dCons (dBin oIx (dVar 2) (dC (.int 0))) (dCons (dC (.int 0)) (dCons (dBin oSub (dVar 0) (dC (.int 1))) dNil)))))))) (dSeq (dRet (dC (.bl false))) dNext) dNext) (dSeq (dRet (dAndV (dCallL (callOp 3 ((Φ (k + 2)).f 1) []) (dCons (dBin oIx (dVar 2) (dC (.int 1))) (dCons (dC (.int 0)) (dCons (dVar 0) dNil)))) (dAndV (dCallL (callOp 3 ((Φ (k + 2)).f 24) []) (dCons (dVar 0) (dCons (dVar 1) (dCons (dBin oIx (dVar 2) (dC (.int 2))) dNil)))) (dCallL (callOp 3 ((Φ (k + 2)).f 1) []) (dCons (dBin oIx (dVar 2) (dC (.int 3))) (dCons (dC (.int 0)) (dCons (dC (.int 1)) dNil))))))) dNext))
theorem c25 (Φ : Nat → Phi) (k : Nat) : cmpSs (cmpS G Φ 60 (k + 2) ⟨defScope (top 36), ["pages", "rule", "value"], fun _ => true, none, false⟩) (defBody (top 36)) = some (d25 Φ k) := by kernel_rfl
theorem f25 (k : Nat) (xs : List PV) (S : Store) : (Lv G dfs 60 (k + 3) (k + 3)).f 25 xs S = resOf (d25 (Lv G dfs 60 (k + 2)) k (startF ["pages", "rule", "value"] xs) S) := by
  rw [Lv_top]
  show runD G 60 (Lv G dfs 60 (k + 2)) (k + 2) ⟨"is_state", defArgs (top 36), defBody (top 36), defScope (top 36), ["pages", "rule", "value"], ["pages", "rule", "value"], false⟩ xs S = _
  unfold runD
  dsimp only
  rw [c25]
def d26 (Φ : Nat → Phi) (k : Nat) : DS := (dSeq (dIf (dOrT (dNotT (dTru (dCallL (callOp 1 ((Φ (k + 2)).f 2) []) (dCons (dVar 2) dNil)))) (dNotT (dTru (dCallL oAll (dCons (dLc finV (dSeqI (dVar 2)) (.name 4) dYes (dCallL (callOp 3 ((Φ (k + 2)).f 25) []) (dCons (dVar 0) (dCons (dVar 1) (dCons (dVar 4) dNil)))) [4]) dNil))))) (dSeq (dRet (dC (.bl false))) dNext) dNext) (dSeq (dIf (dNotT (dTru (dCallL (callOp 1 ((Φ (k + 2)).f 3) []) (dCons (dVar 2) dNil)))) (dSeq (dRet (dC (.bl false))) dNext) dNext) (dSeq (dAsg (.name 3) (dDcN (dSeqI (dVar 2)) (.name 4) dYes (dVar 4) (dC (.bl true)) [4])) (dSeq (dIf (dNotT (dTru (dCallL oAll (dCons (dLc finV (dSeqI (dCallL (callOp 1 ((Φ (k + 2)).f 18) []) (dCons (dVar 0) dNil))) (.name 4) dYes (dBin (oIn false) (dVar 4) (dVar 3)) [4]) dNil)))) (dSeq (dRet (dC (.bl false))) dNext) dNext) (dSeq (dFor (dSeqI (dVar 2)) (.name 4) (dSeq (dIf (dAndT (dBl (dBin oEq (dBin oIx (dVar 4) (dC (.int 1))) (dVar 0))) (dBl (dBin oEq (dBin oIx (dVar 4) (dC (.int 3))) (dC (.int 0))))) (dSeq (dRet (dC (.bl false))) dNext) dNext) (dSeq (dIf (dNotT (dTru (dCallL oAll (dCons (dLc finV (dSeqI (dCallL (callOp 3 ((Φ (k + 2)).f 21) []) (dCons (dVar 0) (dCons (dVar 1) (dCons (dVar 4) dNil))))) (.name 5) dYes (dBin (oIn false) (dVar 5) (dVar 3)) [5]) dNil)))) (dSeq (dRet (dC (.bl false))) dNext) dNext) dNext))) (dSeq (dRet (dC (.bl true))) dNext))))))
theorem c26 (Φ : Nat → Phi) (k : Nat) : cmpSs (cmpS G Φ 60 (k + 2) ⟨defScope (top 37), ["pages", "rule", "value", "known", "state", "later"], fun _ => true, none, false⟩) (defBody (top 37)) = some (d26 Φ k) := by kernel_rfl
theorem f26 (k : Nat) (xs : List PV) (S : Store) : (Lv G dfs 60 (k + 3) (k + 3)).f 26 xs S = resOf (d26 (Lv G dfs 60 (k + 2)) k (startF ["pages", "rule", "value", "known", "state", "later"] xs) S) := by
  rw [Lv_top]
  show runD G 60 (Lv G dfs 60 (k + 2)) (k + 2) ⟨"accepts_none", defArgs (top 37), defBody (top 37), defScope (top 37), ["pages", "rule", "value"], ["pages", "rule", "value", "known", "state", "later"], false⟩ xs S = _
  unfold runD
  dsimp only
  rw [c26]
def d27 (Φ : Nat → Phi) (k : Nat) : DS := (dSeq (dIf (dOrT (dNotT (dTru (dCallL (callOp 3 ((Φ (k + 2)).f 1) []) (dCons (dVar 2) (dCons (dC (.int 0)) (dCons (dBin oSub (dVar 0) (dC (.int 1))) dNil)))))) (dOrT (dNotT (dTru (dCallL (callOp 3 ((Φ (k + 2)).f 1) []) (dCons (dVar 3) (dCons (dC (.int 0)) (dCons (dBin oSub (dVar 0) (dC (.int 1))) dNil)))))) (dNotT (dTru (dCallL (callOp 1 ((Φ (k + 2)).f 2) []) (dCons (dVar 4) dNil)))))) (dSeq (dRet (dC (.bl false))) dNext) dNext) (dSeq (dIf (dBl (dBin (oIs true) (dCallL (callOp 5 ((Φ (k + 2)).f 12) []) (dCons (dVar 0) (dCons (dVar 1) (dCons (dVar 2) (dCons (dVar 3) (dCons (dVar 4) dNil)))))) (dC .non))) (dSeq (dRet (dC (.bl false))) dNext) dNext) (dSeq (dRet (dBin oEq (dCallL (callOp 5 ((Φ (k + 2)).f 16) []) (dCons (dVar 0) (dCons (dVar 1) (dCons (dVar 2) (dCons (dVar 3) (dCons (dVar 4) dNil)))))) (dCallL oLst dNil))) dNext)))
theorem c27 (Φ : Nat → Phi) (k : Nat) : cmpSs (cmpS G Φ 60 (k + 2) ⟨defScope (top 38), ["pages", "rule", "begin", "page", "moves"], fun _ => true, none, false⟩) (defBody (top 38)) = some (d27 Φ k) := by kernel_rfl
theorem f27 (k : Nat) (xs : List PV) (S : Store) : (Lv G dfs 60 (k + 3) (k + 3)).f 27 xs S = resOf (d27 (Lv G dfs 60 (k + 2)) k (startF ["pages", "rule", "begin", "page", "moves"] xs) S) := by
  rw [Lv_top]
  show runD G 60 (Lv G dfs 60 (k + 2)) (k + 2) ⟨"accepts_miss", defArgs (top 38), defBody (top 38), defScope (top 38), ["pages", "rule", "begin", "page", "moves"], ["pages", "rule", "begin", "page", "moves"], false⟩ xs S = _
  unfold runD
  dsimp only
  rw [c27]
def d28 (Φ : Nat → Phi) (k : Nat) : DS := (dSeq (dDrop (dCallL (callOp 1 ((Φ (k + 2)).f 4) []) (dCons (dVar 0) dNil))) (dSeq (dDrop (dCallL (callOp 1 ((Φ (k + 2)).f 6) []) (dCons (dVar 1) dNil))) (dSeq (dIf (dOrT (dNotT (dTru (dCallL oIsi (dCons (dVar 2) (dCons (dC (.ty .tuple)) dNil))))) (dOrT (dBl (dBin oEq (dVar 2) (dCallL oTup dNil))) (dNotT (dTru (dCallL oIsi (dCons (dBin oIx (dVar 2) (dC (.int 0))) (dCons (dC (.ty .str)) dNil))))))) (dSeq (dRet (dC (.bl false))) dNext) dNext) (dSeq (dIf (dBl (dBin oEq (dBin oIx (dVar 2) (dC (.int 0))) (dC (.str "miss")))) (dSeq (dRet (dAndV (dBin oEq (dCallL oLen (dCons (dVar 2) dNil)) (dC (.int 4))) (dCallL (callOp 5 ((Φ (k + 2)).f 27) []) (dCons (dVar 0) (dCons (dVar 1) (dCons (dBin oIx (dVar 2) (dC (.int 1))) (dCons (dBin oIx (dVar 2) (dC (.int 2))) (dCons (dBin oIx (dVar 2) (dC (.int 3))) dNil)))))))) dNext) dNext) (dSeq (dRet (dAndV (dBin oEq (dBin oIx (dVar 2) (dC (.int 0))) (dC (.str "none"))) (dAndV (dBin oEq (dCallL oLen (dCons (dVar 2) dNil)) (dC (.int 2))) (dCallL (callOp 3 ((Φ (k + 2)).f 26) []) (dCons (dVar 0) (dCons (dVar 1) (dCons (dBin oIx (dVar 2) (dC (.int 1))) dNil))))))) dNext)))))
theorem c28 (Φ : Nat → Phi) (k : Nat) : cmpSs (cmpS G Φ 60 (k + 2) ⟨defScope (top 39), ["pages", "rule", "value"], fun _ => true, none, false⟩) (defBody (top 39)) = some (d28 Φ k) := by kernel_rfl
theorem f28 (k : Nat) (xs : List PV) (S : Store) : (Lv G dfs 60 (k + 3) (k + 3)).f 28 xs S = resOf (d28 (Lv G dfs 60 (k + 2)) k (startF ["pages", "rule", "value"] xs) S) := by
  rw [Lv_top]
  show runD G 60 (Lv G dfs 60 (k + 2)) (k + 2) ⟨"accepts_walk", defArgs (top 39), defBody (top 39), defScope (top 39), ["pages", "rule", "value"], ["pages", "rule", "value"], false⟩ xs S = _
  unfold runD
  dsimp only
  rw [c28]
def d29 (Φ : Nat → Phi) (k : Nat) : DS := (dSeq (dIf (dOrT (dNotT (dTru (dCallL (callOp 1 ((Φ (k + 2)).f 2) []) (dCons (dVar 1) dNil)))) (dNotT (dBl (dChain (oCmpI fun i j => decide (i ≤ j)) (oCmpI fun i j => decide (i ≤ j)) (dC (.int 1)) (dCallL oLen (dCons (dVar 1) dNil)) (dC (.int 5)))))) (dSeq (dRaise 2 (dVar 1)) dNext) dNext) (dSeq (dIf (dNotT (dTru (dCallL oAll (dCons (dLc finV (dSeqI (dVar 1)) (.name 2) dYes (dCallL (callOp 3 ((Φ (k + 2)).f 1) []) (dCons (dVar 2) (dCons (dC (.int 0)) (dCons (dBin oSub (dVar 0) (dC (.int 1))) dNil)))) [2]) dNil)))) (dSeq (dRaise 2 (dVar 1)) dNext) dNext) dNext))
theorem c29 (Φ : Nat → Phi) (k : Nat) : cmpSs (cmpS G Φ 60 (k + 2) ⟨defScope (top 40), ["pages", "begins", "page"], fun _ => true, none, false⟩) (defBody (top 40)) = some (d29 Φ k) := by kernel_rfl
theorem f29 (k : Nat) (xs : List PV) (S : Store) : (Lv G dfs 60 (k + 3) (k + 3)).f 29 xs S = resOf (d29 (Lv G dfs 60 (k + 2)) k (startF ["pages", "begins", "page"] xs) S) := by
  rw [Lv_top]
  show runD G 60 (Lv G dfs 60 (k + 2)) (k + 2) ⟨"check_begins", defArgs (top 40), defBody (top 40), defScope (top 40), ["pages", "begins"], ["pages", "begins", "page"], false⟩ xs S = _
  unfold runD
  dsimp only
  rw [c29]
def d30 (Φ : Nat → Phi) (k : Nat) : DS := (dSeq (dIf (dOrT (dBl (dBin (oIs false) (dVar 0) (dC .non))) (dAndT (dBl (dBin (oIs true) (dVar 1) (dC .non))) (dBl (dBin oLt (dVar 1) (dVar 0))))) (dSeq (dRet (dVar 1)) dNext) dNext) (dSeq (dRet (dVar 0)) dNext))
theorem c30 (Φ : Nat → Phi) (k : Nat) : cmpSs (cmpS G Φ 60 (k + 2) ⟨defScope (top 41), ["one", "other"], fun _ => true, none, false⟩) (defBody (top 41)) = some (d30 Φ k) := by kernel_rfl
theorem f30 (k : Nat) (xs : List PV) (S : Store) : (Lv G dfs 60 (k + 3) (k + 3)).f 30 xs S = resOf (d30 (Lv G dfs 60 (k + 2)) k (startF ["one", "other"] xs) S) := by
  rw [Lv_top]
  show runD G 60 (Lv G dfs 60 (k + 2)) (k + 2) ⟨"lesser_of", defArgs (top 41), defBody (top 41), defScope (top 41), ["one", "other"], ["one", "other"], false⟩ xs S = _
  unfold runD
  dsimp only
  rw [c30]
def d31 (Φ : Nat → Phi) (k : Nat) : DS := (dSeq (dRet (dIfE (dBl (dBin (oIs false) (dVar 0) (dC .non))) (dC .non) (dBin oAdd (dVar 0) (dVar 1)))) dNext)
theorem c31 (Φ : Nat → Phi) (k : Nat) : cmpSs (cmpS G Φ 60 (k + 2) ⟨defScope (top 42), ["number", "more"], fun _ => true, none, false⟩) (defBody (top 42)) = some (d31 Φ k) := by kernel_rfl
theorem f31 (k : Nat) (xs : List PV) (S : Store) : (Lv G dfs 60 (k + 3) (k + 3)).f 31 xs S = resOf (d31 (Lv G dfs 60 (k + 2)) k (startF ["number", "more"] xs) S) := by
  rw [Lv_top]
  show runD G 60 (Lv G dfs 60 (k + 2)) (k + 2) ⟨"with_more", defArgs (top 42), defBody (top 42), defScope (top 42), ["number", "more"], ["number", "more"], false⟩ xs S = _
  unfold runD
  dsimp only
  rw [c31]
def d32 (Φ : Nat → Phi) (k : Nat) : DS := (dSeq (dAsg (.name 3) (dCallL oLstR dNil)) (dSeq (dFor (dRng1 (dCons (dVar 0) dNil)) (.name 4) (dSeq (dAsg (.name 5) (dC .non)) (dSeq (dFor (dRng1 (dCons (dVar 0) dNil)) (.name 6) (dSeq (dIf (dBl (dBin (oCmpI fun i j => decide (j < i)) (dCallL (callOp 3 ((Φ (k + 2)).f 8) []) (dCons (dVar 0) (dCons (dVar 1) (dCons (dVar 6) dNil)))) (dCallL (callOp 3 ((Φ (k + 2)).f 8) []) (dCons (dVar 0) (dCons (dVar 1) (dCons (dVar 4) dNil)))))) (dSeq (dAsg (.name 5) (dCallL (callOp 2 ((Φ (k + 2)).f 30) []) (dCons (dVar 5) (dCons (dCallL (callOp 2 ((Φ (k + 2)).f 31) []) (dCons (dBin oIx (dVar 2) (dVar 6)) (dCons (dC (.int 1)) dNil))) dNil)))) dNext) dNext) (dSeq (dIf (dBl (dBin oNe (dVar 6) (dVar 1))) (dSeq (dAsg (.name 5) (dCallL (callOp 2 ((Φ (k + 2)).f 30) []) (dCons (dVar 5) (dCons (dCallL (callOp 2 ((Φ (k + 2)).f 31) []) (dCons (dBin oIx (dVar 2) (dVar 6)) (dCons (dC (.int 2)) dNil))) dNil)))) dNext) dNext) dNext))) (dSeq (dDrop (dMeth .list oAppend (dVar 3) (dCons (dVar 5) dNil))) dNext)))) (dSeq (dRet (dVarF 3)) dNext)))
theorem c32 (Φ : Nat → Phi) (k : Nat) : cmpSs (cmpS G Φ 60 (k + 2) ⟨defScope (top 43), ["pages", "begin", "costs", "found", "target", "best", "page"], fun _ => true, none, false⟩) (defBody (top 43)) = some (d32 Φ k) := by kernel_rfl
theorem f32 (k : Nat) (xs : List PV) (S : Store) : (Lv G dfs 60 (k + 3) (k + 3)).f 32 xs S = resOf (d32 (Lv G dfs 60 (k + 2)) k (startF ["pages", "begin", "costs", "found", "target", "best", "page"] xs) S) := by
  rw [Lv_top]
  show runD G 60 (Lv G dfs 60 (k + 2)) (k + 2) ⟨"moved_on", defArgs (top 43), defBody (top 43), defScope (top 43), ["pages", "begin", "costs"], ["pages", "begin", "costs", "found", "target", "best", "page"], false⟩ xs S = _
  unfold runD
  dsimp only
  rw [c32]
def d33 (Φ : Nat → Phi) (k : Nat) : DS := (dSeq (dIf (dBl (dBin oEq (dVar 2) (dBin oIx (dVar 1) (dC (.int 0))))) (dSeq (dRet (dC .non)) dNext) dNext) (dSeq (dAsg (.name 3) (dLc finV (dRng1 (dCons (dVar 0) dNil)) (.name 6) dYes (dIfE (dBl (dBin oEq (dVar 6) (dVar 2))) (dC (.int 0)) (dC .non)) [6])) (dSeq (dFor (dSeqI (dSl (dVar 1) dNoPart (dPart (dUn oNeg (dC (.int 1)))))) (.name 4) (dSeq (dAsg (.name 3) (dCallL (callOp 3 ((Φ (k + 2)).f 32) []) (dCons (dVar 0) (dCons (dVar 4) (dCons (dVar 3) dNil))))) dNext)) (dSeq (dAsg (.name 5) (dC .non)) (dSeq (dFor (dRng1 (dCons (dVar 0) dNil)) (.name 6) (dSeq (dIf (dBl (dBin oNe (dVar 6) (dBin oIx (dVar 1) (dUn oNeg (dC (.int 1)))))) (dSeq (dAsg (.name 5) (dCallL (callOp 2 ((Φ (k + 2)).f 30) []) (dCons (dVar 5) (dCons (dCallL (callOp 2 ((Φ (k + 2)).f 31) []) (dCons (dBin oIx (dVar 3) (dVar 6)) (dCons (dC (.int 1)) dNil))) dNil)))) dNext) dNext) dNext)) (dSeq (dRet (dVar 5)) dNext))))))
theorem c33 (Φ : Nat → Phi) (k : Nat) : cmpSs (cmpS G Φ 60 (k + 2) ⟨defScope (top 44), ["pages", "begins", "page", "costs", "begin", "best", "spot"], fun _ => true, none, false⟩) (defBody (top 44)) = some (d33 Φ k) := by kernel_rfl
theorem f33 (k : Nat) (xs : List PV) (S : Store) : (Lv G dfs 60 (k + 3) (k + 3)).f 33 xs S = resOf (d33 (Lv G dfs 60 (k + 2)) k (startF ["pages", "begins", "page", "costs", "begin", "best", "spot"] xs) S) := by
  rw [Lv_top]
  show runD G 60 (Lv G dfs 60 (k + 2)) (k + 2) ⟨"cost_of", defArgs (top 44), defBody (top 44), defScope (top 44), ["pages", "begins", "page"], ["pages", "begins", "page", "costs", "begin", "best", "spot"], false⟩ xs S = _
  unfold runD
  dsimp only
  rw [c33]
def d34 (Φ : Nat → Phi) (k : Nat) : DS := (dSeq (dDrop (dCallL (callOp 1 ((Φ (k + 2)).f 4) []) (dCons (dVar 0) dNil))) (dSeq (dDrop (dCallL (callOp 2 ((Φ (k + 2)).f 29) []) (dCons (dVar 0) (dCons (dVar 1) dNil)))) (dSeq (dDrop (dCallL (callOp 2 ((Φ (k + 2)).f 7) []) (dCons (dVar 0) (dCons (dVar 2) dNil)))) (dSeq (dRet (dCallL (callOp 3 ((Φ (k + 2)).f 33) []) (dCons (dVar 0) (dCons (dVar 1) (dCons (dVar 2) dNil))))) dNext))))
theorem c34 (Φ : Nat → Phi) (k : Nat) : cmpSs (cmpS G Φ 60 (k + 2) ⟨defScope (top 45), ["pages", "begins", "page"], fun _ => true, none, false⟩) (defBody (top 45)) = some (d34 Φ k) := by kernel_rfl
theorem f34 (k : Nat) (xs : List PV) (S : Store) : (Lv G dfs 60 (k + 3) (k + 3)).f 34 xs S = resOf (d34 (Lv G dfs 60 (k + 2)) k (startF ["pages", "begins", "page"] xs) S) := by
  rw [Lv_top]
  show runD G 60 (Lv G dfs 60 (k + 2)) (k + 2) ⟨"least_moves", defArgs (top 45), defBody (top 45), defScope (top 45), ["pages", "begins", "page"], ["pages", "begins", "page"], false⟩ xs S = _
  unfold runD
  dsimp only
  rw [c34]
def d35 (Φ : Nat → Phi) (k : Nat) : DS := (dSeq (dAsg (.name 2) (dC (.int 0))) (dSeq (dIf (dBl (dBin oLt (dVar 1) (dCallL oLen (dCons (dVar 0) dNil)))) (dSeq (dAsg (.name 2) (dBin oIx (dVar 0) (dVar 1))) dNext) dNext) (dSeq (dAsg (.name 3) (dCallL oMax (dCons (dCallL oInt (dCons (dVar 2) dNil)) (dCons (dCallL oInt (dCons (dBin oSub (dUn oNeg (dC (.int 1))) (dVar 2)) dNil)) dNil)))) (dSeq (dAsg (.name 4) (dBin oMod (dCallL oInt (dCons (dBin oMul (dBin oAdd (dBin oAdd (dBin oAdd (dBin oMod (dCallL oInt (dCons (dVar 3) dNil)) (dC (.int 2147483629))) (dBin oMul (dBin oMul (dC (.int 7919)) (dVar 1)) (dVar 1))) (dBin oMul (dC (.int 31)) (dVar 1))) (dC (.int 17))) (dC (.int 48271))) dNil)) (dC (.int 2147483647)))) (dSeq (dRet (dCallL oLstR (dCons (dBin oMul (dVar 3) (dCallL oInt (dCons (dBin (oCmpI fun i j => decide (j ≤ i)) (dVar 3) (dBin oPow (dC (.int 10)) (dC (.int 18)))) dNil))) (dCons (dVar 4) dNil)))) dNext)))))
theorem c35 (Φ : Nat → Phi) (k : Nat) : cmpSs (cmpS G Φ 60 (k + 2) ⟨defScope (top 47), ["_law_script", "_law_k", "_law_cell", "_law_big", "_law_mixed"], fun _ => true, none, false⟩) (defBody (top 47)) = some (d35 Φ k) := by kernel_rfl
theorem f35 (k : Nat) (xs : List PV) (S : Store) : (Lv G dfs 60 (k + 3) (k + 3)).f 35 xs S = resOf (d35 (Lv G dfs 60 (k + 2)) k (startF ["_law_script", "_law_k", "_law_cell", "_law_big", "_law_mixed"] xs) S) := by
  rw [Lv_top]
  show runD G 60 (Lv G dfs 60 (k + 2)) (k + 2) ⟨"_law_pool", defArgs (top 47), defBody (top 47), defScope (top 47), ["_law_script", "_law_k"], ["_law_script", "_law_k", "_law_cell", "_law_big", "_law_mixed"], false⟩ xs S = _
  unfold runD
  dsimp only
  rw [c35]
def d36 (Φ : Nat → Phi) (k : Nat) : DS := (dSeq (dIf (dBl (dBin (oCmpI fun i j => decide (j < i)) (dBin oIx (dVar 0) (dC (.int 0))) (dC (.int 0)))) (dSeq (dAsg (.name 2) (dBin oMod (dCallL oInt (dCons (dBin oIx (dVar 0) (dC (.int 0))) dNil)) (dVar 1))) (dSeq (dSetIx (dVar 0) (dC (.int 0)) (dBin oFdiv (dBin oIx (dVar 0) (dC (.int 0))) (dVar 1))) (dSeq (dRet (dVar 2)) dNext))) dNext) (dSeq (dSetIx (dVar 0) (dC (.int 1)) (dBin oMod (dCallL oInt (dCons (dBin oAdd (dBin oMul (dBin oIx (dVar 0) (dC (.int 1))) (dC (.int 39373))) (dC (.int 7))) dNil)) (dC (.int 2147483647)))) (dSeq (dRet (dBin oMod (dCallL oInt (dCons (dBin oFdiv (dBin oMod (dCallL oInt (dCons (dBin oMul (dBin oIx (dVar 0) (dC (.int 1))) (dBin oIx (dVar 0) (dC (.int 1)))) dNil)) (dC (.int 2147483629))) (dC (.int 32))) dNil)) (dVar 1))) dNext)))
theorem c36 (Φ : Nat → Phi) (k : Nat) : cmpSs (cmpS G Φ 60 (k + 2) ⟨defScope (top 48), ["_law_source", "_law_top", "_law_told"], fun _ => true, none, false⟩) (defBody (top 48)) = some (d36 Φ k) := by kernel_rfl
theorem f36 (k : Nat) (xs : List PV) (S : Store) : (Lv G dfs 60 (k + 3) (k + 3)).f 36 xs S = resOf (d36 (Lv G dfs 60 (k + 2)) k (startF ["_law_source", "_law_top", "_law_told"] xs) S) := by
  rw [Lv_top]
  show runD G 60 (Lv G dfs 60 (k + 2)) (k + 2) ⟨"_law_take", defArgs (top 48), defBody (top 48), defScope (top 48), ["_law_source", "_law_top"], ["_law_source", "_law_top", "_law_told"], false⟩ xs S = _
  unfold runD
  dsimp only
  rw [c36]
def d37 (Φ : Nat → Phi) (k : Nat) : DS := (dSeq (dRet (dBin oIx (dVar 1) (dCallL (callOp 2 ((Φ (k + 2)).f 36) []) (dCons (dVar 0) (dCons (dCallL oLen (dCons (dVar 1) dNil)) dNil))))) dNext)
theorem c37 (Φ : Nat → Phi) (k : Nat) : cmpSs (cmpS G Φ 60 (k + 2) ⟨defScope (top 49), ["_law_source", "_law_things"], fun _ => true, none, false⟩) (defBody (top 49)) = some (d37 Φ k) := by kernel_rfl
theorem f37 (k : Nat) (xs : List PV) (S : Store) : (Lv G dfs 60 (k + 3) (k + 3)).f 37 xs S = resOf (d37 (Lv G dfs 60 (k + 2)) k (startF ["_law_source", "_law_things"] xs) S) := by
  rw [Lv_top]
  show runD G 60 (Lv G dfs 60 (k + 2)) (k + 2) ⟨"_law_one", defArgs (top 49), defBody (top 49), defScope (top 49), ["_law_source", "_law_things"], ["_law_source", "_law_things"], false⟩ xs S = _
  unfold runD
  dsimp only
  rw [c37]
def d38 (Φ : Nat → Phi) (k : Nat) : DS := (dSeq (dRet (dLc finV (dRng1 (dCons (dVar 2) dNil)) (.name 3) dYes (dBin oMod (dCallL oInt (dCons (dBin oAdd (dVar 1) (dVar 3)) dNil)) (dVar 0)) [3])) dNext)
theorem c38 (Φ : Nat → Phi) (k : Nat) : cmpSs (cmpS G Φ 60 (k + 2) ⟨defScope (top 50), ["_law_size", "_law_begin", "_law_done", "_law_visit"], fun _ => true, none, false⟩) (defBody (top 50)) = some (d38 Φ k) := by kernel_rfl
theorem f38 (k : Nat) (xs : List PV) (S : Store) : (Lv G dfs 60 (k + 3) (k + 3)).f 38 xs S = resOf (d38 (Lv G dfs 60 (k + 2)) k (startF ["_law_size", "_law_begin", "_law_done", "_law_visit"] xs) S) := by
  rw [Lv_top]
  show runD G 60 (Lv G dfs 60 (k + 2)) (k + 2) ⟨"_law_visited", defArgs (top 50), defBody (top 50), defScope (top 50), ["_law_size", "_law_begin", "_law_done"], ["_law_size", "_law_begin", "_law_done", "_law_visit"], false⟩ xs S = _
  unfold runD
  dsimp only
  rw [c38]
def d39 (Φ : Nat → Phi) (k : Nat) : DS := (dSeq (dIf (dBl (dBin oEq (dVar 5) (dVar 4))) (dSeq (dRet (dC (.bl false))) dNext) dNext) (dSeq (dAsg (.name 6) (dCallL (callOp 3 ((Φ (k + 2)).f 38) []) (dCons (dVar 0) (dCons (dVar 2) (dCons (dVar 3) dNil))))) (dSeq (dRet (dOrV (dBin oNe (dVar 1) (dC (.str "barred"))) (dOrV (dBin (oIn false) (dVar 4) (dVar 6)) (dBin (oIn true) (dVar 5) (dVar 6))))) dNext)))
theorem c39 (Φ : Nat → Phi) (k : Nat) : cmpSs (cmpS G Φ 60 (k + 2) ⟨defScope (top 51), ["_law_size", "_law_way", "_law_begin", "_law_done", "_law_spot", "_law_target", "_law_seen_pages"], fun _ => true, none, false⟩) (defBody (top 51)) = some (d39 Φ k) := by kernel_rfl
theorem f39 (k : Nat) (xs : List PV) (S : Store) : (Lv G dfs 60 (k + 3) (k + 3)).f 39 xs S = resOf (d39 (Lv G dfs 60 (k + 2)) k (startF ["_law_size", "_law_way", "_law_begin", "_law_done", "_law_spot", "_law_target", "_law_seen_pages"] xs) S) := by
  rw [Lv_top]
  show runD G 60 (Lv G dfs 60 (k + 2)) (k + 2) ⟨"_law_may", defArgs (top 51), defBody (top 51), defScope (top 51), ["_law_size", "_law_way", "_law_begin", "_law_done", "_law_spot", "_law_target"], ["_law_size", "_law_way", "_law_begin", "_law_done", "_law_spot", "_law_target", "_law_seen_pages"], false⟩ xs S = _
  unfold runD
  dsimp only
  rw [c39]
def d40 (Φ : Nat → Phi) (k : Nat) : DS := (dSeq (dPar [5, 6] (dCons (dCallL oLstR dNil) (dCons (dCallL oLst (dCons (dVar 3) dNil)) dNil))) (dSeq (dFor (dRng1 (dCons (dVar 0) dNil)) (.name 7) (dSeq (dAsg (.name 8) (dIfE (dBl (dBin oEq (dVar 1) (dC (.str "left")))) (dVar 6) (dSl (dVar 6) (dPart (dUn oNeg (dC (.int 1)))) dNoPart))) (dSeq (dIf (dBl (dBin (oIn false) (dBin oMod (dCallL oInt (dCons (dBin oAdd (dVar 2) (dVar 7)) dNil)) (dVar 0)) (dVar 8))) (dSeq (dDrop (dMeth .list oAppend (dVar 5) (dCons (dVar 7) dNil))) dNext) dNext) (dSeq (dAsg (.name 6) (dBin oAdd (dVar 6) (dLc finV (dSeqI (dVar 4)) (.tup [9, 10]) (dBl (dBin oEq (dVar 9) (dVar 7))) (dVar 10) [9, 10]))) dNext)))) (dSeq (dRet (dVarF 5)) dNext)))
theorem c40 (Φ : Nat → Phi) (k : Nat) : cmpSs (cmpS G Φ 60 (k + 2) ⟨defScope (top 52), ["_law_size", "_law_way", "_law_begin", "_law_spot", "_law_steps", "_law_found", "_law_lay", "_law_visit", "_law_there", "_law_moment", "_law_target"], fun _ => true, none, false⟩) (defBody (top 52)) = some (d40 Φ k) := by kernel_rfl
theorem f40 (k : Nat) (xs : List PV) (S : Store) : (Lv G dfs 60 (k + 3) (k + 3)).f 40 xs S = resOf (d40 (Lv G dfs 60 (k + 2)) k (startF ["_law_size", "_law_way", "_law_begin", "_law_spot", "_law_steps", "_law_found", "_law_lay", "_law_visit", "_law_there", "_law_moment", "_law_target"] xs) S) := by
  rw [Lv_top]
  show runD G 60 (Lv G dfs 60 (k + 2)) (k + 2) ⟨"_law_sights", defArgs (top 52), defBody (top 52), defScope (top 52), ["_law_size", "_law_way", "_law_begin", "_law_spot", "_law_steps"], ["_law_size", "_law_way", "_law_begin", "_law_spot", "_law_steps", "_law_found", "_law_lay", "_law_visit", "_law_there", "_law_moment", "_law_target"], false⟩ xs S = _
  unfold runD
  dsimp only
  rw [c40]
def d41 (Φ : Nat → Phi) (k : Nat) : DS := (dSeq (dPar [6, 7, 8] (dCons (dCallL oLstR dNil) (dCons (dC (.int 0)) (dCons (dVar 4) dNil)))) (dSeq (dFor (dRng1 (dCons (dVar 5) dNil)) (.name 9) (dSeq (dPar [10, 11] (dCons (dBin oAdd (dVar 7) (dCallL (callOp 2 ((Φ (k + 2)).f 36) []) (dCons (dVar 0) (dCons (dC (.int 3)) dNil)))) (dCons (dCallL (callOp 2 ((Φ (k + 2)).f 36) []) (dCons (dVar 0) (dCons (dVar 1) dNil))) dNil))) (dSeq (dIf (dAndT (dBl (dBin oLt (dVar 10) (dBin oSub (dVar 1) (dC (.int 1))))) (dTru (dCallL (callOp 6 ((Φ (k + 2)).f 39) []) (dCons (dVar 1) (dCons (dVar 2) (dCons (dVar 3) (dCons (dBin oAdd (dVar 10) (dC (.int 1))) (dCons (dVar 8) (dCons (dVar 11) dNil))))))))) (dSeq (dDrop (dMeth .list oAppend (dVar 6) (dCons (dCallL oTup (dCons (dVar 10) (dCons (dVar 11) dNil))) dNil))) (dSeq (dPar [7, 8] (dCons (dVar 10) (dCons (dVar 11) dNil))) dNext)) dNext) dNext))) (dSeq (dRet (dVarF 6)) dNext)))
theorem c41 (Φ : Nat → Phi) (k : Nat) : cmpSs (cmpS G Φ 60 (k + 2) ⟨defScope (top 53), ["_law_source", "_law_size", "_law_way", "_law_begin", "_law_spot", "_law_top", "_law_found", "_law_before", "_law_lies", "_law_turn", "_law_moment", "_law_target"], fun _ => true, none, false⟩) (defBody (top 53)) = some (d41 Φ k) := by kernel_rfl
theorem f41 (k : Nat) (xs : List PV) (S : Store) : (Lv G dfs 60 (k + 3) (k + 3)).f 41 xs S = resOf (d41 (Lv G dfs 60 (k + 2)) k (startF ["_law_source", "_law_size", "_law_way", "_law_begin", "_law_spot", "_law_top", "_law_found", "_law_before", "_law_lies", "_law_turn", "_law_moment", "_law_target"] xs) S) := by
  rw [Lv_top]
  show runD G 60 (Lv G dfs 60 (k + 2)) (k + 2) ⟨"_law_let_moves", defArgs (top 53), defBody (top 53), defScope (top 53), ["_law_source", "_law_size", "_law_way", "_law_begin", "_law_spot", "_law_top"], ["_law_source", "_law_size", "_law_way", "_law_begin", "_law_spot", "_law_top", "_law_found", "_law_before", "_law_lies", "_law_turn", "_law_moment", "_law_target"], false⟩ xs S = _
  unfold runD
  dsimp only
  rw [c41]
def d42 (Φ : Nat → Phi) (k : Nat) : DS := (dSeq (dFor (dRng1 (dCons (dC (.int 8)) dNil)) (.name 5) (dSeq (dAsg (.name 6) (dCallL (callOp 6 ((Φ (k + 2)).f 41) []) (dCons (dVar 0) (dCons (dVar 1) (dCons (dVar 2) (dCons (dVar 3) (dCons (dVar 4) (dCons (dCallL (callOp 2 ((Φ (k + 2)).f 36) []) (dCons (dVar 0) (dCons (dC (.int 11)) dNil))) dNil)))))))) (dSeq (dAsg (.name 7) (dCallL (callOp 5 ((Φ (k + 2)).f 17) []) (dCons (dVar 1) (dCons (dVar 2) (dCons (dVar 3) (dCons (dVar 4) (dCons (dVar 6) dNil))))))) (dSeq (dIf (dBl (dBin (oIs true) (dCallL (callOp 5 ((Φ (k + 2)).f 14) []) (dCons (dVar 1) (dCons (dVar 2) (dCons (dVar 3) (dCons (dVar 4) (dCons (dVar 6) dNil)))))) (dC (.bl true)))) (dSeq (dRet (dC (.bl false))) dNext) dNext) (dSeq (dIf (dBl (dBin oNe (dVar 7) (dCallL oLen (dCons (dCallL (callOp 5 ((Φ (k + 2)).f 40) []) (dCons (dVar 1) (dCons (dVar 2) (dCons (dVar 3) (dCons (dVar 4) (dCons (dVar 6) dNil)))))) dNil)))) (dSeq (dRet (dC (.bl false))) dNext) dNext) (dSeq (dIf (dOrT (dAndT (dBl (dBin oNe (dVar 2) (dC (.str "free")))) (dBl (dBin oLt (dVar 7) (dC (.int 1))))) (dBl (dBin (oCmpI fun i j => decide (j < i)) (dVar 7) (dVar 1)))) (dSeq (dRet (dC (.bl false))) dNext) dNext) (dSeq (dIf (dBl (dBin (oIs true) (dCallL (callOp 5 ((Φ (k + 2)).f 14) []) (dCons (dVar 1) (dCons (dC (.str "free")) (dCons (dVar 3) (dCons (dVar 4) (dCons (dVar 6) dNil)))))) (dC (.bl true)))) (dSeq (dRet (dC (.bl false))) dNext) dNext) (dSeq (dIf (dBl (dBin (oIs true) (dCallL (callOp 5 ((Φ (k + 2)).f 14) []) (dCons (dVar 1) (dCons (dC (.str "left")) (dCons (dVar 3) (dCons (dVar 4) (dCons (dVar 6) dNil)))))) (dC (.bl true)))) (dSeq (dRet (dC (.bl false))) dNext) dNext) (dSeq (dIf (dBl (dBin (oCmpI fun i j => decide (j < i)) (dCallL (callOp 5 ((Φ (k + 2)).f 17) []) (dCons (dVar 1) (dCons (dC (.str "free")) (dCons (dVar 3) (dCons (dVar 4) (dCons (dVar 6) dNil)))))) (dCallL (callOp 5 ((Φ (k + 2)).f 17) []) (dCons (dVar 1) (dCons (dC (.str "left")) (dCons (dVar 3) (dCons (dVar 4) (dCons (dVar 6) dNil)))))))) (dSeq (dRet (dC (.bl false))) dNext) dNext) dNext))))))))) (dSeq (dRet (dC (.bl true))) dNext))
theorem c42 (Φ : Nat → Phi) (k : Nat) : cmpSs (cmpS G Φ 60 (k + 2) ⟨defScope (top 54), ["_law_source", "_law_size", "_law_way", "_law_begin", "_law_spot", "_law_turn", "_law_steps", "_law_told"], fun _ => true, none, false⟩) (defBody (top 54)) = some (d42 Φ k) := by kernel_rfl
theorem f42 (k : Nat) (xs : List PV) (S : Store) : (Lv G dfs 60 (k + 3) (k + 3)).f 42 xs S = resOf (d42 (Lv G dfs 60 (k + 2)) k (startF ["_law_source", "_law_size", "_law_way", "_law_begin", "_law_spot", "_law_turn", "_law_steps", "_law_told"] xs) S) := by
  rw [Lv_top]
  show runD G 60 (Lv G dfs 60 (k + 2)) (k + 2) ⟨"_law_record_right", defArgs (top 54), defBody (top 54), defScope (top 54), ["_law_source", "_law_size", "_law_way", "_law_begin", "_law_spot"], ["_law_source", "_law_size", "_law_way", "_law_begin", "_law_spot", "_law_turn", "_law_steps", "_law_told"], false⟩ xs S = _
  unfold runD
  dsimp only
  rw [c42]
def d43 (Φ : Nat → Phi) (k : Nat) : DS := (dSeq (dIf (dOrT (dBl (dBin oEq (dVar 0) (dC (.int 1)))) (dBl (dBin oEq (dVar 2) (dVar 1)))) (dSeq (dRet (dAndV (dBin (oIs false) (dCallL (callOp 3 ((Φ (k + 2)).f 34) []) (dCons (dVar 0) (dCons (dCallL oLst (dCons (dVar 1) dNil)) (dCons (dVar 2) dNil)))) (dC .non)) (dBin oEq (dCallL (callOp 5 ((Φ (k + 2)).f 17) []) (dCons (dVar 0) (dCons (dC (.str "free")) (dCons (dVar 1) (dCons (dVar 2) (dCons (dCallL oLst dNil) dNil)))))) (dC (.int 1))))) dNext) dNext) (dSeq (dAsg (.name 3) (dCallL oLst (dCons (dCallL oTup (dCons (dC (.int 0)) (dCons (dVar 1) dNil))) dNil))) (dSeq (dRet (dAndV (dBin oEq (dCallL (callOp 3 ((Φ (k + 2)).f 34) []) (dCons (dVar 0) (dCons (dCallL oTup (dCons (dVar 1) dNil)) (dCons (dVar 2) dNil)))) (dC (.int 1))) (dBin oEq (dCallL (callOp 5 ((Φ (k + 2)).f 17) []) (dCons (dVar 0) (dCons (dC (.str "free")) (dCons (dVar 1) (dCons (dVar 2) (dCons (dVar 3) dNil)))))) (dC (.int 0))))) dNext)))
theorem c43 (Φ : Nat → Phi) (k : Nat) : cmpSs (cmpS G Φ 60 (k + 2) ⟨defScope (top 55), ["_law_size", "_law_begin", "_law_spot", "_law_steps"], fun _ => true, none, false⟩) (defBody (top 55)) = some (d43 Φ k) := by kernel_rfl
theorem f43 (k : Nat) (xs : List PV) (S : Store) : (Lv G dfs 60 (k + 3) (k + 3)).f 43 xs S = resOf (d43 (Lv G dfs 60 (k + 2)) k (startF ["_law_size", "_law_begin", "_law_spot", "_law_steps"] xs) S) := by
  rw [Lv_top]
  show runD G 60 (Lv G dfs 60 (k + 2)) (k + 2) ⟨"_law_missed_right", defArgs (top 55), defBody (top 55), defScope (top 55), ["_law_size", "_law_begin", "_law_spot"], ["_law_size", "_law_begin", "_law_spot", "_law_steps"], false⟩ xs S = _
  unfold runD
  dsimp only
  rw [c43]
def d44 (Φ : Nat → Phi) (k : Nat) : DS := (dSeq (dFor (dRng1 (dCons (dCallL oMax (dCons (dC (.int 1)) (dCons (dCallL oMin (dCons (dC (.int 4)) (dCons (dCallL oLen (dCons (dVar 0) dNil)) dNil))) dNil))) dNil)) (.name 1) (dSeq (dAsg (.name 2) (dCallL (callOp 2 ((Φ (k + 2)).f 35) []) (dCons (dVar 0) (dCons (dVar 1) dNil)))) (dSeq (dPar [3, 4] (dCons (dBin oAdd (dC (.int 1)) (dCallL (callOp 2 ((Φ (k + 2)).f 36) []) (dCons (dVar 2) (dCons (dC (.int 5)) dNil)))) (dCons (dCallL (callOp 2 ((Φ (k + 2)).f 37) []) (dCons (dVar 2) (dCons (dCallL oLst (dCons (dC (.str "barred")) (dCons (dC (.str "free")) (dCons (dC (.str "left")) dNil)))) dNil))) dNil))) (dSeq (dAsg (.name 5) (dCallL (callOp 2 ((Φ (k + 2)).f 36) []) (dCons (dVar 2) (dCons (dVar 3) dNil)))) (dSeq (dFor (dRng1 (dCons (dVar 3) dNil)) (.name 6) (dSeq (dIf (dNotT (dTru (dCallL (callOp 5 ((Φ (k + 2)).f 42) []) (dCons (dVar 2) (dCons (dVar 3) (dCons (dVar 4) (dCons (dVar 5) (dCons (dVar 6) dNil)))))))) (dSeq (dRet (dC (.bl false))) dNext) dNext) (dSeq (dIf (dNotT (dTru (dCallL (callOp 3 ((Φ (k + 2)).f 43) []) (dCons (dVar 3) (dCons (dVar 5) (dCons (dVar 6) dNil)))))) (dSeq (dRet (dC (.bl false))) dNext) dNext) dNext))) (dSeq (dAsg (.name 7) (dCallL (callOp 2 ((Φ (k + 2)).f 23) []) (dCons (dVar 3) (dCons (dVar 4) dNil)))) (dSeq (dIf (dBl (dBin oNe (dBin oEq (dBin oIx (dVar 7) (dC (.int 0))) (dC (.str "miss"))) (dAndV (dBin oEq (dVar 4) (dC (.str "free"))) (dBin (oCmpI fun i j => decide (j < i)) (dVar 3) (dC (.int 1)))))) (dSeq (dRet (dC (.bl false))) dNext) dNext) (dSeq (dIf (dBl (dBin (oIs true) (dCallL (callOp 3 ((Φ (k + 2)).f 28) []) (dCons (dVar 3) (dCons (dVar 4) (dCons (dVar 7) dNil)))) (dC (.bl true)))) (dSeq (dRet (dC (.bl false))) dNext) dNext) (dSeq (dIf (dBl (dBin (oIs true) (dCallL (callOp 3 ((Φ (k + 2)).f 28) []) (dCons (dVar 3) (dCons (dVar 4) (dCons (dCallL oTup (dCons (dC (.str "miss")) (dCons (dVar 5) (dCons (dVar 5) (dCons (dCallL oLst dNil) dNil))))) dNil)))) (dC (.bl false)))) (dSeq (dRet (dC (.bl false))) dNext) dNext) dNext))))))))) (dSeq (dRet (dC (.bl true))) dNext))
theorem c44 (Φ : Nat → Phi) (k : Nat) : cmpSs (cmpS G Φ 60 (k + 2) ⟨defScope (top 56), ["_law_script", "_law_k", "_law_source", "_law_size", "_law_way", "_law_begin", "_law_spot", "_law_paper"], fun _ => true, none, false⟩) (defBody (top 56)) = some (d44 Φ k) := by kernel_rfl
theorem f44 (k : Nat) (xs : List PV) (S : Store) : (Lv G dfs 60 (k + 3) (k + 3)).f 44 xs S = resOf (d44 (Lv G dfs 60 (k + 2)) k (startF ["_law_script", "_law_k", "_law_source", "_law_size", "_law_way", "_law_begin", "_law_spot", "_law_paper"] xs) S) := by
  rw [Lv_top]
  show runD G 60 (Lv G dfs 60 (k + 2)) (k + 2) ⟨"law", defArgs (top 56), defBody (top 56), defScope (top 56), ["_law_script"], ["_law_script", "_law_k", "_law_source", "_law_size", "_law_way", "_law_begin", "_law_spot", "_law_paper"], false⟩ xs S = _
  unfold runD
  dsimp only
  rw [c44]
end K22
end
section
set_option Elab.async false
set_option linter.all false
set_option maxRecDepth 100000
set_option autoImplicit false
namespace E2
open PySem
/-! ### equations for simp -/
section
variable {S : Store} {fr : Frame} {a b c : DE} {t u : DT} {s r : DS} {l : DA}
@[simp] theorem u_bok {α β : Type} {x : α} {k : α → Store → Res β} : (Res.ok x S).bind k = k x S := rfl
@[simp] theorem u_bex {α β : Type} {n : Nat} {x : PV} {k : α → Store → Res β} : (Res.exc (α := α) n x S).bind k = .exc n x S := rfl
@[simp] theorem u_bfl {α β : Type} {k : α → Store → Res β} : (Res.fail (α := α)).bind k = .fail := rfl
@[simp] theorem u_lok {α : Type} {x : α} {k : α → Store → RS} : liftE (.ok x S) fr k = k x S := rfl
@[simp] theorem u_lex {α : Type} {n : Nat} {x : PV} {k : α → Store → RS} : liftE (Res.exc (α := α) n x S) fr k = .exc n x fr S := rfl
@[simp] theorem u_nok {α : Type} {x : α} : (Res.ok x S).noX = .ok x S := rfl
@[simp] theorem u_int {i : Int} : drf S (.int i) = .int i := rfl
@[simp] theorem u_bl {i : Bool} : drf S (.bl i) = .bl i := rfl
@[simp] theorem u_str {i : Str} : drf S (.str i) = .str i := rfl
@[simp] theorem u_non : drf S .non = .non := rfl
@[simp] theorem u_tup {i : List PV} : drf S (.tup i) = .tup i := rfl
@[simp] theorem u_lst {i : List PV} : drf S (.lst i) = .lst i := rfl
@[simp] theorem u_dct {i : List (PV × PV)} : drf S (.dct i) = .dct i := rfl
@[simp] theorem u_scr {i : List Int} : drf S (.scr i) = .scr i := rfl
@[simp] theorem u_ty {i : Ty} : drf S (.ty i) = .ty i := rfl
@[simp] theorem u_fn {i : Nat} : drf S (.fn i) = .fn i := rfl
@[simp] theorem u_dC {v : PV} : dC v fr S = .ok v S := rfl
@[simp] theorem u_dNil : dNil fr S = .ok [] S := rfl
@[simp] theorem u_dCons : dCons a l fr S = (a fr S).bind fun x S1 => (l fr S1).bind fun xs S2 => .ok (x :: xs) S2 := rfl
@[simp] theorem u_dBin {o : PV → PV → Store → Res PV} : dBin o a b fr S = (a fr S).bind fun x S1 => (b fr S1).bind fun y S2 => o x y S2 := rfl
@[simp] theorem u_dUn {o : PV → Store → Res PV} : dUn o a fr S = (a fr S).bind fun x S1 => o x S1 := rfl
@[simp] theorem u_dCallL {o : List PV → Store → Res PV} : dCallL o l fr S = (l fr S).bind fun x S1 => o x S1 := rfl
@[simp] theorem u_dYes : dYes fr S = .ok true S := rfl
@[simp] theorem u_dNotT : dNotT t fr S = (t fr S).bind fun c S1 => .ok (!c) S1 := rfl
@[simp] theorem u_dAndT : dAndT t u fr S = (t fr S).bind fun c S1 => if c = true then u fr S1 else .ok false S1 := rfl
@[simp] theorem u_dOrT : dOrT t u fr S = (t fr S).bind fun c S1 => if c = true then .ok true S1 else u fr S1 := rfl
@[simp] theorem u_dIfE : dIfE t a b fr S = (t fr S).bind fun k S1 => if k = true then a fr S1 else b fr S1 := rfl
@[simp] theorem u_dNext : dNext fr S = .nx fr S := rfl
@[simp] theorem u_dRet : dRet a fr S = liftE (a fr S) fr fun x S1 => .rt x S1 := rfl
@[simp] theorem u_dDrop : dDrop a fr S = liftE (a fr S) fr fun _ S1 => .nx fr S1 := rfl
@[simp] theorem u_dIf : dIf t s r fr S = liftE (t fr S) fr fun k S1 => if k = true then s fr S1 else r fr S1 := rfl
@[simp] theorem u_dRaise {n : Nat} : dRaise n a fr S = liftE (a fr S) fr fun v S1 => .exc n v fr S1 := rfl
@[simp] theorem u_dPart : dPart a fr S = (a fr S).bind fun x S1 => match drf S1 x with | .int i => .ok (some i) S1 | _ => .fail := rfl
@[simp] theorem u_dNoPart : dNoPart fr S = .ok none S := rfl
@[simp] theorem u_dSl {p q : DO} : dSl a p q fr S = (a fr S).bind fun x S1 => (p fr S1).bind fun l S2 => (q fr S2).bind fun u S3 => oSl x l u S3 := rfl
@[simp] theorem u_rrt {v : PV} : resOf (.rt v S) = .ok v S := rfl
@[simp] theorem u_rnx : resOf (.nx fr S) = .ok .non S := rfl
@[simp] theorem u_rex {n : Nat} {v : PV} : resOf (.exc n v fr S) = .exc n v S := rfl
@[simp] theorem u_snx {fr1 : Frame} {S1 : Store} (h : s fr1 S1 = .nx fr S) : dSeq s r fr1 S1 = r fr S := seq_nx h
@[simp] theorem u_tnon : truP S .non = some false := rfl
@[simp] theorem u_tbl {i : Bool} : truP S (.bl i) = some i := rfl
@[simp] theorem u_tint {i : Int} : truP S (.int i) = some (i != 0) := rfl
@[simp] theorem u_add {i j : Int} : oAdd (.int i) (.int j) S = .ok (.int (i + j)) S := rfl
@[simp] theorem u_sub {i j : Int} : oSub (.int i) (.int j) S = .ok (.int (i - j)) S := rfl
@[simp] theorem u_neg {i : Int} : oNeg (.int i) S = .ok (.int (-i)) S := rfl
@[simp] theorem u_cmp {p : Int → Int → Bool} {i j : Int} : oCmpI p (.int i) (.int j) S = .ok (.bl (p i j)) S := rfl
@[simp] theorem u_lt {i j : Int} : oLt (.int i) (.int j) S = .ok (.bl (decide (i < j))) S := rfl
theorem oMod_pos {i j : Int} (h : 0 < j) : oMod (.int i) (.int j) S = .ok (.int (i % j)) S := by simp [oMod, h]
@[simp] theorem u_eqI {i j : Int} : oEq (.int i) (.int j) S = .ok (.bl (decide (i = j))) S := by
  show Res.ok (PV.bl (PyData.eqv (.int i) (.int j))) S = _
  congr 2
@[simp] theorem u_neI {i j : Int} : oNe (.int i) (.int j) S = .ok (.bl (!decide (i = j))) S := by
  show Res.ok (PV.bl (!PyData.eqv (.int i) (.int j))) S = _
  congr 2
@[simp] theorem u_eqB {x y : Bool} : oEq (.bl x) (.bl y) S = .ok (.bl (x == y)) S := rfl
@[simp] theorem u_neB {x y : Bool} : oNe (.bl x) (.bl y) S = .ok (.bl (!(x == y))) S := rfl
@[simp] theorem u_ix0 {x : PV} {r : List PV} : oIx (.tup (x :: r)) (.int 0) S = .ok x S := by simp [oIx, L2.atI, L2.ixN]
@[simp] theorem u_ix1 {x y : PV} : oIx (.tup [x, y]) (.int 1) S = .ok y S := rfl
@[simp] theorem u_intI {i : Int} : oInt [.int i] S = .ok (.int i) S := rfl
@[simp] theorem u_tup_ {xs : List PV} (h : xs.length ≤ sizeLine) : oTup xs S = .ok (.tup xs) S := if_pos h
@[simp] theorem u_lst_ {xs : List PV} (h : xs.length ≤ sizeLine) : oLst xs S = .ok (.lst xs) S := if_pos h
@[simp] theorem u_lstR {xs : List PV} (h : xs.length ≤ sizeLine) : oLstR xs S = .ok (.ref S.length) (S ++ [(true, .lst xs)]) := if_pos h
@[simp] theorem u_lenL {xs : List PV} : oLen [.lst xs] S = .ok (.int xs.length) S := rfl
@[simp] theorem u_lenT {xs : List PV} : oLen [.tup xs] S = .ok (.int xs.length) S := rfl
@[simp] theorem u_lenS {xs : List Int} : oLen [.scr xs] S = .ok (.int xs.length) S := rfl
@[simp] theorem u_tupL {xs : List PV} : oTupOf [.lst xs] S = .ok (.tup xs) S := rfl
@[simp] theorem u_tupT {xs : List PV} : oTupOf [.tup xs] S = .ok (.tup xs) S := rfl
@[simp] theorem u_slL {xs : List PV} {p q : Option Int} : oSl (.lst xs) p q S = .ok (.lst (cutP xs p q)) S := rfl
@[simp] theorem u_slT {xs : List PV} {p q : Option Int} : oSl (.tup xs) p q S = .ok (.tup (cutP xs p q)) S := rfl
theorem addL {xs ys : List PV} (h : xs.length + ys.length ≤ sizeLine) : oAdd (.lst xs) (.lst ys) S = .ok (.lst (xs ++ ys)) S := if_pos h
theorem isNon {v : PV} {b : Bool} {n : Bool} (h : isLit v .non = some b) : oIs n v .non S = .ok (.bl (if n then !b else b)) S := by simp [oIs, h]
theorem dVar_of {i : Nat} {v : PV} (h : fr[i]? = some (some v)) (n : isThk v = false) : dVar i fr S = .ok v S := dVar_at h n
end
/-! ### the newest cell -/
theorem get_top {S : Store} {c : Bool × PV} : (S ++ [c])[S.length]? = some c := by simp
theorem set_top {S : Store} {c d : Bool × PV} : (S ++ [c]).set S.length d = S ++ [d] := by simp
theorem app_top {S : Store} {xs : List PV} {y : PV} (h : xs.length < sizeLine) : oAppend (.ref S.length) [y] (S ++ [(true, .lst xs)]) = .ok .non (S ++ [(true, .lst (xs ++ [y]))]) := by
  have e : mutLst (S ++ [(true, .lst xs)]) (.ref S.length) = some (S.length, xs) := mutLst_ref get_top
  simp [oAppend, e, h]
theorem ty_top {S : Store} {xs : List PV} : isTy (S ++ [(true, .lst xs)]) .list (.ref S.length) = true := by
  have e : drf (S ++ [(true, .lst xs)]) (.ref S.length) = .lst xs := drf_ref get_top
  simp [isTy, e]
theorem frz_top {S : Store} {xs : List PV} {i : Nat} {fr : Frame} (h : fr[i]? = some (some (.ref S.length))) : dVarF i fr (S ++ [(true, .lst xs)]) = .ok (.lst xs) (S ++ [(false, .lst xs)]) := by
  simp [dVarF, h]
theorem in_flat {S : Store} {x : PV} {xs : List PV} (h1 : flatP x = true) (h2 : xs.all flatP = true) (g : Bool) : oIn g x (.lst xs) S = .ok (.bl (if g then !(xs.any fun z => eqF z x) else xs.any fun z => eqF z x)) S := by
  have e : isIn x (.lst xs) S = some (xs.any fun z => eqF z x) := by simp only [isIn, u_lst, h1, h2, Bool.and_self, if_true]
  simp [oIn, e]
theorem cut_flat {xs : List PV} (h : xs.all flatP = true) (p q : Option Int) : (cutP xs p q).all flatP = true := by
  rw [List.all_eq_true] at h ⊢
  exact fun x hx => h x (List.mem_of_mem_drop (List.mem_of_mem_take hx))
theorem cut_len (xs : List PV) (p q : Option Int) : (cutP xs p q).length ≤ xs.length := by
  unfold cutP
  simp only [List.length_take, List.length_drop]
  omega
/-! ### loops -/
theorem forGo_nil {t : Tgt} {b : DS} {fr : Frame} {S : Store} : forGo t b [] fr S = .nx fr S := rfl
theorem forGo_next {t : Tgt} {b : DS} {x : PV} {r : List PV} {fr fr2 fr3 : Frame} {S S3 : Store} (h1 : bindG S t x fr = some fr2) (h2 : b fr2 S = .nx fr3 S3) : forGo t b (x :: r) fr S = forGo t b r fr3 S3 := by simp only [forGo, h1, h2]
theorem forGo_ret {t : Tgt} {b : DS} {x v : PV} {r : List PV} {fr fr2 : Frame} {S S3 : Store} (h1 : bindG S t x fr = some fr2) (h2 : b fr2 S = .rt v S3) : forGo t b (x :: r) fr S = .rt v S3 := by simp only [forGo, h1, h2]
theorem for_eq {i : DI} {t : Tgt} {b : DS} {xs : List PV} {fr : Frame} {S S1 : Store} (h : i fr S = .ok xs S1) : dFor i t b fr S = forGo t b xs fr S1 := by simp only [dFor, h, u_lok]
theorem seq_for_nx {i : DI} {t : Tgt} {b r : DS} {xs : List PV} {fr fr' : Frame} {S S1 S2 : Store} (h : i fr S = .ok xs S1) (e : forGo t b xs fr S1 = .nx fr' S2) : dSeq (dFor i t b) r fr S = r fr' S2 := seq_nx ((for_eq h).trans e)
theorem seq_for_rt {i : DI} {t : Tgt} {b r : DS} {xs : List PV} {fr : Frame} {v : PV} {S S1 S2 : Store} (h : i fr S = .ok xs S1) (e : forGo t b xs fr S1 = .rt v S2) : dSeq (dFor i t b) r fr S = .rt v S2 := seq_rt ((for_eq h).trans e)
/-- a comprehension whose parts keep the store -/
theorem lc_pure {fin : List PV → Store → Res PV} {t : Tgt} {tt : DT} {te : DE} {fr : Frame} {S : Store} {p : PV → Bool} {f : PV → PV} : ∀ (items acc : List PV), acc.length + items.length ≤ sizeLine →
    (∀ x ∈ items, ∃ fr2, bindG S t x fr = some fr2 ∧ tt fr2 S = .ok (p x) S ∧ (p x = true → te fr2 S = .ok (f x) S)) → lcGo fin t tt te fr items acc S = fin (acc ++ (items.filter p).map f) S
  | [], acc, _, _ => by simp [lcGo]
  | x :: r, acc, hl, h => by
    obtain ⟨fr2, h1, h2, h3⟩ := h x (List.mem_cons_self ..)
    have ih := fun acc' (hl' : acc'.length + r.length ≤ sizeLine) => lc_pure (fin := fin) (t := t) (tt := tt) (te := te) (fr := fr) (S := S) (p := p) (f := f) r acc' hl' fun y hy => h y (List.mem_cons_of_mem _ hy)
    simp only [List.length_cons] at hl
    simp only [lcGo, h1, h2, u_nok, u_bok]
    by_cases hp : p x = true
    · rw [if_pos hp, h3 hp]
      simp only [u_nok, u_bok]
      rw [if_pos (by omega), ih _ (by simp; omega)]
      simp [List.filter_cons, hp]
    · rw [if_neg hp, ih _ (by omega)]
      simp [List.filter_cons, hp]
theorem lc_eq {fin : List PV → Store → Res PV} {i : DI} {t : Tgt} {tt : DT} {te : DE} {own : List Nat} {fr : Frame} {S S1 : Store} {items : List PV} (h : i fr S = .ok items S1) : dLc fin i t tt te own fr S = lcGo fin t tt te (wipeF fr own) items [] S1 := by simp only [dLc, h, u_bok]
theorem rng1_eq {l : DA} {fr : Frame} {S S1 : Store} {j : Int} (h : l fr S = .ok [.int j] S1) (h1 : -4611686018427387904 ≤ j) (h2 : j < 4611686018427387904) : dRng1 l fr S = .ok (rngP 0 j.toNat) S1 := by
  simp [dRng1, h, rngOk, h1, h2]
theorem seqI_lst {a : DE} {fr : Frame} {S S1 : Store} {xs : List PV} (h : a fr S = .ok (.lst xs) S1) : dSeqI a fr S = .ok xs S1 := by simp [dSeqI, h]
theorem seqI_tup {a : DE} {fr : Frame} {S S1 : Store} {xs : List PV} (h : a fr S = .ok (.tup xs) S1) : dSeqI a fr S = .ok xs S1 := by simp [dSeqI, h]
theorem rngP_map : ∀ (n : Nat) (lo : Int), rngP lo n = (List.range n).map fun i => PV.int (lo + (i : Nat))
  | 0, _ => rfl
  | n + 1, lo => by
    rw [List.range_succ_eq_map, List.map_cons, List.map_map, rngP, rngP_map n (lo + 1)]
    congr 1
    · simp
    · apply List.map_congr_left
      intro x _
      simp only [Function.comp]
      congr 1
      omega
theorem rngP_mem : ∀ (n : Nat) (lo : Int) (x : PV), x ∈ rngP lo n → ∃ k : Int, x = .int k ∧ lo ≤ k ∧ k < lo + n
  | 0, _, _, h => nomatch h
  | n + 1, lo, x, h => by
    rcases List.mem_cons.mp h with rfl | h
    · exact ⟨lo, rfl, by omega, by omega⟩
    · obtain ⟨k, e, h1, h2⟩ := rngP_mem n (lo + 1) x h
      exact ⟨k, e, by omega, by omega⟩
/-- a loop by an invariant J before, K behind each turn -/
theorem for_inv {t : Tgt} {body : DS} {J K : E2.Frame → Store → Prop} (hJ : ∀ fr S, K fr S → J fr S) : ∀ (xs : List PV), (∀ x ∈ xs, ∀ fr S, J fr S → ∃ fr2 fr' S', bindG S t x fr = some fr2 ∧ body fr2 S = .nx fr' S' ∧ K fr' S') → ∀ fr S, J fr S → ∃ fr' S', forGo t body xs fr S = .nx fr' S' ∧ J fr' S' ∧ (xs ≠ [] → K fr' S')
  | [], _, fr, S, h => ⟨fr, S, rfl, h, fun z => absurd rfl z⟩
  | x :: r, hb, fr, S, h => by
    obtain ⟨f0, f1, S1, e0, e1, k1⟩ := hb x (List.mem_cons_self ..) fr S h
    obtain ⟨f2, S2, e2, j2, k2⟩ := for_inv hJ r (fun y hy => hb y (List.mem_cons_of_mem _ hy)) f1 S1 (hJ _ _ k1)
    refine ⟨f2, S2, (forGo_next e0 e1).trans e2, j2, fun _ => ?_⟩
    cases r with
    | nil =>
      simp only [forGo, RS.nx.injEq] at e2
      obtain ⟨rfl, rfl⟩ := e2
      exact k1
    | cons y r' => exact k2 (by simp)
end E2
end
section
set_option Elab.async false
set_option linter.all false
set_option maxRecDepth 100000
set_option autoImplicit false
namespace E2
open PySem
/-! ### the laws' draws: a pool is a cell of two numbers -/
def dPool : DS := (dSeq (dAsg (.name 2) (dC (.int 0))) (dSeq (dIf (dBl (dBin oLt (dVar 1) (dCallL oLen (dCons (dVar 0) dNil)))) (dSeq (dAsg (.name 2) (dBin oIx (dVar 0) (dVar 1))) dNext) dNext) (dSeq (dAsg (.name 3) (dCallL oMax (dCons (dCallL oInt (dCons (dVar 2) dNil)) (dCons (dCallL oInt (dCons (dBin oSub (dUn oNeg (dC (.int 1))) (dVar 2)) dNil)) dNil)))) (dSeq (dAsg (.name 4) (dBin oMod (dCallL oInt (dCons (dBin oMul (dBin oAdd (dBin oAdd (dBin oAdd (dBin oMod (dCallL oInt (dCons (dVar 3) dNil)) (dC (.int 2147483629))) (dBin oMul (dBin oMul (dC (.int 7919)) (dVar 1)) (dVar 1))) (dBin oMul (dC (.int 31)) (dVar 1))) (dC (.int 17))) (dC (.int 48271))) dNil)) (dC (.int 2147483647)))) (dSeq (dRet (dCallL oLstR (dCons (dBin oMul (dVar 3) (dCallL oInt (dCons (dBin (oCmpI fun i j => decide (j ≤ i)) (dVar 3) (dBin oPow (dC (.int 10)) (dC (.int 18)))) dNil))) (dCons (dVar 4) dNil)))) dNext)))))
def dTake : DS := (dSeq (dIf (dBl (dBin (oCmpI fun i j => decide (j < i)) (dBin oIx (dVar 0) (dC (.int 0))) (dC (.int 0)))) (dSeq (dAsg (.name 2) (dBin oMod (dCallL oInt (dCons (dBin oIx (dVar 0) (dC (.int 0))) dNil)) (dVar 1))) (dSeq (dSetIx (dVar 0) (dC (.int 0)) (dBin oFdiv (dBin oIx (dVar 0) (dC (.int 0))) (dVar 1))) (dSeq (dRet (dVar 2)) dNext))) dNext) (dSeq (dSetIx (dVar 0) (dC (.int 1)) (dBin oMod (dCallL oInt (dCons (dBin oAdd (dBin oMul (dBin oIx (dVar 0) (dC (.int 1))) (dC (.int 39373))) (dC (.int 7))) dNil)) (dC (.int 2147483647)))) (dSeq (dRet (dBin oMod (dCallL oInt (dCons (dBin oFdiv (dBin oMod (dCallL oInt (dCons (dBin oMul (dBin oIx (dVar 0) (dC (.int 1))) (dBin oIx (dVar 0) (dC (.int 1)))) dNil)) (dC (.int 2147483629))) (dC (.int 32))) dNil)) (dVar 1))) dNext)))
def dOne (f : List PV → Store → Res PV) : DS := (dSeq (dRet (dBin oIx (dVar 1) (dCallL (callOp 2 f []) (dCons (dVar 0) (dCons (dCallL oLen (dCons (dVar 1) dNil)) dNil))))) dNext)
def Src (n : Nat) (S : Store) : Prop := ∃ a b : Int, 0 ≤ a ∧ S[n]? = some (true, .lst [.int a, .int b])
theorem Src.lt {n : Nat} {S : Store} (h : Src n S) : n < S.length := by
  obtain ⟨a, b, _, e⟩ := h
  exact (List.getElem?_eq_some_iff.mp e).1
theorem Src.app {n : Nat} {S : Store} (h : Src n S) (R : Store) : Src n (S ++ R) := by
  have hl := h.lt
  obtain ⟨a, b, h0, e⟩ := h
  exact ⟨a, b, h0, by rw [List.getElem?_append_left hl]; exact e⟩
theorem take_at (n : Nat) (top a b : Int) (ha : 0 ≤ a) (ht : 0 < top) (ht2 : top < 1073741824) :
    ∃ t a' b', 0 ≤ t ∧ t < top ∧ 0 ≤ a' ∧ ∀ S : Store, S[n]? = some (true, .lst [.int a, .int b]) → resOf (dTake [some (.ref n), some (.int top), none] S) = .ok (.int t) (S.set n (true, .lst [.int a', .int b'])) := by
  by_cases h : 0 < a
  · refine ⟨a % top, a / top, b, Int.emod_nonneg _ (by omega), Int.emod_lt_of_pos _ ht, Int.ediv_nonneg ha (by omega), fun S hS => ?_⟩
    have hd := drf_ref hS
    have hm := mutLst_ref hS
    have a0 : L2.atI [PV.int a, PV.int b] 0 = some (.int a) := rfl
    have i0 : L2.ixN 2 0 = some 0 := rfl
    simp [dTake, dSeq, dIf, dAsg, dRet, dSetIx, dBin, dCallL, dCons, dNil, dVar, dC, dBl, bind_ok, lift_ok, resOf, bindG, drf_int, hd, hm, a0, i0, isThk, oIx, oCmpI, h, oInt, oMod, ht, oFdiv, ht2, oSet]
  · have hb0 : 0 ≤ (b * 39373 + 7) % 2147483647 := Int.emod_nonneg _ (by omega)
    have hb1 : (b * 39373 + 7) % 2147483647 < 2147483647 := Int.emod_lt_of_pos _ (by omega)
    refine ⟨((b * 39373 + 7) % 2147483647 * ((b * 39373 + 7) % 2147483647)) % 2147483629 / 32 % top, a, (b * 39373 + 7) % 2147483647, Int.emod_nonneg _ (by omega), Int.emod_lt_of_pos _ ht, ha, fun S hS => ?_⟩
    have hn : n < S.length := (List.getElem?_eq_some_iff.mp hS).1
    have hS2 : (S.set n (true, .lst [.int a, .int ((b * 39373 + 7) % 2147483647)]))[n]? = some (true, .lst [.int a, .int ((b * 39373 + 7) % 2147483647)]) := List.getElem?_set_self hn
    have hd := drf_ref hS
    have hm := mutLst_ref hS
    have hd2 := drf_ref hS2
    have a0 : L2.atI [PV.int a, PV.int b] 0 = some (.int a) := rfl
    have a1 : L2.atI [PV.int a, PV.int b] 1 = some (.int b) := rfl
    have a2 : L2.atI [PV.int a, PV.int ((b * 39373 + 7) % 2147483647)] 1 = some (.int ((b * 39373 + 7) % 2147483647)) := rfl
    have i1 : L2.ixN 2 1 = some 1 := rfl
    have m1 : mulOk b 39373 = true := by unfold mulOk; simp
    have m2 : mulOk ((b * 39373 + 7) % 2147483647) ((b * 39373 + 7) % 2147483647) = true := by unfold mulOk; simp only [Bool.or_eq_true, Bool.and_eq_true, decide_eq_true_eq]; omega
    simp [dTake, dSeq, dIf, dAsg, dRet, dSetIx, dBin, dCallL, dCons, dNil, dVar, dC, dBl, bind_ok, lift_ok, resOf, bindG, drf_int, hd, hm, a0, a1, i1, isThk, oIx, oCmpI, h, oInt, oMod, ht, oFdiv, oSet, oMul, oAdd, m1, m2, hd2, a2, dNext]
/-- a draw: what is drawn hangs on the pool's cell alone -/
theorem take_run {n : Nat} {top : Int} {S : Store} (h : Src n S) (ht : 0 < top) (ht2 : top < 1073741824) : ∃ t S', 0 ≤ t ∧ t < top ∧ Src n S' ∧ S'.length = S.length ∧ ∀ R : Store, resOf (dTake [some (.ref n), some (.int top), none] (S ++ R)) = .ok (.int t) (S' ++ R) := by
  have hl := h.lt
  obtain ⟨a, b, h0, e⟩ := h
  obtain ⟨t, a', b', h1, h2, h3, h4⟩ := take_at n top a b h0 ht ht2
  refine ⟨t, S.set n (true, .lst [.int a', .int b']), h1, h2, ⟨a', b', h3, List.getElem?_set_self hl⟩, by simp, fun R => ?_⟩
  rw [h4 (S ++ R) (by rw [List.getElem?_append_left hl]; exact e), List.set_append_left _ _ hl]
theorem one_run {n : Nat} {xs : List PV} {S : Store} {f : List PV → Store → Res PV} (hx : xs ≠ []) (hx2 : xs.length ≤ 1000) (h : ∃ t S', 0 ≤ t ∧ t < (xs.length : Int) ∧ Src n S' ∧ S'.length = S.length ∧ ∀ R : Store, f [.ref n, .int xs.length] (S ++ R) = .ok (.int t) (S' ++ R)) :
    ∃ x ∈ xs, ∃ S', Src n S' ∧ S'.length = S.length ∧ ∀ R : Store, resOf (dOne f [some (.ref n), some (.lst xs)] (S ++ R)) = .ok x (S' ++ R) := by
  obtain ⟨t, S', h1, h2, h3, h4, h5⟩ := h
  have hj : t.toNat < xs.length := by omega
  refine ⟨xs[t.toNat], List.getElem_mem hj, S', h3, h4, fun R => ?_⟩
  have ea : L2.atI xs t = some xs[t.toNat] := by
    have i : L2.ixN xs.length t = some t.toNat := by unfold L2.ixN; simp [h1, h2]
    unfold L2.atI
    rw [i]
    exact List.getElem?_eq_getElem hj
  simp [dOne, dSeq, dVar, isThk, callOp, h5, oIx, ea]
def r10 : DS := (dSeq (dAsg (.name 3) (dCallL oMax (dCons (dCallL oInt (dCons (dVar 2) dNil)) (dCons (dCallL oInt (dCons (dBin oSub (dUn oNeg (dC (.int 1))) (dVar 2)) dNil)) dNil)))) (dSeq (dAsg (.name 4) (dBin oMod (dCallL oInt (dCons (dBin oMul (dBin oAdd (dBin oAdd (dBin oAdd (dBin oMod (dCallL oInt (dCons (dVar 3) dNil)) (dC (.int 2147483629))) (dBin oMul (dBin oMul (dC (.int 7919)) (dVar 1)) (dVar 1))) (dBin oMul (dC (.int 31)) (dVar 1))) (dC (.int 17))) (dC (.int 48271))) dNil)) (dC (.int 2147483647)))) (dSeq (dRet (dCallL oLstR (dCons (dBin oMul (dVar 3) (dCallL oInt (dCons (dBin (oCmpI fun i j => decide (j ≤ i)) (dVar 3) (dBin oPow (dC (.int 10)) (dC (.int 18)))) dNil))) (dCons (dVar 4) dNil)))) dNext)))
theorem r10_run (ns : List Int) (k z : Int) (S : Store) (h0 : 0 ≤ k) (h4 : k < 100) : ∃ a b : Int, 0 ≤ a ∧ r10 [some (.scr ns), some (.int k), some (.int z), none, none] S = .rt (.ref S.length) (S ++ [(true, .lst [.int a, .int b])]) := by
  have m1 : ∀ b : Int, mulOk b 48271 = true := fun b => by unfold mulOk; simp
  have m2 : mulOk 31 k = true := by unfold mulOk; simp
  have m3 : mulOk 7919 k = true := by unfold mulOk; simp
  have m4 : mulOk (7919 * k) k = true := by unfold mulOk; simp only [Bool.or_eq_true, Bool.and_eq_true, decide_eq_true_eq]; omega
  have m5 : ∀ (b : Int) (c : Prop) [Decidable c], mulOk b (if c then 1 else 0) = true := fun b c _ => by unfold mulOk; split <;> simp
  refine ⟨(if -1 - z > z then -1 - z else z) * (if decide (10 ^ 18 ≤ (if -1 - z > z then -1 - z else z)) = true then 1 else 0), (((if -1 - z > z then -1 - z else z) % 2147483629 + 7919 * k * k + 31 * k + 17) * 48271) % 2147483647, ?_, ?_⟩
  rotate_left
  · simp [r10, dSeq, dAsg, dRet, dBin, dUn, dCallL, dCons, dNil, dVar, dC, bind_ok, lift_ok, bindG, drf_int, drf_bl, isThk, oInt, oMax, oSub, oNeg, oMod, oMul, oAdd, oPow, oCmpI, oLstR, m1, m2, m3, m4, m5, sizeLine]
  · split <;> split <;> omega
theorem pool_run {ns : List Int} {k : Int} {S : Store} (h0 : 0 ≤ k) (h4 : k < 100) : ∃ S', Src S.length S' ∧ resOf (dPool [some (.scr ns), some (.int k), none, none, none] S) = .ok (.ref S.length) S' := by
  obtain ⟨z, hz⟩ : ∃ z : Int, dPool [some (.scr ns), some (.int k), none, none, none] S = r10 [some (.scr ns), some (.int k), some (.int z), none, none] S := by
    by_cases hk : k < ns.length
    · have e : L2.atI ns k = some (ns[k.toNat]'(by omega)) := by
        have i : L2.ixN ns.length k = some k.toNat := by unfold L2.ixN; simp [h0, hk]
        unfold L2.atI
        rw [i]
        exact List.getElem?_eq_getElem (by omega)
      refine ⟨ns[k.toNat]'(by omega), ?_⟩
      show dSeq _ (dSeq _ r10) _ _ = _
      simp [dSeq, dAsg, dIf, dBl, dBin, dCallL, dCons, dNil, dVar, dC, bind_ok, lift_ok, bindG, drf_int, drf_scr, isThk, oLt, oLen, oIx, hk, e, dNext]
    · refine ⟨0, ?_⟩
      show dSeq _ (dSeq _ r10) _ _ = _
      simp [dSeq, dAsg, dIf, dBl, dBin, dCallL, dCons, dNil, dVar, dC, bind_ok, lift_ok, bindG, drf_int, drf_scr, isThk, oLt, oLen, oIx, hk, dNext]
  obtain ⟨a, b, ha, e⟩ := r10_run ns k z S h0 h4
  refine ⟨S ++ [(true, .lst [.int a, .int b])], ⟨a, b, ha, by simp⟩, ?_⟩
  rw [hz, e]
  rfl
end E2
end
section
set_option Elab.async false
set_option linter.all false
set_option maxRecDepth 100000
set_option autoImplicit false
namespace E2
open PySem
/-! ### loops that fold -/
/-- for i in range: a state, told by the names and the store -/
theorem for_fold {σ : Type} {v : Nat} {body : DS} {enc : σ → Option PV → Frame} {st : σ → Store} {step : σ → Nat → σ} {I : σ → Prop} (hset : ∀ s x y, (enc s x).set v (some y) = enc s (some y)) : ∀ (m lo : Nat),
    (∀ i s, lo ≤ i → i < lo + m → I s → ∃ x', body (enc s (some (.int (i : Nat)))) (st s) = .nx (enc (step s i) x') (st (step s i)) ∧ I (step s i)) → ∀ (s : σ) (x : Option PV), I s →
    ∃ x', forGo (.name v) body (rngP (lo : Nat) m) (enc s x) (st s) = .nx (enc ((List.range' lo m).foldl step s) x') (st ((List.range' lo m).foldl step s)) ∧ I ((List.range' lo m).foldl step s)
  | 0, lo, _, s, x, hs => ⟨x, rfl, hs⟩
  | m + 1, lo, hb, s, x, hs => by
    obtain ⟨x1, e1, i1⟩ := hb lo s (Nat.le_refl _) (by omega) hs
    obtain ⟨x2, e2, i2⟩ := for_fold hset m (lo + 1) (fun i s' h1 h2 h3 => hb i s' (by omega) (by omega) h3) (step s lo) x1 i1
    refine ⟨x2, ?_, i2⟩
    have bd : bindG (st s) (.name v) (.int (lo : Nat)) (enc s x) = some (enc s (some (.int (lo : Nat)))) := by simp only [bindG, hset]
    rw [rngP, forGo_next bd e1, show ((lo : Nat) : Int) + 1 = ((lo + 1 : Nat) : Int) by omega, e2]
    rfl
/-- for x in a list of values -/
theorem for_list {σ α : Type} {v : Nat} {body : DS} {enc : σ → Option PV → Frame} {st : σ → Store} {step : σ → α → σ} {val : α → PV} {I : σ → Prop} (hset : ∀ s x y, (enc s x).set v (some y) = enc s (some y)) : ∀ (xs : List α),
    (∀ a s, a ∈ xs → I s → ∃ x', body (enc s (some (val a))) (st s) = .nx (enc (step s a) x') (st (step s a)) ∧ I (step s a)) → ∀ (s : σ) (x : Option PV), I s →
    ∃ x', forGo (.name v) body (xs.map val) (enc s x) (st s) = .nx (enc (xs.foldl step s) x') (st (xs.foldl step s)) ∧ I (xs.foldl step s)
  | [], _, s, x, hs => ⟨x, rfl, hs⟩
  | a :: r, hb, s, x, hs => by
    obtain ⟨x1, e1, i1⟩ := hb a s (List.mem_cons_self ..) hs
    obtain ⟨x2, e2, i2⟩ := for_list hset r (fun b s' h1 h3 => hb b s' (List.mem_cons_of_mem _ h1) h3) (step s a) x1 i1
    refine ⟨x2, ?_, i2⟩
    have bd : bindG (st s) (.name v) (val a) (enc s x) = some (enc s (some (val a))) := by simp only [bindG, hset]
    rw [List.map_cons, forGo_next bd e1, e2]
    rfl
/-- for i in range, by what holds behind i turns -/
theorem for_idx {t : Tgt} {body : DS} {R : Nat → Frame → Store → Prop} : ∀ (m lo : Nat), (∀ i fr S, lo ≤ i → i < lo + m → R i fr S → ∃ fr2 fr' S', bindG S t (.int (i : Nat)) fr = some fr2 ∧ body fr2 S = .nx fr' S' ∧ R (i + 1) fr' S') → ∀ fr S, R lo fr S →
    ∃ fr' S', forGo t body (rngP (lo : Nat) m) fr S = .nx fr' S' ∧ R (lo + m) fr' S'
  | 0, lo, _, fr, S, h => ⟨fr, S, rfl, h⟩
  | m + 1, lo, hb, fr, S, h => by
    obtain ⟨f2, f1, S1, e0, e1, r1⟩ := hb lo fr S (Nat.le_refl _) (by omega) h
    obtain ⟨f3, S3, e3, r3⟩ := for_idx m (lo + 1) (fun i fr S h1 h2 h3 => hb i fr S (by omega) (by omega) h3) f1 S1 r1
    refine ⟨f3, S3, ?_, by rw [show lo + (m + 1) = lo + 1 + m by omega]; exact r3⟩
    rw [rngP, forGo_next e0 e1, show ((lo : Nat) : Int) + 1 = ((lo + 1 : Nat) : Int) by omega, e3]
theorem ix_lst {S : Store} {xs : List PV} {i : Nat} {x : PV} (h : xs[i]? = some x) : oIx (.lst xs) (.int (i : Nat)) S = .ok x S := by
  have hl : i < xs.length := (List.getElem?_eq_some_iff.mp h).1
  have e : L2.atI xs (i : Int) = some x := by
    have z : L2.ixN xs.length (i : Int) = some i := by unfold L2.ixN; simp; omega
    unfold L2.atI
    rw [z]
    exact h
  simp [oIx, e]
end E2
end
section
set_option Elab.async false
set_option linter.all false
set_option maxRecDepth 100000
set_option maxHeartbeats 0
namespace E2
open PySem
theorem so_app {a b : Str} (ha : PyData.strOk a = true) (hb : PyData.strOk b = true) : PyData.strOk (a ++ b) = true := by
  unfold PyData.strOk at *
  show (a.cps ++ b.cps).all _ = true
  rw [Array.all_append, ha, hb]
  rfl
theorem so_str (s : String) : PyData.strOk (Str.ofString s) = true := by
  unfold PyData.strOk
  rw [Str.ofString_eq_toList]
  simp only [List.all_toArray, List.all_map]
  rw [List.all_eq_true]
  intro c _
  have := c.valid
  simp only [Function.comp, decide_eq_true_eq]
  show c.toNat < 1114112
  rcases c.valid with h | h
  · have : c.toNat < 55296 := h
    omega
  · exact h.2
theorem so_from : ∀ (ts : List Str) (k : Nat) (acc : Str), PyData.strOk acc = true → (∀ t ∈ ts, PyData.strOk t = true) → PyData.strOk (textFrom k acc ts) = true
  | [], _, acc, h, _ => h
  | t :: ts, k, acc, h, ht => by
    show PyData.strOk (textFrom (k + 1) (acc ++ (if k > 0 then ", " else "" : String) ++ t) ts) = true
    exact so_from ts (k + 1) _ (so_app (so_app h (so_str _)) (ht t (List.mem_cons_self ..))) fun u hu => ht u (List.mem_cons_of_mem _ hu)
theorem so_list {ts : List Str} (ht : ∀ t ∈ ts, PyData.strOk t = true) : PyData.strOk (listText ts) = true := so_app (so_from ts 0 _ (so_str _) ht) (so_str _)
theorem so_join (sep : Str) (hs : PyData.strOk sep = true) : ∀ ts : List Str, (∀ t ∈ ts, PyData.strOk t = true) → PyData.strOk (Str.join sep ts) = true
  | [], _ => by simp [Str.join, Str.empty, PyData.strOk]
  | [x], h => h x (List.mem_cons_self ..)
  | x :: y :: r, h => by
    show PyData.strOk (x ++ sep ++ Str.join sep (y :: r)) = true
    exact so_app (so_app (h x (List.mem_cons_self ..)) hs) (so_join sep hs (y :: r) fun t ht => h t (List.mem_cons_of_mem _ ht))
theorem so_tuple {ts : List Str} (ht : ∀ t ∈ ts, PyData.strOk t = true) : PyData.strOk (tupleText ts) = true := so_app (so_app (so_str _) (so_join _ (so_str _) ts ht)) (by split <;> exact so_str _)
/-! ### data of small numbers only -/
mutual
def small : PyData → Bool
  | .none | .bool _ => true
  | .int i => decide (i.natAbs < 1000000)
  | .str _ => false
  | .list xs | .tuple xs => smallAll xs
  | .dict _ => false
def smallAll : List PyData → Bool
  | [] => true
  | x :: xs => small x && smallAll xs
end
mutual
theorem so_small : ∀ d : PyData, small d = true → PyData.strOk d.shown = true
  | .none, _ => so_str _
  | .bool b, _ => by simp only [PyData.shown]; cases b <;> exact so_str _
  | .int i, _ => so_str _
  | .str _, h => nomatch h
  | .list xs, h => by
    simp only [PyData.shown]
    exact so_list (so_smallAll xs (by simpa only [small] using h))
  | .tuple xs, h => by
    simp only [PyData.shown]
    exact so_tuple (so_smallAll xs (by simpa only [small] using h))
  | .dict _, h => nomatch h
theorem so_smallAll : ∀ xs : List PyData, smallAll xs = true → ∀ t ∈ PyData.shownAll xs, PyData.strOk t = true
  | [], _ => fun _ h => nomatch h
  | x :: xs, h => by
    simp only [smallAll, Bool.and_eq_true] at h
    intro t ht
    simp only [PyData.shownAll] at ht
    rcases List.mem_cons.mp ht with rfl | z
    · exact so_small x h.1
    · exact so_smallAll xs h.2 t z
end
mutual
theorem sm_show : ∀ d : PyData, small d = true → d.showable = true ∧ d.hasDict = false ∧ d.leavesShort 13 = true
  | .none, _ => ⟨rfl, rfl, rfl⟩
  | .bool _, _ => ⟨rfl, rfl, rfl⟩
  | .int i, h => by
    simp only [small, decide_eq_true_eq] at h
    refine ⟨?_, rfl, ?_⟩
    · simp only [PyData.showable, decide_eq_true_eq]
      by_cases z : i.natAbs = 0
      · rw [z]; decide
      · have : i.natAbs.log2 < 20 := (Nat.log2_lt z).mpr (by omega)
        omega
    · simp only [PyData.leavesShort, decide_eq_true_eq]
      exact PyData.shown_int_le (by omega)
  | .str _, h => nomatch h
  | .list xs, h => by
    obtain ⟨a, b, c⟩ := sm_showAll xs (by simpa only [small] using h)
    exact ⟨by simpa only [PyData.showable] using a, by simpa only [PyData.hasDict] using b, by simpa only [PyData.leavesShort] using c⟩
  | .tuple xs, h => by
    obtain ⟨a, b, c⟩ := sm_showAll xs (by simpa only [small] using h)
    exact ⟨by simpa only [PyData.showable] using a, by simpa only [PyData.hasDict] using b, by simpa only [PyData.leavesShort] using c⟩
  | .dict _, h => nomatch h
theorem sm_showAll : ∀ xs : List PyData, smallAll xs = true → PyData.showableAll xs = true ∧ PyData.hasDictAll xs = false ∧ PyData.leavesShortAll 13 xs = true
  | [], _ => ⟨rfl, rfl, rfl⟩
  | x :: xs, h => by
    simp only [smallAll, Bool.and_eq_true] at h
    obtain ⟨a, b, c⟩ := sm_show x h.1
    obtain ⟨a', b', c'⟩ := sm_showAll xs h.2
    exact ⟨by simp only [PyData.showableAll, a, a']; rfl, by simp only [PyData.hasDictAll, b, b']; rfl, by simp only [PyData.leavesShortAll, c, c']; rfl⟩
end
theorem small_ok {d : PyData} (h : small d = true) (hw : d.weight ≤ 1000000) (hd : d.depth ≤ 60) : showOk d = true ∧ PyData.strOk d.shown = true := by
  obtain ⟨a, b, c⟩ := sm_show d h
  refine ⟨?_, so_small d h⟩
  have := PyData.shown_fits (B := 13) (by omega) (by omega) c (by omega)
  simp [showOk, a, b, this, hd]
theorem repr_seq {x : PV} {S : Store} {d : PyData} (hx : (∃ ys, x = .lst ys) ∨ ∃ ys, x = .tup ys) (ht : toD x = some d) (h : showOk d = true) : oRepr [x] S = .ok (.str d.shown) S := by
  rcases hx with ⟨ys, rfl⟩ | ⟨ys, rfl⟩ <;> simp [oRepr, ht, h]
end E2
end
section
set_option Elab.async false
set_option linter.all false
set_option maxRecDepth 100000
set_option maxHeartbeats 0
/-! lemmas for all laws -/
namespace E2
open PySem
section
variable {S : Store} {k : Nat}
theorem lcV {α : Type} {val : α → PV} {fin : List PV → Store → Res PV} {t : Tgt} {tt : DT} {te : DE} {fr : Frame} {S : Store} {p : α → Bool} {f : α → PV} : ∀ (L : List α) (acc : List PV), acc.length + L.length ≤ sizeLine →
    (∀ x ∈ L, ∃ fr2, bindG S t (val x) fr = some fr2 ∧ tt fr2 S = .ok (p x) S ∧ (p x = true → te fr2 S = .ok (f x) S)) → lcGo fin t tt te fr (L.map val) acc S = fin (acc ++ (L.filter p).map f) S
  | [], acc, _, _ => by simp [lcGo]
  | x :: r, acc, hl, h => by
    obtain ⟨fr2, h1, h2, h3⟩ := h x (List.mem_cons_self ..)
    have ih := fun acc' (hl' : acc'.length + r.length ≤ sizeLine) => lcV (fin := fin) (t := t) (tt := tt) (te := te) (fr := fr) (S := S) (p := p) (f := f) r acc' hl' fun y hy => h y (List.mem_cons_of_mem _ hy)
    simp only [List.length_cons] at hl
    simp only [List.map_cons, lcGo, h1, h2, u_nok, u_bok]
    by_cases hp : p x = true
    · rw [if_pos hp, h3 hp]
      simp only [u_nok, u_bok]
      rw [if_pos (by omega), ih _ (by simp; omega)]
      simp [List.filter_cons, hp]
    · rw [if_neg hp, ih _ (by omega)]
      simp [List.filter_cons, hp]
theorem all_bls {S : Store} : ∀ (bs : List Bool), oAll [.lst (bs.map .bl)] S = .ok (.bl (bs.all id)) S := by
  intro bs
  have e : ∀ bs : List Bool, asBls (bs.map PV.bl) = some bs := fun bs => by
    induction bs with
    | nil => rfl
    | cons b r ih => simp [asBls, ih]
  simp [oAll, e]
theorem any_bls {S : Store} : ∀ (bs : List Bool), oAny [.lst (bs.map .bl)] S = .ok (.bl (bs.any id)) S := by
  intro bs
  have e : ∀ bs : List Bool, asBls (bs.map PV.bl) = some bs := fun bs => by
    induction bs with
    | nil => rfl
    | cons b r ih => simp [asBls, ih]
  simp [oAny, e]
theorem call_eq {S : Store} {φ : List PV → Store → Res PV} {m : Nat} {xs : List PV} (h : xs.length = m) : callOp m φ [] xs S = φ xs S := by
  unfold callOp
  rw [List.append_nil, if_pos h]
def Cel (S : Store) (xs : List PV) (T : Store) : Prop := ∃ r, T = S ++ (true, .lst xs) :: r
theorem Cel.get {S T : Store} {xs : List PV} (h : Cel S xs T) : T[S.length]? = some (true, .lst xs) := by
  obtain ⟨r, rfl⟩ := h
  simp
theorem Cel.app {S T : Store} {xs : List PV} (h : Cel S xs T) (r' : Store) : Cel S xs (T ++ r') := by
  obtain ⟨r, rfl⟩ := h
  exact ⟨r ++ r', by simp⟩
theorem Cel.put {S T : Store} {xs : List PV} (h : Cel S xs T) (ys : List PV) : Cel S ys (T.set S.length (true, .lst ys)) := by
  obtain ⟨r, rfl⟩ := h
  exact ⟨r, by simp⟩
theorem Cel.ty {S T : Store} {xs : List PV} (h : Cel S xs T) : isTy T .list (.ref S.length) = true := by
  have e := drf_ref h.get
  simp [isTy, e]
theorem Cel.fr {S T : Store} {xs : List PV} (h : Cel S xs T) {i : Nat} {f : Frame} (hf : f[i]? = some (some (.ref S.length))) : ∃ r, dVarF i f T = .ok (.lst xs) (S ++ r) := by
  have hg := h.get
  obtain ⟨r, rfl⟩ := h
  exact ⟨(false, .lst xs) :: r, by simp [dVarF, hf, hg]⟩
theorem Cel.ext {S T : Store} {xs ys : List PV} (h : Cel S xs T) (hl : xs.length + ys.length ≤ sizeLine) : oExtend (.ref S.length) [.lst ys] T = .ok .non (T.set S.length (true, .lst (xs ++ ys))) := by
  have e := mutLst_ref h.get
  simp [oExtend, e, hl]
theorem Cel.apd {S T : Store} {xs : List PV} {y : PV} (h : Cel S xs T) (hl : xs.length < sizeLine) : oAppend (.ref S.length) [y] T = .ok .non (T.set S.length (true, .lst (xs ++ [y]))) := by
  have e := mutLst_ref h.get
  simp [oAppend, e, hl]
theorem lcMV {α : Type} {val : α → PV} {fin : List PV → Store → Res PV} {n : Nat} {t : Tgt} {tt : DT} {te : DE} {fr : Frame} {T : Store} {b : Bool} {L : List α} {p : α → Bool} {f : α → PV} (hT : T[n]? = some (b, .lst (L.map val)))
    (h : ∀ x ∈ L, ∃ fr2, bindG T t (val x) fr = some fr2 ∧ tt fr2 T = .ok (p x) T ∧ (p x = true → te fr2 T = .ok (f x) T)) : ∀ (m i : Nat) (acc : List PV), m + i = L.length → acc.length + m ≤ sizeLine → lcMGo fin n t tt te fr (m + 1) i acc T = fin (acc ++ ((L.drop i).filter p).map f) T
  | 0, i, acc, hi, _ => by
    have e : (L.map val)[i]? = none := by simp; omega
    simp only [lcMGo, hT, e]
    rw [List.drop_of_length_le (by omega)]
    simp
  | m + 1, i, acc, hi, hl => by
    have hi' : i < L.length := by omega
    obtain ⟨fr2, h1, h2, h3⟩ := h L[i] (List.getElem_mem hi')
    have e : (L.map val)[i]? = some (val L[i]) := by simp [hi']
    rw [lcMGo]
    simp only [hT, e, h1, h2, u_nok, u_bok]
    rw [List.drop_eq_getElem_cons hi']
    by_cases hp : p L[i] = true
    · rw [if_pos hp, h3 hp]
      simp only [u_nok, u_bok]
      rw [if_pos (by omega), lcMV hT h m (i + 1) _ (by omega) (by simp; omega), List.filter_cons, if_pos hp, List.map_cons, List.append_assoc]
      rfl
    · rw [if_neg hp, lcMV hT h m (i + 1) _ (by omega) (by omega), List.filter_cons, if_neg hp]
theorem lcM_eq {α : Type} {val : α → PV} {e : DE} {t : Tgt} {tt : DT} {te : DE} {own : List Nat} {fr : Frame} {T : Store} {n : Nat} {b : Bool} {L : List α} {p : α → Bool} {f : α → PV} (he : e fr T = .ok (.ref n) T) (hT : T[n]? = some (b, .lst (L.map val))) (hl : L.length ≤ 1000)
    (h : ∀ x ∈ L, ∃ fr2, bindG T t (val x) (wipeF fr own) = some fr2 ∧ tt fr2 T = .ok (p x) T ∧ (p x = true → te fr2 T = .ok (f x) T)) : dLcM finV e t tt te own fr T = .ok (.lst ((L.filter p).map f)) T := by
  unfold dLcM
  rw [he]
  simp only [u_bok, hT, List.length_map]
  rw [lcMV hT h L.length 0 [] (by omega) (by rw [sizeLine_eq]; simp; omega)]
  simp [finV]
theorem forGo_exc {t : Tgt} {b : DS} {x v : PV} {c : Nat} {r : List PV} {fr fr2 fr3 : Frame} {S S3 : Store} (h1 : bindG S t x fr = some fr2) (h2 : b fr2 S = .exc c v fr3 S3) : forGo t b (x :: r) fr S = .exc c v fr3 S3 := by simp only [forGo, h1, h2]
theorem seq_for_exc {i : DI} {t : Tgt} {b r : DS} {c : Nat} {xs : List PV} {fr fr' : Frame} {v : PV} {S S1 S2 : Store} (h : i fr S = .ok xs S1) (e : forGo t b xs fr S1 = .exc c v fr' S2) : dSeq (dFor i t b) r fr S = .exc c v fr' S2 := seq_exc ((for_eq h).trans e)
def Sq (v : PV) (xs : List PV) : Prop := v = .lst xs ∨ v = .tup xs
theorem Sq.thk {v : PV} {xs : List PV} (hv : Sq v xs) : isThk v = false := by rcases hv with rfl | rfl <;> rfl
theorem Sq.it {v : PV} {xs : List PV} (hv : Sq v xs) {a : DE} {fr : Frame} {S S1 : Store} (h : a fr S = .ok v S1) : dSeqI a fr S = .ok xs S1 := by
  rcases hv with rfl | rfl
  · exact seqI_lst h
  · exact seqI_tup h
theorem and_t {a b : DE} {F : Frame} {S1 : Store} (h : a F S = .ok (.bl true) S1) : dAndV a b F S = b F S1 := by simp [dAndV, h]
theorem and_f {a b : DE} {F : Frame} {S1 : Store} (h : a F S = .ok (.bl false) S1) : dAndV a b F S = .ok (.bl false) S1 := by simp [dAndV, h]
theorem aug_eq {i : Nat} {op : PV → PV → Store → Res PV} {a : DE} {F : Frame} {x y z : PV} {S1 S2 : Store} (h1 : F[i]? = some (some x)) (h2 : isThk x = false) (h3 : a F S = .ok y S1) (h4 : op x y S1 = .ok z S2) : dAug i op a F S = .nx (F.set i (some z)) S2 := by
  simp [dAug, h1, h2, h3, h4]
theorem rng2_eq {l : DA} {fr : Frame} {S1 : Store} {i j : Int} (h : l fr S = .ok [.int i, .int j] S1) (h1 : rngOk i = true) (h2 : rngOk j = true) : dRng2 l fr S = .ok (rngP i (j - i).toNat) S1 := by
  simp [dRng2, h, h1, h2]
theorem rngOk_n {n : Nat} (h : n ≤ 100000) : rngOk (n : Nat) = true := by
  unfold rngOk
  simp only [Bool.and_eq_true, decide_eq_true_eq]
  omega
theorem star_lst {a : DE} {r : DA} {F : Frame} {xs : List PV} {S1 : Store} (h : a F S = .ok (.lst xs) S1) : dStar a r F S = (r F S1).bind fun ys S2 => .ok (xs ++ ys) S2 := by
  rw [dStar, h]
  rfl
theorem dec_le {a b : Nat} : decide ((a : Int) ≤ (b : Int)) = decide (a ≤ b) := by simp
theorem for_pre {α : Type} {val : α → PV} {t : Tgt} {body : DS} {R : List α → Frame → Store → Prop} {n : Nat} : ∀ (L pre : List α), pre.length + L.length ≤ n → (∀ pre x fr T, x ∈ L → pre.length < n → R pre fr T → ∃ fr2 fr' T', bindG T t (val x) fr = some fr2 ∧ body fr2 T = .nx fr' T' ∧ R (pre ++ [x]) fr' T') → ∀ fr T, R pre fr T → ∃ fr' T', forGo t body (L.map val) fr T = .nx fr' T' ∧ R (pre ++ L) fr' T'
  | [], pre, _, _, fr, T, h => ⟨fr, T, rfl, by rw [List.append_nil]; exact h⟩
  | x :: L, pre, hn, hb, fr, T, h => by
    simp only [List.length_cons] at hn
    obtain ⟨f2, f1, T1, e0, e1, r1⟩ := hb pre x fr T (List.mem_cons_self ..) (by omega) h
    obtain ⟨f3, T3, e3, r3⟩ := for_pre L (pre ++ [x]) (by simp; omega) (fun pre y fr T hy => hb pre y fr T (List.mem_cons_of_mem _ hy)) f1 T1 r1
    refine ⟨f3, T3, ?_, by rw [List.append_assoc] at r3; exact r3⟩
    rw [List.map_cons, forGo_next e0 e1, e3]
theorem dec_lt {a b : Nat} : decide ((a : Int) < (b : Int)) = decide (a < b) := by simp
theorem addT {xs ys : List PV} (h : xs.length + ys.length ≤ sizeLine) : oAdd (.tup xs) (.tup ys) S = .ok (.tup (xs ++ ys)) S := if_pos h
def reprOf (x : PV) : Str := match oRepr [x] [] with
  | .ok (.str r) _ => r
  | _ => ""
def RepOk (x : PV) : Prop := (∀ S, oRepr [x] S = .ok (.str (reprOf x)) S) ∧ PyData.strOk (reprOf x) = true
theorem rep_of {x : PV} {d : PyData} (hx : (∃ ys, x = .lst ys) ∨ ∃ ys, x = .tup ys) (ht : toD x = some d) (h : small d = true) (hw : d.weight ≤ 1000000) (hd : d.depth ≤ 60) : RepOk x := by
  obtain ⟨a, b⟩ := small_ok h hw hd
  have e : reprOf x = d.shown := by
    unfold reprOf
    rw [repr_seq hx ht a]
  exact ⟨fun S => by rw [e]; exact repr_seq hx ht a, by rw [e]; exact b⟩
theorem ne_s {a : Str} (ha : PyData.strOk a = true) : oNe (.str a) (.str a) S = .ok (.bl false) S := by
  simp [oNe, shD, toD, toDL, SeqAt.shaped, PyData.canLay0, PyData.depth, PyData.eqv, ha]
theorem ne_ss {a b : Str} (ha : PyData.strOk a = true) (hb : PyData.strOk b = true) : oNe (.lst [.str a, .str b]) (.lst [.str a, .str b]) S = .ok (.bl false) S := by
  simp [oNe, shD, toD, toDL, SeqAt.shaped, PyData.canLay0, PyData.canLayAll0, PyData.depth, PyData.depthAll, PyData.eqv, PyData.eqvAll, ha, hb]
theorem eq_ss {a b : Str} (ha : PyData.strOk a = true) (hb : PyData.strOk b = true) : oEq (.lst [.str a, .str b]) (.lst [.str a, .str b]) S = .ok (.bl true) S := by
  simp [oEq, shD, toD, toDL, SeqAt.shaped, PyData.canLay0, PyData.canLayAll0, PyData.depth, PyData.depthAll, PyData.eqv, PyData.eqvAll, ha, hb]
theorem eq_s {a : Str} (ha : PyData.strOk a = true) : oEq (.str a) (.str a) S = .ok (.bl true) S := by
  simp [oEq, shD, toD, toDL, SeqAt.shaped, PyData.canLay0, PyData.depth, PyData.eqv, ha]
theorem if_no {t : DT} {F : Frame} {S' : Store} (h : t F S = .ok false S') : (dIf t (dSeq (dRet (dC (.bl false))) dNext) dNext) F S = .nx F S' := by
  rw [u_dIf, h]
  rfl
end
end E2
end
section
set_option Elab.async false
set_option linter.all false
set_option maxRecDepth 100000
set_option maxHeartbeats 0
/-! data of small numbers, short texts and empty dicts: their repr -/
namespace E2
open PySem
def txtOk (x : Str) : Bool := decide (x.length ≤ 20) && (PyData.strOk x && PyData.strOk (reprText x))
mutual
def tidy : PyData → Bool
  | .none | .bool _ => true
  | .int i => decide (i.natAbs < 1000000)
  | .str x => txtOk x
  | .list xs | .tuple xs => tidyAll xs
  | .dict kvs => kvs.isEmpty
def tidyAll : List PyData → Bool
  | [] => true
  | x :: xs => tidy x && tidyAll xs
end
mutual
def cnt : PyData → Nat
  | .none | .bool _ | .int _ | .str _ | .dict _ => 1
  | .list xs | .tuple xs => cntAll xs + 1
def cntAll : List PyData → Nat
  | [] => 0
  | x :: xs => cnt x + cntAll xs
end
theorem dict_nil {kvs : List (PyData × PyData)} (h : tidy (.dict kvs) = true) : kvs = [] := by
  simpa [tidy] using h
theorem str_short {x : Str} (h : PyData.strOk x = true) : (x.cps.toList.all fun c => decide (c < 16 ^ 8)) = true := by
  unfold PyData.strOk at h
  rw [Array.all_eq_true'] at h
  rw [List.all_eq_true]
  intro c hc
  have := h c (by simpa using hc)
  simp only [decide_eq_true_eq] at this ⊢
  omega
mutual
theorem so_tidy : ∀ d : PyData, tidy d = true → PyData.strOk d.shown = true
  | .none, _ => so_str _
  | .bool b, _ => by simp only [PyData.shown]; cases b <;> exact so_str _
  | .int i, _ => so_str _
  | .str x, h => by
    simp only [tidy, txtOk, Bool.and_eq_true] at h
    exact h.2.2
  | .list xs, h => by
    simp only [PyData.shown]
    exact so_list (so_tidyAll xs (by simpa only [tidy] using h))
  | .tuple xs, h => by
    simp only [PyData.shown]
    exact so_tuple (so_tidyAll xs (by simpa only [tidy] using h))
  | .dict kvs, h => by
    rw [dict_nil h]
    kernel_rfl
theorem so_tidyAll : ∀ xs : List PyData, tidyAll xs = true → ∀ t ∈ PyData.shownAll xs, PyData.strOk t = true
  | [], _ => fun _ h => nomatch h
  | x :: xs, h => by
    simp only [tidyAll, Bool.and_eq_true] at h
    intro t ht
    simp only [PyData.shownAll] at ht
    rcases List.mem_cons.mp ht with rfl | z
    · exact so_tidy x h.1
    · exact so_tidyAll xs h.2 t z
end
mutual
theorem td_show : ∀ d : PyData, tidy d = true → d.showable = true ∧ d.leavesShort 13 = true ∧ d.weight + 1 ≤ 32 * cnt d ∧ d.depth ≤ cnt d
  | .none, _ => ⟨rfl, rfl, by decide, by decide⟩
  | .bool _, _ => ⟨rfl, rfl, by simp [PyData.weight, cnt], by simp [PyData.depth, cnt]⟩
  | .int i, h => by
    simp only [tidy, decide_eq_true_eq] at h
    have hl : i.natAbs.log2 < 20 := by
      by_cases z : i.natAbs = 0
      · rw [z]; decide
      · exact (Nat.log2_lt z).mpr (by omega)
    refine ⟨?_, ?_, ?_, by simp [PyData.depth, cnt]⟩
    · simp only [PyData.showable, decide_eq_true_eq]
      omega
    · simp only [PyData.leavesShort, decide_eq_true_eq]
      exact PyData.shown_int_le (by omega)
    · simp only [PyData.weight, cnt]
      split <;> omega
  | .str x, h => by
    simp only [tidy, txtOk, Bool.and_eq_true, decide_eq_true_eq] at h
    have e : x.length = x.cps.size := rfl
    refine ⟨rfl, ?_, ?_, by simp [PyData.depth, cnt]⟩
    · simp only [PyData.leavesShort]
      exact str_short h.2.1
    · simp only [PyData.weight, cnt]
      omega
  | .list xs, h => by
    obtain ⟨a, b, c, d⟩ := td_showAll xs (by simpa only [tidy] using h)
    exact ⟨by simpa only [PyData.showable] using a, by simpa only [PyData.leavesShort] using b, by simp only [PyData.weight, cnt]; omega, by simp only [PyData.depth, cnt]; omega⟩
  | .tuple xs, h => by
    obtain ⟨a, b, c, d⟩ := td_showAll xs (by simpa only [tidy] using h)
    exact ⟨by simpa only [PyData.showable] using a, by simpa only [PyData.leavesShort] using b, by simp only [PyData.weight, cnt]; omega, by simp only [PyData.depth, cnt]; omega⟩
  | .dict kvs, h => by
    rw [dict_nil h]
    exact ⟨rfl, rfl, by simp [PyData.weight, PyData.weightKv, cnt], by simp [PyData.depth, PyData.depthKv, cnt]⟩
theorem td_showAll : ∀ xs : List PyData, tidyAll xs = true → PyData.showableAll xs = true ∧ PyData.leavesShortAll 13 xs = true ∧ PyData.weightAll xs ≤ 32 * cntAll xs ∧ PyData.depthAll xs ≤ cntAll xs
  | [], _ => ⟨rfl, rfl, by decide, by decide⟩
  | x :: xs, h => by
    simp only [tidyAll, Bool.and_eq_true] at h
    obtain ⟨a, b, c, d⟩ := td_show x h.1
    obtain ⟨a', b', c', d'⟩ := td_showAll xs h.2
    exact ⟨by simp only [PyData.showableAll, a, a']; rfl, by simp only [PyData.leavesShortAll, b, b']; rfl, by simp only [PyData.weightAll, cntAll]; omega, by simp only [PyData.depthAll, cntAll]; omega⟩
end
theorem tidy_ok {d : PyData} (h : tidy d = true) (hc : cnt d ≤ 60) : showOkD d = true ∧ PyData.strOk d.shown = true := by
  obtain ⟨a, b, c, e⟩ := td_show d h
  have := PyData.shown_fits (B := 13) (by omega) (by omega) b (by omega)
  exact ⟨by simp [showOkD, a, this]; omega, so_tidy d h⟩
/-! ### the same of values -/
mutual
def smV : PV → Bool
  | .non => true | .bl _ => true
  | .int i => decide (i.natAbs < 1000000)
  | .str x => txtOk x
  | .lst xs => smVL xs
  | .tup xs => smVL xs
  | .dct ys => ys.isEmpty
  | .pr _ => false | .dtt _ => false | .dts _ => false | .obj _ _ => false | .ref _ => false | .fn _ => false | .scr _ => false | .ty _ => false | .cls _ => false | .thk => false
def smVL : List PV → Bool
  | [] => true
  | x :: r => smV x && smVL r
end
mutual
def szV : PV → Nat
  | .non => 1 | .bl _ => 1 | .int _ => 1 | .str _ => 1 | .dct _ => 1
  | .lst xs => szVL xs + 1
  | .tup xs => szVL xs + 1
  | .pr _ => 1 | .dtt _ => 1 | .dts _ => 1 | .obj _ _ => 1 | .ref _ => 1 | .fn _ => 1 | .scr _ => 1 | .ty _ => 1 | .cls _ => 1 | .thk => 1
def szVL : List PV → Nat
  | [] => 0
  | x :: r => szV x + szVL r
end
mutual
def noD : PV → Bool
  | .dct _ => false
  | .lst xs => noDL xs
  | .tup xs => noDL xs
  | .non => true | .bl _ => true | .int _ => true | .str _ => true | .pr _ => true | .dtt _ => true | .dts _ => true | .obj _ _ => true | .ref _ => true | .fn _ => true | .scr _ => true | .ty _ => true | .cls _ => true | .thk => true
def noDL : List PV → Bool
  | [] => true
  | x :: r => noD x && noDL r
end
mutual
def noL : PV → Bool
  | .lst _ => false
  | .tup xs => noLL xs
  | .dct _ => true | .non => true | .bl _ => true | .int _ => true | .str _ => true | .pr _ => true | .dtt _ => true | .dts _ => true | .obj _ _ => true | .ref _ => true | .fn _ => true | .scr _ => true | .ty _ => true | .cls _ => true | .thk => true
def noLL : List PV → Bool
  | [] => true
  | x :: r => noL x && noLL r
end
mutual
theorem sm_toD : ∀ x : PV, smV x = true → noD x = true → ∃ d, toD x = some d ∧ tidy d = true ∧ cnt d = szV x ∧ d.hasDict = false
  | .non, _, _ => ⟨_, rfl, rfl, rfl, rfl⟩
  | .bl _, _, _ => ⟨_, rfl, rfl, rfl, rfl⟩
  | .int i, h, _ => ⟨.int i, rfl, by simpa only [smV, tidy] using h, rfl, rfl⟩
  | .str x, h, _ => ⟨.str x, rfl, by simpa only [smV, tidy] using h, rfl, rfl⟩
  | .lst xs, h, g => by
    obtain ⟨ds, e1, e2, e3, e4⟩ := sm_toDL xs (by simpa only [smV] using h) (by simpa only [noD] using g)
    exact ⟨.list ds, by simp only [toD, e1]; rfl, by simpa only [tidy] using e2, by simp only [cnt, szV, e3], by simpa only [PyData.hasDict] using e4⟩
  | .tup xs, h, g => by
    obtain ⟨ds, e1, e2, e3, e4⟩ := sm_toDL xs (by simpa only [smV] using h) (by simpa only [noD] using g)
    exact ⟨.tuple ds, by simp only [toD, e1]; rfl, by simpa only [tidy] using e2, by simp only [cnt, szV, e3], by simpa only [PyData.hasDict] using e4⟩
  | .dct _, _, g => by simp [noD] at g
  | .pr _, h, _ => by simp [smV] at h
  | .dtt _, h, _ => by simp [smV] at h
  | .dts _, h, _ => by simp [smV] at h
  | .obj _ _, h, _ => by simp [smV] at h
  | .ref _, h, _ => by simp [smV] at h
  | .fn _, h, _ => by simp [smV] at h
  | .scr _, h, _ => by simp [smV] at h
  | .ty _, h, _ => by simp [smV] at h
  | .cls _, h, _ => by simp [smV] at h
  | .thk, h, _ => by simp [smV] at h
theorem sm_toDL : ∀ xs : List PV, smVL xs = true → noDL xs = true → ∃ ds, toDL xs = some ds ∧ tidyAll ds = true ∧ cntAll ds = szVL xs ∧ PyData.hasDictAll ds = false
  | [], _, _ => ⟨[], rfl, rfl, rfl, rfl⟩
  | x :: r, h, g => by
    simp only [smVL, Bool.and_eq_true] at h
    simp only [noDL, Bool.and_eq_true] at g
    obtain ⟨d, e1, e2, e3, e4⟩ := sm_toD x h.1 g.1
    obtain ⟨ds, f1, f2, f3, f4⟩ := sm_toDL r h.2 g.2
    exact ⟨d :: ds, by simp only [toDL, e1, f1], by simp only [tidyAll, e2, f2]; rfl, by simp only [cntAll, szVL, e3, f3], by simp only [PyData.hasDictAll, e4, f4]; rfl⟩
end
mutual
theorem sm_toE : ∀ x : PV, smV x = true → noL x = true → ∃ d, toE x = some d ∧ tidy d = true ∧ cnt d = szV x
  | .non, _, _ => ⟨_, rfl, rfl, rfl⟩
  | .bl _, _, _ => ⟨_, rfl, rfl, rfl⟩
  | .int i, h, _ => ⟨.int i, rfl, by simpa only [smV, tidy] using h, rfl⟩
  | .str x, h, _ => ⟨.str x, rfl, by simpa only [smV, tidy] using h, rfl⟩
  | .lst xs, h, g => by simp [noL] at g
  | .tup xs, h, g => by
    obtain ⟨ds, e1, e2, e3⟩ := sm_toEL xs (by simpa only [smV] using h) (by simpa only [noL] using g)
    exact ⟨.tuple ds, by simp only [toE, e1]; rfl, by simpa only [tidy] using e2, by simp only [cnt, szV, e3]⟩
  | .dct ys, h, g => by
    have : ys = [] := by simpa [smV] using h
    subst this
    exact ⟨.dict [], rfl, rfl, rfl⟩
  | .pr _, h, _ => by simp [smV] at h
  | .dtt _, h, _ => by simp [smV] at h
  | .dts _, h, _ => by simp [smV] at h
  | .obj _ _, h, _ => by simp [smV] at h
  | .ref _, h, _ => by simp [smV] at h
  | .fn _, h, _ => by simp [smV] at h
  | .scr _, h, _ => by simp [smV] at h
  | .ty _, h, _ => by simp [smV] at h
  | .cls _, h, _ => by simp [smV] at h
  | .thk, h, _ => by simp [smV] at h
theorem sm_toEL : ∀ xs : List PV, smVL xs = true → noLL xs = true → ∃ ds, toEL xs = some ds ∧ tidyAll ds = true ∧ cntAll ds = szVL xs
  | [], _, _ => ⟨[], rfl, rfl, rfl⟩
  | x :: r, h, g => by
    simp only [smVL, Bool.and_eq_true] at h
    simp only [noLL, Bool.and_eq_true] at g
    obtain ⟨d, e1, e2, e3⟩ := sm_toE x h.1 g.1
    obtain ⟨ds, f1, f2, f3⟩ := sm_toEL r h.2 g.2
    exact ⟨d :: ds, by simp only [toEL, e1, f1], by simp only [tidyAll, e2, f2]; rfl, by simp only [cntAll, szVL, e3, f3]⟩
end
mutual
theorem toD_noD : ∀ (x : PV) {d : PyData}, toD x = some d → noD x = true
  | .dct _, _, h => by simp [toD] at h
  | .lst xs, _, h => by
    simp only [toD, Option.map_eq_some_iff] at h
    obtain ⟨ds, h, _⟩ := h
    simpa only [noD] using toDL_noD xs h
  | .tup xs, _, h => by
    simp only [toD, Option.map_eq_some_iff] at h
    obtain ⟨ds, h, _⟩ := h
    simpa only [noD] using toDL_noD xs h
  | .non, _, _ => rfl | .bl _, _, _ => rfl | .int _, _, _ => rfl | .str _, _, _ => rfl | .pr _, _, _ => rfl | .dtt _, _, _ => rfl | .dts _, _, _ => rfl | .obj _ _, _, _ => rfl | .ref _, _, _ => rfl | .fn _, _, _ => rfl | .scr _, _, _ => rfl | .ty _, _, _ => rfl | .cls _, _, _ => rfl | .thk, _, _ => rfl
theorem toDL_noD : ∀ (xs : List PV) {ds : List PyData}, toDL xs = some ds → noDL xs = true
  | [], _, _ => rfl
  | x :: r, _, h => by
    unfold toDL at h
    split at h
    · rename_i h1 h2
      simp only [noDL, toD_noD x h1, toDL_noD r h2]
      rfl
    · cases h
end
theorem rep_ex {x : PV} {r : Str} (h : ∀ S, oRepr [x] S = .ok (.str r) S) (hr : PyData.strOk r = true) : RepOk x := by
  have e : reprOf x = r := by
    unfold reprOf
    rw [h]
  exact ⟨fun S => by rw [e]; exact h S, by rw [e]; exact hr⟩
theorem rep_tidy {x : PV} (h : smV x = true) (hc : szV x ≤ 60) (hn : noD x = true ∨ noL x = true) : RepOk x := by
  cases x with
  | non => exact rep_ex (fun S => rfl) (so_str _)
  | bl b => exact rep_ex (r := if b then "True" else "False") (fun S => rfl) (by cases b <;> exact so_str _)
  | int i =>
    have z := (td_show (.int i) (by simpa only [smV, tidy] using h)).1
    simp only [PyData.showable, decide_eq_true_eq] at z
    exact rep_ex (fun S => by simp only [oRepr, u_int]; exact if_pos z) (so_str _)
  | str y =>
    have z := tidy_ok (d := .str y) (by simpa only [smV, tidy] using h) (by simp [cnt])
    have e := z.1
    simp only [showOkD, Bool.and_eq_true, decide_eq_true_eq] at e
    refine rep_ex (fun S => ?_) z.2
    simp only [oRepr, u_str]
    exact if_pos e.1.2
  | lst ys =>
    rcases hn with hn | hn
    · obtain ⟨d, e1, e2, e3, e4⟩ := sm_toD _ h hn
      have z := tidy_ok e2 (by omega)
      refine rep_ex (r := d.shown) (fun S => ?_) z.2
      have e := z.1
      simp only [showOkD, Bool.and_eq_true, decide_eq_true_eq] at e
      have so : showOk d = true := by simp [showOk, e, e4]
      simp only [oRepr, u_lst, e1, so]
      rfl
    · simp [noL] at hn
  | tup ys =>
    rcases hn with hn | hn
    · obtain ⟨d, e1, e2, e3, e4⟩ := sm_toD _ h hn
      have z := tidy_ok e2 (by omega)
      refine rep_ex (r := d.shown) (fun S => ?_) z.2
      have e := z.1
      simp only [showOkD, Bool.and_eq_true, decide_eq_true_eq] at e
      have so : showOk d = true := by simp [showOk, e, e4]
      simp only [oRepr, u_tup, e1, so]
      rfl
    · obtain ⟨d, e1, e2, e3⟩ := sm_toE _ h hn
      cases hd : toD (PV.tup ys) with
      | none =>
        have z := tidy_ok e2 (by omega)
        refine rep_ex (r := d.shown) (fun S => ?_) z.2
        simp only [oRepr, u_tup, hd, e1, z.1]
        rfl
      | some d' =>
        have hn' : noD (PV.tup ys) = true := toD_noD _ hd
        obtain ⟨d, e1, e2, e3, e4⟩ := sm_toD _ h hn'
        have z := tidy_ok e2 (by omega)
        refine rep_ex (r := d.shown) (fun S => ?_) z.2
        have e := z.1
        simp only [showOkD, Bool.and_eq_true, decide_eq_true_eq] at e
        have so : showOk d = true := by simp [showOk, e, e4]
        simp only [oRepr, u_tup, e1, so]
        rfl
  | dct ys =>
    have : ys = [] := by simpa [smV] using h
    subst this
    exact rep_ex (r := "{}") (fun S => by kernel_rfl) (so_str _)
  | _ => simp [smV] at h
end E2
end
section
set_option Elab.async false
set_option linter.all false
set_option maxRecDepth 100000
set_option maxHeartbeats 0
/-! draws that leave all other cells as they are -/
namespace E2
open PySem
inductive Forall₂' {α β : Type} (P : α → β → Prop) : List α → List β → Prop
  | nil : Forall₂' P [] []
  | cons {a b l m} : P a b → Forall₂' P l m → Forall₂' P (a :: l) (b :: m)
theorem Forall₂'.length {α β : Type} {P : α → β → Prop} {l : List α} {m : List β} (h : Forall₂' P l m) : m.length = l.length := by
  induction h with
  | nil => rfl
  | cons _ _ ih => simp [ih]
theorem Forall₂'.of {α β : Type} {P : α → β → Prop} {l : List α} {m : List β} (h : Forall₂' P l m) : ∀ y ∈ m, ∃ x ∈ l, P x y := by
  induction h with
  | nil => simp
  | cons p _ ih =>
    intro y hy
    rcases List.mem_cons.mp hy with rfl | hy
    · exact ⟨_, List.mem_cons_self .., p⟩
    · obtain ⟨x, hx, z⟩ := ih y hy
      exact ⟨x, List.mem_cons_of_mem _ hx, z⟩
def Kp (q : Nat) (S S' : Store) : Prop := Src q S' ∧ ∀ i c, i ≠ q → S[i]? = some c → S'[i]? = some c
theorem Kp.src {q : Nat} {S S' : Store} (h : Kp q S S') : Src q S' := h.1
theorem Kp.refl {q : Nat} {S : Store} (h : Src q S) : Kp q S S := ⟨h, fun _ _ _ e => e⟩
theorem Kp.trans {q : Nat} {S T U : Store} (h : Kp q S T) (g : Kp q T U) : Kp q S U := ⟨g.1, fun i c n e => g.2 i c n (h.2 i c n e)⟩
theorem Kp.app {q : Nat} {S T : Store} (h : Kp q S T) (R : Store) : Kp q S (T ++ R) := by
  refine ⟨h.1.app R, fun i c n e => ?_⟩
  have z := h.2 i c n e
  rw [List.getElem?_append_left (List.getElem?_eq_some_iff.mp z).1]
  exact z
theorem Kp.put {q p : Nat} {S T : Store} {c : Bool × PV} (h : Kp q S T) (hp : S.length ≤ p) (hq : p ≠ q) : Kp q S (T.set p c) := by
  obtain ⟨⟨a, b, h0, e⟩, h2⟩ := h
  refine ⟨⟨a, b, h0, by rw [List.getElem?_set_ne hq]; exact e⟩, fun i d n e => ?_⟩
  have hi : i < S.length := (List.getElem?_eq_some_iff.mp e).1
  rw [List.getElem?_set_ne (by omega)]
  exact h2 i d n e
theorem Src.put {q p : Nat} {T : Store} {c : Bool × PV} (h : Src q T) (hq : p ≠ q) : Src q (T.set p c) := by
  obtain ⟨a, b, h0, e⟩ := h
  exact ⟨a, b, h0, by rw [List.getElem?_set_ne hq]; exact e⟩
def TakeOk (q : Nat) (f : List PV → Store → Res PV) : Prop := ∀ (S : Store) (top : Int), Src q S → 0 < top → top < 1073741824 → ∃ (t : Nat) (S' : Store), (t : Int) < top ∧ Kp q S S' ∧ f [.ref q, .int top] S = .ok (.int (t : Nat)) S'
theorem take_kp {q : Nat} {f : List PV → Store → Res PV} (hf : ∀ top S, f [.ref q, .int top] S = resOf (dTake [some (.ref q), some (.int top), none] S)) : TakeOk q f := by
  intro S top h ht ht2
  have hl := h.lt
  obtain ⟨a, b, h0, e⟩ := h
  obtain ⟨t, a', b', h1, h2, h3, h4⟩ := take_at q top a b h0 ht ht2
  refine ⟨t.toNat, S.set q (true, .lst [.int a', .int b']), by omega, ⟨⟨a', b', h3, List.getElem?_set_self hl⟩, fun i c n e' => ?_⟩, ?_⟩
  · rw [List.getElem?_set_ne (Ne.symm n)]
    exact e'
  · rw [hf, h4 S e, show ((t.toNat : Nat) : Int) = t by omega]
theorem one_kp {q : Nat} {xs : List PV} {S : Store} {f : List PV → Store → Res PV} (hf : TakeOk q f) (h : Src q S) (hx : xs ≠ []) (hl : xs.length ≤ 1000) : ∃ x ∈ xs, ∃ S', Kp q S S' ∧ resOf (dOne f [some (.ref q), some (.lst xs)] S) = .ok x S' := by
  have hp : 0 < xs.length := List.length_pos_iff.mpr hx
  obtain ⟨t, S', h1, h2, h3⟩ := hf S (xs.length : Int) h (by omega) (by omega)
  have hj : t < xs.length := by omega
  refine ⟨xs[t], List.getElem_mem hj, S', h2, ?_⟩
  have ea : L2.atI xs (t : Int) = some xs[t] := by
    have i : L2.ixN xs.length (t : Int) = some t := by unfold L2.ixN; simp [hj]
    unfold L2.atI
    rw [i]
    exact List.getElem?_eq_getElem hj
  simp [dOne, dSeq, dVar, isThk, callOp, h3, oIx, ea]
theorem erase_perm {α : Type} : ∀ (xs : List α) (j : Nat) (h : j < xs.length), xs.Perm (xs[j] :: xs.eraseIdx j)
  | [], j, h => by simp at h
  | x :: r, 0, _ => by simp
  | x :: r, j + 1, h => by
    have ih := erase_perm r j (by simpa using h)
    rw [List.getElem_cons_succ, List.eraseIdx_cons_succ]
    exact (ih.cons x).trans (.swap _ _ _)
/-! ### things in a drawn order -/
def bTurned (f : List PV → Store → Res PV) : DS := (dSeq (dDrop (dMeth .list oAppend (dVar 3) (dCons (dMeth .list oPop (dVar 2) (dCons (dCallL (callOp 2 f []) (dCons (dVar 0) (dCons (dCallL oLen (dCons (dVar 2) dNil)) dNil))) dNil)) dNil))) dNext)
def cTurned : DT := (dBl (dBin oNe (dVar 2) (dCallL oLst dNil)))
def dTurned (f : List PV → Store → Res PV) : DS := (dSeq (dPar [2, 3] (dCons (dCallL oLstOfR (dCons (dVar 1) dNil)) (dCons (dCallL oLstR dNil) dNil))) (dSeq (whileGo cTurned (bTurned f) 100000) (dSeq (dRet (dVarF 3)) dNext)))
/-- data that can be compared -/
def ShOk (ls : List PV) : Prop := ∃ ds, toD (.lst ls) = some (.list ds) ∧ SeqAt.shaped (.list ds) = true ∧ ds.length = ls.length
theorem isTy_lst {T : Store} {n : Nat} {b : Bool} {xs : List PV} (h : T[n]? = some (b, .lst xs)) : isTy T .list (.ref n) = true := by
  have e := drf_ref h
  simp [isTy, e]
theorem ne_nil {T : Store} {n : Nat} {b : Bool} {ls : List PV} (h : T[n]? = some (b, .lst ls)) (hs : ShOk ls) : oNe (.ref n) (.lst []) T = .ok (.bl (!ls.isEmpty)) T := by
  obtain ⟨ds, e1, e2, e3⟩ := hs
  have e : shD T (.ref n) = some (.list ds) := by
    unfold shD
    rw [drf_ref h, e1]
    simp [e2]
  have e0 : shD T (.lst []) = some (.list []) := rfl
  simp only [oNe, e, e0]
  cases ds <;> cases ls <;> first | rfl | simp at e3
theorem popAt {T : Store} {n t : Nat} {ls : List PV} (h : T[n]? = some (true, .lst ls)) (ht : t < ls.length) (hl : ls.length ≤ 1000) : oPop (.ref n) [.int (t : Nat)] T = .ok ls[t] (T.set n (true, .lst (ls.eraseIdx t))) := by
  have e := mutLst_ref h
  have si : seqIndex? (t : Int) ls.length = some t := by
    unfold seqIndex?
    simp [ht]
    omega
  have b : (decide (-9223372036854775808 ≤ (t : Int)) && decide ((t : Int) < 9223372036854775808)) = true := by
    simp only [Bool.and_eq_true, decide_eq_true_eq]
    omega
  simp only [oPop, e, u_int]
  rw [if_pos b, si]
  simp [ht]
theorem appAt {T : Store} {n : Nat} {xs : List PV} {y : PV} (h : T[n]? = some (true, .lst xs)) (hl : xs.length < sizeLine) : oAppend (.ref n) [y] T = .ok .non (T.set n (true, .lst (xs ++ [y]))) := by
  have e := mutLst_ref h
  simp [oAppend, e, hl]
section
variable {q : Nat} {f : List PV → Store → Res PV}
theorem bTurned_run {F : Frame} {T : Store} {a b : Nat} {ls fs : List PV} (hf : TakeOk q f) (hs : Src q T) (ha : T[a]? = some (true, .lst ls)) (hb : T[b]? = some (true, .lst fs)) (hab : a ≠ b) (haq : a ≠ q) (hbq : b ≠ q) (hl : ls ≠ []) (h1 : ls.length ≤ 1000) (h2 : fs.length ≤ 1000)
    (v0 : ∀ S, dVar 0 F S = .ok (.ref q) S) (v2 : ∀ S, dVar 2 F S = .ok (.ref a) S) (v3 : ∀ S, dVar 3 F S = .ok (.ref b) S) : ∃ (x : PV) (ls' : List PV) (T1 : Store), ls.Perm (x :: ls') ∧ Kp q T T1 ∧ bTurned f F T = .nx F ((T1.set a (true, .lst ls')).set b (true, .lst (fs ++ [x]))) := by
  have hp : 0 < ls.length := List.length_pos_iff.mpr hl
  obtain ⟨t, T1, t1, kp, e⟩ := hf T (ls.length : Int) hs (by omega) (by omega)
  have ht : t < ls.length := by omega
  have ha1 := kp.2 a _ haq ha
  have hb1 := kp.2 b _ hbq hb
  have hal : a < T1.length := (List.getElem?_eq_some_iff.mp ha1).1
  refine ⟨ls[t], ls.eraseIdx t, T1, erase_perm ls t ht, kp, ?_⟩
  have ln : (dCallL oLen (dCons (dVar 2) dNil)) F T = .ok (.int (ls.length : Nat)) T := by
    rw [u_dCallL, u_dCons, v2, u_bok, u_dNil, u_bok, u_bok]
    simp only [oLen, drf_ref ha]
  have hb2 : (T1.set a (true, .lst (ls.eraseIdx t)))[b]? = some (true, .lst fs) := by rw [List.getElem?_set_ne hab]; exact hb1
  have p : (dMeth .list oPop (dVar 2) (dCons (dCallL (callOp 2 f []) (dCons (dVar 0) (dCons (dCallL oLen (dCons (dVar 2) dNil)) dNil))) dNil)) F T = .ok ls[t] (T1.set a (true, .lst (ls.eraseIdx t))) := by
    unfold dMeth
    rw [v2, u_bok, if_pos (isTy_lst ha), u_dCons, u_dCallL, u_dCons, v0, u_bok, u_dCons, ln, u_bok, u_dNil, u_bok, u_bok, u_bok, call_eq (m := 2) rfl, e, u_bok, u_dNil, u_bok, u_bok, popAt ha1 ht h1]
  have z : (dMeth .list oAppend (dVar 3) (dCons (dMeth .list oPop (dVar 2) (dCons (dCallL (callOp 2 f []) (dCons (dVar 0) (dCons (dCallL oLen (dCons (dVar 2) dNil)) dNil))) dNil)) dNil)) F T = .ok .non ((T1.set a (true, .lst (ls.eraseIdx t))).set b (true, .lst (fs ++ [ls[t]]))) := by
    rw [dMeth, v3, u_bok, if_pos (isTy_lst hb), u_dCons, p, u_bok, u_dNil, u_bok, u_bok, appAt hb2 (by rw [sizeLine_eq]; omega)]
  unfold bTurned
  refine (seq_nx (fr' := F) (S' := (T1.set a (true, .lst (ls.eraseIdx t))).set b (true, .lst (fs ++ [ls[t]]))) ?_).trans rfl
  rw [u_dDrop, z]
  rfl
theorem wTurned {P : PV → Prop} {F : Frame} {S : Store} {a b : Nat} (hf : TakeOk q f) (hab : a ≠ b) (haq : a ≠ q) (hbq : b ≠ q) (haS : S.length ≤ a) (hbS : S.length ≤ b) (hsh : ∀ ls : List PV, ls.length ≤ 1000 → (∀ x ∈ ls, P x) → ShOk ls) (v0 : ∀ S, dVar 0 F S = .ok (.ref q) S) (v2 : ∀ S, dVar 2 F S = .ok (.ref a) S) (v3 : ∀ S, dVar 3 F S = .ok (.ref b) S) :
    ∀ (m : Nat) (ls fs : List PV) (T : Store), ls.length = m → ls.length + fs.length ≤ 1000 → (∀ x ∈ ls, P x) → Kp q S T → T[a]? = some (true, .lst ls) → T[b]? = some (true, .lst fs) → ∀ n, m < n → ∃ (zs : List PV) (T' : Store), zs.Perm (ls ++ fs) ∧ Kp q S T' ∧ T'[b]? = some (true, .lst zs) ∧ whileGo cTurned (bTurned f) n F T = .nx F T'
  | m, ls, fs, T, hm, hl, hP, kp, ha, hb, n + 1, hn => by
    have c : cTurned F T = .ok (!ls.isEmpty) T := by
      have l0 : (dCallL oLst dNil) F T = .ok (.lst []) T := rfl
      unfold cTurned
      rw [dBl, u_dBin, v2, u_bok, l0, u_bok, ne_nil ha (hsh ls (by omega) hP)]
      rfl
    cases hls : ls with
    | nil =>
      refine ⟨fs, T, .refl _, kp, hb, ?_⟩
      rw [whileGo, c, hls]
      rfl
    | cons y r =>
      rw [← hls]
      obtain ⟨x, ls', T1, pm, k1, e⟩ := bTurned_run (F := F) hf kp.1 ha hb hab haq hbq (by rw [hls]; simp) (by omega) (by omega) v0 v2 v3
      have hlen := pm.length_eq
      simp only [List.length_cons] at hlen
      have ha1 := k1.2 a _ haq ha
      have hb1 := k1.2 b _ hbq hb
      have hal : a < T1.length := (List.getElem?_eq_some_iff.mp ha1).1
      have hbl : b < T1.length := (List.getElem?_eq_some_iff.mp hb1).1
      obtain ⟨zs, T', z1, z2, z3, z4⟩ := wTurned hf hab haq hbq haS hbS hsh v0 v2 v3 (m - 1) ls' (fs ++ [x]) ((T1.set a (true, .lst ls')).set b (true, .lst (fs ++ [x]))) (by omega) (by simp only [List.length_append, List.length_cons, List.length_nil]; omega) (fun y hy => hP y (pm.symm.subset (List.mem_cons_of_mem _ hy))) (((kp.trans k1).put haS haq).put hbS hbq) (by rw [List.getElem?_set_ne (Ne.symm hab)]; exact List.getElem?_set_self hal) (List.getElem?_set_self (by rw [List.length_set]; exact hbl)) n (by omega)
      refine ⟨zs, T', z1.trans ?_, z2, z3, ?_⟩
      · have p1 : (ls' ++ (fs ++ [x])).Perm (x :: (ls' ++ fs)) := by
          rw [← List.append_assoc]
          exact List.perm_append_singleton x (ls' ++ fs)
        exact p1.trans (pm.symm.append_right fs)
      · rw [whileGo, c, u_lok, hls, if_pos (by simp), e]
        exact z4
theorem turned_kp {P : PV → Prop} {S : Store} {ys : List PV} (hf : TakeOk q f) (h : Src q S) (hl : ys.length ≤ 1000) (hP : ∀ x ∈ ys, P x) (hsh : ∀ ls : List PV, ls.length ≤ 1000 → (∀ x ∈ ls, P x) → ShOk ls) : ∃ (zs : List PV) (S' : Store), zs.Perm ys ∧ Kp q S S' ∧ resOf (dTurned f [some (.ref q), some (.lst ys), none, none] S) = .ok (.lst zs) S' := by
  have hq := h.lt
  have g1 : (dPar [2, 3] (dCons (dCallL oLstOfR (dCons (dVar 1) dNil)) (dCons (dCallL oLstR dNil) dNil))) [some (.ref q), some (.lst ys), none, none] S = .nx [some (.ref q), some (.lst ys), some (.ref S.length), some (.ref (S.length + 1))] (S ++ [(true, .lst ys)] ++ [(true, .lst [])]) := by
    have v1 : dVar 1 [some (.ref q), some (.lst ys), none, none] S = .ok (.lst ys) S := dVar_of rfl rfl
    have a1 : oLstOfR [.lst ys] S = .ok (.ref S.length) (S ++ [(true, .lst ys)]) := rfl
    rw [dPar, u_dCons, u_dCallL, u_dCons, v1, u_bok, u_dNil, u_bok, u_bok, a1, u_bok, u_dCons, u_dCallL, u_dNil, u_bok, u_lstR (by rw [sizeLine_eq]; simp), u_bok, u_dNil, u_bok, u_bok, u_lok]
    simp [setAll]
  have ha : (S ++ [(true, PV.lst ys)] ++ [(true, .lst [])])[S.length]? = some (true, .lst ys) := by simp
  have hb : (S ++ [(true, PV.lst ys)] ++ [(true, .lst [])])[S.length + 1]? = some (true, .lst []) := by simp
  obtain ⟨zs, T, z1, z2, z3, z4⟩ := wTurned (P := P) (F := [some (.ref q), some (.lst ys), some (.ref S.length), some (.ref (S.length + 1))]) (S := S) (a := S.length) (b := S.length + 1) hf (by omega) (by omega) (by omega) (by omega) (by omega) hsh (fun _ => dVar_of rfl rfl) (fun _ => dVar_of rfl rfl) (fun _ => dVar_of rfl rfl) ys.length ys [] _ rfl (by simp; omega) hP (((Kp.refl h).app _).app _) ha hb 100000 (by omega)
  refine ⟨zs, T.set (S.length + 1) (false, .lst zs), by simpa using z1, z2.put (by omega) (by omega), ?_⟩
  unfold dTurned
  rw [seq_nx g1, seq_nx z4]
  refine congrArg resOf (seq_rt ?_)
  have vf : dVarF 3 [some (.ref q), some (.lst ys), some (.ref S.length), some (.ref (S.length + 1))] T = .ok (.lst zs) (T.set (S.length + 1) (false, .lst zs)) := by
    simp [dVarF, z3]
  rw [u_dRet, vf]
  rfl
theorem lc_kp {P : PV → PV → Prop} {v : Nat} {te : DE} {fr : Frame} {fin : List PV → Store → Res PV} : ∀ (xs acc : List PV) (S : Store), acc.length + xs.length ≤ sizeLine → Src q S → (∀ x ∈ xs, ∀ S, Src q S → ∃ (y : PV) (S' : Store), P x y ∧ Kp q S S' ∧ te (fr.set v (some x)) S = .ok y S') →
    ∃ (ys : List PV) (S' : Store), Forall₂' P xs ys ∧ Kp q S S' ∧ lcGo fin (.name v) dYes te fr xs acc S = fin (acc ++ ys) S'
  | [], acc, S, _, hs, _ => ⟨[], S, .nil, .refl hs, by simp [lcGo]⟩
  | x :: r, acc, S, hl, hs, h => by
    simp only [List.length_cons] at hl
    obtain ⟨y, S1, h2, h3, h4⟩ := h x (List.mem_cons_self ..) S hs
    obtain ⟨ys, S', a1, a3, a4⟩ := lc_kp (fin := fin) r (acc ++ [y]) S1 (by simp; omega) h3.1 fun y hy => h y (List.mem_cons_of_mem _ hy)
    refine ⟨y :: ys, S', .cons h2 a1, h3.trans a3, ?_⟩
    rw [lcGo]
    simp only [bindG, u_dYes, u_nok, u_bok, if_true, h4]
    rw [if_pos (by omega), a4]
    simp
end
end E2
end
section
set_option Elab.async false
set_option linter.all false
set_option maxRecDepth 100000
set_option maxHeartbeats 0
namespace K22
open PySem E2
/-! ### the program's small defs -/
section
variable {k : Nat} {S : Store}
theorem e0 {i : Int} : (Lv G dfs 60 (k + 3) (k + 3)).f 0 [.int i] S = .ok (.bl true) S := by rw [f0]; rfl
def inR (lo hi i : Int) : Bool := decide (lo ≤ i) && decide (i ≤ hi)
theorem e1 {i lo hi : Int} : (Lv G dfs 60 (k + 4) (k + 4)).f 1 [.int i, .int lo, .int hi] S = .ok (.bl (inR lo hi i)) S := by
  rw [f1 (k + 1)]
  simp [d1, startF, callOp, e0, dVar, isThk, dSeq, dAndV, dChain]
  by_cases h : lo ≤ i <;> simp [h, inR]
theorem e4 {n : Int} (h1 : 1 ≤ n) (h2 : n ≤ 6) : (Lv G dfs 60 (k + 5) (k + 5)).f 4 [.int n] S = .ok .non S := by
  rw [f4 (k + 2)]
  have h : inR 1 6 n = true := by simp [inR, h1, h2]
  simp [d4, startF, callOp, e1, dVar, isThk, dSeq, dTru, h]
def W3 (w : Str) : Prop := w = "barred" ∨ w = "free" ∨ w = "left"
theorem neBar {w : Str} (h : W3 w) : oNe (.str w) (.str "barred") S = .ok (.bl (decide (w ≠ "barred"))) S := by
  rcases h with rfl | rfl | rfl <;> kernel_rfl
theorem eqLeft {w : Str} (h : W3 w) : oEq (.str w) (.str "left") S = .ok (.bl (decide (w = "left"))) S := by
  rcases h with rfl | rfl | rfl <;> kernel_rfl
theorem e5 {w : Str} (h : W3 w) : (Lv G dfs 60 (k + 3) (k + 3)).f 5 [.str w] S = .ok (.bl true) S := by
  rcases h with rfl | rfl | rfl <;> (rw [f5]; rfl)
theorem e6 {w : Str} (h : W3 w) : (Lv G dfs 60 (k + 4) (k + 4)).f 6 [.str w] S = .ok .non S := by
  rw [f6 (k + 1)]
  simp [d6, startF, callOp, e5 h, dVar, isThk, dSeq, dTru]
theorem e7 {n p : Int} (h1 : 0 ≤ p) (h2 : p < n) : (Lv G dfs 60 (k + 5) (k + 5)).f 7 [.int n, .int p] S = .ok .non S := by
  rw [f7 (k + 2)]
  have h : inR 0 (n - 1) p = true := by simp [inR]; omega
  simp [d7, startF, callOp, e1, dVar, isThk, dSeq, dTru, h]
theorem e8 {n b p : Int} (h : 0 < n) : (Lv G dfs 60 (k + 3) (k + 3)).f 8 [.int n, .int b, .int p] S = .ok (.int ((p - b) % n)) S := by
  rw [f8]
  simp [d8, startF, dVar, isThk, dSeq, oMod_pos h]
theorem e9 {n b p v : Int} (h : 0 < n) : (Lv G dfs 60 (k + 4) (k + 4)).f 9 [.int n, .int b, .int p, .int v] S = .ok (.bl (decide ((p - b) % n ≤ v))) S := by
  rw [f9 (k + 1)]
  simp [d9, startF, callOp, e8 h, dVar, isThk, dSeq]
theorem e10 {n b v p t : Int} {w : Str} (h : 0 < n) (h3 : W3 w) : (Lv G dfs 60 (k + 5) (k + 5)).f 10 [.int n, .str w, .int b, .int v, .int p, .int t] S = .ok (.bl (decide (w ≠ "barred") || decide ((p - b) % n ≤ v) || !decide ((t - b) % n ≤ v))) S := by
  rw [f10 (k + 2)]
  by_cases hw : w = "barred"
  · subst hw
    have hb : oNe (.str "barred") (.str "barred") S = .ok (.bl false) S := by kernel_rfl
    by_cases h1 : (p - b) % n ≤ v <;> simp [d10, startF, callOp, dVar, isThk, dSeq, dOrV, dNotV, dBl, hb, e9 h, h1]
  · have hb : oNe (.str w) (.str "barred") S = .ok (.bl true) S := by rw [neBar h3]; simp [hw]
    simp [d10, startF, callOp, dVar, isThk, dSeq, dBl, hb, hw]
def pairP (q : Int × Int) : PV := .tup [.int q.1, .int q.2]
theorem e11 {n m t bf sp : Int} : (Lv G dfs 60 (k + 5) (k + 5)).f 11 [.int n, .tup [.int m, .int t], .int bf, .int sp] S = .ok (.bl (inR bf (n - 2) m && inR 0 (n - 1) t && !decide (t = sp))) S := by
  rw [f11 (k + 2)]
  cases h1 : inR bf (n - 2) m <;> cases h2 : inR 0 (n - 1) t <;> simp [d11, startF, callOp, e1, dVar, isThk, dSeq, dTru, dBl, dAndV, oIsi, tyOf, isI, h1, h2]
theorem e0b {i : Bool} : (Lv G dfs 60 (k + 3) (k + 3)).f 0 [.bl i] S = .ok (.bl false) S := by rw [f0]; rfl
theorem e0s {i : Str} : (Lv G dfs 60 (k + 3) (k + 3)).f 0 [.str i] S = .ok (.bl false) S := by rw [f0]; rfl
theorem e0n : (Lv G dfs 60 (k + 3) (k + 3)).f 0 [.non] S = .ok (.bl false) S := by rw [f0]; rfl
theorem e1b {i : Bool} {lo hi : Int} : (Lv G dfs 60 (k + 4) (k + 4)).f 1 [.bl i, .int lo, .int hi] S = .ok (.bl false) S := by
  rw [f1 (k + 1)]
  simp [d1, startF, callOp, e0b, dVar, isThk, dSeq, dAndV, dChain]
theorem e1s {i : Str} {lo hi : Int} : (Lv G dfs 60 (k + 4) (k + 4)).f 1 [.str i, .int lo, .int hi] S = .ok (.bl false) S := by
  rw [f1 (k + 1)]
  simp [d1, startF, callOp, e0s, dVar, isThk, dSeq, dAndV, dChain]
/-- the values that are no moves -/
def odds (n p : Int) : List PV := [.non, .tup [.int 0], .lst [.int 0, .int 0], .tup [.bl true, .int 0], .tup [.int 0, .bl true], .tup [.str "0", .int 0], .tup [.int 0, .int n], .tup [.int (-1), .int 0], .tup [.int 0, .int (-1)], .tup [.int (n - 1), .int p], .tup [.int 0, .int 0, .int 0]]
theorem e11o {n p bf sp : Int} (hb : 0 ≤ bf) {x : PV} (hx : x ∈ odds n p) : (Lv G dfs 60 (k + 5) (k + 5)).f 11 [.int n, x, .int bf, .int sp] S = .ok (.bl false) S := by
  simp only [odds, List.mem_cons, List.not_mem_nil, or_false] at hx
  rcases hx with rfl | rfl | rfl | rfl | rfl | rfl | rfl | rfl | rfl | rfl | rfl
  · rw [f11 (k + 2)]; simp [d11, startF, callOp, dVar, isThk, dSeq, dTru, dBl, oIsi, tyOf, isI]
  · rw [f11 (k + 2)]; simp [d11, startF, callOp, dVar, isThk, dSeq, dTru, dBl, oIsi, tyOf, isI]
  · rw [f11 (k + 2)]; simp [d11, startF, callOp, dVar, isThk, dSeq, dTru, dBl, oIsi, tyOf, isI]
  · rw [f11 (k + 2)]; simp [d11, startF, callOp, dVar, isThk, dSeq, dTru, dBl, oIsi, tyOf, isI, e1b]
  · rw [f11 (k + 2)]
    cases h1 : inR bf (n - 2) 0 <;> simp [d11, startF, callOp, dVar, isThk, dSeq, dTru, dBl, dAndV, oIsi, tyOf, isI, e1, e1b, h1]
  · rw [f11 (k + 2)]; simp [d11, startF, callOp, dVar, isThk, dSeq, dTru, dBl, oIsi, tyOf, isI, e1s]
  · rw [e11]; simp [inR] <;> omega
  · rw [e11]; simp [inR] <;> omega
  · rw [e11]; simp [inR]
  · rw [e11]; simp [inR] <;> omega
  · rw [f11 (k + 2)]; simp [d11, startF, callOp, dVar, isThk, dSeq, dTru, dBl, oIsi, tyOf, isI]
end
end K22
end
section
set_option Elab.async false
set_option linter.all false
set_option maxRecDepth 100000
set_option maxHeartbeats 0
namespace K22
open PySem E2
/-! ### let moves -/
def mvB (n bf sp m t : Int) : Bool := inR bf (n - 2) m && inR 0 (n - 1) t && !decide (t = sp)
def leB (n : Int) (w : Str) (b v p t : Int) : Bool := decide (w ≠ "barred") || decide ((p - b) % n ≤ v) || !decide ((t - b) % n ≤ v)
def okS (n : Int) (w : Str) (b bf sp : Int) (q : Int × Int) : Bool := mvB n bf sp q.1 q.2 && leB n w b q.1 sp q.2
def fwS (n : Int) (w : Str) (b : Int) : Int → Int → List (Int × Int) → Option Nat
  | _, _, [] => none
  | bf, sp, q :: r => if okS n w b bf sp q then (fwS n w b q.1 q.2 r).map (· + 1) else some 0
section
variable {k : Nat} {S : Store} {n b : Int} {w : Str}
theorem g10 {v p t : Int} (h : 0 < n) (h3 : W3 w) : (Lv G dfs 60 (k + 5) (k + 5)).f 10 [.int n, .str w, .int b, .int v, .int p, .int t] S = .ok (.bl (leB n w b v p t)) S := e10 h h3
theorem g11 {m t bf sp : Int} : (Lv G dfs 60 (k + 5) (k + 5)).f 11 [.int n, .tup [.int m, .int t], .int bf, .int sp] S = .ok (.bl (mvB n bf sp m t)) S := e11
def b12 (Φ : Nat → Phi) (k : Nat) : DS := (dSeq (dIf (dOrT (dNotT (dTru (dCallL (callOp 4 ((Φ (k + 2)).f 11) []) (dCons (dVar 0) (dCons (dVar 8) (dCons (dVar 5) (dCons (dVar 6) dNil))))))) (dNotT (dTru (dCallL (callOp 6 ((Φ (k + 2)).f 10) []) (dCons (dVar 0) (dCons (dVar 1) (dCons (dVar 2) (dCons (dBin oIx (dVar 8) (dC (.int 0))) (dCons (dVar 6) (dCons (dBin oIx (dVar 8) (dC (.int 1))) dNil)))))))))) (dSeq (dRet (dVar 7)) dNext) dNext) (dSeq (dAsg (.tup [5, 6]) (dVar 8)) dNext))
/-- the state of the loop -/
def fr12 (n : Int) (w : Str) (b p : Int) (ms : Option PV) (bf sp : Int) (x7 x8 : Option PV) : E2.Frame := [some (.int n), some (.str w), some (.int b), some (.int p), ms, some (.int bf), some (.int sp), x7, x8]
theorem b12_ok (hn : 0 < n) (hw : W3 w) {p : Int} {ms : Option PV} {bf sp i : Int} {q : Int × Int} (h : okS n w b bf sp q = true) :
    b12 (Lv G dfs 60 (k + 5)) (k + 3) (fr12 n w b p ms bf sp (some (.int i)) (some (pairP q))) S = .nx (fr12 n w b p ms q.1 q.2 (some (.int i)) (some (pairP q))) S := by
  obtain ⟨m, t⟩ := q
  unfold okS at h
  rw [Bool.and_eq_true] at h
  have h1 : mvB n bf sp m t = true := h.1
  have h2 : leB n w b m sp t = true := h.2
  simp [b12, fr12, pairP, dVar, isThk, dSeq, dTru, callOp, g11, g10 hn hw, h1, h2, dAsg, bindG, setAll]
theorem b12_no (hn : 0 < n) (hw : W3 w) {p : Int} {ms : Option PV} {bf sp i : Int} {q : Int × Int} (h : okS n w b bf sp q = false) :
    b12 (Lv G dfs 60 (k + 5)) (k + 3) (fr12 n w b p ms bf sp (some (.int i)) (some (pairP q))) S = .rt (.int i) S := by
  obtain ⟨m, t⟩ := q
  unfold okS at h
  rw [Bool.and_eq_false_iff] at h
  by_cases h1 : mvB n bf sp m t = true
  · have h2 : leB n w b m sp t = false := by
      rcases h with z | z
      · rw [show mvB n bf sp m t = false from z] at h1; cases h1
      · exact z
    simp [b12, fr12, pairP, dVar, isThk, dSeq, dTru, callOp, g11, g10 hn hw, h1, h2]
  · simp [b12, fr12, pairP, dVar, isThk, dSeq, dTru, callOp, g11, h1]
theorem b12_odd {p p' : Int} {ms : Option PV} {bf sp i : Int} {x : PV} (hb : 0 ≤ bf) (hx : x ∈ odds n p') :
    b12 (Lv G dfs 60 (k + 5)) (k + 3) (fr12 n w b p ms bf sp (some (.int i)) (some x)) S = .rt (.int i) S := by
  have ht : isThk x = false := by
    simp only [odds, List.mem_cons, List.not_mem_nil, or_false] at hx
    rcases hx with rfl | rfl | rfl | rfl | rfl | rfl | rfl | rfl | rfl | rfl | rfl <;> rfl
  have i1 : ∀ i, isThk (.int i) = false := fun _ => rfl
  have i2 : ∀ i, isThk (.str i) = false := fun _ => rfl
  simp [b12, fr12, dVar, i1, i2, ht, dSeq, dTru, callOp, e11o hb hx]
theorem okS_bf {bf sp : Int} {q : Int × Int} (h : okS n w b bf sp q = true) : bf ≤ q.1 ∧ q.1 ≤ n - 2 ∧ 0 ≤ q.2 ∧ q.2 ≤ n - 1 := by
  unfold okS mvB inR at h
  simp only [Bool.and_eq_true, decide_eq_true_eq] at h
  exact ⟨h.1.1.1.1, h.1.1.1.2, h.1.1.2.1, h.1.1.2.2⟩
theorem bind12 {p : Int} {ms : Option PV} {bf sp i : Int} {x7 x8 : Option PV} {x : PV} : bindG S (.tup [7, 8]) (.pr [.int i, x]) (fr12 n w b p ms bf sp x7 x8) = some (fr12 n w b p ms bf sp (some (.int i)) (some x)) := by
  simp [bindG, fr12, setAll, drf]
theorem go12_none (hn : 0 < n) (hw : W3 w) {p : Int} {ms : Option PV} (rest : List PV) : ∀ (xs : List (Int × Int)) (bf sp i : Int) (x7 x8 : Option PV), 0 ≤ bf → fwS n w b bf sp xs = none →
    ∃ bf' sp' x7' x8', 0 ≤ bf' ∧ forGo (.tup [7, 8]) (b12 (Lv G dfs 60 (k + 5)) (k + 3)) (enuP i (xs.map pairP ++ rest)) (fr12 n w b p ms bf sp x7 x8) S = forGo (.tup [7, 8]) (b12 (Lv G dfs 60 (k + 5)) (k + 3)) (enuP (i + xs.length) rest) (fr12 n w b p ms bf' sp' x7' x8') S
  | [], bf, sp, i, x7, x8, h0, _ => ⟨bf, sp, x7, x8, h0, by simp⟩
  | q :: r, bf, sp, i, x7, x8, h0, h => by
    unfold fwS at h
    split at h
    · rename_i ho
      have hb := (okS_bf ho).1
      obtain ⟨bf', sp', x7', x8', z, e⟩ := go12_none hn hw rest r q.1 q.2 (i + 1) (some (.int i)) (some (pairP q)) (by omega) (by simpa using h)
      refine ⟨bf', sp', x7', x8', z, ?_⟩
      rw [List.map_cons, List.cons_append, enuP, forGo_next bind12 (b12_ok hn hw ho), e]
      congr 2
      simp only [List.length_cons]
      omega
    · cases h
theorem go12_some (hn : 0 < n) (hw : W3 w) {p : Int} {ms : Option PV} (rest : List PV) : ∀ (xs : List (Int × Int)) (bf sp i : Int) (x7 x8 : Option PV) (j : Nat), fwS n w b bf sp xs = some j →
    forGo (.tup [7, 8]) (b12 (Lv G dfs 60 (k + 5)) (k + 3)) (enuP i (xs.map pairP ++ rest)) (fr12 n w b p ms bf sp x7 x8) S = .rt (.int (i + j)) S
  | [], bf, sp, i, x7, x8, j, h => by cases h
  | q :: r, bf, sp, i, x7, x8, j, h => by
    unfold fwS at h
    rw [List.map_cons, List.cons_append, enuP]
    split at h
    · rename_i ho
      simp only [Option.map_eq_some_iff] at h
      obtain ⟨j', h, rfl⟩ := h
      rw [forGo_next bind12 (b12_ok hn hw ho), go12_some hn hw rest r q.1 q.2 (i + 1) _ _ j' h]
      congr 2
      omega
    · rename_i ho
      cases h
      rw [forGo_ret bind12 (b12_no hn hw (by simpa using ho))]
      simp
def retN : Option Nat → PV
  | none => .non
  | some j => .int j
theorem d12_at {p : Int} {v : PV} {xs : List PV} (hv : Sq v xs) : (Lv G dfs 60 (k + 6) (k + 6)).f 12 [.int n, .str w, .int b, .int p, v] S = resOf (match forGo (.tup [7, 8]) (b12 (Lv G dfs 60 (k + 5)) (k + 3)) (enuP 0 xs) (fr12 n w b p (some v) 0 p none none) S with | .nx _ S' => .rt .non S' | r => r) := by
  rw [f12 (k + 3)]
  show resOf (dSeq _ (dSeq (dFor (dEnum (dCons (dVar 4) dNil)) (.tup [7, 8]) (b12 (Lv G dfs 60 (k + 5)) (k + 3))) (dSeq (dRet (dC .non)) dNext)) _ S) = _
  have h1 : ∀ (r : DS), dSeq (dPar [5, 6] (dCons (dC (.int 0)) (dCons (dVar 3) dNil))) r (startF ["pages", "rule", "begin", "page", "moves", "before", "spot", "index", "move"] [.int n, .str w, .int b, .int p, v]) S = r (fr12 n w b p (some v) 0 p none none) S := by
    intro r
    simp [dSeq, dPar, startF, dVar, isThk, setAll, fr12]
  rw [h1]
  have h2 : dEnum (dCons (dVar 4) dNil) (fr12 n w b p (some v) 0 p none none) S = .ok (enuP 0 xs) S := by
    rcases hv with rfl | rfl <;> simp [dEnum, fr12, dVar, isThk]
  unfold dSeq
  rw [for_eq h2]
  cases forGo (.tup [7, 8]) (b12 (Lv G dfs 60 (k + 5)) (k + 3)) (enuP 0 xs) (fr12 n w b p (some v) 0 p none none) S <;> simp
theorem e12 (hn : 0 < n) (hw : W3 w) {p : Int} {v : PV} {xs : List (Int × Int)} (hv : Sq v (xs.map pairP)) : (Lv G dfs 60 (k + 6) (k + 6)).f 12 [.int n, .str w, .int b, .int p, v] S = .ok (retN (fwS n w b 0 p xs)) S := by
  rw [d12_at hv]
  cases h : fwS n w b 0 p xs with
  | none =>
    obtain ⟨bf', sp', x7', x8', z, e⟩ := go12_none (k := k) (S := S) hn hw (p := p) (ms := some v) [] xs 0 p 0 none none (by omega) h
    rw [List.append_nil] at e
    rw [e]
    rfl
  | some j =>
    have e := go12_some (k := k) (S := S) hn hw (p := p) (ms := some v) [] xs 0 p 0 none none j h
    rw [List.append_nil] at e
    rw [e]
    simp [retN]
theorem e12o (hn : 0 < n) (hw : W3 w) {p p' : Int} {xs : List (Int × Int)} {x : PV} (hx : x ∈ odds n p') (h : fwS n w b 0 p xs = none) : (Lv G dfs 60 (k + 6) (k + 6)).f 12 [.int n, .str w, .int b, .int p, .lst (xs.map pairP ++ [x, .non])] S = .ok (.int xs.length) S := by
  rw [d12_at (.inl rfl)]
  obtain ⟨bf', sp', x7', x8', z, e⟩ := go12_none (k := k) (S := S) hn hw (p := p) (ms := some (.lst (xs.map pairP ++ [x, .non]))) [x, .non] xs 0 p 0 none none (by omega) h
  rw [e, enuP, forGo_ret bind12 (b12_odd z hx)]
  simp
end
end K22
end
section
set_option Elab.async false
set_option linter.all false
set_option maxRecDepth 100000
set_option maxHeartbeats 0
namespace K22
open PySem E2
section
variable {k : Nat} {S : Store} {n b : Int} {w : Str}
theorem e13 {p : Int} (h1 : 1 ≤ n) (h2 : n ≤ 6) (hw : W3 w) (h3 : 0 ≤ b) (h4 : b < n) (h5 : 0 ≤ p) (h6 : p < n) : (Lv G dfs 60 (k + 6) (k + 6)).f 13 [.int n, .str w, .int b, .int p] S = .ok .non S := by
  rw [f13 (k + 3)]
  simp [d13, startF, callOp, e4 h1 h2, e6 (k := k + 1) hw, e7 h3 h4, e7 h5 h6, dVar, isThk, dSeq]
theorem e2 {v : PV} {xs : List PV} (hv : Sq v xs) : (Lv G dfs 60 (k + 3) (k + 3)).f 2 [v] S = .ok (.bl true) S := by
  rcases hv with rfl | rfl <;> (rw [f2]; rfl)
/-- no list and no tuple -/
def noLine : List PV := [.non, .int 5, .str "x", .dct []]
theorem noLine_thk {v : PV} (hv : v ∈ noLine) : isThk v = false := by
  simp only [noLine, List.mem_cons, List.not_mem_nil, or_false] at hv
  rcases hv with rfl | rfl | rfl | rfl <;> rfl
theorem e2o {v : PV} (hv : v ∈ noLine) : (Lv G dfs 60 (k + 3) (k + 3)).f 2 [v] S = .ok (.bl false) S := by
  simp only [noLine, List.mem_cons, List.not_mem_nil, or_false] at hv
  rcases hv with rfl | rfl | rfl | rfl <;> (rw [f2]; rfl)
theorem i1 {i : Int} : isThk (.int i) = false := rfl
theorem i2 {i : Str} : isThk (.str i) = false := rfl
theorem i3 {i : List PV} : isThk (.lst i) = false := rfl
theorem i4 {i : List PV} : isThk (.tup i) = false := rfl
theorem i5 : isThk .non = false := rfl
theorem i6 {i : Bool} : isThk (.bl i) = false := rfl
structure Ok (n : Int) (w : Str) (b p : Int) : Prop where
  n1 : 1 ≤ n
  n6 : n ≤ 6
  w3 : W3 w
  b0 : 0 ≤ b
  bn : b < n
  p0 : 0 ≤ p
  pn : p < n
theorem Ok.pos {p : Int} (h : Ok n w b p) : 0 < n := by have := h.n1; omega
theorem w13 {p : Int} (h : Ok n w b p) : (Lv G dfs 60 (k + 6) (k + 6)).f 13 [.int n, .str w, .int b, .int p] S = .ok .non S := e13 h.n1 h.n6 h.w3 h.b0 h.bn h.p0 h.pn
theorem isRet (j : Option Nat) : oIs false (retN j) .non S = .ok (.bl j.isNone) S := by cases j <;> rfl
theorem isntRet (j : Option Nat) : oIs true (retN j) .non S = .ok (.bl j.isSome) S := by cases j <;> rfl
theorem thkRet (j : Option Nat) : isThk (retN j) = false := by cases j <;> rfl
theorem e14 {p : Int} (h : Ok n w b p) {v : PV} {xs : List (Int × Int)} (hv : Sq v (xs.map pairP)) : (Lv G dfs 60 (k + 7) (k + 7)).f 14 [.int n, .str w, .int b, .int p, v] S = .ok (.bl (fwS n w b 0 p xs).isNone) S := by
  rw [f14 (k + 4)]
  simp [d14, startF, callOp, w13 h, e2 (k := k + 3) hv, e12 h.pos h.w3 hv, dVar, i1, i2, hv.thk, dSeq, dAndV, isRet]
theorem e14o {p : Int} (h : Ok n w b p) {v : PV} (hv : v ∈ noLine) : (Lv G dfs 60 (k + 7) (k + 7)).f 14 [.int n, .str w, .int b, .int p, v] S = .ok (.bl false) S := by
  rw [f14 (k + 4)]
  simp [d14, startF, callOp, w13 h, e2o (k := k + 3) hv, dVar, i1, i2, noLine_thk hv, dSeq, dAndV]
theorem e14x {p p' : Int} (h : Ok n w b p) {xs : List (Int × Int)} {x : PV} (hx : x ∈ odds n p') (hf : fwS n w b 0 p xs = none) : (Lv G dfs 60 (k + 7) (k + 7)).f 14 [.int n, .str w, .int b, .int p, .lst (xs.map pairP ++ [x, .non])] S = .ok (.bl false) S := by
  rw [f14 (k + 4)]
  have h0 : ∀ j : Int, oIs false (.int j) .non S = .ok (.bl false) S := fun _ => rfl
  simp [d14, startF, callOp, w13 h, e2 (k := k + 3) (.inl rfl), e12o h.pos h.w3 hx hf, dVar, i1, i2, i3, dSeq, dAndV, h0]
/-! ### the law's own reading -/
def visP (n b : Int) : PV → PV
  | .int v => .int ((b + v) % n)
  | x => x
def visL (n b d : Int) : List PV := (rngP 0 d.toNat).map (visP n b)
theorem e38 {d : Int} (hn : 0 < n) (h1 : -1000 ≤ d) (h2 : d ≤ 1000) : (Lv G dfs 60 (k + 3) (k + 3)).f 38 [.int n, .int b, .int d] S = .ok (.lst (visL n b d)) S := by
  rw [f38]
  have hi : dRng1 (dCons (dVar 2) dNil) (startF ["_law_size", "_law_begin", "_law_done", "_law_visit"] [.int n, .int b, .int d]) S = .ok (rngP 0 d.toNat) S := rng1_eq (by simp [startF, dVar, i1]) (by omega) (by omega)
  have e : dLc finV (dRng1 (dCons (dVar 2) dNil)) (.name 3) dYes (dBin oMod (dCallL oInt (dCons (dBin oAdd (dVar 1) (dVar 3)) dNil)) (dVar 0)) [3] (startF ["_law_size", "_law_begin", "_law_done", "_law_visit"] [.int n, .int b, .int d]) S = .ok (.lst (visL n b d)) S := by
    rw [lc_eq hi, lc_pure (p := fun _ => true) (f := visP n b) _ _ (by rw [rngP_length, sizeLine_eq]; simp; omega) (fun x hx => ?_)]
    · simp [finV, visL, List.filter_eq_self.mpr]
    · obtain ⟨v, rfl, _, _⟩ := rngP_mem _ _ _ hx
      exact ⟨_, rfl, rfl, fun _ => by simp [startF, wipeF, dVar, i1, oMod_pos hn, visP]⟩
  simp only [d38]
  simp [dSeq, e]
def inVis (n b d x : Int) : Bool := (visL n b d).any fun z => eqF z (.int x)
def mayB (n : Int) (w : Str) (b d sp t : Int) : Bool := !decide (t = sp) && (decide (w ≠ "barred") || (inVis n b d sp || !inVis n b d t))
theorem visL_flat {d : Int} : (visL n b d).all flatP = true := by
  rw [List.all_eq_true]
  intro x hx
  obtain ⟨y, hy, rfl⟩ := List.mem_map.mp hx
  obtain ⟨v, rfl, _, _⟩ := rngP_mem _ _ _ hy
  rfl
theorem inV0 {d x : Int} : oIn false (.int x) (.lst (visL n b d)) S = .ok (.bl (inVis n b d x)) S := by
  have : isIn (.int x) (.lst (visL n b d)) S = some (inVis n b d x) := by simp [isIn, flatP, visL_flat, inVis]
  simp [oIn, this]
theorem inV1 {d x : Int} : oIn true (.int x) (.lst (visL n b d)) S = .ok (.bl (!inVis n b d x)) S := by
  have : isIn (.int x) (.lst (visL n b d)) S = some (inVis n b d x) := by simp [isIn, flatP, visL_flat, inVis]
  simp [oIn, this]
theorem e39 {d sp t : Int} (hn : 0 < n) (hw : W3 w) (h1 : -1000 ≤ d) (h2 : d ≤ 1000) : (Lv G dfs 60 (k + 4) (k + 4)).f 39 [.int n, .str w, .int b, .int d, .int sp, .int t] S = .ok (.bl (mayB n w b d sp t)) S := by
  rw [f39 (k + 1)]
  by_cases ht : t = sp
  · simp [d39, startF, callOp, dVar, i1, i2, dSeq, dBl, ht, mayB]
  · have h0 : mayB n w b d sp t = (decide (w ≠ "barred") || (inVis n b d sp || !inVis n b d t)) := by simp [mayB, ht]
    rw [h0]
    by_cases hb : w = "barred"
    · subst hb
      have hb : oNe (.str "barred") (.str "barred") S = .ok (.bl false) S := by kernel_rfl
      cases h3 : inVis n b d sp <;> simp [d39, startF, callOp, dVar, i1, i2, i3, dSeq, dBl, dAsg, bindG, dOrV, ht, e38 hn h1 h2, hb, inV0, inV1, h3]
    · have hb' : oNe (.str w) (.str "barred") S = .ok (.bl true) S := by rw [neBar hw]; simp [hb]
      simp [d39, startF, callOp, dVar, i1, i2, i3, dSeq, dBl, dAsg, bindG, dOrV, ht, e38 hn h1 h2, hb', hb]
theorem inVis_eq {m x : Int} (hn : 0 < n) (h0 : 0 ≤ m) (hm : m < n) (hx : 0 ≤ x) (hxn : x < n) : inVis n b (m + 1) x = decide ((x - b) % n ≤ m) := by
  unfold inVis visL
  rw [Bool.eq_iff_iff, List.any_eq_true, decide_eq_true_iff]
  constructor
  · rintro ⟨z, hz, e⟩
    obtain ⟨y, hy, rfl⟩ := List.mem_map.mp hz
    obtain ⟨v, rfl, v0, v1⟩ := rngP_mem _ _ _ hy
    have e : (b + v) % n = x := by simpa [visP, eqF] using e
    have v2 : v < n := by omega
    have : (x - b) % n = v := by
      rw [← e, Int.sub_emod, Int.emod_emod_of_dvd _ (Int.dvd_refl n), ← Int.sub_emod, show b + v - b = v by omega]
      exact Int.emod_eq_of_lt v0 v2
    omega
  · intro h
    have h1 := Int.emod_nonneg (x - b) (show n ≠ 0 by omega)
    refine ⟨visP n b (.int ((x - b) % n)), List.mem_map.mpr ⟨_, ?_, rfl⟩, ?_⟩
    · rw [rngP_map]
      refine List.mem_map.mpr ⟨((x - b) % n).toNat, List.mem_range.mpr (by omega), ?_⟩
      congr 1
      omega
    · simp only [visP, eqF, beq_iff_eq]
      rw [Int.add_emod, Int.emod_emod_of_dvd _ (Int.dvd_refl n), ← Int.add_emod, show b + (x - b) = x by omega]
      exact Int.emod_eq_of_lt hx hxn
end
end K22
end
section
set_option Elab.async false
set_option linter.all false
set_option maxRecDepth 100000
set_option maxHeartbeats 0
namespace K22
open PySem E2
section
variable {k : Nat} {S : Store} {n b : Int} {w : Str}
/-! ### where a record lies -/
def ltP (v : Int) : PV → Bool
  | .tup [.int m, .int _] => decide (m < v)
  | _ => false
def eqP (v : Int) : PV → Bool
  | .tup [.int m, .int _] => decide (m = v)
  | _ => false
def sndP : PV → PV
  | .tup [_, y] => y
  | x => x
def tgt (c : Int × Int → Bool) (xs : List (Int × Int)) : List PV := (xs.filter c).map fun q => .int q.2
def plc (p : Int) (xs : List (Int × Int)) (v : Int) : List PV := .int p :: tgt (fun q => decide (q.1 < v)) xs
theorem tgt_lt {v : Int} : ∀ xs : List (Int × Int), ((xs.map pairP).filter (ltP v)).map sndP = tgt (fun q => decide (q.1 < v)) xs
  | [] => rfl
  | (m, t) :: r => by
    have ih := tgt_lt (v := v) r
    unfold tgt at ih ⊢
    by_cases h : m < v <;> simp [pairP, ltP, sndP, h, ih]
theorem tgt_eq {v : Int} : ∀ xs : List (Int × Int), ((xs.map pairP).filter (eqP v)).map sndP = tgt (fun q => decide (q.1 = v)) xs
  | [] => rfl
  | (m, t) :: r => by
    have ih := tgt_eq (v := v) r
    unfold tgt at ih ⊢
    by_cases h : m = v <;> simp [pairP, eqP, sndP, h, ih]
theorem tgt_len {c : Int × Int → Bool} {xs : List (Int × Int)} : (tgt c xs).length ≤ xs.length := by
  unfold tgt
  rw [List.length_map]
  exact List.length_filter_le _ _
theorem plc_flat {p v : Int} {xs : List (Int × Int)} : (plc p xs v).all flatP = true := by
  unfold plc tgt
  simp [flatP]
theorem plc_len {p v : Int} {xs : List (Int × Int)} : (plc p xs v).length ≤ xs.length + 1 := by
  unfold plc
  have := tgt_len (c := fun q => decide (q.1 < v)) (xs := xs)
  simp only [List.length_cons]
  omega
theorem e15 {p v : Int} {ms : PV} {xs : List (Int × Int)} (hms : Sq ms (xs.map pairP)) (hl : xs.length ≤ 1000) : (Lv G dfs 60 (k + 3) (k + 3)).f 15 [.int p, ms, .int v] S = .ok (.lst (plc p xs v)) S := by
  rw [f15]
  have hs : startF ["page", "moves", "visit", "moment", "target"] [.int p, ms, .int v] = [some (.int p), some ms, some (.int v), none, none] := by simp [startF]
  rw [hs]
  have hi : dSeqI (dVar 1) [some (.int p), some ms, some (.int v), none, none] S = .ok (xs.map pairP) S := by
    rcases hms with rfl | rfl
    · exact seqI_lst (by simp [dVar, i3])
    · exact seqI_tup (by simp [dVar, i4])
  have e : dLc finV (dSeqI (dVar 1)) (.tup [3, 4]) (dBl (dBin oLt (dVar 3) (dVar 2))) (dVar 4) [3, 4] [some (.int p), some ms, some (.int v), none, none] S = .ok (.lst (tgt (fun q => decide (q.1 < v)) xs)) S := by
    rw [lc_eq hi, lc_pure (p := ltP v) (f := sndP) _ _ (by rw [sizeLine_eq]; simp; omega) (fun x hx => ?_)]
    · rw [List.nil_append, tgt_lt]; rfl
    · obtain ⟨⟨m, t⟩, _, rfl⟩ := List.mem_map.mp hx
      refine ⟨_, by simp [bindG, pairP, wipeF, setAll]; rfl, ?_, fun _ => ?_⟩
      · simp [dBl, dVar, i1, pairP, ltP]
      · simp [dVar, i1, pairP, sndP]
  have hln := tgt_len (c := fun q => decide (q.1 < v)) (xs := xs)
  simp only [d15]
  simp [dSeq, e, dVar, i1, sizeLine_eq, addL (xs := [.int p]) (ys := tgt (fun q => decide (q.1 < v)) xs) (by rw [sizeLine_eq]; simp only [List.length_cons, List.length_nil]; omega), plc]
def thr (w : Str) (pl : List PV) : List PV := if w = "left" then pl else cutP pl (some (-1)) none
def sees (n : Int) (w : Str) (b : Int) (pl : List PV) (v : Int) : Bool := (thr w pl).any fun z => eqF z (.int ((b + v) % n))
theorem thr_flat {pl : List PV} (h : pl.all flatP = true) : (thr w pl).all flatP = true := by
  unfold thr
  split
  · exact h
  · exact cut_flat h _ _
theorem thr_eq {hw : W3 w} {pl : List PV} {fr : E2.Frame} {i : Nat} (h1 : fr[1]? = some (some (.str w))) (h7 : fr[i]? = some (some (.lst pl))) : dIfE (dBl (dBin oEq (dVar 1) (dC (.str "left")))) (dVar i) (dSl (dVar i) (dPart (dUn oNeg (dC (.int 1)))) dNoPart) fr S = .ok (.lst (thr w pl)) S := by
  have v1 : dVar 1 fr S = .ok (.str w) S := dVar_of h1 rfl
  have v7 : dVar i fr S = .ok (.lst pl) S := dVar_of h7 rfl
  by_cases h : w = "left"
  · have hb : oEq (.str w) (.str "left") S = .ok (.bl true) S := by rw [eqLeft hw, h]; simp
    have ht : thr w pl = pl := if_pos h
    simp [dBl, v1, v7, hb, ht]
  · have hb : oEq (.str w) (.str "left") S = .ok (.bl false) S := by rw [eqLeft hw]; simp [h]
    have ht : thr w pl = cutP pl (some (-1)) none := if_neg h
    simp [dBl, v1, v7, hb, ht]
def b16 (Φ : Nat → Phi) (k : Nat) : DS := (dSeq (dAsg (.name 7) (dCallL (callOp 3 ((Φ (k + 2)).f 15) []) (dCons (dVar 3) (dCons (dVar 4) (dCons (dVar 6) dNil))))) (dSeq (dIf (dBl (dBin (oIn false) (dBin oMod (dBin oAdd (dVar 2) (dVar 6)) (dVar 0)) (dIfE (dBl (dBin oEq (dVar 1) (dC (.str "left")))) (dVar 7) (dSl (dVar 7) (dPart (dUn oNeg (dC (.int 1)))) dNoPart)))) (dSeq (dDrop (dMeth .list oAppend (dVar 5) (dCons (dVar 6) dNil))) dNext) dNext) dNext))
def fr16 (n : Int) (w : Str) (b p : Int) (ms : PV) (q : Nat) (x6 x7 : Option PV) : E2.Frame := [some (.int n), some (.str w), some (.int b), some (.int p), some ms, some (.ref q), x6, x7]
theorem b16_run (hn : 0 < n) (hw : W3 w) {p v : Int} {ms : PV} {xs : List (Int × Int)} (hms : Sq ms (xs.map pairP)) (hl : xs.length ≤ 1000) {acc : List PV} (ha : acc.length < sizeLine) {x7 : Option PV} :
    b16 (Lv G dfs 60 (k + 3)) (k + 1) (fr16 n w b p ms S.length (some (.int v)) x7) (S ++ [(true, .lst acc)]) = .nx (fr16 n w b p ms S.length (some (.int v)) (some (.lst (plc p xs v)))) (S ++ [(true, .lst (if sees n w b (plc p xs v) v then acc ++ [.int v] else acc))]) := by
  have c1 : dAsg (.name 7) (dCallL (callOp 3 ((Lv G dfs 60 (k + 3) (k + 3)).f 15) []) (dCons (dVar 3) (dCons (dVar 4) (dCons (dVar 6) dNil)))) (fr16 n w b p ms S.length (some (.int v)) x7) (S ++ [(true, .lst acc)]) = .nx (fr16 n w b p ms S.length (some (.int v)) (some (.lst (plc p xs v)))) (S ++ [(true, .lst acc)]) := by
    simp [fr16, dAsg, callOp, dVar, i1, hms.thk, e15 hms hl, bindG]
  have c2 : (dBin (oIn false) (dBin oMod (dBin oAdd (dVar 2) (dVar 6)) (dVar 0)) (dIfE (dBl (dBin oEq (dVar 1) (dC (.str "left")))) (dVar 7) (dSl (dVar 7) (dPart (dUn oNeg (dC (.int 1)))) dNoPart))) (fr16 n w b p ms S.length (some (.int v)) (some (.lst (plc p xs v)))) (S ++ [(true, .lst acc)]) = .ok (.bl (sees n w b (plc p xs v) v)) (S ++ [(true, .lst acc)]) := by
    have m1 : dBin oMod (dBin oAdd (dVar 2) (dVar 6)) (dVar 0) (fr16 n w b p ms S.length (some (.int v)) (some (.lst (plc p xs v)))) (S ++ [(true, .lst acc)]) = .ok (.int ((b + v) % n)) (S ++ [(true, .lst acc)]) := by simp [fr16, dVar, i1, oMod_pos hn]
    have m2 := thr_eq (hw := hw) (S := S ++ [(true, .lst acc)]) (pl := plc p xs v) (i := 7) (fr := fr16 n w b p ms S.length (some (.int v)) (some (.lst (plc p xs v)))) (by rfl) (by rfl)
    rw [u_dBin, m1, u_bok, m2, u_bok, in_flat rfl (thr_flat plc_flat)]
    rfl
  unfold b16
  refine (seq_nx c1).trans ?_
  cases hs : sees n w b (plc p xs v) v
  · rw [hs] at c2
    refine (seq_nx (S' := S ++ [(true, .lst acc)]) (fr' := fr16 n w b p ms S.length (some (.int v)) (some (.lst (plc p xs v)))) ?_).trans rfl
    rw [u_dIf, dBl, c2]
    simp
  · rw [hs] at c2
    refine (seq_nx (S' := S ++ [(true, .lst (acc ++ [.int v]))]) (fr' := fr16 n w b p ms S.length (some (.int v)) (some (.lst (plc p xs v)))) ?_).trans rfl
    rw [u_dIf, dBl, c2]
    simp [dSeq, fr16, dMeth, dVar, i1, isThk, ty_top, app_top ha]
end
end K22
end
section
set_option Elab.async false
set_option linter.all false
set_option maxRecDepth 100000
set_option maxHeartbeats 0
namespace K22
open PySem E2
section
variable {k : Nat} {S : Store} {n b : Int} {w : Str}
/-- the visits at which it is seen -/
def visS (n : Int) (w : Str) (b : Int) (pl : Int → List PV) : Int → Nat → List PV
  | _, 0 => []
  | i, m + 1 => (if sees n w b (pl i) i then [.int i] else []) ++ visS n w b pl (i + 1) m
theorem visS_len {pl : Int → List PV} : ∀ (m : Nat) (i : Int), (visS n w b pl i m).length ≤ m
  | 0, _ => by simp [visS]
  | m + 1, i => by
    have := visS_len (pl := pl) m (i + 1)
    simp only [visS, List.length_append]
    split <;> simp <;> omega
theorem go16 (hn : 0 < n) (hw : W3 w) {p : Int} {ms : PV} {xs : List (Int × Int)} (hms : Sq ms (xs.map pairP)) (hl : xs.length ≤ 1000) : ∀ (m : Nat) (i : Int) (acc : List PV) (x6 x7 : Option PV), acc.length + m ≤ 1000 →
    ∃ x6' x7', forGo (.name 6) (b16 (Lv G dfs 60 (k + 3)) (k + 1)) (rngP i m) (fr16 n w b p ms S.length x6 x7) (S ++ [(true, .lst acc)]) = .nx (fr16 n w b p ms S.length x6' x7') (S ++ [(true, .lst (acc ++ visS n w b (plc p xs) i m))])
  | 0, i, acc, x6, x7, _ => ⟨x6, x7, by simp [rngP, forGo, visS]⟩
  | m + 1, i, acc, x6, x7, ha => by
    have r := b16_run (k := k) (S := S) (b := b) hn hw (p := p) (v := i) hms hl (acc := acc) (by rw [sizeLine_eq]; omega) (x7 := x7)
    have bd : bindG (S ++ [(true, .lst acc)]) (.name 6) (.int i) (fr16 n w b p ms S.length x6 x7) = some (fr16 n w b p ms S.length (some (.int i)) x7) := rfl
    obtain ⟨x6', x7', e⟩ := go16 hn hw hms hl m (i + 1) (if sees n w b (plc p xs i) i then acc ++ [.int i] else acc) (some (.int i)) (some (.lst (plc p xs i))) (by split <;> (try simp) <;> omega)
    refine ⟨x6', x7', ?_⟩
    rw [rngP, forGo_next bd r, e]
    congr 4
    simp only [visS]
    split <;> simp
theorem e16 (h1 : 0 < n) (h2 : n ≤ 6) (hw : W3 w) {p : Int} {ms : PV} {xs : List (Int × Int)} (hms : Sq ms (xs.map pairP)) (hl : xs.length ≤ 1000) :
    (Lv G dfs 60 (k + 4) (k + 4)).f 16 [.int n, .str w, .int b, .int p, ms] S = .ok (.lst (visS n w b (plc p xs) 0 n.toNat)) (S ++ [(false, .lst (visS n w b (plc p xs) 0 n.toNat))]) := by
  rw [f16 (k + 1)]
  have hs : startF ["pages", "rule", "begin", "page", "moves", "found", "visit", "places"] [.int n, .str w, .int b, .int p, ms] = [some (.int n), some (.str w), some (.int b), some (.int p), some ms, none, none, none] := by simp [startF]
  rw [hs]
  show resOf (dSeq (dAsg (.name 5) (dCallL oLstR dNil)) (dSeq (dFor (dRng1 (dCons (dVar 0) dNil)) (.name 6) (b16 (Lv G dfs 60 (k + 3)) (k + 1))) (dSeq (dRet (dVarF 5)) dNext)) _ S) = _
  have c1 : dAsg (.name 5) (dCallL oLstR dNil) [some (.int n), some (.str w), some (.int b), some (.int p), some ms, none, none, none] S = .nx (fr16 n w b p ms S.length none none) (S ++ [(true, .lst [])]) := by simp [dAsg, bindG, fr16, sizeLine_eq]
  rw [seq_nx c1]
  obtain ⟨x6', x7', e⟩ := go16 (k := k) (S := S) (b := b) h1 hw (p := p) hms hl n.toNat 0 [] none none (by simp; omega)
  have h3 : dRng1 (dCons (dVar 0) dNil) (fr16 n w b p ms S.length none none) (S ++ [(true, .lst [])]) = .ok (rngP 0 n.toNat) (S ++ [(true, .lst [])]) := rng1_eq (by simp [fr16, dVar, i1]) (by omega) (by omega)
  rw [seq_for_nx h3 e]
  simp [dSeq, frz_top (i := 5) (fr := fr16 n w b p ms S.length x6' x7') (S := S) (by rfl)]
/-! ### moments ascend -/
def asc : Int → List (Int × Int) → Prop
  | _, [] => True
  | v, q :: r => v ≤ q.1 ∧ asc q.1 r
theorem asc_of : ∀ (xs : List (Int × Int)) (bf sp : Int), fwS n w b bf sp xs = none → asc bf xs
  | [], _, _, _ => True.intro
  | q :: r, bf, sp, h => by
    unfold fwS at h
    split at h
    · rename_i ho
      exact ⟨(okS_bf ho).1, asc_of r _ _ (by simpa using h)⟩
    · cases h
theorem tgt_none {v : Int} : ∀ (xs : List (Int × Int)) (bf : Int), asc bf xs → v ≤ bf → tgt (fun q => decide (q.1 < v)) xs = []
  | [], _, _, _ => rfl
  | q :: r, bf, ⟨h1, h2⟩, hv => by
    have ih := tgt_none (v := v) r q.1 h2 (by omega)
    unfold tgt at ih ⊢
    rw [List.filter_cons_of_neg (by simp; omega)]
    exact ih
theorem tgt_step {v : Int} : ∀ (xs : List (Int × Int)) (bf : Int), asc bf xs → tgt (fun q => decide (q.1 < v)) xs ++ tgt (fun q => decide (q.1 = v)) xs = tgt (fun q => decide (q.1 < v + 1)) xs
  | [], _, _ => rfl
  | q :: r, bf, ⟨h1, h2⟩ => by
    have ih := tgt_step (v := v) r q.1 h2
    by_cases c1 : q.1 < v
    · unfold tgt at ih ⊢
      rw [List.filter_cons_of_pos (by simpa using c1), List.filter_cons_of_neg (by simp; omega), List.filter_cons_of_pos (by simp; omega), List.map_cons, List.map_cons, List.cons_append, ih]
    · have z := tgt_none (v := v) r q.1 h2 (by omega)
      by_cases c2 : q.1 = v
      · rw [z] at ih
        unfold tgt at ih z ⊢
        rw [List.filter_cons_of_neg (by simp; omega), List.filter_cons_of_pos (by simpa using c2), List.filter_cons_of_pos (by simp; omega), z, List.map_cons, List.map_cons, ← ih]
        rfl
      · unfold tgt at ih ⊢
        rw [List.filter_cons_of_neg (by simp; omega), List.filter_cons_of_neg (by simpa using c2), List.filter_cons_of_neg (by simp; omega), ih]
def fr23 (n : Int) (w : Str) (b p : Int) (ms : PV) (q : Nat) (lay : List PV) (x7 x8 : Option PV) : E2.Frame := [some (.int n), some (.str w), some (.int b), some (.int p), some ms, some (.ref q), some (.lst lay), x7, x8, none, none]
def b23 (Φ : Nat → Phi) (k : Nat) : DS := (dSeq (dAsg (.name 8) (dIfE (dBl (dBin oEq (dVar 1) (dC (.str "left")))) (dVar 6) (dSl (dVar 6) (dPart (dUn oNeg (dC (.int 1)))) dNoPart))) (dSeq (dIf (dBl (dBin (oIn false) (dBin oMod (dCallL oInt (dCons (dBin oAdd (dVar 2) (dVar 7)) dNil)) (dVar 0)) (dVar 8))) (dSeq (dDrop (dMeth .list oAppend (dVar 5) (dCons (dVar 7) dNil))) dNext) dNext) (dSeq (dAsg (.name 6) (dBin oAdd (dVar 6) (dLc finV (dSeqI (dVar 4)) (.tup [9, 10]) (dBl (dBin oEq (dVar 9) (dVar 7))) (dVar 10) [9, 10]))) dNext)))
theorem b23_run (hn : 0 < n) (hw : W3 w) {p v : Int} {xs : List (Int × Int)} (hl : xs.length ≤ 1000) {lay : List PV} (hlf : lay.all flatP = true) (hll : lay.length ≤ 100000) {acc : List PV} (ha : acc.length < sizeLine) {x8 : Option PV} :
    b23 (Lv G dfs 60 (k + 2)) k (fr23 n w b p (.lst (xs.map pairP)) S.length lay (some (.int v)) x8) (S ++ [(true, .lst acc)]) = .nx (fr23 n w b p (.lst (xs.map pairP)) S.length (lay ++ tgt (fun q => decide (q.1 = v)) xs) (some (.int v)) (some (.lst (thr w lay)))) (S ++ [(true, .lst (if sees n w b lay v then acc ++ [.int v] else acc))]) := by
  have c1 : dAsg (.name 8) (dIfE (dBl (dBin oEq (dVar 1) (dC (.str "left")))) (dVar 6) (dSl (dVar 6) (dPart (dUn oNeg (dC (.int 1)))) dNoPart)) (fr23 n w b p (.lst (xs.map pairP)) S.length lay (some (.int v)) x8) (S ++ [(true, .lst acc)]) = .nx (fr23 n w b p (.lst (xs.map pairP)) S.length lay (some (.int v)) (some (.lst (thr w lay)))) (S ++ [(true, .lst acc)]) := by
    have m2 := thr_eq (hw := hw) (S := S ++ [(true, .lst acc)]) (pl := lay) (i := 6) (fr := fr23 n w b p (.lst (xs.map pairP)) S.length lay (some (.int v)) x8) (by rfl) (by rfl)
    rw [dAsg, m2]
    rfl
  have c2 : (dBin (oIn false) (dBin oMod (dCallL oInt (dCons (dBin oAdd (dVar 2) (dVar 7)) dNil)) (dVar 0)) (dVar 8)) (fr23 n w b p (.lst (xs.map pairP)) S.length lay (some (.int v)) (some (.lst (thr w lay)))) (S ++ [(true, .lst acc)]) = .ok (.bl (sees n w b lay v)) (S ++ [(true, .lst acc)]) := by
    have m1 : dBin oMod (dCallL oInt (dCons (dBin oAdd (dVar 2) (dVar 7)) dNil)) (dVar 0) (fr23 n w b p (.lst (xs.map pairP)) S.length lay (some (.int v)) (some (.lst (thr w lay)))) (S ++ [(true, .lst acc)]) = .ok (.int ((b + v) % n)) (S ++ [(true, .lst acc)]) := by simp [fr23, dVar, i1, oMod_pos hn]
    have m2 : dVar 8 (fr23 n w b p (.lst (xs.map pairP)) S.length lay (some (.int v)) (some (.lst (thr w lay)))) (S ++ [(true, .lst acc)]) = .ok (.lst (thr w lay)) (S ++ [(true, .lst acc)]) := by simp [fr23, dVar, i3]
    rw [u_dBin, m1, u_bok, m2, u_bok, in_flat rfl (thr_flat hlf)]
    rfl
  have c4 : ∀ S', dAsg (.name 6) (dBin oAdd (dVar 6) (dLc finV (dSeqI (dVar 4)) (.tup [9, 10]) (dBl (dBin oEq (dVar 9) (dVar 7))) (dVar 10) [9, 10])) (fr23 n w b p (.lst (xs.map pairP)) S.length lay (some (.int v)) (some (.lst (thr w lay)))) S' = .nx (fr23 n w b p (.lst (xs.map pairP)) S.length (lay ++ tgt (fun q => decide (q.1 = v)) xs) (some (.int v)) (some (.lst (thr w lay)))) S' := by
    intro S'
    have hi : dSeqI (dVar 4) (fr23 n w b p (.lst (xs.map pairP)) S.length lay (some (.int v)) (some (.lst (thr w lay)))) S' = .ok (xs.map pairP) S' := seqI_lst (by simp [fr23, dVar, i3])
    have e : dLc finV (dSeqI (dVar 4)) (.tup [9, 10]) (dBl (dBin oEq (dVar 9) (dVar 7))) (dVar 10) [9, 10] (fr23 n w b p (.lst (xs.map pairP)) S.length lay (some (.int v)) (some (.lst (thr w lay)))) S' = .ok (.lst (tgt (fun q => decide (q.1 = v)) xs)) S' := by
      rw [lc_eq hi, lc_pure (p := eqP v) (f := sndP) _ _ (by rw [sizeLine_eq]; simp; omega) (fun x hx => ?_)]
      · rw [List.nil_append, tgt_eq]; rfl
      · obtain ⟨⟨m, t⟩, _, rfl⟩ := List.mem_map.mp hx
        refine ⟨_, by simp [bindG, pairP, wipeF, setAll, fr23]; rfl, ?_, fun _ => ?_⟩
        · simp [dBl, dVar, i1, pairP, eqP]
        · simp [dVar, i1, pairP, sndP]
    have v6 : dVar 6 (fr23 n w b p (.lst (xs.map pairP)) S.length lay (some (.int v)) (some (.lst (thr w lay)))) S' = .ok (.lst lay) S' := by simp [fr23, dVar, i3]
    have hln := tgt_len (c := fun q => decide (q.1 = v)) (xs := xs)
    rw [dAsg, u_dBin, v6, u_bok, e, u_bok, addL (by rw [sizeLine_eq]; omega)]
    rfl
  unfold b23
  refine (seq_nx c1).trans ?_
  cases hs : sees n w b lay v
  · rw [hs] at c2
    refine (seq_nx (S' := S ++ [(true, .lst acc)]) (fr' := fr23 n w b p (.lst (xs.map pairP)) S.length lay (some (.int v)) (some (.lst (thr w lay)))) ?_).trans ((seq_nx (c4 _)).trans rfl)
    rw [u_dIf, dBl, c2]
    simp
  · rw [hs] at c2
    refine (seq_nx (S' := S ++ [(true, .lst (acc ++ [.int v]))]) (fr' := fr23 n w b p (.lst (xs.map pairP)) S.length lay (some (.int v)) (some (.lst (thr w lay)))) ?_).trans ((seq_nx (c4 _)).trans rfl)
    rw [u_dIf, dBl, c2]
    simp [dSeq, fr23, dMeth, dVar, i1, isThk, ty_top, app_top ha]
theorem plc_step {p v : Int} {xs : List (Int × Int)} (h : asc 0 xs) : plc p xs v ++ tgt (fun q => decide (q.1 = v)) xs = plc p xs (v + 1) := by
  unfold plc
  rw [List.cons_append, tgt_step xs 0 h]
theorem go23 (hn : 0 < n) (hw : W3 w) {p : Int} {xs : List (Int × Int)} (hl : xs.length ≤ 1000) (hs : asc 0 xs) : ∀ (m : Nat) (i : Int) (acc : List PV) (x7 x8 : Option PV), acc.length + m ≤ 1000 →
    ∃ lay' x7' x8', forGo (.name 7) (b23 (Lv G dfs 60 (k + 2)) k) (rngP i m) (fr23 n w b p (.lst (xs.map pairP)) S.length (plc p xs i) x7 x8) (S ++ [(true, .lst acc)]) = .nx (fr23 n w b p (.lst (xs.map pairP)) S.length lay' x7' x8') (S ++ [(true, .lst (acc ++ visS n w b (plc p xs) i m))])
  | 0, i, acc, x7, x8, _ => ⟨_, x7, x8, by simp [rngP, forGo, visS]; rfl⟩
  | m + 1, i, acc, x7, x8, ha => by
    have hpl := plc_len (p := p) (v := i) (xs := xs)
    have r := b23_run (k := k) (S := S) (b := b) hn hw (p := p) (v := i) hl (lay := plc p xs i) plc_flat (by omega) (acc := acc) (by rw [sizeLine_eq]; omega) (x8 := x8)
    rw [plc_step hs] at r
    have bd : bindG (S ++ [(true, .lst acc)]) (.name 7) (.int i) (fr23 n w b p (.lst (xs.map pairP)) S.length (plc p xs i) x7 x8) = some (fr23 n w b p (.lst (xs.map pairP)) S.length (plc p xs i) (some (.int i)) x8) := rfl
    obtain ⟨lay', x7', x8', e⟩ := go23 hn hw hl hs m (i + 1) (if sees n w b (plc p xs i) i then acc ++ [.int i] else acc) (some (.int i)) (some (.lst (thr w (plc p xs i)))) (by split <;> (try simp) <;> omega)
    refine ⟨lay', x7', x8', ?_⟩
    rw [rngP, forGo_next bd r, e]
    congr 4
    simp only [visS]
    split <;> simp
theorem e40 (h1 : 0 < n) (h2 : n ≤ 6) (hw : W3 w) {p : Int} {xs : List (Int × Int)} (hl : xs.length ≤ 1000) (hf : fwS n w b 0 p xs = none) :
    (Lv G dfs 60 (k + 3) (k + 3)).f 40 [.int n, .str w, .int b, .int p, .lst (xs.map pairP)] S = .ok (.lst (visS n w b (plc p xs) 0 n.toNat)) (S ++ [(false, .lst (visS n w b (plc p xs) 0 n.toNat))]) := by
  rw [f40 k]
  have hs : startF ["_law_size", "_law_way", "_law_begin", "_law_spot", "_law_steps", "_law_found", "_law_lay", "_law_visit", "_law_there", "_law_moment", "_law_target"] [.int n, .str w, .int b, .int p, .lst (xs.map pairP)] = [some (.int n), some (.str w), some (.int b), some (.int p), some (.lst (xs.map pairP)), none, none, none, none, none, none] := by simp [startF]
  rw [hs]
  have ha := asc_of xs 0 p hf
  have hp : plc p xs 0 = [.int p] := by unfold plc; rw [tgt_none xs 0 ha (by omega)]
  show resOf (dSeq (dPar [5, 6] (dCons (dCallL oLstR dNil) (dCons (dCallL oLst (dCons (dVar 3) dNil)) dNil))) (dSeq (dFor (dRng1 (dCons (dVar 0) dNil)) (.name 7) (b23 (Lv G dfs 60 (k + 2)) k)) (dSeq (dRet (dVarF 5)) dNext)) _ S) = _
  have c1 : dPar [5, 6] (dCons (dCallL oLstR dNil) (dCons (dCallL oLst (dCons (dVar 3) dNil)) dNil)) [some (.int n), some (.str w), some (.int b), some (.int p), some (.lst (xs.map pairP)), none, none, none, none, none, none] S = .nx (fr23 n w b p (.lst (xs.map pairP)) S.length (plc p xs 0) none none) (S ++ [(true, .lst [])]) := by
    rw [hp]
    simp [dPar, fr23, sizeLine_eq, dVar, i1, setAll]
  rw [seq_nx c1]
  obtain ⟨lay', x7', x8', e⟩ := go23 (k := k) (S := S) (b := b) h1 hw (p := p) hl ha n.toNat 0 [] none none (by simp; omega)
  have h3 : dRng1 (dCons (dVar 0) dNil) (fr23 n w b p (.lst (xs.map pairP)) S.length (plc p xs 0) none none) (S ++ [(true, .lst [])]) = .ok (rngP 0 n.toNat) (S ++ [(true, .lst [])]) := rng1_eq (by simp [fr23, dVar, i1]) (by omega) (by omega)
  rw [seq_for_nx h3 e]
  simp [dSeq, frz_top (i := 5) (fr := fr23 n w b p (.lst (xs.map pairP)) S.length lay' x7' x8') (S := S) (by rfl)]
end
end K22
end
section
set_option Elab.async false
set_option linter.all false
set_option maxRecDepth 100000
set_option maxHeartbeats 0
/-! states of a record on a walk: plain -/
namespace K22
open PySem E2
abbrev Sta := Int × Int × List Int × Int
def pages (n : Int) : List Int := (List.range n.toNat).map fun i => ((i : Nat) : Int)
theorem mem_pages {n p : Int} : p ∈ pages n ↔ 0 ≤ p ∧ p < n := by
  unfold pages
  rw [List.mem_map]
  constructor
  · rintro ⟨i, hi, rfl⟩
    have := List.mem_range.mp hi
    omega
  · rintro ⟨h1, h2⟩
    exact ⟨p.toNat, List.mem_range.mpr (by omega), by omega⟩
theorem pages_len {n : Int} : (pages n).length = n.toNat := by simp [pages]
def firstL (n : Int) : List Sta := (pages n).flatMap fun b => (pages n).map fun p => (b, 0, [p], 0)
def nextS (n : Int) (x : Sta) : Sta := (x.1, x.2.1 + 1, x.2.2.1, if (x.1 + x.2.1) % n ∈ x.2.2.1 then 1 else x.2.2.2)
def movC (n : Int) (w : Str) (x : Sta) (q : Int) : Bool := decide (q ∉ x.2.2.1) && (decide (w = "left") || x.2.2.1.all fun p => leB n w x.1 (x.2.1 - 1) p q)
def movF (w : Str) (x : Sta) (q : Int) : Sta := if w = "left" then (x.1, x.2.1, isort leI (x.2.2.1 ++ [q]), x.2.2.2) else (x.1, x.2.1, [q], x.2.2.2)
def movL (n : Int) (w : Str) (x : Sta) : List Sta := ((pages n).filter (movC n w x)).map (movF w x)
def behL (n : Int) (w : Str) (x : Sta) : List Sta := if x.2.1 = n then [] else nextS n x :: (if 0 < x.2.1 then movL n w x else [])
/-- the rules that miss none -/
def W2 (n : Int) (w : Str) : Prop := w = "barred" ∨ w = "left" ∨ (w = "free" ∧ n = 1)
structure Gd (n : Int) (w : Str) (x : Sta) : Prop where
  b0 : 0 ≤ x.1
  bn : x.1 < n
  d0 : 0 ≤ x.2.1
  dn : x.2.1 ≤ n
  asc : x.2.2.1.Pairwise (· < ·)
  rng : ∀ p ∈ x.2.2.1, 0 ≤ p ∧ p < n
  ne : x.2.2.1 ≠ []
  one : x.2.2.1.length = 1 ∨ w = "left"
  s : x.2.2.2 = 0 ∨ x.2.2.2 = 1
  un : x.2.2.2 = 0 → ∃ p ∈ x.2.2.1, x.2.1 ≤ (p - x.1) % n
section
variable {n : Int} {w : Str}
theorem first_gd {x : Sta} (h : x ∈ firstL n) : Gd n w x := by
  unfold firstL at h
  obtain ⟨b, hb, h⟩ := List.mem_flatMap.mp h
  obtain ⟨p, hp, rfl⟩ := List.mem_map.mp h
  have b1 := mem_pages.mp hb
  have p1 := mem_pages.mp hp
  refine ⟨b1.1, b1.2, Int.le_refl _, (by show (0 : Int) ≤ n; omega), by simp, fun q hq => ?_, by simp, .inl rfl, .inl rfl, fun _ => ⟨p, by simp, Int.emod_nonneg _ (by omega)⟩⟩
  simp only [List.mem_singleton] at hq
  subst hq
  exact p1
theorem ahead_eq {b d p : Int} (hn : 0 < n) (d0 : 0 ≤ d) (dn : d < n) (p0 : 0 ≤ p) (pn : p < n) (e : (p - b) % n = d) : (b + d) % n = p := by
  rw [← e, Int.add_emod, Int.emod_emod_of_dvd _ (Int.dvd_refl n), ← Int.add_emod, show b + (p - b) = p by omega]
  exact Int.emod_eq_of_lt p0 pn
theorem next_gd {x : Sta} (h : Gd n w x) (hd : x.2.1 ≠ n) : Gd n w (nextS n x) := by
  have := h.dn
  have := h.d0
  have hn : 0 < n := by omega
  refine ⟨h.b0, h.bn, by show 0 ≤ x.2.1 + 1; omega, by show x.2.1 + 1 ≤ n; omega, h.asc, h.rng, h.ne, h.one, ?_, fun hs => ?_⟩
  · show (if (x.1 + x.2.1) % n ∈ x.2.2.1 then (1 : Int) else x.2.2.2) = 0 ∨ (if (x.1 + x.2.1) % n ∈ x.2.2.1 then (1 : Int) else x.2.2.2) = 1
    split
    · exact .inr rfl
    · exact h.s
  · have hs : (if (x.1 + x.2.1) % n ∈ x.2.2.1 then (1 : Int) else x.2.2.2) = 0 := hs
    split at hs
    · cases hs
    · rename_i hm
      obtain ⟨p, hp, ha⟩ := h.un hs
      refine ⟨p, hp, ?_⟩
      show x.2.1 + 1 ≤ (p - x.1) % n
      have pr := h.rng p hp
      by_cases e : (p - x.1) % n = x.2.1
      · exact absurd (by rw [ahead_eq hn h.d0 (by omega) pr.1 pr.2 e]; exact hp) hm
      · omega
theorem strict_of : ∀ {l : List Int}, l.Pairwise (fun a b => leI a b = true) → l.Nodup → l.Pairwise (· < ·)
  | [], _, _ => .nil
  | a :: r, h1, h2 => by
    obtain ⟨a1, a2⟩ := List.pairwise_cons.mp h1
    obtain ⟨b1, b2⟩ := List.nodup_cons.mp h2
    refine List.pairwise_cons.mpr ⟨fun c hc => ?_, strict_of a2 b2⟩
    have := a1 c hc
    unfold leI at this
    simp only [decide_eq_true_eq] at this
    have ne : a ≠ c := fun e => b1 (e ▸ hc)
    omega
theorem nodup_of : ∀ {l : List Int}, l.Pairwise (· < ·) → l.Nodup
  | [], _ => .nil
  | a :: r, h => by
    obtain ⟨a1, a2⟩ := List.pairwise_cons.mp h
    exact List.nodup_cons.mpr ⟨fun hc => by have := a1 a hc; omega, nodup_of a2⟩
theorem ins_asc {l : List Int} {q : Int} (h : l.Pairwise (· < ·)) (hq : q ∉ l) : (isort leI (l ++ [q])).Pairwise (· < ·) := by
  have hs := isort_sorted (le := leI) (fun a b h => by unfold leI at h ⊢; simp only [decide_eq_false_iff_not, decide_eq_true_eq] at h ⊢; omega) (fun a b c h1 h2 => by unfold leI at h1 h2 ⊢; simp only [decide_eq_true_eq] at h1 h2 ⊢; omega) (l ++ [q])
  refine strict_of hs ?_
  refine (isort_perm leI (l ++ [q])).nodup_iff.mpr ?_
  rw [List.nodup_append]
  exact ⟨nodup_of h, by simp, fun a ha b hb => by simp at hb; subst hb; exact fun e => hq (e ▸ ha)⟩
theorem mov_gd {x y : Sta} (hw : W2 n w) (h : Gd n w x) (h0 : 0 < x.2.1) (hd : x.2.1 ≠ n) (hy : y ∈ movL n w x) : Gd n w y := by
  unfold movL at hy
  obtain ⟨q, hq, rfl⟩ := List.mem_map.mp hy
  obtain ⟨hq, hc⟩ := List.mem_filter.mp hq
  have q1 := mem_pages.mp hq
  unfold movC at hc
  simp only [Bool.and_eq_true, decide_eq_true_eq, Bool.or_eq_true] at hc
  obtain ⟨c1, c2⟩ := hc
  have mem : ∀ p, p ∈ isort leI (x.2.2.1 ++ [q]) ↔ p ∈ x.2.2.1 ∨ p = q := fun p => by
    rw [(isort_perm leI _).mem_iff]
    simp
  unfold movF
  by_cases hl : w = "left"
  · rw [if_pos hl]
    refine ⟨h.b0, h.bn, h.d0, h.dn, ins_asc h.asc c1, fun p hp => ?_, fun e => ?_, .inr hl, h.s, fun hs => ?_⟩
    · rcases (mem p).mp hp with z | rfl
      · exact h.rng p z
      · exact q1
    · have := (mem q).mpr (.inr rfl)
      rw [show isort leI (x.2.2.1 ++ [q]) = [] from e] at this
      cases this
    · obtain ⟨p, hp, ha⟩ := h.un hs
      exact ⟨p, (mem p).mpr (.inl hp), ha⟩
  · rw [if_neg hl]
    refine ⟨h.b0, h.bn, h.d0, h.dn, by simp, fun p hp => ?_, by simp, .inl rfl, h.s, fun hs => ?_⟩
    · have hp : p ∈ [q] := hp
      rw [List.mem_singleton] at hp
      subst hp
      exact q1
    · refine ⟨q, List.mem_singleton.mpr rfl, ?_⟩
      show x.2.1 ≤ (q - x.1) % n
      obtain ⟨p, hp, ha⟩ := h.un hs
      rcases hw with rfl | rfl | ⟨rfl, hn⟩
      · have c2 := c2.resolve_left hl
        have := List.all_eq_true.mp c2 p hp
        unfold leB at this
        simp only [Bool.or_eq_true, decide_eq_true_eq, Bool.not_eq_true'] at this
        rcases this with (z | z) | z
        · exact absurd rfl z
        · omega
        · have z := of_decide_eq_false z
          omega
      · exact absurd rfl hl
      · have h1 := h.rng p hp
        have : p = q := by omega
        exact absurd (this ▸ hp) c1
theorem beh_gd {x y : Sta} (hw : W2 n w) (h : Gd n w x) (hy : y ∈ behL n w x) : Gd n w y := by
  unfold behL at hy
  split at hy
  · cases hy
  · rename_i hd
    rcases List.mem_cons.mp hy with rfl | hy
    · exact next_gd h hd
    · split at hy
      · rename_i h0
        exact mov_gd hw h h0 hd hy
      · cases hy
theorem end_seen {x : Sta} (h : Gd n w x) (hd : x.2.1 = n) : x.2.2.2 ≠ 0 := fun hs => by
  obtain ⟨p, hp, ha⟩ := h.un hs
  have := h.bn
  have := h.b0
  have := Int.emod_lt_of_pos (p - x.1) (show 0 < n by omega)
  omega
/-! ### how many states there are -/
def ascL : Int → Nat → List (List Int)
  | _, 0 => [[]]
  | lo, m + 1 => ascL (lo + 1) m ++ (ascL (lo + 1) m).map (lo :: ·)
theorem mem_ascL : ∀ (m : Nat) (lo : Int) (l : List Int), l.Pairwise (· < ·) → (∀ p ∈ l, lo ≤ p ∧ p < lo + m) → l ∈ ascL lo m
  | 0, lo, [], _, _ => by simp [ascL]
  | 0, lo, a :: r, _, h => by
    have := h a (List.mem_cons_self ..)
    omega
  | m + 1, lo, [], _, _ => by
    rw [ascL]
    exact List.mem_append_left _ (mem_ascL m (lo + 1) [] .nil (fun p hp => by cases hp))
  | m + 1, lo, a :: r, h1, h2 => by
    rw [ascL]
    obtain ⟨a1, a2⟩ := List.pairwise_cons.mp h1
    have ha := h2 a (List.mem_cons_self ..)
    have hr : ∀ p ∈ r, a < p ∧ p < lo + (m + 1 : Nat) := fun p hp => ⟨a1 p hp, (h2 p (List.mem_cons_of_mem _ hp)).2⟩
    by_cases e : a = lo
    · subst e
      refine List.mem_append_right _ (List.mem_map.mpr ⟨r, mem_ascL m (a + 1) r a2 (fun p hp => ?_), rfl⟩)
      have := hr p hp
      omega
    · refine List.mem_append_left _ (mem_ascL m (lo + 1) (a :: r) h1 (fun p hp => ?_))
      rcases List.mem_cons.mp hp with rfl | hp
      · omega
      · have := hr p hp
        omega
def univ (n : Int) : List Sta := (pages n).flatMap fun b => (pages (n + 1)).flatMap fun d => (ascL 0 n.toNat).flatMap fun ps => [(b, d, ps, 0), (b, d, ps, 1)]
theorem Gd.mem {x : Sta} (h : Gd n w x) : x ∈ univ n := by
  obtain ⟨b, d, ps, s⟩ := x
  have q1 := h.b0
  have q2 := h.bn
  have q3 := h.d0
  have q4 := h.dn
  simp only at q1 q2 q3 q4
  unfold univ
  refine List.mem_flatMap.mpr ⟨b, mem_pages.mpr ⟨q1, q2⟩, List.mem_flatMap.mpr ⟨d, mem_pages.mpr ⟨q3, by omega⟩, List.mem_flatMap.mpr ⟨ps, mem_ascL _ _ _ h.asc (fun p hp => ?_), ?_⟩⟩⟩
  · have := h.rng p hp
    omega
  · rcases h.s with z | z
    · simp only at z; subst z; simp
    · simp only at z; subst z; simp
theorem univ_len (h1 : 1 ≤ n) (h5 : n ≤ 5) : (univ n).length ≤ 2000 := by
  have : n = 1 ∨ n = 2 ∨ n = 3 ∨ n = 4 ∨ n = 5 := by omega
  rcases this with rfl | rfl | rfl | rfl | rfl <;> decide +kernel
theorem nodup_le {α : Type} [DecidableEq α] : ∀ {l u : List α}, l.Nodup → (∀ x ∈ l, x ∈ u) → l.length ≤ u.length
  | [], _, _, _ => Nat.zero_le _
  | a :: r, u, h1, h2 => by
    obtain ⟨b1, b2⟩ := List.nodup_cons.mp h1
    have ha := h2 a (List.mem_cons_self ..)
    have ih := nodup_le (l := r) (u := u.erase a) b2 fun x hx => (List.mem_erase_of_ne (fun e => b1 (by rw [← e]; exact hx))).mpr (h2 x (List.mem_cons_of_mem _ hx))
    rw [List.length_erase_of_mem ha] at ih
    have := List.length_pos_of_mem ha
    simp only [List.length_cons]
    omega
theorem gd_len (h1 : 1 ≤ n) (h5 : n ≤ 5) {F : List Sta} (hF : F.Nodup) (hg : ∀ x ∈ F, Gd n w x) : F.length ≤ 2000 := Nat.le_trans (nodup_le hF fun x hx => (hg x hx).mem) (univ_len h1 h5)
/-! ### all states, one behind the other -/
def addAll : List Sta → List Sta → List Sta → List Sta × List Sta
  | [], F, Wt => (F, Wt)
  | x :: r, F, Wt => if x ∈ F then addAll r F Wt else addAll r (F ++ [x]) (Wt ++ [x])
structure Run (n : Int) (w : Str) (F Wt : List Sta) : Prop where
  nd : F.Nodup
  gd : ∀ x ∈ F, Gd n w x
  fst : ∀ x ∈ firstL n, x ∈ F
  sub : ∀ x ∈ Wt, x ∈ F
  wn : Wt.Nodup
  cl : ∀ x ∈ F, x ∈ Wt ∨ ∀ y ∈ behL n w x, y ∈ F
theorem add_run {z : Sta} : ∀ (L F Wt : List Sta), (∀ x ∈ L, Gd n w x) → F.Nodup → (∀ x ∈ F, Gd n w x) → (∀ x ∈ firstL n, x ∈ F) → (∀ x ∈ Wt, x ∈ F) → Wt.Nodup → (∀ x ∈ F, x = z ∨ x ∈ Wt ∨ ∀ y ∈ behL n w x, y ∈ F) →
    ∀ F' Wt', addAll L F Wt = (F', Wt') → F'.Nodup ∧ (∀ x ∈ F', Gd n w x) ∧ (∀ x ∈ firstL n, x ∈ F') ∧ (∀ x ∈ Wt', x ∈ F') ∧ Wt'.Nodup ∧ (∀ x ∈ F', x = z ∨ x ∈ Wt' ∨ ∀ y ∈ behL n w x, y ∈ F') ∧ (∀ x ∈ L, x ∈ F') ∧ F'.length + Wt.length = F.length + Wt'.length ∧ (∀ x ∈ F, x ∈ F')
  | [], F, Wt, hL, h1, h2, h3, h4, h5, h6, F', Wt', e => by
    simp only [addAll, Prod.mk.injEq] at e
    obtain ⟨rfl, rfl⟩ := e
    exact ⟨h1, h2, h3, h4, h5, h6, fun x hx => (by cases hx), rfl, fun x hx => hx⟩
  | a :: r, F, Wt, hL, h1, h2, h3, h4, h5, h6, F', Wt', e => by
    unfold addAll at e
    split at e
    · rename_i ha
      obtain ⟨g1, g2, g3, g4, g5, g6, g7, g8, g9⟩ := add_run r F Wt (fun x hx => hL x (List.mem_cons_of_mem _ hx)) h1 h2 h3 h4 h5 h6 F' Wt' e
      exact ⟨g1, g2, g3, g4, g5, g6, fun x hx => (List.mem_cons.mp hx).elim (fun z => g9 x (z ▸ ha)) (g7 x), g8, g9⟩
    · rename_i ha
      have hw : a ∉ Wt := fun z => ha (h4 a z)
      obtain ⟨g1, g2, g3, g4, g5, g6, g7, g8, g9⟩ := add_run r (F ++ [a]) (Wt ++ [a]) (fun x hx => hL x (List.mem_cons_of_mem _ hx))
        (by rw [List.nodup_append]; exact ⟨h1, by simp, fun x hx y hy => by simp at hy; subst hy; exact fun e => ha (e ▸ hx)⟩)
        (fun x hx => (List.mem_append.mp hx).elim (h2 x) fun z => by rw [List.mem_singleton] at z; subst z; exact hL x (List.mem_cons_self ..))
        (fun x hx => List.mem_append_left _ (h3 x hx))
        (fun x hx => (List.mem_append.mp hx).elim (fun z => List.mem_append_left _ (h4 x z)) (fun z => List.mem_append_right _ z))
        (by rw [List.nodup_append]; exact ⟨h5, by simp, fun x hx y hy => by simp at hy; subst hy; exact fun e => hw (e ▸ hx)⟩)
        (fun x hx => (List.mem_append.mp hx).elim (fun q => (h6 x q).imp id (Or.imp (List.mem_append_left _) fun u y hy => List.mem_append_left _ (u y hy))) (fun q => .inr (.inl (List.mem_append_right _ q))))
        F' Wt' e
      refine ⟨g1, g2, g3, g4, g5, g6, fun x hx => (List.mem_cons.mp hx).elim (fun z => g9 x (by rw [z]; simp)) (g7 x), ?_, fun x hx => g9 x (List.mem_append_left _ hx)⟩
      simp only [List.length_append, List.length_cons, List.length_nil] at g8
      omega
theorem run_step {F Wt : List Sta} {x : Sta} (hw : W2 n w) (h : Run n w F (Wt ++ [x])) {F' Wt' : List Sta} (e : addAll (behL n w x) F Wt = (F', Wt')) : Run n w F' Wt' ∧ F'.length + Wt.length = F.length + Wt'.length := by
  have hx := h.sub x (by simp)
  have wn := List.nodup_append.mp h.wn
  obtain ⟨g1, g2, g3, g4, g5, g6, g7, g8, g9⟩ := add_run (z := x) (behL n w x) F Wt (fun y hy => beh_gd hw (h.gd x hx) hy) h.nd h.gd h.fst (fun y hy => h.sub y (List.mem_append_left _ hy)) wn.1
    (fun y hy => (h.cl y hy).elim (fun z => (List.mem_append.mp z).elim (fun q => .inr (.inl q)) (fun q => by rw [List.mem_singleton] at q; exact .inl q)) (fun z => .inr (.inr z))) F' Wt' e
  refine ⟨⟨g1, g2, g3, g4, g5, fun y hy => (g6 y hy).elim (fun z => ?_) id⟩, g8⟩
  subst z
  exact .inr g7
theorem first_nodup (h1 : 1 ≤ n) (h5 : n ≤ 5) : (firstL n).Nodup := by
  have : n = 1 ∨ n = 2 ∨ n = 3 ∨ n = 4 ∨ n = 5 := by omega
  rcases this with rfl | rfl | rfl | rfl | rfl <;> decide +kernel
theorem first_run (h1 : 1 ≤ n) (h5 : n ≤ 5) : Run n w (firstL n) (firstL n) := ⟨first_nodup h1 h5, fun _ => first_gd, fun _ h => h, fun _ h => h, first_nodup h1 h5, fun _ h => .inl h⟩
end
end K22
end
section
set_option Elab.async false
set_option linter.all false
set_option maxRecDepth 100000
set_option maxHeartbeats 0
/-! states as values -/
namespace K22
open PySem E2
def encS (x : Sta) : PV := .tup [.int x.1, .int x.2.1, .tup (x.2.2.1.map .int), .int x.2.2.2]
def nkS (x : Sta) : NestedKey := .tup [.num x.1, .num x.2.1, .tup (x.2.2.1.map .num), .num x.2.2.2]
def dS (x : Sta) : PyData := .tuple [.int x.1, .int x.2.1, .tuple (x.2.2.1.map .int), .int x.2.2.2]
theorem nkL_ints : ∀ ps : List Int, nkL (ps.map .int) = some (ps.map .num)
  | [] => rfl
  | p :: r => by simp [nkL, nk, nkL_ints r]
theorem nk_enc (x : Sta) : nk (encS x) = some (nkS x) := by simp [encS, nkS, nk, nkL, nkL_ints]
theorem dpl_ints : ∀ ps : List Int, NestedKey.depthAll (ps.map .num) = 0
  | [] => rfl
  | p :: r => by simp [NestedKey.depthAll, NestedKey.depth, dpl_ints r]
theorem dep_enc (x : Sta) : (nkS x).depth ≤ 8 := by simp [nkS, NestedKey.depth, NestedKey.depthAll, dpl_ints]
theorem nkT_enc (x : Sta) : nkT (encS x) = some (nkS x) := by
  have h := nk_enc x
  unfold encS at h ⊢
  simp only [nkT, h, dep_enc, if_true]
theorem num_inj : ∀ {ps qs : List Int}, ps.map NestedKey.num = qs.map NestedKey.num → ps = qs
  | [], [], _ => rfl
  | [], _ :: _, h => by simp at h
  | _ :: _, [], h => by simp at h
  | p :: r, q :: t, h => by
    simp only [List.map_cons, List.cons.injEq, NestedKey.num.injEq] at h
    rw [h.1, num_inj h.2]
theorem nkS_inj {x y : Sta} (h : nkS x = nkS y) : x = y := by
  obtain ⟨b, d, ps, s⟩ := x
  obtain ⟨b', d', ps', s'⟩ := y
  simp only [nkS, NestedKey.tup.injEq, List.cons.injEq, NestedKey.num.injEq] at h
  obtain ⟨rfl, rfl, h, rfl, _⟩ := h
  rw [num_inj h]
theorem nkL_enc : ∀ L : List Sta, nkL (L.map encS) = some (L.map nkS)
  | [] => rfl
  | x :: r => by simp [nkL, nk_enc, nkL_enc r]
theorem mem_nkS {L : List Sta} {x : Sta} : nkS x ∈ L.map nkS ↔ x ∈ L := by
  rw [List.mem_map]
  exact ⟨fun ⟨y, hy, e⟩ => nkS_inj e ▸ hy, fun h => ⟨x, h, rfl⟩⟩
theorem has_enc {L : List Sta} {x : Sta} : hasN (L.map encS) (nkS x) = decide (x ∈ L) := by
  unfold hasN
  rw [nkL_enc]
  simp only [mem_nkS]
theorem putN_enc {L : List Sta} {x : Sta} : putN (L.map encS) (encS x) (nkS x) = (if x ∈ L then L else L ++ [x]).map encS := by
  unfold putN
  rw [has_enc]
  by_cases h : x ∈ L <;> simp [h]
theorem in_enc {T : Store} {q : Nat} {m g : Bool} {L : List Sta} {x : Sta} (h : T[q]? = some (m, .dts (L.map encS))) : oIn g (encS x) (.ref q) T = .ok (.bl (if g then !decide (x ∈ L) else decide (x ∈ L))) T := by
  have e : isIn (encS x) (.ref q) T = some (decide (x ∈ L)) := by
    simp only [isIn, drf_ref h, nkT_enc, nkL_enc, mem_nkS]
  simp [oIn, e]
/-! ### as data -/
theorem toDL_ints : ∀ ps : List Int, toDL (ps.map .int) = some (ps.map .int)
  | [] => rfl
  | p :: r => by simp [toDL, toD, toDL_ints r]
theorem toD_enc (x : Sta) : toD (encS x) = some (dS x) := by simp [encS, dS, toD, toDL, toDL_ints]
theorem toDL_enc : ∀ L : List Sta, toDL (L.map encS) = some (L.map dS)
  | [] => rfl
  | x :: r => by simp [toDL, toD_enc, toDL_enc r]
theorem alike_ints : ∀ ps qs : List Int, W.alikeAll (ps.map .int) (qs.map .int) = true
  | [], [] => rfl
  | [], _ :: _ => rfl
  | _ :: _, [] => rfl
  | p :: r, q :: t => by simp [W.alikeAll, W.alike, alike_ints r t]
theorem alike_dS (x y : Sta) : W.alike (dS x) (dS y) = true := by simp [dS, W.alike, W.alikeAll, alike_ints]
theorem depth_ints : ∀ ps : List Int, PyData.depthAll (ps.map .int) = 0
  | [] => rfl
  | p :: r => by simp [PyData.depthAll, PyData.depth, depth_ints r]
theorem depth_dS (x : Sta) : (dS x).depth ≤ 4 := by simp [dS, PyData.depth, PyData.depthAll, depth_ints]
theorem kOk_enc (L : List Sta) : kOk (L.map dS) = true := by
  unfold kOk
  simp only [Bool.and_eq_true, Bool.or_eq_true, List.all_map, List.all_eq_true, Function.comp, decide_eq_true_eq]
  exact ⟨⟨fun x _ y _ => alike_dS x y, .inl fun x _ => rfl⟩, fun x _ => by have := depth_dS x; omega⟩
theorem lay_ints : ∀ ps : List Int, PyData.canLayAll0 (ps.map .int) = true
  | [] => rfl
  | p :: r => by simp [PyData.canLayAll0, PyData.canLay0, lay_ints r]
theorem lay_dS (x : Sta) : (dS x).canLay0 = true := by simp [dS, PyData.canLay0, PyData.canLayAll0, lay_ints]
theorem lay_L : ∀ L : List Sta, PyData.canLayAll0 (L.map dS) = true
  | [] => rfl
  | x :: r => by simp [PyData.canLayAll0, lay_dS, lay_L r]
theorem depth_L : ∀ L : List Sta, PyData.depthAll (L.map dS) ≤ 4
  | [] => by simp [PyData.depthAll]
  | x :: r => by
    have := depth_dS x
    have := depth_L r
    simp only [List.map_cons, PyData.depthAll]
    omega
theorem sh_enc (L : List Sta) : ShOk (L.map encS) := by
  refine ⟨L.map dS, by simp [toD, toDL_enc], ?_, by simp⟩
  unfold SeqAt.shaped
  have := depth_L L
  have e : (PyData.list (L.map dS)).depth = PyData.depthAll (L.map dS) + 1 := by rw [PyData.depth]
  have c : (PyData.list (L.map dS)).canLay0 = true := by rw [PyData.canLay0]; exact lay_L L
  rw [c, e, Bool.true_and, decide_eq_true_eq]
  omega
/-! ### their order -/
def ltS (x y : Sta) : Bool := W.dataLt (dS x) (dS y)
theorem lt_enc {S : Store} {x y : Sta} : oLt (encS x) (encS y) S = .ok (.bl (ltS x y)) S := by
  have e1 := toD_enc x
  have e2 := toD_enc y
  have a := alike_dS x y
  have d := depth_dS x
  have i1 : asInts [PV.int x.1, .int x.2.1, .tup (x.2.2.1.map .int), .int x.2.2.2] = none := by simp [asInts]
  unfold encS at *
  simp only [toD, Option.map_eq_some_iff] at e1 e2
  obtain ⟨ds, h1, h2⟩ := e1
  obtain ⟨es, h3, h4⟩ := e2
  simp only [oLt, u_tup, i1, h1, h3, h2, h4, a, Bool.true_and]
  rw [if_pos (by rw [decide_eq_true_eq]; omega)]
  rfl
theorem toks_ints : ∀ (ps qs : List Int) (r t : List (Int ⊕ List Nat)), W.keyToksAll (ps.map .int) ++ r = W.keyToksAll (qs.map .int) ++ t → ps = qs ∧ r = t
  | [], [], r, t, h => by simpa [W.keyToksAll] using h
  | [], q :: qs, r, t, h => by simp [W.keyToksAll, W.keyToks] at h
  | p :: ps, [], r, t, h => by simp [W.keyToksAll, W.keyToks] at h
  | p :: ps, q :: qs, r, t, h => by
    simp only [List.map_cons, W.keyToksAll, W.keyToks, List.cons_append, List.nil_append, List.cons.injEq, Sum.inl.injEq, true_and] at h
    obtain ⟨a, b⟩ := toks_ints ps qs r t h.2
    exact ⟨by rw [h.1, a], b⟩
theorem toks_inj {x y : Sta} (h : W.keyToks (dS x) = W.keyToks (dS y)) : x = y := by
  obtain ⟨b, d, ps, s⟩ := x
  obtain ⟨b', d', ps', s'⟩ := y
  simp only [dS, W.keyToks, W.keyToksAll, List.cons_append, List.nil_append, List.cons.injEq, Sum.inl.injEq, true_and] at h
  obtain ⟨rfl, rfl, h⟩ := h
  have h2 := toks_ints ps ps' [.inl 1, .inl s, .inl 0] [.inl 1, .inl s', .inl 0] h
  obtain ⟨rfl, h3⟩ := h2
  cases h3
  rfl
theorem ltS_tri {x y : Sta} (h1 : ltS x y = false) (h2 : ltS y x = false) : x = y := toks_inj ((PyProof.Rows.listOrd PyProof.Rows.itemOrd).total _ _ h1 h2)
abbrev OO := PyProof.Rows.listOrd PyProof.Rows.itemOrd
theorem ltS_irr (x : Sta) : ltS x x = false := OO.irrefl (W.keyToks (dS x))
theorem ltS_tr {x y z : Sta} (h1 : ltS x y = true) (h2 : ltS y z = true) : ltS x z = true := OO.trans (W.keyToks (dS x)) (W.keyToks (dS y)) (W.keyToks (dS z)) h1 h2
theorem ltS_nt {x z : Sta} (y : Sta) (h : ltS x z = true) : ltS x y = true ∨ ltS y z = true := OO.negTrans (W.keyToks (dS x)) (W.keyToks (dS y)) (W.keyToks (dS z)) h
def leF (a b : Sta) : Bool := !ltS b a
theorem leF_tot (a b : Sta) (h : leF a b = false) : leF b a = true := by
  unfold leF at *
  rw [Bool.not_eq_false'] at h
  cases e : ltS a b with
  | false => rfl
  | true =>
    have z := ltS_tr h e
    rw [ltS_irr] at z
    cases z
theorem leF_trans (a b c : Sta) (h1 : leF a b = true) (h2 : leF b c = true) : leF a c = true := by
  unfold leF at *
  rw [Bool.not_eq_true'] at h1 h2
  cases e : ltS c a with
  | false => rfl
  | true =>
    rcases ltS_nt b e with z | z
    · rw [z] at h2; cases h2
    · rw [z] at h1; cases h1
def sortS (L : List Sta) : List Sta := isort leF L
theorem sort_enc (L : List Sta) : sortBy (L.map dS) (L.map encS) = (sortS L).map encS := by
  unfold sortBy sortS
  have e : (L.map dS).zip (L.map encS) = L.map fun x => (dS x, encS x) := by
    induction L with
    | nil => rfl
    | cons x r ih => simp [ih]
  rw [e, isort_map (le := leF) (fun x => (dS x, encS x)) (fun a b => rfl), List.map_map]
  rfl
theorem sortS_perm (L : List Sta) : (sortS L).Perm L := isort_perm leF L
theorem sortS_lt {L : List Sta} (h : L.Nodup) : (sortS L).Pairwise fun a b => ltS a b = true := by
  have hs := isort_sorted leF_tot leF_trans L
  have hn : (sortS L).Nodup := (sortS_perm L).nodup_iff.mpr h
  unfold sortS at *
  generalize isort leF L = M at *
  induction M with
  | nil => exact .nil
  | cons a r ih =>
    obtain ⟨a1, a2⟩ := List.pairwise_cons.mp hs
    obtain ⟨b1, b2⟩ := List.nodup_cons.mp hn
    refine List.pairwise_cons.mpr ⟨fun c hc => ?_, ih a2 b2⟩
    have z := a1 c hc
    unfold leF at z
    simp only [Bool.not_eq_true'] at z
    cases e : ltS a c with
    | true => rfl
    | false => exact absurd (ltS_tri e z) (fun q => b1 (q ▸ hc))
end K22
end
section
set_option Elab.async false
set_option linter.all false
set_option maxRecDepth 100000
set_option maxHeartbeats 0
/-! what the program reckons of states -/
namespace K22
open PySem E2
section
variable {k : Nat} {S : Store} {n : Int} {w : Str}
theorem first_vals (h1 : 1 ≤ n) (h5 : n ≤ 5) : (Lv G dfs 60 (k + 3) (k + 3)).f 18 [.int n] S = .ok (.lst ((firstL n).map encS)) S := by
  have : n = 1 ∨ n = 2 ∨ n = 3 ∨ n = 4 ∨ n = 5 := by omega
  rcases this with rfl | rfl | rfl | rfl | rfl <;> (rw [f18]; kernel_rfl)
theorem any_int {ps : List Int} {i : Int} : ((ps.map PV.int).any fun z => eqF z (.int i)) = decide (i ∈ ps) := by
  induction ps with
  | nil => simp
  | cons p r ih =>
    rw [List.map_cons, List.any_cons, ih]
    have : eqF (.int p) (.int i) = decide (i = p) := by
      show (p == i) = _
      by_cases h : p = i
      · subst h; simp
      · simp [h, Ne.symm h]
    rw [this]
    by_cases h : i = p <;> simp [h]
theorem flat_ints {ps : List Int} : (ps.map PV.int).all flatP = true := by
  rw [List.all_eq_true]
  intro x hx
  obtain ⟨p, _, rfl⟩ := List.mem_map.mp hx
  rfl
theorem in_tupI {ps : List Int} {i : Int} {g : Bool} : oIn g (.int i) (.tup (ps.map .int)) S = .ok (.bl (if g then !decide (i ∈ ps) else decide (i ∈ ps))) S := by
  have e : isIn (.int i) (.tup (ps.map .int)) S = some (decide (i ∈ ps)) := by
    simp only [isIn, u_tup, flat_ints, any_int]
    rfl
  simp [oIn, e]
theorem thk_enc {x : Sta} : isThk (encS x) = false := rfl
theorem next_vals (hn : 0 < n) {x : Sta} : (Lv G dfs 60 (k + 3) (k + 3)).f 19 [.int n, encS x] S = .ok (encS (nextS n x)) S := by
  rw [f19]
  obtain ⟨b, d, ps, s⟩ := x
  have e : encS (b, d, ps, s) = .tup [.int b, .int d, .tup (ps.map .int), .int s] := rfl
  rw [e]
  by_cases h : (b + d) % n ∈ ps
  · simp [d19, startF, dVar, i1, i4, dSeq, dAsg, bindG, setAll, oMod_pos hn, dBl, in_tupI, h, encS, nextS, sizeLine_eq]
  · simp [d19, startF, dVar, i1, i4, dSeq, dAsg, bindG, setAll, oMod_pos hn, dBl, in_tupI, h, encS, nextS, sizeLine_eq]
def b20 (Φ : Nat → Phi) (k : Nat) : DS := (dSeq (dIf (dBl (dBin (oIn false) (dVar 8) (dVar 5))) (dSeq dCont dNext) dNext) (dSeq (dIf (dBl (dBin oEq (dVar 1) (dC (.str "left")))) (dSeq (dDrop (dMeth .list oAppend (dVar 7) (dCons (dCallL oTup (dCons (dVar 3) (dCons (dVar 4) (dCons (dCallL oTupOf (dCons (dCallL oSortedD (dCons (dLc finV (dSeqI (dCallL oTup (dStar (dVar 5) (dCons (dVar 8) dNil)))) (.name 9) dYes (dCallL oInt (dCons (dVar 9) dNil)) [9]) dNil)) dNil)) (dCons (dVar 6) dNil))))) dNil))) dNext) (dSeq (dIf (dTru (dCallL oAll (dCons (dLc finV (dSeqI (dVar 5)) (.name 9) dYes (dCallL (callOp 6 ((Φ (k + 2)).f 10) []) (dCons (dVar 0) (dCons (dVar 1) (dCons (dVar 3) (dCons (dBin oSub (dVar 4) (dC (.int 1))) (dCons (dVar 9) (dCons (dVar 8) dNil))))))) [9]) dNil))) (dSeq (dDrop (dMeth .list oAppend (dVar 7) (dCons (dCallL oTup (dCons (dVar 3) (dCons (dVar 4) (dCons (dCallL oTup (dCons (dVar 8) dNil)) (dCons (dVar 6) dNil))))) dNil))) dNext) dNext) dNext)) dNext))
def fr20 (n : Int) (w : Str) (x : Sta) (q : Nat) (x8 x9 : Option PV) : E2.Frame := [some (.int n), some (.str w), some (encS x), some (.int x.1), some (.int x.2.1), some (.tup (x.2.2.1.map .int)), some (.int x.2.2.2), some (.ref q), x8, x9]
theorem pages_rng : rngP 0 n.toNat = (pages n).map .int := by
  rw [rngP_map]
  unfold pages
  rw [List.map_map]
  refine List.map_congr_left fun i _ => ?_
  simp
theorem asInts_ints : ∀ ps : List Int, asInts (ps.map .int) = some ps
  | [] => rfl
  | p :: r => by simp [asInts, asInts_ints r]
theorem sort_vals {ps : List Int} : oSortedD [.lst (ps.map .int)] S = .ok (.lst ((isort leI ps).map .int)) S := by
  simp only [oSortedD, u_lst, asInts_ints]
theorem wipeF_len : ∀ (own : List Nat) (fr : E2.Frame), (wipeF fr own).length = fr.length
  | [], fr => rfl
  | i :: r, fr => by
    rw [wipeF, List.length_set, wipeF_len r]
theorem ints_lc {fr : E2.Frame} {e : DE} {v : Nat} {own : List Nat} {ps : List Int} (h : dSeqI e fr S = .ok (ps.map .int) S) (hl : ps.length ≤ 1000) (hv : v < fr.length) : dLc finV (dSeqI e) (.name v) dYes (dCallL oInt (dCons (dVar v) dNil)) own fr S = .ok (.lst (ps.map .int)) S := by
  rw [lc_eq h, lcV (p := fun _ => true) (f := fun i => PV.int i) ps [] (by rw [sizeLine_eq]; simp; omega) (fun i hi => ?_)]
  · simp [finV, List.filter_eq_self.mpr]
  · refine ⟨_, rfl, rfl, fun _ => ?_⟩
    have : ((wipeF fr own).set v (some (PV.int i)))[v]? = some (some (.int i)) := by
      rw [List.getElem?_set_self]
      rw [wipeF_len]
      exact hv
    simp [dVar, this, i1]
theorem forGo_ct {t : Tgt} {b : DS} {x : PV} {r : List PV} {fr fr2 fr3 : E2.Frame} {S S3 : Store} (h1 : bindG S t x fr = some fr2) (h2 : b fr2 S = .ct fr3 S3) : forGo t b (x :: r) fr S = forGo t b r fr3 S3 := by simp only [forGo, h1, h2]
theorem b20_skip {x : Sta} {q : Int} {x9 : Option PV} {r : Nat} (h : q ∈ x.2.2.1) : b20 (Lv G dfs 60 (k + 5)) (k + 3) (fr20 n w x r (some (.int q)) x9) S = .ct (fr20 n w x r (some (.int q)) x9) S := by
  simp [b20, fr20, dSeq, dVar, i1, i4, dBl, in_tupI, h, dCont]
theorem app20 {x : Sta} {y : PV} {acc : List PV} {fr : E2.Frame} {a : DE} (hf : fr[7]? = some (some (.ref S.length))) (ha : acc.length < sizeLine) (h : ∀ T, a fr T = .ok y T) : dDrop (dMeth .list oAppend (dVar 7) (dCons a dNil)) fr (S ++ [(true, .lst acc)]) = .nx fr (S ++ [(true, .lst (acc ++ [y]))]) := by
  have v : ∀ T, dVar 7 fr T = .ok (.ref S.length) T := fun T => dVar_of hf rfl
  simp [dMeth, v, ty_top, h, app_top ha]
theorem cond20 (hn : 0 < n) (hw : W3 w) {x : Sta} {q : Int} {x9 : Option PV} {r : Nat} (hl : x.2.2.1.length ≤ 100) : dTru (dCallL oAll (dCons (dLc finV (dSeqI (dVar 5)) (.name 9) dYes (dCallL (callOp 6 ((Lv G dfs 60 (k + 5) (k + 3 + 2)).f 10) []) (dCons (dVar 0) (dCons (dVar 1) (dCons (dVar 3) (dCons (dBin oSub (dVar 4) (dC (.int 1))) (dCons (dVar 9) (dCons (dVar 8) dNil))))))) [9]) dNil)) (fr20 n w x r (some (.int q)) x9) S = .ok (x.2.2.1.all fun p => leB n w x.1 (x.2.1 - 1) p q) S := by
  have hi : dSeqI (dVar 5) (fr20 n w x r (some (.int q)) x9) S = .ok (x.2.2.1.map .int) S := seqI_tup (by simp [fr20, dVar, i4])
  have e : dLc finV (dSeqI (dVar 5)) (.name 9) dYes (dCallL (callOp 6 ((Lv G dfs 60 (k + 5) (k + 3 + 2)).f 10) []) (dCons (dVar 0) (dCons (dVar 1) (dCons (dVar 3) (dCons (dBin oSub (dVar 4) (dC (.int 1))) (dCons (dVar 9) (dCons (dVar 8) dNil))))))) [9] (fr20 n w x r (some (.int q)) x9) S = .ok (.lst ((x.2.2.1.map fun p => leB n w x.1 (x.2.1 - 1) p q).map .bl)) S := by
    rw [lc_eq hi, lcV (p := fun _ => true) (f := fun p => PV.bl (leB n w x.1 (x.2.1 - 1) p q)) _ [] (by rw [sizeLine_eq]; simp; omega) (fun p hp => ?_)]
    · simp [finV, List.filter_eq_self.mpr]
    · exact ⟨_, rfl, rfl, fun _ => by simp [fr20, wipeF, dVar, i1, i2, callOp, g10 (k := k) hn hw]⟩
  rw [dTru, u_dCallL, u_dCons, e]
  simp only [u_bok, u_dNil, all_bls, u_tbl]
  simp
theorem b20_no (hn : 0 < n) (hw : W3 w) {x : Sta} {q : Int} {x9 : Option PV} {r : Nat} (hl : x.2.2.1.length ≤ 100) (h : q ∉ x.2.2.1) (hc : movC n w x q = false) : b20 (Lv G dfs 60 (k + 5)) (k + 3) (fr20 n w x r (some (.int q)) x9) S = .nx (fr20 n w x r (some (.int q)) x9) S := by
  unfold movC at hc
  have h1 : decide (q ∉ x.2.2.1) = true := by simpa using h
  rw [h1, Bool.true_and, Bool.or_eq_false_iff] at hc
  have hc2 := cond20 (k := k) (S := S) (q := q) (x9 := x9) (r := r) hn hw hl
  rw [hc.2] at hc2
  have hl : w ≠ "left" := by simpa using hc.1
  have e0 : oEq (.str w) (.str "left") S = .ok (.bl false) S := by rw [eqLeft hw]; simp [hl]
  have v1 : dVar 1 (fr20 n w x r (some (.int q)) x9) S = .ok (.str w) S := by simp [fr20, dVar, i2]
  have t1 : dBl (dBin (oIn false) (dVar 8) (dVar 5)) (fr20 n w x r (some (.int q)) x9) S = .ok false S := by simp [fr20, dVar, i1, i4, dBl, in_tupI, h]
  have t2 : dBl (dBin oEq (dVar 1) (dC (.str "left"))) (fr20 n w x r (some (.int q)) x9) S = .ok false S := by simp [dBl, v1, e0]
  simp only [b20]
  simp [dSeq, t1, t2, hc2]
theorem b20_yes (hn : 0 < n) (hw : W3 w) {x : Sta} {q : Int} {x9 : Option PV} {acc : List PV} (hl : x.2.2.1.length ≤ 100) (ha : acc.length < sizeLine) (hc : movC n w x q = true) : b20 (Lv G dfs 60 (k + 5)) (k + 3) (fr20 n w x S.length (some (.int q)) x9) (S ++ [(true, .lst acc)]) = .nx (fr20 n w x S.length (some (.int q)) x9) (S ++ [(true, .lst (acc ++ [encS (movF w x q)]))]) := by
  unfold movC at hc
  rw [Bool.and_eq_true, Bool.or_eq_true] at hc
  have h : q ∉ x.2.2.1 := by simpa using hc.1
  have v1 : ∀ T, dVar 1 (fr20 n w x S.length (some (.int q)) x9) T = .ok (.str w) T := fun T => by simp [fr20, dVar, i2]
  have t1 : ∀ T, dBl (dBin (oIn false) (dVar 8) (dVar 5)) (fr20 n w x S.length (some (.int q)) x9) T = .ok false T := fun T => by simp [fr20, dVar, i1, i4, dBl, in_tupI, h]
  have v3 : ∀ T, dVar 3 (fr20 n w x S.length (some (.int q)) x9) T = .ok (.int x.1) T := fun T => by simp [fr20, dVar, i1]
  have v4 : ∀ T, dVar 4 (fr20 n w x S.length (some (.int q)) x9) T = .ok (.int x.2.1) T := fun T => by simp [fr20, dVar, i1]
  have v6 : ∀ T, dVar 6 (fr20 n w x S.length (some (.int q)) x9) T = .ok (.int x.2.2.2) T := fun T => by simp [fr20, dVar, i1]
  have v8 : ∀ T, dVar 8 (fr20 n w x S.length (some (.int q)) x9) T = .ok (.int q) T := fun T => by simp [fr20, dVar, i1]
  by_cases hw2 : w = "left"
  · subst hw2
    have e0 : ∀ T, oEq (.str "left") (.str "left") T = .ok (.bl true) T := fun _ => by kernel_rfl
    have t2 : ∀ T, dBl (dBin oEq (dVar 1) (dC (.str "left"))) (fr20 n "left" x S.length (some (.int q)) x9) T = .ok true T := fun T => by
      rw [dBl, u_dBin, v1, u_bok, u_dC, u_bok, e0]
      rfl
    have e : ∀ T, (dCallL oTup (dCons (dVar 3) (dCons (dVar 4) (dCons (dCallL oTupOf (dCons (dCallL oSortedD (dCons (dLc finV (dSeqI (dCallL oTup (dStar (dVar 5) (dCons (dVar 8) dNil)))) (.name 9) dYes (dCallL oInt (dCons (dVar 9) dNil)) [9]) dNil)) dNil)) (dCons (dVar 6) dNil))))) (fr20 n "left" x S.length (some (.int q)) x9) T = .ok (encS (movF "left" x q)) T := fun T => by
      have hi : dSeqI (dCallL oTup (dStar (dVar 5) (dCons (dVar 8) dNil))) (fr20 n "left" x S.length (some (.int q)) x9) T = .ok ((x.2.2.1 ++ [q]).map .int) T := seqI_tup (by
        have v5 : dVar 5 (fr20 n "left" x S.length (some (.int q)) x9) T = .ok (.tup (x.2.2.1.map .int)) T := by simp [fr20, dVar, i4]
        simp only [u_dCallL, dStar, v5, u_bok, u_dCons, v8, u_dNil]
        rw [u_tup_ (by rw [sizeLine_eq]; simp; omega)]
        simp)
      have := ints_lc (v := 9) (own := [9]) hi (by simp; omega) (by simp [fr20])
      simp only [u_dCallL, u_dCons, v3, v4, v6, this, u_bok, u_dNil, sort_vals, u_tupL]
      rw [u_tup_ (by simp [sizeLine_eq])]
      rfl
    simp only [b20]
    refine (seq_nx (S' := S ++ [(true, .lst acc)]) (fr' := fr20 n "left" x S.length (some (.int q)) x9) (by simp [t1])).trans ?_
    refine (seq_nx ?_).trans rfl
    rw [u_dIf, t2]
    simp only [u_lok, if_true]
    exact (seq_nx (app20 (x := x) (fr := fr20 n "left" x S.length (some (.int q)) x9) (by rfl) ha e)).trans rfl
  · have t2 : ∀ T, dBl (dBin oEq (dVar 1) (dC (.str "left"))) (fr20 n w x S.length (some (.int q)) x9) T = .ok false T := fun T => by simp [dBl, v1, eqLeft hw, hw2]
    have hc2 := fun T => cond20 (k := k) (S := T) (q := q) (x9 := x9) (r := S.length) hn hw hl
    have hc3 : (x.2.2.1.all fun p => leB n w x.1 (x.2.1 - 1) p q) = true := hc.2.resolve_left (by simpa using hw2)
    rw [hc3] at hc2
    have e : ∀ T, (dCallL oTup (dCons (dVar 3) (dCons (dVar 4) (dCons (dCallL oTup (dCons (dVar 8) dNil)) (dCons (dVar 6) dNil))))) (fr20 n w x S.length (some (.int q)) x9) T = .ok (encS (movF w x q)) T := fun T => by
      simp only [u_dCallL, u_dCons, v3, v4, v6, v8, u_bok, u_dNil]
      rw [u_tup_ (by simp [sizeLine_eq]), u_bok, u_bok, u_bok, u_bok, u_tup_ (by simp [sizeLine_eq])]
      unfold movF
      rw [if_neg hw2]
      rfl
    simp only [b20]
    refine (seq_nx (S' := S ++ [(true, .lst acc)]) (fr' := fr20 n w x S.length (some (.int q)) x9) (by simp [t1])).trans ?_
    refine (seq_nx ?_).trans rfl
    rw [u_dIf, t2]
    simp only [u_lok, Bool.false_eq_true, if_false]
    refine (seq_nx ?_).trans rfl
    rw [u_dIf, hc2]
    simp only [u_lok, if_true]
    exact (seq_nx (app20 (x := x) (fr := fr20 n w x S.length (some (.int q)) x9) (by rfl) ha e)).trans rfl
theorem go20 (hn : 0 < n) (hw : W3 w) {x : Sta} (hl : x.2.2.1.length ≤ 100) : ∀ (L : List Int) (acc : List Sta) (x8 x9 : Option PV), acc.length + L.length ≤ 1000 →
    ∃ x8', forGo (.name 8) (b20 (Lv G dfs 60 (k + 5)) (k + 3)) (L.map .int) (fr20 n w x S.length x8 x9) (S ++ [(true, .lst (acc.map encS))]) = .nx (fr20 n w x S.length x8' x9) (S ++ [(true, .lst ((acc ++ (L.filter (movC n w x)).map (movF w x)).map encS))])
  | [], acc, x8, x9, _ => ⟨x8, by simp [forGo]⟩
  | q :: r, acc, x8, x9, ha => by
    simp only [List.length_cons] at ha
    have bd : ∀ T, bindG T (.name 8) (.int q) (fr20 n w x S.length x8 x9) = some (fr20 n w x S.length (some (.int q)) x9) := fun T => rfl
    rw [List.map_cons]
    by_cases hm : q ∈ x.2.2.1
    · obtain ⟨x8', e⟩ := go20 hn hw hl r acc (some (.int q)) x9 (by omega)
      have hf : movC n w x q = false := by simp [movC, hm]
      refine ⟨x8', ?_⟩
      rw [forGo_ct (bd _) (b20_skip hm), e, List.filter_cons, if_neg (by rw [hf]; simp)]
    · cases hc : movC n w x q with
      | false =>
        obtain ⟨x8', e⟩ := go20 hn hw hl r acc (some (.int q)) x9 (by omega)
        refine ⟨x8', ?_⟩
        rw [forGo_next (bd _) (b20_no hn hw hl hm hc), e, List.filter_cons, if_neg (by rw [hc]; simp)]
      | true =>
        obtain ⟨x8', e⟩ := go20 hn hw hl r (acc ++ [movF w x q]) (some (.int q)) x9 (by simp; omega)
        refine ⟨x8', ?_⟩
        have := b20_yes (k := k) (S := S) (x9 := x9) (acc := acc.map encS) hn hw hl (by rw [sizeLine_eq]; simp; omega) hc
        rw [show acc.map encS ++ [encS (movF w x q)] = (acc ++ [movF w x q]).map encS by simp] at this
        rw [forGo_next (bd _) this, e, List.filter_cons, if_pos hc, List.map_cons, List.append_assoc]
        rfl
theorem mov_vals (hn : 0 < n) (h6 : n ≤ 6) (hw : W3 w) {x : Sta} (hl : x.2.2.1.length ≤ 100) : (Lv G dfs 60 (k + 6) (k + 6)).f 20 [.int n, .str w, encS x] S = .ok (.lst ((movL n w x).map encS)) (S ++ [(false, .lst ((movL n w x).map encS))]) := by
  rw [f20 (k + 3)]
  show resOf (dSeq (dAsg (.tup [3, 4, 5, 6]) (dVar 2)) (dSeq (dAsg (.name 7) (dCallL oLstR dNil)) (dSeq (dFor (dRng1 (dCons (dVar 0) dNil)) (.name 8) (b20 (Lv G dfs 60 (k + 5)) (k + 3))) (dSeq (dRet (dVarF 7)) dNext))) _ S) = _
  have c1 : ∀ r : DS, dSeq (dAsg (.tup [3, 4, 5, 6]) (dVar 2)) (dSeq (dAsg (.name 7) (dCallL oLstR dNil)) r) (startF ["pages", "rule", "state", "begin", "done", "places", "seen", "found", "page", "place"] [.int n, .str w, encS x]) S = r (fr20 n w x S.length none none) (S ++ [(true, .lst [])]) := fun r => by
    simp [dSeq, dAsg, startF, dVar, thk_enc, bindG, encS, setAll, fr20, sizeLine_eq, isThk]
  rw [c1]
  obtain ⟨x8', e⟩ := go20 (k := k) (S := S) hn hw hl (pages n) [] none none (by rw [pages_len]; simp; omega)
  have h3 : dRng1 (dCons (dVar 0) dNil) (fr20 n w x S.length none none) (S ++ [(true, .lst [])]) = .ok ((pages n).map .int) (S ++ [(true, .lst [])]) := by rw [← pages_rng]; exact rng1_eq (by simp [fr20, dVar, i1]) (by omega) (by omega)
  rw [seq_for_nx h3 e, List.nil_append]
  show resOf (dSeq (dRet (dVarF 7)) dNext _ (S ++ [(true, .lst ((movL n w x).map encS))])) = _
  simp [dSeq, frz_top (i := 7) (fr := fr20 n w x S.length x8' none) (S := S) (by rfl)]
theorem beh_vals (hn : 0 < n) (h6 : n ≤ 6) (hw : W3 w) {x : Sta} (hl : x.2.2.1.length ≤ 100) : ∃ r, (Lv G dfs 60 (k + 7) (k + 7)).f 21 [.int n, .str w, encS x] S = .ok (.lst ((behL n w x).map encS)) (S ++ r) := by
  rw [f21 (k + 4)]
  have ix1 : ∀ T, oIx (encS x) (.int 1) T = .ok (.int x.2.1) T := fun T => rfl
  have sF : startF ["pages", "rule", "state"] [.int n, .str w, encS x] = [some (.int n), some (.str w), some (encS x)] := by simp [startF]
  rw [sF]
  by_cases hd : x.2.1 = n
  · refine ⟨[], ?_⟩
    have e : behL n w x = [] := by unfold behL; rw [if_pos hd]
    rw [e]
    simp [d21, dSeq, dVar, i1, thk_enc, ix1, dBl, hd, sizeLine_eq]
  · have nx := fun T => next_vals (k := k + 3) (S := T) hn (x := x)
    by_cases h0 : 0 < x.2.1
    · refine ⟨[(false, .lst ((movL n w x).map encS))], ?_⟩
      have mv := mov_vals (k := k) (S := S) hn h6 hw hl
      have e : behL n w x = nextS n x :: movL n w x := by unfold behL; rw [if_neg hd, if_pos h0]
      have ll : (movL n w x).length ≤ 6 := by
        unfold movL
        rw [List.length_map]
        exact Nat.le_trans (List.length_filter_le _ _) (by rw [pages_len]; omega)
      rw [e]
      simp only [d21, dSeq, u_dIf, dBl, u_dBin]
      simp [dBl, dVar, i1, i2, thk_enc, ix1, hd, h0, callOp, nx, mv, sizeLine_eq]
      rw [addL (by rw [sizeLine_eq]; simp; omega)]
      simp
    · refine ⟨[], ?_⟩
      have e : behL n w x = [nextS n x] := by unfold behL; rw [if_neg hd, if_neg h0]
      rw [e]
      simp only [d21, dSeq, u_dIf, dBl, u_dBin]
      simp [dBl, dVar, i1, i2, thk_enc, ix1, hd, h0, callOp, nx, sizeLine_eq]
      rw [addL (by rw [sizeLine_eq]; simp)]
      simp
/-! ### the dict of states -/
theorem dcN_vals {fr : E2.Frame} {v q : Nat} (hv : v < fr.length) : ∀ (L A : List Sta) (T : Store), T[q]? = some (true, .dts (A.map encS)) → (A ++ L).Nodup → A.length + L.length ≤ 100000 →
    dcNGo (.name v) dYes (dVar v) (dC (.bl true)) fr q (L.map encS) T = .ok (.ref q) (T.set q (true, .dts ((A ++ L).map encS)))
  | [], A, T, hT, _, _ => by
    have : T.set q (true, .dts ((A ++ []).map encS)) = T := by
      rw [List.append_nil]
      exact List.ext_getElem? fun j => by
        by_cases hj : q = j
        · subst hj
          rw [List.getElem?_set_self (List.getElem?_eq_some_iff.mp hT).1, hT]
        · rw [List.getElem?_set_ne hj]
    rw [this]
    rfl
  | x :: r, A, T, hT, hn, hl => by
    simp only [List.length_cons] at hl
    have bd : bindG T (.name v) (encS x) fr = some (fr.set v (some (encS x))) := rfl
    have dv : dVar v (fr.set v (some (encS x))) T = .ok (encS x) T := dVar_of (List.getElem?_set_self hv) rfl
    have hm : mutDts T (.ref q) = some (q, A.map encS) := by simp only [mutDts, hT]
    have nx : x ∉ A := fun h => (List.nodup_append.mp hn).2.2 x h x (List.mem_cons_self ..) rfl
    have hlt : (A.map encS).length < sizeLine := by rw [sizeLine_eq]; simp; omega
    have hq := (List.getElem?_eq_some_iff.mp hT).1
    have pe : putN (A.map encS) (encS x) (nkS x) = (A ++ [x]).map encS := by rw [putN_enc, if_neg nx]
    rw [List.map_cons, dcNGo]
    simp only [bd, u_dYes, u_nok, u_bok, if_true, dv, u_dC, hm, nkT_enc, if_pos hlt, pe]
    rw [dcN_vals hv r (A ++ [x]) _ (List.getElem?_set_self hq) (by rw [List.append_assoc]; exact hn) (by simp; omega), List.set_set, List.append_assoc]
    rfl
structure TT (S T : Store) (F Wt : List Sta) : Prop where
  f : T[S.length]? = some (true, .dts (F.map encS))
  w : T[S.length + 1]? = some (true, .lst (Wt.map encS))
  k : ∀ (i : Nat) (c : Bool × PV), S[i]? = some c → T[i]? = some c
theorem TT.app {T : Store} {F Wt : List Sta} (h : TT S T F Wt) (r : Store) : TT S (T ++ r) F Wt :=
  ⟨by rw [List.getElem?_append_left (List.getElem?_eq_some_iff.mp h.f).1]; exact h.f, by rw [List.getElem?_append_left (List.getElem?_eq_some_iff.mp h.w).1]; exact h.w, fun i c e => by
    have z := h.k i c e
    rw [List.getElem?_append_left (List.getElem?_eq_some_iff.mp z).1]; exact z⟩
theorem TT.setW {T : Store} {F Wt : List Sta} (h : TT S T F Wt) (Wt' : List Sta) : TT S (T.set (S.length + 1) (true, .lst (Wt'.map encS))) F Wt' :=
  ⟨by rw [List.getElem?_set_ne (by omega)]; exact h.f, List.getElem?_set_self (List.getElem?_eq_some_iff.mp h.w).1, fun i c e => by
    have hi := (List.getElem?_eq_some_iff.mp e).1
    rw [List.getElem?_set_ne (by omega)]; exact h.k i c e⟩
theorem TT.setF {T : Store} {F Wt : List Sta} (h : TT S T F Wt) (F' : List Sta) : TT S (T.set S.length (true, .dts (F'.map encS))) F' Wt :=
  ⟨List.getElem?_set_self (List.getElem?_eq_some_iff.mp h.f).1, by rw [List.getElem?_set_ne (by omega)]; exact h.w, fun i c e => by
    have hi := (List.getElem?_eq_some_iff.mp e).1
    rw [List.getElem?_set_ne (by omega)]; exact h.k i c e⟩
def b22 : DS := (dSeq (dIf (dBl (dBin (oIn true) (dVar 4) (dVar 2))) (dSeq (dSetIx (dVar 2) (dVar 4) (dC (.bl true))) (dSeq (dDrop (dMeth .list oAppend (dVar 3) (dCons (dVar 4) dNil))) dNext)) dNext) dNext)
def fr22 (n : Int) (w : Str) (q : Nat) (x4 : Option PV) : E2.Frame := [some (.int n), some (.str w), some (.ref q), some (.ref (q + 1)), x4]
theorem set_enc {T : Store} {q : Nat} {F : List Sta} {x : Sta} (h : T[q]? = some (true, .dts (F.map encS))) (hl : F.length < 100000) (hx : x ∉ F) : oSet (.ref q) (encS x) (.bl true) T = some (T.set q (true, .dts ((F ++ [x]).map encS))) := by
  have m1 : mutLst T (.ref q) = none := by simp only [mutLst, h]
  have m2 : mutDct T (.ref q) = none := by simp only [mutDct, h]
  have m3 : mutDts T (.ref q) = some (q, F.map encS) := by simp only [mutDts, h]
  simp only [oSet, m1, m2, m3, nkT_enc]
  rw [if_pos (by rw [sizeLine_eq]; simp; omega), putN_enc, if_neg hx]
theorem b22_in {T : Store} {F Wt : List Sta} {x : Sta} (h : TT S T F Wt) (hx : x ∈ F) : b22 (fr22 n w S.length (some (encS x))) T = .nx (fr22 n w S.length (some (encS x))) T := by
  have v4 : dVar 4 (fr22 n w S.length (some (encS x))) T = .ok (encS x) T := rfl
  have v2 : dVar 2 (fr22 n w S.length (some (encS x))) T = .ok (.ref S.length) T := rfl
  simp [b22, dSeq, dBl, v4, v2, in_enc h.f, hx]
theorem b22_new {T : Store} {F Wt : List Sta} {x : Sta} (h : TT S T F Wt) (hx : x ∉ F) (h1 : F.length < 100000) (h2 : Wt.length < 100000) : ∃ T', b22 (fr22 n w S.length (some (encS x))) T = .nx (fr22 n w S.length (some (encS x))) T' ∧ TT S T' (F ++ [x]) (Wt ++ [x]) := by
  have v4 : ∀ T, dVar 4 (fr22 n w S.length (some (encS x))) T = .ok (encS x) T := fun _ => rfl
  have v2 : ∀ T, dVar 2 (fr22 n w S.length (some (encS x))) T = .ok (.ref S.length) T := fun _ => rfl
  have v3 : ∀ T, dVar 3 (fr22 n w S.length (some (encS x))) T = .ok (.ref (S.length + 1)) T := fun _ => rfl
  have g1 := h.setF (F ++ [x])
  have g2 := g1.setW (Wt ++ [x])
  refine ⟨_, ?_, g2⟩
  have ty := isTy_lst g1.w
  have ap := appAt (y := encS x) g1.w (by rw [sizeLine_eq]; simp; omega)
  simp only [b22]
  refine (seq_nx ?_).trans rfl
  have c : dBl (dBin (oIn true) (dVar 4) (dVar 2)) (fr22 n w S.length (some (encS x))) T = .ok true T := by simp [dBl, v4, v2, in_enc h.f, hx]
  rw [u_dIf, c]
  simp only [u_lok, if_true]
  refine (seq_nx (S' := T.set S.length (true, .dts ((F ++ [x]).map encS))) (fr' := fr22 n w S.length (some (encS x))) ?_).trans ?_
  · simp only [dSetIx, u_dC, u_lok, v2, v4, set_enc h.f h1 hx]
  · refine (seq_nx ?_).trans rfl
    simp only [u_dDrop, dMeth, v3, u_bok, ty, if_true, u_dCons, v4, u_dNil, ap, u_lok]
    simp
theorem go22 : ∀ (L F Wt : List Sta) (T : Store) (x4 : Option PV), TT S T F Wt → F.length + L.length ≤ 100000 → Wt.length + L.length ≤ 100000 →
    ∃ T' x4', forGo (.name 4) b22 (L.map encS) (fr22 n w S.length x4) T = .nx (fr22 n w S.length x4') T' ∧ TT S T' (addAll L F Wt).1 (addAll L F Wt).2
  | [], F, Wt, T, x4, h, _, _ => ⟨T, x4, rfl, h⟩
  | x :: r, F, Wt, T, x4, h, h1, h2 => by
    simp only [List.length_cons] at h1 h2
    have bd : bindG T (.name 4) (encS x) (fr22 n w S.length x4) = some (fr22 n w S.length (some (encS x))) := rfl
    rw [List.map_cons, addAll]
    by_cases hx : x ∈ F
    · rw [if_pos hx, forGo_next bd (b22_in h hx)]
      exact go22 r F Wt T _ h (by omega) (by omega)
    · obtain ⟨T1, e1, g1⟩ := b22_new (n := n) (w := w) h hx (by omega) (by omega)
      rw [if_neg hx, forGo_next bd e1]
      exact go22 r _ _ T1 _ g1 (by simp; omega) (by simp; omega)
theorem popLast {T : Store} {q : Nat} {Wt : List Sta} {x : Sta} (h : T[q]? = some (true, .lst ((Wt ++ [x]).map encS))) : oPop (.ref q) [] T = .ok (encS x) (T.set q (true, .lst (Wt.map encS))) := by
  have e := mutLst_ref h
  simp only [oPop, e]
  have : ((Wt ++ [x]).map encS)[((Wt ++ [x]).map encS).length - 1]? = some (encS x) := by simp
  rw [this]
  simp
def cw22 : DT := (dBl (dBin oNe (dVar 3) (dCallL oLst dNil)))
def w22 (Φ : Nat → Phi) (k : Nat) : DS := (dSeq (dFor (dSeqI (dCallL (callOp 3 ((Φ (k + 2)).f 21) []) (dCons (dVar 0) (dCons (dVar 1) (dCons (dMeth .list oPop (dVar 3) dNil) dNil))))) (.name 4) (dSeq (dIf (dBl (dBin (oIn true) (dVar 4) (dVar 2))) (dSeq (dSetIx (dVar 2) (dVar 4) (dC (.bl true))) (dSeq (dDrop (dMeth .list oAppend (dVar 3) (dCons (dVar 4) dNil))) dNext)) dNext) dNext)) dNext)
theorem beh_len (h6 : n ≤ 6) {x : Sta} : (behL n w x).length ≤ 7 := by
  unfold behL
  split
  · simp
  · split
    · have : (movL n w x).length ≤ 6 := by
        unfold movL
        rw [List.length_map]
        exact Nat.le_trans (List.length_filter_le _ _) (by rw [pages_len]; omega)
      simp only [List.length_cons]
      omega
    · simp
theorem asc_len {l : List Int} (h : l.Pairwise (· < ·)) (hr : ∀ p ∈ l, 0 ≤ p ∧ p < n) (h6 : n ≤ 6) : l.length ≤ 100 := by
  have := nodup_le (u := pages n) (nodup_of h) fun p hp => mem_pages.mpr (hr p hp)
  rw [pages_len] at this
  omega
theorem w22_run (h1 : 1 ≤ n) (h5 : n ≤ 5) (hw : W3 w) {F Wt : List Sta} {x : Sta} {T : Store} {x4 : Option PV} (h : TT S T F (Wt ++ [x])) (g : Gd n w x) (hF : F.length ≤ 2000) (hW : Wt.length ≤ 2000) :
    ∃ T' x4', w22 (Lv G dfs 60 (k + 7)) (k + 5) (fr22 n w S.length x4) T = .nx (fr22 n w S.length x4') T' ∧ TT S T' (addAll (behL n w x) F Wt).1 (addAll (behL n w x) F Wt).2 := by
  have hp := popLast h.w
  have g1 := h.setW Wt
  obtain ⟨r, e⟩ := beh_vals (k := k) (S := T.set (S.length + 1) (true, .lst (Wt.map encS))) (show 0 < n by omega) (by omega) hw (x := x) (asc_len g.asc g.rng (by omega))
  have bl := beh_len (n := n) (w := w) (by omega) (x := x)
  obtain ⟨T', x4', e2, g2⟩ := go22 (n := n) (w := w) (behL n w x) F Wt _ x4 (g1.app r) (by omega) (by omega)
  refine ⟨T', x4', ?_, g2⟩
  have v3 : dVar 3 (fr22 n w S.length x4) T = .ok (.ref (S.length + 1)) T := rfl
  have v0 : dVar 0 (fr22 n w S.length x4) T = .ok (.int n) T := rfl
  have v1 : dVar 1 (fr22 n w S.length x4) T = .ok (.str w) T := rfl
  have ty := isTy_lst h.w
  simp only [w22]
  refine (seq_for_nx (xs := (behL n w x).map encS) (S1 := T.set (S.length + 1) (true, .lst (Wt.map encS)) ++ r) (seqI_lst ?_) e2).trans rfl
  simp only [u_dCallL, u_dCons, v0, v1, u_bok, dMeth, v3, ty, if_true, u_dNil, hp]
  exact (call_eq (by rfl)).trans e
theorem while22 (h1 : 1 ≤ n) (h5 : n ≤ 5) (hw : W3 w) (hw2 : W2 n w) : ∀ (m : Nat) (F Wt : List Sta) (T : Store) (x4 : Option PV), Run n w F Wt → TT S T F Wt → 2000 - F.length + Wt.length < m →
    ∃ F' T' x4', whileGo cw22 (w22 (Lv G dfs 60 (k + 7)) (k + 5)) m (fr22 n w S.length x4) T = .nx (fr22 n w S.length x4') T' ∧ Run n w F' [] ∧ TT S T' F' []
  | 0, F, Wt, T, x4, _, _, hm => by omega
  | m + 1, F, Wt, T, x4, rn, tt, hm => by
    have v3 : dVar 3 (fr22 n w S.length x4) T = .ok (.ref (S.length + 1)) T := rfl
    have c : cw22 (fr22 n w S.length x4) T = .ok (!(Wt.map encS).isEmpty) T := by
      simp only [cw22, dBl, u_dBin, v3, u_bok, u_dCallL, u_dNil]
      rw [u_lst_ (by simp), u_bok, ne_nil tt.w (sh_enc Wt)]
      rfl
    rw [whileGo, c]
    simp only [u_lok]
    rcases List.eq_nil_or_concat Wt with rfl | ⟨W0, x, rfl⟩
    · exact ⟨F, T, x4, rfl, rn, tt⟩
    · rw [List.concat_eq_append] at *
      have hF := gd_len h1 h5 rn.nd rn.gd
      have hW := gd_len h1 h5 rn.wn fun y hy => rn.gd y (rn.sub y hy)
      rw [List.length_append] at hW hm
      simp only [List.length_cons, List.length_nil] at hW hm
      obtain ⟨T', x4', e, t2⟩ := w22_run (k := k) (x4 := x4) h1 h5 hw tt (rn.gd x (rn.sub x (by simp))) hF (by omega)
      obtain ⟨r2, hl⟩ := run_step hw2 rn (F' := (addAll (behL n w x) F W0).1) (Wt' := (addAll (behL n w x) F W0).2) rfl
      have hF2 := gd_len h1 h5 r2.nd r2.gd
      obtain ⟨F2, T2, x42, e2, r3, t3⟩ := while22 h1 h5 hw hw2 m _ _ T' x4' r2 t2 (by omega)
      refine ⟨F2, T2, x42, ?_, r3, t3⟩
      rw [if_pos (by simp), e]
      exact e2
/-- a list of states that shows that none is missed -/
structure Clo (n : Int) (w : Str) (L : List Sta) : Prop where
  lt : L.Pairwise fun a b => ltS a b = true
  nd : L.Nodup
  gd : ∀ x ∈ L, Gd n w x
  fst : ∀ x ∈ firstL n, x ∈ L
  cl : ∀ x ∈ L, ∀ y ∈ behL n w x, y ∈ L
theorem all_vals (h1 : 1 ≤ n) (h5 : n ≤ 5) (hw : W3 w) (hw2 : W2 n w) : ∃ L T, (Lv G dfs 60 (k + 8) (k + 8)).f 22 [.int n, .str w] S = .ok (.lst (L.map encS)) T ∧ (∀ (i : Nat) (c : Bool × PV), S[i]? = some c → T[i]? = some c) ∧ Clo n w L := by
  rw [f22 (k + 5)]
  have sF : startF ["pages", "rule", "found", "waiting", "state"] [.int n, .str w] = [some (.int n), some (.str w), none, none, none] := by simp [startF]
  rw [sF]
  have fv := first_vals (k := k + 4) (S := S) h1 h5
  have hl : (firstL n).length ≤ 2000 := gd_len (w := w) h1 h5 (first_nodup h1 h5) fun _ => first_gd
  have i1' : dSeqI (dCallL (callOp 1 ((Lv G dfs 60 (k + 7) (k + 5 + 2)).f 18) []) (dCons (dVar 0) dNil)) [some (.int n), some (.str w), none, none, none] S = .ok ((firstL n).map encS) S := seqI_lst (by
    simp only [u_dCallL, u_dCons, u_dNil]
    rw [show dVar 0 [some (.int n), some (.str w), none, none, none] S = .ok (.int n) S from rfl]
    simp only [u_bok]
    exact (call_eq (by rfl)).trans fv)
  have c1 : dAsg (.name 2) (dDcN (dSeqI (dCallL (callOp 1 ((Lv G dfs 60 (k + 7) (k + 5 + 2)).f 18) []) (dCons (dVar 0) dNil))) (.name 4) dYes (dVar 4) (dC (.bl true)) [4]) [some (.int n), some (.str w), none, none, none] S = .nx [some (.int n), some (.str w), some (.ref S.length), none, none] (S ++ [(true, .dts ((firstL n).map encS))]) := by
    have := dcN_vals (fr := wipeF [some (.int n), some (.str w), none, none, none] [4]) (v := 4) (q := S.length) (by rw [wipeF_len]; simp) (firstL n) [] (S ++ [(true, .dts [])]) (by simp) (by simpa using first_nodup h1 h5) (by simp; omega)
    simp only [dAsg, dDcN, i1', u_bok, this, u_lok]
    simp [bindG]
  have c2 : dAsg (.name 3) (dCallL oLstOfR (dCons (dVar 2) dNil)) [some (.int n), some (.str w), some (.ref S.length), none, none] (S ++ [(true, .dts ((firstL n).map encS))]) = .nx (fr22 n w S.length none) ((S ++ [(true, .dts ((firstL n).map encS))]) ++ [(true, .lst ((firstL n).map encS))]) := by
    have v2 : ∀ T, dVar 2 [some (.int n), some (.str w), some (.ref S.length), none, none] T = .ok (.ref S.length) T := fun _ => rfl
    have d2 : drf (S ++ [(true, .dts ((firstL n).map encS))]) (.ref S.length) = .dts ((firstL n).map encS) := drf_ref (m := true) (by simp)
    simp only [dAsg, u_dCallL, u_dCons, v2, u_bok, u_dNil, oLstOfR, d2, u_lok]
    simp [bindG, fr22]
  have tt : TT S ((S ++ [(true, .dts ((firstL n).map encS))]) ++ [(true, .lst ((firstL n).map encS))]) (firstL n) (firstL n) := by
    refine ⟨by simp, by simp, fun i c e => ?_⟩
    have hi := (List.getElem?_eq_some_iff.mp e).1
    rw [List.append_assoc, List.getElem?_append_left hi]
    exact e
  obtain ⟨F', T', x4', e, rn, t2⟩ := while22 (k := k) (S := S) h1 h5 hw hw2 100000 (firstL n) (firstL n) _ none (first_run h1 h5) tt (by omega)
  refine ⟨sortS F', T', ?_, t2.k, sortS_lt rn.nd, (sortS_perm F').nodup_iff.mpr rn.nd, fun x hx => rn.gd x ((sortS_perm F').mem_iff.mp hx), fun x hx => (sortS_perm F').mem_iff.mpr (rn.fst x hx), fun x hx y hy => (sortS_perm F').mem_iff.mpr ((rn.cl x ((sortS_perm F').mem_iff.mp hx)).resolve_left (by simp) y hy)⟩
  show resOf (dSeq _ (dSeq _ (dSeq (whileGo cw22 (w22 (Lv G dfs 60 (k + 7)) (k + 5)) 100000) (dSeq (dRet (dCallL oSortedD (dCons (dVar 2) dNil))) dNext))) _ S) = _
  rw [seq_nx c1, seq_nx c2, seq_nx e]
  have v2 : dVar 2 (fr22 n w S.length x4') T' = .ok (.ref S.length) T' := rfl
  have so : oSortedD [.ref S.length] T' = .ok (.lst ((sortS F').map encS)) T' := by
    simp only [oSortedD, drf_ref t2.f, toDL_enc, kOk_enc, if_true, sort_enc]
  simp [dSeq, v2, so]
end
end K22
end
section
set_option Elab.async false
set_option linter.all false
set_option maxRecDepth 100000
set_option maxHeartbeats 0
/-! the told paper is accepted -/
namespace K22
open PySem E2
section
variable {k : Nat} {S : Store} {n : Int} {w : Str}
theorem cut_tail {xs : List PV} : cutP xs (some 1) none = xs.drop 1 := by
  unfold cutP
  have e2 : HT.sIx xs.length xs.length none = xs.length := rfl
  have e1 : HT.sIx xs.length 0 (some 1) = min 1 xs.length := by
    unfold HT.sIx
    simp only
    rw [if_neg (by omega)]
    omega
  rw [e1, e2]
  cases xs with
  | nil => rfl
  | cons a r =>
    have : min 1 (a :: r).length = 1 := by simp only [List.length_cons]; omega
    rw [this, List.take_of_length_le (by simp)]
def adjB {α : Type} (lt : α → α → Bool) (L : List α) : Bool := ((L.zip (L.drop 1)).map fun p => lt p.1 p.2).all id
theorem adj_of {α : Type} {lt : α → α → Bool} : ∀ {L : List α}, L.Pairwise (fun a b => lt a b = true) → adjB lt L = true
  | [], _ => rfl
  | [a], _ => rfl
  | a :: b :: r, h => by
    obtain ⟨h1, h2⟩ := List.pairwise_cons.mp h
    have ih := adj_of h2
    unfold adjB at ih ⊢
    simp only [List.drop_succ_cons, List.drop_zero, List.zip_cons_cons, List.map_cons, List.all_cons, h1 b (List.mem_cons_self ..), id, Bool.true_and]
    exact ih
theorem zip_vals {α : Type} {val : α → PV} : ∀ (L M : List α), zipP (L.map val) (M.map val) = (L.zip M).map fun p => .pr [val p.1, val p.2]
  | [], _ => rfl
  | _ :: _, [] => rfl
  | a :: L, b :: M => by
    rw [List.map_cons, List.map_cons, zipP, zip_vals L M]
    rfl
theorem asc_vals {α : Type} {val : α → PV} {lt : α → α → Bool} {L : List α} {v : PV} (hv : Sq v (L.map val)) (hl : L.length ≤ 100000) (ht : ∀ a, isThk (val a) = false) (h : ∀ a b S, oLt (val a) (val b) S = .ok (.bl (lt a b)) S) : (Lv G dfs 60 (k + 3) (k + 3)).f 3 [v] S = .ok (.bl (adjB lt L)) S := by
  rw [f3]
  have sF : startF ["value", "one", "other"] [v] = [some v, none, none] := by simp [startF]
  rw [sF]
  have v0 : dVar 0 [some v, none, none] S = .ok v S := dVar_of rfl hv.thk
  have hz : dZip (dCons (dVar 0) (dCons (dSl (dVar 0) (dPart (dC (.int 1))) dNoPart) dNil)) [some v, none, none] S = .ok ((L.zip (L.drop 1)).map fun p => .pr [val p.1, val p.2]) S := by
    rw [← zip_vals, List.map_drop]
    rcases hv with rfl | rfl
    · simp [dZip, v0, cut_tail]
    · simp [dZip, v0, cut_tail]
  have e : dLc finV (dZip (dCons (dVar 0) (dCons (dSl (dVar 0) (dPart (dC (.int 1))) dNoPart) dNil))) (.tup [1, 2]) dYes (dBin oLt (dVar 1) (dVar 2)) [1, 2] [some v, none, none] S = .ok (.lst (((L.zip (L.drop 1)).map fun p => lt p.1 p.2).map .bl)) S := by
    rw [lc_eq hz, lcV (val := fun p : α × α => .pr [val p.1, val p.2]) (p := fun _ => true) (f := fun p => PV.bl (lt p.1 p.2)) _ [] (by rw [sizeLine_eq]; simp; omega) (fun p hp => ?_)]
    · simp [finV, List.filter_eq_self.mpr]
    · refine ⟨[some v, some (val p.1), some (val p.2)], by simp [bindG, drf, setAll, wipeF], rfl, fun _ => ?_⟩
      simp [dVar, ht, h]
  simp only [d3]
  refine (congrArg resOf (seq_rt (v := .bl (adjB lt L)) (S' := S) ?_)).trans rfl
  simp only [u_dRet, u_dCallL, u_dCons, e, u_bok, u_dNil, all_bls, u_lok]
  rfl
theorem or_f {a b : DE} {F : E2.Frame} {S1 : Store} (h : a F S = .ok (.bl false) S1) : dOrV a b F S = b F S1 := by simp [dOrV, h]
theorem num_vals {i lo hi : Int} (h1 : lo ≤ i) (h2 : i ≤ hi) : (Lv G dfs 60 (k + 4) (k + 4)).f 1 [.int i, .int lo, .int hi] S = .ok (.bl true) S := by
  rw [e1]
  simp [inR, h1, h2]
theorem places_vals (hw : W3 w) {x : Sta} (h : Gd n w x) (h6 : n ≤ 6) : (Lv G dfs 60 (k + 5) (k + 5)).f 24 [.int n, .str w, .tup (x.2.2.1.map .int)] S = .ok (.bl true) S := by
  have hl := asc_len h.asc h.rng h6
  rw [f24 (k + 2)]
  have sF : startF ["pages", "rule", "value", "page"] [.int n, .str w, .tup (x.2.2.1.map .int)] = [some (.int n), some (.str w), some (.tup (x.2.2.1.map .int)), none] := by simp [startF]
  rw [sF]
  have hi : dSeqI (dVar 2) [some (.int n), some (.str w), some (.tup (x.2.2.1.map .int)), none] S = .ok (x.2.2.1.map .int) S := seqI_tup rfl
  have e : dLc finV (dSeqI (dVar 2)) (.name 3) dYes (dCallL (callOp 3 ((Lv G dfs 60 (k + 4) (k + 2 + 2)).f 1) []) (dCons (dVar 3) (dCons (dC (.int 0)) (dCons (dBin oSub (dVar 0) (dC (.int 1))) dNil)))) [3] [some (.int n), some (.str w), some (.tup (x.2.2.1.map .int)), none] S = .ok (.lst ((x.2.2.1.map fun _ => true).map .bl)) S := by
    rw [lc_eq hi, lcV (p := fun _ => true) (f := fun _ => PV.bl true) _ [] (by rw [sizeLine_eq]; simp; omega) (fun p hp => ?_)]
    · simp [finV, List.filter_eq_self.mpr]
    · have pr := h.rng p hp
      refine ⟨_, rfl, rfl, fun _ => ?_⟩
      simp [wipeF, dVar, i1, callOp, num_vals (k := k) (S := S) (i := p) (lo := 0) (hi := n - 1) pr.1 (by omega)]
  have as := asc_vals (k := k + 1) (S := S) (val := PV.int) (lt := fun a b => decide (a < b)) (L := x.2.2.1) (.inr rfl) (by omega) (fun _ => rfl) (fun a b S => u_lt)
  rw [adj_of (h.asc.imp fun h => by simpa using h)] at as
  have aT : (x.2.2.1.map fun _ => true).all id = true := by simp
  have c1 : ((x.2.2.1.length : Nat) : Int) = 1 ∨ (w = "left" ∧ 1 < ((x.2.2.1.length : Nat) : Int)) := by
    have : 0 < x.2.2.1.length := List.length_pos_iff.mpr h.ne
    rcases h.one with z | z
    · exact .inl (by omega)
    · by_cases h1 : x.2.2.1.length = 1
      · exact .inl (by omega)
      · exact .inr ⟨z, by omega⟩
  have v2 : dVar 2 [some (.int n), some (.str w), some (.tup (x.2.2.1.map .int)), none] S = .ok (.tup (x.2.2.1.map .int)) S := rfl
  have v1 : dVar 1 [some (.int n), some (.str w), some (.tup (x.2.2.1.map .int)), none] S = .ok (.str w) S := rfl
  have ln : oLen [.tup (x.2.2.1.map .int)] S = .ok (.int (x.2.2.1.length : Nat)) S := by simp
  have isi : oIsi [.tup (x.2.2.1.map .int), .ty .tuple] S = .ok (.bl true) S := by simp [oIsi, tyOf, isI]
  simp only [d24]
  have g1 : ∀ r : DS, dSeq (dIf (dOrT (dNotT (dTru (dCallL oIsi (dCons (dVar 2) (dCons (dC (.ty .tuple)) dNil))))) (dNotT (dTru (dCallL oAll (dCons (dLc finV (dSeqI (dVar 2)) (.name 3) dYes (dCallL (callOp 3 ((Lv G dfs 60 (k + 4) (k + 2 + 2)).f 1) []) (dCons (dVar 3) (dCons (dC (.int 0)) (dCons (dBin oSub (dVar 0) (dC (.int 1))) dNil)))) [3]) dNil))))) (dSeq (dRet (dC (.bl false))) dNext) dNext) r [some (.int n), some (.str w), some (.tup (x.2.2.1.map .int)), none] S = r [some (.int n), some (.str w), some (.tup (x.2.2.1.map .int)), none] S := fun r => by
    refine seq_nx ?_
    simp only [u_dIf, u_dOrT, u_dNotT, dTru, u_dCallL, u_dCons, v2, u_bok, u_dC, u_dNil, isi, u_tbl, e, all_bls, aT]
    rfl
  rw [g1]
  have cl : callOp 1 ((Lv G dfs 60 (k + 4) (k + 2 + 2)).f 3) [] [.tup (x.2.2.1.map .int)] S = .ok (.bl true) S := (call_eq (by rfl)).trans as
  refine (congrArg resOf (seq_rt (v := .bl true) (S' := S) ?_)).trans rfl
  rw [u_dRet]
  rw [and_t (S1 := S) (by simp only [u_dCallL, u_dCons, v2, u_bok, u_dNil, cl])]
  rcases c1 with z | ⟨z1, z2⟩
  · simp [dOrV, v2, ln, z]
  · have e0 : oEq (.str w) (.str "left") S = .ok (.bl true) S := by rw [eqLeft hw, z1]; simp
    by_cases z : ((x.2.2.1.length : Nat) : Int) = 1
    · simp [dOrV, v2, ln, z]
    · have z3 : ¬ x.2.2.1.length = 1 := by omega
      have z4 : 1 < x.2.2.1.length := by omega
      have en : dBin oEq (dCallL oLen (dCons (dVar 2) dNil)) (dC (.int 1)) [some (.int n), some (.str w), some (.tup (x.2.2.1.map .int)), none] S = .ok (.bl false) S := by
        simp only [u_dBin, u_dCallL, u_dCons, v2, u_bok, u_dNil, ln, u_dC, u_eqI]
        rw [decide_eq_false z]
      have et : dAndV (dBin oEq (dVar 1) (dC (.str "left"))) (dBin (oCmpI fun i j => decide (j < i)) (dCallL oLen (dCons (dVar 2) dNil)) (dC (.int 1))) [some (.int n), some (.str w), some (.tup (x.2.2.1.map .int)), none] S = .ok (.bl true) S := by
        rw [and_t (S1 := S) (by simp only [u_dBin, v1, u_bok, u_dC, e0])]
        simp only [u_dBin, u_dCallL, u_dCons, v2, u_bok, u_dNil, ln, u_dC, u_cmp]
        rw [decide_eq_true z2]
      rw [or_f en, et]
      rfl
theorem state_vals (hw : W3 w) {x : Sta} (h : Gd n w x) (h6 : n ≤ 6) : (Lv G dfs 60 (k + 6) (k + 6)).f 25 [.int n, .str w, encS x] S = .ok (.bl true) S := by
  rw [f25 (k + 3)]
  have sF : startF ["pages", "rule", "value"] [.int n, .str w, encS x] = [some (.int n), some (.str w), some (encS x)] := by simp [startF]
  rw [sF]
  have pl := places_vals (k := k) (S := S) hw h h6
  have h1 := h.b0
  have h2 := h.bn
  have h3 := h.d0
  have h4 := h.dn
  have n1 := num_vals (k := k + 1) (S := S) (i := x.1) (lo := 0) (hi := n - 1) h.b0 (by omega)
  have n2 := num_vals (k := k + 1) (S := S) (i := x.2.1) (lo := 0) (hi := n) h.d0 h.dn
  have n3 := num_vals (k := k + 1) (S := S) (i := x.2.2.2) (lo := 0) (hi := 1) (by rcases h.s with z | z <;> omega) (by rcases h.s with z | z <;> omega)
  have x0 : oIx (encS x) (.int 0) S = .ok (.int x.1) S := rfl
  have x1 : oIx (encS x) (.int 1) S = .ok (.int x.2.1) S := rfl
  have x2 : oIx (encS x) (.int 2) S = .ok (.tup (x.2.2.1.map .int)) S := rfl
  have x3 : oIx (encS x) (.int 3) S = .ok (.int x.2.2.2) S := rfl
  have ln : oLen [encS x] S = .ok (.int 4) S := rfl
  have isi : oIsi [encS x, .ty .tuple] S = .ok (.bl true) S := by simp [oIsi, tyOf, isI, encS]
  have v2 : dVar 2 [some (.int n), some (.str w), some (encS x)] S = .ok (encS x) S := rfl
  have v1 : dVar 1 [some (.int n), some (.str w), some (encS x)] S = .ok (.str w) S := rfl
  have v0 : dVar 0 [some (.int n), some (.str w), some (encS x)] S = .ok (.int n) S := rfl
  simp [d25, dSeq, dTru, dBl, v0, v1, v2, x0, x1, x2, x3, ln, isi, callOp, n1, n2, n3, pl, dAndV]
def b26 (Φ : Nat → Phi) (k : Nat) : DS := (dSeq (dIf (dAndT (dBl (dBin oEq (dBin oIx (dVar 4) (dC (.int 1))) (dVar 0))) (dBl (dBin oEq (dBin oIx (dVar 4) (dC (.int 3))) (dC (.int 0))))) (dSeq (dRet (dC (.bl false))) dNext) dNext) (dSeq (dIf (dNotT (dTru (dCallL oAll (dCons (dLc finV (dSeqI (dCallL (callOp 3 ((Φ (k + 2)).f 21) []) (dCons (dVar 0) (dCons (dVar 1) (dCons (dVar 4) dNil))))) (.name 5) dYes (dBin (oIn false) (dVar 5) (dVar 3)) [5]) dNil)))) (dSeq (dRet (dC (.bl false))) dNext) dNext) dNext))
def fr26 (n : Int) (w : Str) (L : List Sta) (q : Nat) (x4 x5 : Option PV) : E2.Frame := [some (.int n), some (.str w), some (.lst (L.map encS)), some (.ref q), x4, x5]
structure Kd (S T : Store) (L : List Sta) : Prop where
  f : T[S.length]? = some (true, .dts (L.map encS))
  k : ∀ (i : Nat) (c : Bool × PV), S[i]? = some c → T[i]? = some c
theorem Kd.app {T : Store} {L : List Sta} (h : Kd S T L) (r : Store) : Kd S (T ++ r) L :=
  ⟨by rw [List.getElem?_append_left (List.getElem?_eq_some_iff.mp h.f).1]; exact h.f, fun i c e => by
    have z := h.k i c e
    rw [List.getElem?_append_left (List.getElem?_eq_some_iff.mp z).1]; exact z⟩
theorem ins_lc {i : DI} {v v3 q : Nat} {fr : E2.Frame} {own : List Nat} {T T1 : Store} {L M : List Sta} (hi : i fr T = .ok (M.map encS) T1) (h3 : ∀ x, ((wipeF fr own).set v (some (encS x)))[v3]? = some (some (.ref q))) (hv : v < fr.length) (h : T1[q]? = some (true, .dts (L.map encS))) (hl : M.length ≤ 100000) (hs : ∀ x ∈ M, x ∈ L) :
    dTru (dCallL oAll (dCons (dLc finV i (.name v) dYes (dBin (oIn false) (dVar v) (dVar v3)) own) dNil)) fr T = .ok true T1 := by
  have e : dLc finV i (.name v) dYes (dBin (oIn false) (dVar v) (dVar v3)) own fr T = .ok (.lst ((M.map fun _ => true).map .bl)) T1 := by
    rw [lc_eq hi, lcV (p := fun _ => true) (f := fun _ => PV.bl true) _ [] (by rw [sizeLine_eq]; simp; omega) (fun x hx => ?_)]
    · simp [finV, List.filter_eq_self.mpr]
    · refine ⟨_, rfl, rfl, fun _ => ?_⟩
      have a1 : dVar v ((wipeF fr own).set v (some (encS x))) T1 = .ok (encS x) T1 := dVar_of (List.getElem?_set_self (by rw [wipeF_len]; exact hv)) rfl
      have a2 : dVar v3 ((wipeF fr own).set v (some (encS x))) T1 = .ok (.ref q) T1 := dVar_of (h3 x) rfl
      rw [u_dBin, a1, u_bok, a2, u_bok, in_enc h]
      simp [hs x hx]
  have aT : (M.map fun _ => true).all id = true := by simp
  rw [dTru, u_dCallL, u_dCons, e]
  simp only [u_bok, u_dNil, all_bls, u_tbl, aT]
theorem b26_run (h1 : 1 ≤ n) (h5 : n ≤ 5) (hw : W3 w) {L : List Sta} (c : Clo n w L) {x : Sta} (hx : x ∈ L) {T : Store} (t : Kd S T L) {x5 : Option PV} : ∃ r, b26 (Lv G dfs 60 (k + 7)) (k + 5) (fr26 n w L S.length (some (encS x)) x5) T = .nx (fr26 n w L S.length (some (encS x)) x5) (T ++ r) := by
  have g := c.gd x hx
  obtain ⟨r, e⟩ := beh_vals (k := k) (S := T) (show 0 < n by omega) (by omega) hw (x := x) (asc_len g.asc g.rng (by omega))
  have bl := beh_len (n := n) (w := w) (by omega) (x := x)
  refine ⟨r, ?_⟩
  have v0 : dVar 0 (fr26 n w L S.length (some (encS x)) x5) T = .ok (.int n) T := rfl
  have v1 : dVar 1 (fr26 n w L S.length (some (encS x)) x5) T = .ok (.str w) T := rfl
  have v4 : dVar 4 (fr26 n w L S.length (some (encS x)) x5) T = .ok (encS x) T := rfl
  have y1 : oIx (encS x) (.int 1) T = .ok (.int x.2.1) T := rfl
  have y3 : oIx (encS x) (.int 3) T = .ok (.int x.2.2.2) T := rfl
  have t1 : dAndT (dBl (dBin oEq (dBin oIx (dVar 4) (dC (.int 1))) (dVar 0))) (dBl (dBin oEq (dBin oIx (dVar 4) (dC (.int 3))) (dC (.int 0)))) (fr26 n w L S.length (some (encS x)) x5) T = .ok false T := by
    by_cases hd : x.2.1 = n
    · have := end_seen g hd
      simp [dBl, v4, y1, y3, v0, hd, this]
    · simp [dBl, v4, y1, v0, hd]
  have hi : dSeqI (dCallL (callOp 3 ((Lv G dfs 60 (k + 7) (k + 5 + 2)).f 21) []) (dCons (dVar 0) (dCons (dVar 1) (dCons (dVar 4) dNil)))) (fr26 n w L S.length (some (encS x)) x5) T = .ok ((behL n w x).map encS) (T ++ r) := seqI_lst (by
    simp only [u_dCallL, u_dCons, v0, v1, v4, u_bok, u_dNil]
    exact (call_eq (by rfl)).trans e)
  have t2 := ins_lc (v := 5) (v3 := 3) (q := S.length) (own := [5]) hi (fun y => rfl) (by simp [fr26]) (t.app r).f (by omega) (fun y hy => c.cl x hx y hy)
  simp only [b26]
  refine (seq_nx (S' := T) (fr' := fr26 n w L S.length (some (encS x)) x5) (by rw [u_dIf, t1]; rfl)).trans ?_
  refine (seq_nx ?_).trans rfl
  rw [u_dIf, u_dNotT, t2]
  rfl
theorem go26 (h1 : 1 ≤ n) (h5 : n ≤ 5) (hw : W3 w) {L : List Sta} (c : Clo n w L) {x5 : Option PV} : ∀ (M : List Sta) (T : Store) (x4 : Option PV), (∀ x ∈ M, x ∈ L) → Kd S T L → ∃ T' x4', forGo (.name 4) (b26 (Lv G dfs 60 (k + 7)) (k + 5)) (M.map encS) (fr26 n w L S.length x4 x5) T = .nx (fr26 n w L S.length x4' x5) T' ∧ Kd S T' L
  | [], T, x4, _, t => ⟨T, x4, rfl, t⟩
  | x :: M, T, x4, hM, t => by
    obtain ⟨r, e⟩ := b26_run (k := k) (x5 := x5) h1 h5 hw c (hM x (List.mem_cons_self ..)) t
    have bd : bindG T (.name 4) (encS x) (fr26 n w L S.length x4 x5) = some (fr26 n w L S.length (some (encS x)) x5) := rfl
    rw [List.map_cons, forGo_next bd e]
    exact go26 h1 h5 hw c M _ _ (fun y hy => hM y (List.mem_cons_of_mem _ hy)) (t.app r)
theorem none_vals (h1 : 1 ≤ n) (h5 : n ≤ 5) (hw : W3 w) {L : List Sta} (c : Clo n w L) : ∃ T, (Lv G dfs 60 (k + 8) (k + 8)).f 26 [.int n, .str w, .lst (L.map encS)] S = .ok (.bl true) T ∧ (∀ (i : Nat) (c : Bool × PV), S[i]? = some c → T[i]? = some c) := by
  have hL := gd_len h1 h5 c.nd c.gd
  have hF : (firstL n).length ≤ 2000 := gd_len (w := w) h1 h5 (first_nodup h1 h5) fun _ => first_gd
  rw [f26 (k + 5)]
  have sF : startF ["pages", "rule", "value", "known", "state", "later"] [.int n, .str w, .lst (L.map encS)] = [some (.int n), some (.str w), some (.lst (L.map encS)), none, none, none] := by simp [startF]
  rw [sF]
  generalize hf0 : ([some (.int n), some (.str w), some (.lst (L.map encS)), none, none, none] : E2.Frame) = f0
  have v2 : dVar 2 f0 S = .ok (.lst (L.map encS)) S := by subst hf0; rfl
  have v1 : ∀ {x4 : Option PV}, dVar 1 f0 S = .ok (.str w) S := by subst hf0; intro; rfl
  have s2 : dSeqI (dVar 2) f0 S = .ok (L.map encS) S := seqI_lst v2
  have l1 := e2 (k := k + 4) (S := S) (v := .lst (L.map encS)) (xs := L.map encS) (.inl rfl)
  have as := asc_vals (k := k + 4) (S := S) (val := encS) (lt := ltS) (L := L) (.inl rfl) (by omega) (fun _ => rfl) (fun a b S => lt_enc)
  rw [adj_of c.lt] at as
  have eL : dTru (dCallL oAll (dCons (dLc finV (dSeqI (dVar 2)) (.name 4) dYes (dCallL (callOp 3 ((Lv G dfs 60 (k + 7) (k + 5 + 2)).f 25) []) (dCons (dVar 0) (dCons (dVar 1) (dCons (dVar 4) dNil)))) [4]) dNil)) f0 S = .ok true S := by
    have e : dLc finV (dSeqI (dVar 2)) (.name 4) dYes (dCallL (callOp 3 ((Lv G dfs 60 (k + 7) (k + 5 + 2)).f 25) []) (dCons (dVar 0) (dCons (dVar 1) (dCons (dVar 4) dNil)))) [4] f0 S = .ok (.lst ((L.map fun _ => true).map .bl)) S := by
      rw [lc_eq s2, lcV (p := fun _ => true) (f := fun _ => PV.bl true) _ [] (by rw [sizeLine_eq]; simp; omega) (fun x hx => ?_)]
      · simp [finV, List.filter_eq_self.mpr]
      · subst hf0
        refine ⟨[some (.int n), some (.str w), some (.lst (L.map encS)), none, some (encS x), none], rfl, rfl, fun _ => ?_⟩
        have sv := state_vals (k := k + 1) (S := S) hw (c.gd x hx) (by omega)
        simp only [u_dCallL, u_dCons, u_dNil]
        rw [show dVar 0 [some (.int n), some (.str w), some (.lst (L.map encS)), none, some (encS x), none] S = .ok (.int n) S from rfl, u_bok, show dVar 1 [some (.int n), some (.str w), some (.lst (L.map encS)), none, some (encS x), none] S = .ok (.str w) S from rfl, u_bok, show dVar 4 [some (.int n), some (.str w), some (.lst (L.map encS)), none, some (encS x), none] S = .ok (encS x) S from rfl]
        simp only [u_bok]
        exact (call_eq (by rfl)).trans sv
    have aT : (L.map fun _ => true).all id = true := by simp
    rw [dTru, u_dCallL, u_dCons, e]
    simp only [u_bok, u_dNil, all_bls, u_tbl, aT]
  simp only [d26]
  have q1 : dOrT (dNotT (dTru (dCallL (callOp 1 ((Lv G dfs 60 (k + 7) (k + 5 + 2)).f 2) []) (dCons (dVar 2) dNil)))) (dNotT (dTru (dCallL oAll (dCons (dLc finV (dSeqI (dVar 2)) (.name 4) dYes (dCallL (callOp 3 ((Lv G dfs 60 (k + 7) (k + 5 + 2)).f 25) []) (dCons (dVar 0) (dCons (dVar 1) (dCons (dVar 4) dNil)))) [4]) dNil)))) f0 S = .ok false S := by
    have : dTru (dCallL (callOp 1 ((Lv G dfs 60 (k + 7) (k + 5 + 2)).f 2) []) (dCons (dVar 2) dNil)) f0 S = .ok true S := by
      rw [dTru, u_dCallL, u_dCons, v2]
      simp only [u_bok, u_dNil]
      rw [(call_eq (by rfl)).trans l1]
      rfl
    rw [u_dOrT, u_dNotT, this]
    simp only [u_bok, Bool.not_true, Bool.false_eq_true, if_false, u_dNotT, eL]
  have q2 : dNotT (dTru (dCallL (callOp 1 ((Lv G dfs 60 (k + 7) (k + 5 + 2)).f 3) []) (dCons (dVar 2) dNil))) f0 S = .ok false S := by
    rw [u_dNotT, dTru, u_dCallL, u_dCons, v2]
    simp only [u_bok, u_dNil]
    rw [(call_eq (by rfl)).trans as]
    rfl
  have hv : wipeF f0 [4] = f0 := by subst hf0; rfl
  have q3 : dAsg (.name 3) (dDcN (dSeqI (dVar 2)) (.name 4) dYes (dVar 4) (dC (.bl true)) [4]) f0 S = .nx (fr26 n w L S.length none none) (S ++ [(true, .dts (L.map encS))]) := by
    have := dcN_vals (fr := wipeF f0 [4]) (v := 4) (q := S.length) (by rw [hv]; subst hf0; simp) L [] (S ++ [(true, .dts [])]) (by simp) (by simpa using c.nd) (by simp; omega)
    simp only [dAsg, dDcN, s2, u_bok, this, u_lok]
    subst hf0
    simp [bindG, fr26]
  have kd : Kd S (S ++ [(true, .dts (L.map encS))]) L := ⟨by simp, fun i c e => by rw [List.getElem?_append_left (List.getElem?_eq_some_iff.mp e).1]; exact e⟩
  have fv := first_vals (k := k + 4) (S := S ++ [(true, .dts (L.map encS))]) h1 h5
  have hi : dSeqI (dCallL (callOp 1 ((Lv G dfs 60 (k + 7) (k + 5 + 2)).f 18) []) (dCons (dVar 0) dNil)) (fr26 n w L S.length none none) (S ++ [(true, .dts (L.map encS))]) = .ok ((firstL n).map encS) (S ++ [(true, .dts (L.map encS))]) := seqI_lst (by
    simp only [u_dCallL, u_dCons, u_dNil]
    rw [show dVar 0 (fr26 n w L S.length none none) (S ++ [(true, .dts (L.map encS))]) = .ok (.int n) (S ++ [(true, .dts (L.map encS))]) from rfl]
    simp only [u_bok]
    exact (call_eq (by rfl)).trans fv)
  have q4 := ins_lc (v := 4) (v3 := 3) (q := S.length) (own := [4]) hi (fun y => rfl) (by simp [fr26]) kd.f (by omega) (fun y hy => c.fst y hy)
  obtain ⟨T', x4', e5, kd'⟩ := go26 (k := k) (x5 := none) h1 h5 hw c L _ none (fun x hx => hx) kd
  have s5 : dSeqI (dVar 2) (fr26 n w L S.length none none) (S ++ [(true, .dts (L.map encS))]) = .ok (L.map encS) (S ++ [(true, .dts (L.map encS))]) := seqI_lst rfl
  refine ⟨T', ?_, kd'.k⟩
  rw [seq_nx (S' := S) (fr' := f0) (by rw [u_dIf, q1]; rfl), seq_nx (S' := S) (fr' := f0) (by rw [u_dIf, q2]; rfl), seq_nx q3, seq_nx (S' := S ++ [(true, .dts (L.map encS))]) (fr' := fr26 n w L S.length none none) (by rw [u_dIf, u_dNotT, q4]; rfl)]
  show resOf (dSeq (dFor (dSeqI (dVar 2)) (.name 4) (b26 (Lv G dfs 60 (k + 7)) (k + 5))) (dSeq (dRet (dC (.bl true))) dNext) _ _) = _
  rw [seq_for_nx s5 e5]
  rfl
end
end K22
end
section
set_option Elab.async false
set_option linter.all false
set_option maxRecDepth 100000
set_option maxHeartbeats 0
/-! drawn moves, and what is asked of them -/
namespace K22
open PySem E2
section
variable {k : Nat} {S : Store} {n b : Int} {w : Str}
def inH (lo hi i : Int) : Bool := decide (lo ≤ i) && decide (i < hi)
def okL (n : Int) (w : Str) (b bf sp : Int) (q : Int × Int) : Bool := inH bf (n - 1) q.1 && inH 0 n q.2 && mayB n w b (q.1 + 1) sp q.2
theorem okL_eq {bf sp : Int} {q : Int × Int} (hn : 0 < n) (h0 : 0 ≤ bf) (s0 : 0 ≤ sp) (s1 : sp < n) : okL n w b bf sp q = okS n w b bf sp q := by
  obtain ⟨m, t⟩ := q
  have e1 : inR bf (n - 2) m = inH bf (n - 1) m := by
    unfold inR inH
    congr 1
    exact decide_eq_decide.mpr (by omega)
  have e2 : inR 0 (n - 1) t = inH 0 n t := by
    unfold inR inH
    congr 1
    exact decide_eq_decide.mpr (by omega)
  unfold okL okS mvB
  simp only [e1, e2]
  cases h1 : inH bf (n - 1) m
  · simp
  cases h2 : inH 0 n t
  · simp
  unfold inH at h1 h2
  simp only [Bool.and_eq_true, decide_eq_true_eq] at h1 h2
  unfold mayB leB
  rw [inVis_eq hn (by omega) (by omega) s0 s1, inVis_eq hn (by omega) (by omega) h2.1 h2.2]
  simp [Bool.and_assoc, Bool.or_assoc]

theorem e17 {p : Int} (h : Ok n w b p) {v : PV} {xs : List (Int × Int)} (hv : Sq v (xs.map pairP)) (hl : xs.length ≤ 1000) (hf : fwS n w b 0 p xs = none) :
    (Lv G dfs 60 (k + 7) (k + 7)).f 17 [.int n, .str w, .int b, .int p, v] S = .ok (.int (visS n w b (plc p xs) 0 n.toNat).length) (S ++ [(false, .lst (visS n w b (plc p xs) 0 n.toNat))]) := by
  rw [f17 (k + 4)]
  have e := e12 (k := k) (S := S) (b := b) h.pos h.w3 (p := p) hv
  rw [hf] at e
  have h0 : oIs true PV.non .non S = .ok (.bl false) S := rfl
  simp [d17, startF, callOp, w13 h, e2 (k := k + 3) hv, e, retN, h0, e16 (k := k + 2) h.pos h.n6 h.w3 hv hl, dVar, i1, i2, i5, hv.thk, dSeq, dTru, dAsg, bindG, dBl]

/-! ### draws -/
theorem take_ok {q : Nat} : TakeOk q ((Lv G dfs 60 (k + 3) (k + 3)).f 36) := take_kp fun top S => by rw [f36]; rfl
theorem one_ok {q : Nat} {xs : List PV} (h : Src q S) (hx : xs ≠ []) (hl : xs.length ≤ 1000) : ∃ x ∈ xs, ∃ S', Kp q S S' ∧ (Lv G dfs 60 (k + 4) (k + 4)).f 37 [.ref q, .lst xs] S = .ok x S' := by
  obtain ⟨x, hm, S', a1, a2⟩ := one_kp (f := (Lv G dfs 60 (k + 3) (k + 3)).f 36) take_ok h hx hl
  refine ⟨x, hm, S', a1, ?_⟩
  rw [f37 (k + 1)]
  exact a2
/-! ### let moves, one behind the other -/
def endS : Int → Int → List (Int × Int) → Int × Int
  | bf, sp, [] => (bf, sp)
  | _, _, q :: r => endS q.1 q.2 r
theorem endS_snoc {q : Int × Int} : ∀ (xs : List (Int × Int)) (bf sp : Int), endS bf sp (xs ++ [q]) = q
  | [], _, _ => rfl
  | _ :: r, _, _ => endS_snoc r _ _
theorem fwS_snoc {q : Int × Int} : ∀ (xs : List (Int × Int)) (bf sp : Int), fwS n w b bf sp xs = none → okS n w b (endS bf sp xs).1 (endS bf sp xs).2 q = true → fwS n w b bf sp (xs ++ [q]) = none
  | [], bf, sp, _, h => by
    have h : okS n w b bf sp q = true := h
    simp [fwS, h]
  | a :: r, bf, sp, h1, h2 => by
    unfold fwS at h1
    rw [List.cons_append, fwS]
    split at h1
    · rename_i ho
      rw [if_pos ho, fwS_snoc r a.1 a.2 (by simpa using h1) h2]
      rfl
    · cases h1
def b41 (Φ : Nat → Phi) (k : Nat) : DS := (dSeq (dPar [10, 11] (dCons (dBin oAdd (dVar 7) (dCallL (callOp 2 ((Φ (k + 2)).f 36) []) (dCons (dVar 0) (dCons (dC (.int 3)) dNil)))) (dCons (dCallL (callOp 2 ((Φ (k + 2)).f 36) []) (dCons (dVar 0) (dCons (dVar 1) dNil))) dNil))) (dSeq (dIf (dAndT (dBl (dBin oLt (dVar 10) (dBin oSub (dVar 1) (dC (.int 1))))) (dTru (dCallL (callOp 6 ((Φ (k + 2)).f 39) []) (dCons (dVar 1) (dCons (dVar 2) (dCons (dVar 3) (dCons (dBin oAdd (dVar 10) (dC (.int 1))) (dCons (dVar 8) (dCons (dVar 11) dNil))))))))) (dSeq (dDrop (dMeth .list oAppend (dVar 6) (dCons (dCallL oTup (dCons (dVar 10) (dCons (dVar 11) dNil))) dNil))) (dSeq (dPar [7, 8] (dCons (dVar 10) (dCons (dVar 11) dNil))) dNext)) dNext) dNext))
def fr41 (q : Nat) (n : Int) (w : Str) (b p top : Int) (L : Nat) (bf ls : Int) (x9 x10 x11 : Option PV) : E2.Frame := [some (.ref q), some (.int n), some (.str w), some (.int b), some (.int p), some (.int top), some (.ref L), some (.int bf), some (.int ls), x9, x10, x11]
structure Mv (n : Int) (w : Str) (b p : Int) (q : Nat) (S T : Store) (xs : List (Int × Int)) : Prop where
  kp : Kp q S T
  cel : T[S.length]? = some (true, .lst (xs.map pairP))
  let_ : fwS n w b 0 p xs = none
  bf0 : 0 ≤ (endS 0 p xs).1
  bfn : (endS 0 p xs).1 ≤ 6
  s0 : 0 ≤ (endS 0 p xs).2
  sn : (endS 0 p xs).2 < n
theorem b41_run {p top : Int} (h : Ok n w b p) {q : Nat} {T : Store} {xs : List (Int × Int)} (hq : q < S.length) (m : Mv n w b p q S T xs) (hl : xs.length ≤ 100) {x9 y10 y11 : Option PV} :
    ∃ (xs' : List (Int × Int)) (T' : Store) (x10 x11 : Option PV), xs'.length ≤ xs.length + 1 ∧ Mv n w b p q S T' xs' ∧
      b41 (Lv G dfs 60 (k + 4)) (k + 2) (fr41 q n w b p top S.length (endS 0 p xs).1 (endS 0 p xs).2 x9 y10 y11) T = .nx (fr41 q n w b p top S.length (endS 0 p xs').1 (endS 0 p xs').2 x9 x10 x11) T' := by
  have hn := h.pos
  have h6 := h.n6
  obtain ⟨t3, T1, a1, a2, a3⟩ := take_ok (k := k + 1) T 3 m.kp.src (by omega) (by omega)
  obtain ⟨t, T2, c1, c2, c3⟩ := take_ok (k := k + 1) T1 n a2.src hn (by omega)
  have kp2 := (m.kp.trans a2).trans c2
  have cel2 : T2[S.length]? = some (true, .lst (xs.map pairP)) := c2.2 _ _ (by omega) (a2.2 _ _ (by omega) m.cel)
  generalize hbf : (endS 0 p xs).1 = bf at *
  generalize hls : (endS 0 p xs).2 = ls at *
  have bf0 := m.bf0
  have bfn := m.bfn
  have s0 := m.s0
  have sn := m.sn
  rw [hbf] at bf0 bfn
  rw [hls] at s0 sn
  have g1 : dPar [10, 11] (dCons (dBin oAdd (dVar 7) (dCallL (callOp 2 ((Lv G dfs 60 (k + 4) (k + 2 + 2)).f 36) []) (dCons (dVar 0) (dCons (dC (.int 3)) dNil)))) (dCons (dCallL (callOp 2 ((Lv G dfs 60 (k + 4) (k + 2 + 2)).f 36) []) (dCons (dVar 0) (dCons (dVar 1) dNil))) dNil)) (fr41 q n w b p top S.length bf ls x9 y10 y11) T = .nx (fr41 q n w b p top S.length bf ls x9 (some (.int (bf + t3))) (some (.int (t : Nat)))) T2 := by
    simp [dPar, fr41, callOp, dVar, isThk, a3, c3, setAll]
  have hm := e39 (k := k) (S := T2) (n := n) (b := b) (w := w) (d := bf + t3 + 1) (sp := ls) (t := t) hn h.w3 (by omega) (by omega)
  have v10 : dVar 10 (fr41 q n w b p top S.length bf ls x9 (some (.int (bf + t3))) (some (.int (t : Nat)))) T2 = .ok (.int (bf + t3)) T2 := rfl
  have v1 : dVar 1 (fr41 q n w b p top S.length bf ls x9 (some (.int (bf + t3))) (some (.int (t : Nat)))) T2 = .ok (.int n) T2 := rfl
  have v2 : dVar 2 (fr41 q n w b p top S.length bf ls x9 (some (.int (bf + t3))) (some (.int (t : Nat)))) T2 = .ok (.str w) T2 := rfl
  have v3 : dVar 3 (fr41 q n w b p top S.length bf ls x9 (some (.int (bf + t3))) (some (.int (t : Nat)))) T2 = .ok (.int b) T2 := rfl
  have v8 : dVar 8 (fr41 q n w b p top S.length bf ls x9 (some (.int (bf + t3))) (some (.int (t : Nat)))) T2 = .ok (.int ls) T2 := rfl
  have v11 : dVar 11 (fr41 q n w b p top S.length bf ls x9 (some (.int (bf + t3))) (some (.int (t : Nat)))) T2 = .ok (.int (t : Nat)) T2 := rfl
  have g2 : dAndT (dBl (dBin oLt (dVar 10) (dBin oSub (dVar 1) (dC (.int 1))))) (dTru (dCallL (callOp 6 ((Lv G dfs 60 (k + 4) (k + 2 + 2)).f 39) []) (dCons (dVar 1) (dCons (dVar 2) (dCons (dVar 3) (dCons (dBin oAdd (dVar 10) (dC (.int 1))) (dCons (dVar 8) (dCons (dVar 11) dNil)))))))) (fr41 q n w b p top S.length bf ls x9 (some (.int (bf + t3))) (some (.int (t : Nat)))) T2 = .ok (decide (bf + t3 < n - 1) && mayB n w b (bf + t3 + 1) ls t) T2 := by
    have z1 : dBl (dBin oLt (dVar 10) (dBin oSub (dVar 1) (dC (.int 1)))) (fr41 q n w b p top S.length bf ls x9 (some (.int (bf + t3))) (some (.int (t : Nat)))) T2 = .ok (decide (bf + t3 < n - 1)) T2 := by
      simp only [dBl, u_dBin, v10, v1, u_bok, u_dC, u_sub, u_lt]
    have z2 : dTru (dCallL (callOp 6 ((Lv G dfs 60 (k + 4) (k + 2 + 2)).f 39) []) (dCons (dVar 1) (dCons (dVar 2) (dCons (dVar 3) (dCons (dBin oAdd (dVar 10) (dC (.int 1))) (dCons (dVar 8) (dCons (dVar 11) dNil))))))) (fr41 q n w b p top S.length bf ls x9 (some (.int (bf + t3))) (some (.int (t : Nat)))) T2 = .ok (mayB n w b (bf + t3 + 1) ls t) T2 := by
      simp only [dTru, u_dCallL, u_dCons, v1, v2, v3, v10, v8, v11, u_bok, u_dBin, u_dC, u_add, u_dNil]
      rw [(call_eq (by rfl)).trans hm]
      rfl
    rw [u_dAndT, z1]
    by_cases hz : bf + (t3 : Int) < n - 1
    · simp only [u_bok, hz, decide_true, if_true, z2, Bool.true_and]
    · simp only [u_bok, hz, decide_false, Bool.false_eq_true, if_false, Bool.false_and]
  unfold b41
  cases hc : (decide (bf + t3 < n - 1) && mayB n w b (bf + t3 + 1) ls t) with
  | false =>
    rw [hc] at g2
    refine ⟨xs, T2, some (.int (bf + t3)), some (.int (t : Nat)), by omega, ⟨kp2, cel2, m.let_, by omega, by omega, by omega, by omega⟩, ?_⟩
    rw [hbf, hls]
    refine (seq_nx g1).trans ((seq_nx ?_).trans rfl)
    rw [u_dIf, g2]
    rfl
  | true =>
    rw [hc] at g2
    simp only [Bool.and_eq_true, decide_eq_true_eq] at hc
    have ho : okL n w b bf ls (bf + t3, (t : Int)) = true := by
      unfold okL inH
      simp only [Bool.and_eq_true, decide_eq_true_eq]
      exact ⟨⟨⟨by omega, by omega⟩, by omega, by omega⟩, hc.2⟩
    rw [okL_eq hn bf0 s0 sn] at ho
    have ap := appAt (y := pairP (bf + t3, (t : Int))) cel2 (by rw [sizeLine_eq]; simp; omega)
    have e1 : xs.map pairP ++ [pairP (bf + t3, (t : Int))] = (xs ++ [(bf + (t3 : Int), (t : Int))]).map pairP := by simp
    rw [e1] at ap
    refine ⟨xs ++ [(bf + (t3 : Int), (t : Int))], T2.set S.length (true, .lst ((xs ++ [(bf + (t3 : Int), (t : Int))]).map pairP)), some (.int (bf + t3)), some (.int (t : Nat)), by simp, ⟨kp2.put (Nat.le_refl _) (by omega), List.getElem?_set_self (List.getElem?_eq_some_iff.mp cel2).1, fwS_snoc xs 0 p m.let_ (by rw [hbf, hls]; exact ho), ?_, ?_, ?_, ?_⟩, ?_⟩
    · rw [endS_snoc]; show 0 ≤ bf + (t3 : Int); omega
    · rw [endS_snoc]; show bf + (t3 : Int) ≤ 6; omega
    · rw [endS_snoc]; show (0 : Int) ≤ (t : Int); omega
    · rw [endS_snoc]; exact c1
    · rw [endS_snoc]
      refine (seq_nx g1).trans ((seq_nx ?_).trans rfl)
      rw [u_dIf, g2]
      simp only [u_lok, if_true]
      have v6 : dVar 6 (fr41 q n w b p top S.length bf ls x9 (some (.int (bf + t3))) (some (.int (t : Nat)))) T2 = .ok (.ref S.length) T2 := rfl
      have ty := isTy_lst cel2
      refine (seq_nx (S' := T2.set S.length (true, .lst ((xs ++ [(bf + (t3 : Int), (t : Int))]).map pairP))) (fr' := fr41 q n w b p top S.length bf ls x9 (some (.int (bf + t3))) (some (.int (t : Nat)))) ?_).trans ?_
      · simp only [u_dDrop, dMeth, v6, u_bok, ty, if_true, u_dCons, u_dCallL, v10, v11, u_dNil]
        rw [u_tup_ (by simp [sizeLine_eq]), u_bok, u_bok]
        show liftE (oAppend (.ref S.length) [pairP (bf + (t3 : Int), (t : Int))] T2) _ _ = _
        rw [ap]
        rfl
      · simp [dSeq, dPar, fr41, dVar, isThk, setAll]
theorem go41 {p top : Int} (h : Ok n w b p) {q : Nat} (hq : q < S.length) : ∀ (m : Nat) (i : Int) (xs : List (Int × Int)) (T : Store) (x9 x10 x11 : Option PV), xs.length + m ≤ 50 → Mv n w b p q S T xs →
    ∃ (xs' : List (Int × Int)) (T' : Store) (y9 y10 y11 : Option PV), xs'.length ≤ 50 ∧ Mv n w b p q S T' xs' ∧ forGo (.name 9) (b41 (Lv G dfs 60 (k + 4)) (k + 2)) (rngP i m) (fr41 q n w b p top S.length (endS 0 p xs).1 (endS 0 p xs).2 x9 x10 x11) T = .nx (fr41 q n w b p top S.length (endS 0 p xs').1 (endS 0 p xs').2 y9 y10 y11) T'
  | 0, i, xs, T, x9, x10, x11, hl, m => ⟨xs, T, x9, x10, x11, by omega, m, rfl⟩
  | j + 1, i, xs, T, x9, x10, x11, hl, m => by
    obtain ⟨xs1, T1, z10, z11, l1, m1, e1⟩ := b41_run (k := k) (top := top) (x9 := some (.int i)) (y10 := x10) (y11 := x11) h hq m (by omega)
    obtain ⟨xs2, T2, y9, y10, y11, l2, m2, e2⟩ := go41 h hq j (i + 1) xs1 T1 (some (.int i)) z10 z11 (by omega) m1
    exact ⟨xs2, T2, y9, y10, y11, l2, m2, by rw [rngP, forGo_next (fr2 := fr41 q n w b p top S.length (endS 0 p xs).1 (endS 0 p xs).2 (some (.int i)) x10 x11) rfl e1, e2]⟩
theorem moves_ok {p : Int} (h : Ok n w b p) {q top : Nat} (hs : Src q S) (ht : top ≤ 20) : ∃ (xs : List (Int × Int)) (T : Store), xs.length ≤ 50 ∧ fwS n w b 0 p xs = none ∧ Kp q S T ∧ (Lv G dfs 60 (k + 5) (k + 5)).f 41 [.ref q, .int n, .str w, .int b, .int p, .int (top : Nat)] S = .ok (.lst (xs.map pairP)) T := by
  have hq := hs.lt
  have m0 : Mv n w b p q S (S ++ [(true, .lst [])]) [] := ⟨(Kp.refl hs).app _, by simp, rfl, Int.le_refl _, (by show (0 : Int) ≤ 6; omega), h.p0, h.pn⟩
  obtain ⟨xs, T, y9, y10, y11, l, m, e⟩ := go41 (k := k) (top := top) h hq top 0 [] _ none none none (by simp; omega) m0
  refine ⟨xs, T.set S.length (false, .lst (xs.map pairP)), l, m.let_, m.kp.put (Nat.le_refl _) (by omega), ?_⟩
  rw [f41 (k + 2)]
  have sF : startF ["_law_source", "_law_size", "_law_way", "_law_begin", "_law_spot", "_law_top", "_law_found", "_law_before", "_law_lies", "_law_turn", "_law_moment", "_law_target"] [.ref q, .int n, .str w, .int b, .int p, .int (top : Nat)] = [some (.ref q), some (.int n), some (.str w), some (.int b), some (.int p), some (.int (top : Nat)), none, none, none, none, none, none] := by simp [startF]
  rw [sF]
  show resOf (dSeq (dPar [6, 7, 8] (dCons (dCallL oLstR dNil) (dCons (dC (.int 0)) (dCons (dVar 4) dNil)))) (dSeq (dFor (dRng1 (dCons (dVar 5) dNil)) (.name 9) (b41 (Lv G dfs 60 (k + 4)) (k + 2))) (dSeq (dRet (dVarF 6)) dNext)) _ S) = _
  have c1 : dPar [6, 7, 8] (dCons (dCallL oLstR dNil) (dCons (dC (.int 0)) (dCons (dVar 4) dNil))) [some (.ref q), some (.int n), some (.str w), some (.int b), some (.int p), some (.int (top : Nat)), none, none, none, none, none, none] S = .nx (fr41 q n w b p top S.length (endS 0 p []).1 (endS 0 p []).2 none none none) (S ++ [(true, .lst [])]) := by
    simp [dPar, fr41, sizeLine_eq, dVar, i1, setAll, endS]
  rw [seq_nx c1]
  have h3 : dRng1 (dCons (dVar 5) dNil) (fr41 q n w b p top S.length (endS 0 p []).1 (endS 0 p []).2 none none none) (S ++ [(true, .lst [])]) = .ok (rngP 0 top) (S ++ [(true, .lst [])]) := by
    have := rng1_eq (l := dCons (dVar 5) dNil) (fr := fr41 q n w b p top S.length (endS 0 p []).1 (endS 0 p []).2 none none none) (S := S ++ [(true, .lst [])]) (S1 := S ++ [(true, .lst [])]) (j := (top : Nat)) (by simp [fr41, dVar, i1]) (by omega) (by omega)
    simpa using this
  rw [seq_for_nx h3 e]
  have vf : dVarF 6 (fr41 q n w b p top S.length (endS 0 p xs).1 (endS 0 p xs).2 y9 y10 y11) T = .ok (.lst (xs.map pairP)) (T.set S.length (false, .lst (xs.map pairP))) := by
    simp [dVarF, fr41, m.cel]
  simp [dSeq, vf]
end
end K22
end
section
set_option Elab.async false
set_option linter.all false
set_option maxRecDepth 100000
set_option maxHeartbeats 0
/-! how often a record is seen: plain -/
namespace K22
open PySem E2
section
variable {n b : Int} {w : Str}
theorem fwS_other {u : Str} (hu : u ≠ "barred") : ∀ (xs : List (Int × Int)) (bf sp : Int), fwS n w b bf sp xs = none → fwS n u b bf sp xs = none
  | [], _, _, _ => rfl
  | q :: r, bf, sp, h => by
    unfold fwS at h ⊢
    split at h
    · rename_i ho
      have : okS n u b bf sp q = true := by
        unfold okS at ho ⊢
        rw [Bool.and_eq_true] at ho ⊢
        exact ⟨ho.1, by unfold leB; simp [hu]⟩
      rw [if_pos this, fwS_other hu r q.1 q.2 (by simpa using h)]
      rfl
    · cases h
/-- where it lies at a visit -/
def posG (v : Int) : Int → List (Int × Int) → Int
  | sp, [] => sp
  | sp, q :: r => if q.1 < v then posG v q.2 r else posG v sp r
theorem plc_cons {p v : Int} {q : Int × Int} {r : List (Int × Int)} : plc p (q :: r) v = if q.1 < v then .int p :: plc q.2 r v else plc p r v := by
  unfold plc tgt
  by_cases h : q.1 < v
  · rw [if_pos h, List.filter_cons_of_pos (by simpa using h)]
    rfl
  · rw [if_neg h, List.filter_cons_of_neg (by simpa using h)]
theorem plc_last {v : Int} : ∀ (xs : List (Int × Int)) (p : Int), ∃ l, plc p xs v = l ++ [.int (posG v p xs)]
  | [], p => ⟨[], rfl⟩
  | q :: r, p => by
    rw [plc_cons, posG]
    split
    · obtain ⟨l, e⟩ := plc_last r q.2
      exact ⟨.int p :: l, by rw [e]; rfl⟩
    · exact plc_last r p
theorem cut_last {l : List PV} {a : PV} : cutP (l ++ [a]) (some (-1)) none = [a] := by
  unfold cutP
  have e2 : HT.sIx (l ++ [a]).length (l ++ [a]).length none = (l ++ [a]).length := rfl
  have e1 : HT.sIx (l ++ [a]).length 0 (some (-1)) = l.length := by
    unfold HT.sIx
    simp only [List.length_append, List.length_cons, List.length_nil]
    rw [if_pos (by omega)]
    omega
  rw [e1, e2, List.drop_left]
  simp
theorem sees_last (hw : w ≠ "left") {p v : Int} {xs : List (Int × Int)} : sees n w b (plc p xs v) v = decide (posG v p xs = (b + v) % n) := by
  obtain ⟨l, e⟩ := plc_last (v := v) xs p
  unfold sees thr
  rw [if_neg hw, e, cut_last, List.any_cons, List.any_nil, Bool.or_false]
  show (posG v p xs == _) = _
  rfl
theorem sees_left {p v : Int} {xs : List (Int × Int)} (h : posG v p xs = (b + v) % n) : sees n "left" b (plc p xs v) v = true := by
  obtain ⟨l, e⟩ := plc_last (v := v) xs p
  unfold sees thr
  rw [if_pos rfl, e, List.any_append, List.any_cons, h]
  simp [eqF]
theorem vis_le {u u' : Str} {pl : Int → List PV} (h : ∀ v, sees n u b (pl v) v = true → sees n u' b (pl v) v = true) : ∀ (m : Nat) (i : Int), (visS n u b pl i m).length ≤ (visS n u' b pl i m).length
  | 0, _ => Nat.le_refl _
  | m + 1, i => by
    have ih := vis_le h m (i + 1)
    simp only [visS, List.length_append]
    have := h i
    split
    · rename_i hs
      rw [if_pos (this hs)]
      simp only [List.length_cons, List.length_nil]
      omega
    · simp only [List.length_nil]
      omega
theorem vis_pos {u : Str} {pl : Int → List PV} : ∀ (m : Nat) (i v : Int), i ≤ v → v < i + m → sees n u b (pl v) v = true → 1 ≤ (visS n u b pl i m).length
  | 0, i, v, h1, h2, _ => by omega
  | m + 1, i, v, h1, h2, h3 => by
    simp only [visS, List.length_append]
    by_cases e : v = i
    · subst e
      rw [if_pos h3]
      simp only [List.length_cons, List.length_nil]
      omega
    · have := vis_pos m (i + 1) v (by omega) (by omega) h3
      omega
theorem pos_stay {v : Int} : ∀ (r : List (Int × Int)) (bf sp : Int), asc bf r → v ≤ bf → posG v sp r = sp
  | [], _, _, _, _ => rfl
  | q :: r, bf, sp, ⟨h1, h2⟩, hv => by
    rw [posG, if_neg (by omega)]
    exact pos_stay r q.1 sp h2 (by omega)
theorem page_at (hn : 0 < n) {p : Int} (p0 : 0 ≤ p) (pn : p < n) : (b + (p - b) % n) % n = p := by
  rw [Int.add_emod, Int.emod_emod_of_dvd _ (Int.dvd_refl n), ← Int.add_emod, show b + (p - b) = p by omega]
  exact Int.emod_eq_of_lt p0 pn
theorem barred_seen (hn : 0 < n) : ∀ (xs : List (Int × Int)) (bf lo sp : Int), bf ≤ lo → lo ≤ (sp - b) % n → 0 ≤ sp → sp < n → lo ≤ bf + 1 → fwS n "barred" b bf sp xs = none →
    ∃ v, lo ≤ v ∧ v < n ∧ posG v sp xs = (b + v) % n
  | [], bf, lo, sp, _, h2, s0, sn, _, _ => ⟨(sp - b) % n, h2, Int.emod_lt_of_pos _ hn, (page_at hn s0 sn).symm⟩
  | q :: r, bf, lo, sp, h1, h2, s0, sn, h5, h => by
    have ha := asc_of (q :: r) bf sp h
    unfold fwS at h
    split at h
    · rename_i ho
      have hb := okS_bf ho
      have h := (by simpa using h : fwS n "barred" b q.1 q.2 r = none)
      by_cases hm : (sp - b) % n ≤ q.1
      · refine ⟨(sp - b) % n, h2, Int.emod_lt_of_pos _ hn, ?_⟩
        rw [posG, if_neg (by omega), pos_stay r q.1 sp ha.2 hm, page_at hn s0 sn]
      · have hl : q.1 < (q.2 - b) % n := by
          unfold okS at ho
          rw [Bool.and_eq_true] at ho
          have z := ho.2
          unfold leB at z
          simp only [ne_eq, not_true_eq_false, decide_false, Bool.false_or, Bool.or_eq_true, decide_eq_true_eq, Bool.not_eq_true', decide_eq_false_iff_not] at z
          rcases z with z | z
          · exact absurd z hm
          · omega
        obtain ⟨v, v1, v2, v3⟩ := barred_seen hn r q.1 (q.1 + 1) q.2 (by omega) (by omega) hb.2.2.1 (by omega) (by omega) h
        refine ⟨v, by omega, v2, ?_⟩
        rw [posG, if_pos (by omega)]
        exact v3
    · cases h
theorem seen_once (hn : 0 < n) (h3 : W3 w) (hw : w ≠ "free") {p : Int} (p0 : 0 ≤ p) (pn : p < n) {xs : List (Int × Int)} (h : fwS n w b 0 p xs = none) : 1 ≤ (visS n w b (plc p xs) 0 n.toNat).length := by
  rcases h3 with rfl | rfl | rfl
  · obtain ⟨v, v1, v2, v3⟩ := barred_seen hn xs 0 0 p (Int.le_refl _) (Int.emod_nonneg _ (by omega)) p0 pn (by omega) h
    exact vis_pos n.toNat 0 v v1 (by omega) (by rw [sees_last (by decide)]; simpa using v3)
  · exact absurd rfl hw
  · have e1 := Int.emod_nonneg (p - b) (show n ≠ 0 by omega)
    have e2 := Int.emod_lt_of_pos (p - b) hn
    refine vis_pos n.toNat 0 ((p - b) % n) e1 (by omega) ?_
    unfold sees thr
    rw [if_pos rfl]
    unfold plc
    rw [List.any_cons, page_at hn p0 pn]
    simp [eqF]
theorem free_le {p : Int} {xs : List (Int × Int)} : (visS n "free" b (plc p xs) 0 n.toNat).length ≤ (visS n "left" b (plc p xs) 0 n.toNat).length :=
  vis_le (fun v h => by
    rw [sees_last (by decide)] at h
    exact sees_left (by simpa using h)) n.toNat 0
end
end K22
end
section
set_option Elab.async false
set_option linter.all false
set_option maxRecDepth 100000
set_option maxHeartbeats 0
/-! the law: a record's walks -/
namespace K22
open PySem E2
section
variable {k : Nat} {S : Store} {n b : Int} {w : Str}
def vis (n : Int) (w : Str) (b p : Int) (xs : List (Int × Int)) : List PV := visS n w b (plc p xs) 0 n.toNat
theorem sights_vals {p : Int} (h : Ok n w b p) {v : PV} {xs : List (Int × Int)} (hv : Sq v (xs.map pairP)) (hl : xs.length ≤ 1000) (hf : fwS n w b 0 p xs = none) : (Lv G dfs 60 (k + 7) (k + 7)).f 17 [.int n, .str w, .int b, .int p, v] S = .ok (.int (vis n w b p xs).length) (S ++ [(false, .lst (vis n w b p xs))]) := e17 h hv hl hf
theorem let_vals {p : Int} (h : Ok n w b p) {v : PV} {xs : List (Int × Int)} (hv : Sq v (xs.map pairP)) (hf : fwS n w b 0 p xs = none) : (Lv G dfs 60 (k + 7) (k + 7)).f 14 [.int n, .str w, .int b, .int p, v] S = .ok (.bl true) S := by
  rw [e14 h hv, hf]
  rfl
theorem Ok.other {p : Int} (h : Ok n w b p) {u : Str} (hu : W3 u) : Ok n u b p := ⟨h.n1, h.n6, hu, h.b0, h.bn, h.p0, h.pn⟩
theorem is_tt {S : Store} : oIs true (.bl true) (.bl true) S = .ok (.bl false) S := rfl
def b42 (Φ : Nat → Phi) (k : Nat) : DS := (dSeq (dAsg (.name 6) (dCallL (callOp 6 ((Φ (k + 2)).f 41) []) (dCons (dVar 0) (dCons (dVar 1) (dCons (dVar 2) (dCons (dVar 3) (dCons (dVar 4) (dCons (dCallL (callOp 2 ((Φ (k + 2)).f 36) []) (dCons (dVar 0) (dCons (dC (.int 11)) dNil))) dNil)))))))) (dSeq (dAsg (.name 7) (dCallL (callOp 5 ((Φ (k + 2)).f 17) []) (dCons (dVar 1) (dCons (dVar 2) (dCons (dVar 3) (dCons (dVar 4) (dCons (dVar 6) dNil))))))) (dSeq (dIf (dBl (dBin (oIs true) (dCallL (callOp 5 ((Φ (k + 2)).f 14) []) (dCons (dVar 1) (dCons (dVar 2) (dCons (dVar 3) (dCons (dVar 4) (dCons (dVar 6) dNil)))))) (dC (.bl true)))) (dSeq (dRet (dC (.bl false))) dNext) dNext) (dSeq (dIf (dBl (dBin oNe (dVar 7) (dCallL oLen (dCons (dCallL (callOp 5 ((Φ (k + 2)).f 40) []) (dCons (dVar 1) (dCons (dVar 2) (dCons (dVar 3) (dCons (dVar 4) (dCons (dVar 6) dNil)))))) dNil)))) (dSeq (dRet (dC (.bl false))) dNext) dNext) (dSeq (dIf (dOrT (dAndT (dBl (dBin oNe (dVar 2) (dC (.str "free")))) (dBl (dBin oLt (dVar 7) (dC (.int 1))))) (dBl (dBin (oCmpI fun i j => decide (j < i)) (dVar 7) (dVar 1)))) (dSeq (dRet (dC (.bl false))) dNext) dNext) (dSeq (dIf (dBl (dBin (oIs true) (dCallL (callOp 5 ((Φ (k + 2)).f 14) []) (dCons (dVar 1) (dCons (dC (.str "free")) (dCons (dVar 3) (dCons (dVar 4) (dCons (dVar 6) dNil)))))) (dC (.bl true)))) (dSeq (dRet (dC (.bl false))) dNext) dNext) (dSeq (dIf (dBl (dBin (oIs true) (dCallL (callOp 5 ((Φ (k + 2)).f 14) []) (dCons (dVar 1) (dCons (dC (.str "left")) (dCons (dVar 3) (dCons (dVar 4) (dCons (dVar 6) dNil)))))) (dC (.bl true)))) (dSeq (dRet (dC (.bl false))) dNext) dNext) (dSeq (dIf (dBl (dBin (oCmpI fun i j => decide (j < i)) (dCallL (callOp 5 ((Φ (k + 2)).f 17) []) (dCons (dVar 1) (dCons (dC (.str "free")) (dCons (dVar 3) (dCons (dVar 4) (dCons (dVar 6) dNil)))))) (dCallL (callOp 5 ((Φ (k + 2)).f 17) []) (dCons (dVar 1) (dCons (dC (.str "left")) (dCons (dVar 3) (dCons (dVar 4) (dCons (dVar 6) dNil)))))))) (dSeq (dRet (dC (.bl false))) dNext) dNext) dNext))))))))
def fr42 (q : Nat) (n : Int) (w : Str) (b p : Int) (x5 x6 x7 : Option PV) : E2.Frame := [some (.ref q), some (.int n), some (.str w), some (.int b), some (.int p), x5, x6, x7]
theorem b42_run {p : Int} (h : Ok n w b p) {q : Nat} {T : Store} (hs : Src q T) {x5 x6 x7 : Option PV} : ∃ (T' : Store) (y6 y7 : Option PV), Kp q T T' ∧ b42 (Lv G dfs 60 (k + 7)) (k + 5) (fr42 q n w b p x5 x6 x7) T = .nx (fr42 q n w b p x5 y6 y7) T' := by
  have hn := h.pos
  obtain ⟨t, T1, t1, kp1, e1⟩ := take_ok (k := k + 4) T 11 hs (by omega) (by omega)
  obtain ⟨xs, T2, l2, hf, kp2, e2⟩ := moves_ok (k := k + 2) h kp1.src (top := t) (by omega)
  have l2' : xs.length ≤ 1000 := by omega
  have v : ∀ (j : Nat) (x : PV) (y6 y7 : Option PV) (T : Store), (fr42 q n w b p x5 y6 y7)[j]? = some (some x) → isThk x = false → dVar j (fr42 q n w b p x5 y6 y7) T = .ok x T := fun j x y6 y7 T h1 h2 => dVar_of h1 h2
  have g1 : dAsg (.name 6) (dCallL (callOp 6 ((Lv G dfs 60 (k + 7) (k + 5 + 2)).f 41) []) (dCons (dVar 0) (dCons (dVar 1) (dCons (dVar 2) (dCons (dVar 3) (dCons (dVar 4) (dCons (dCallL (callOp 2 ((Lv G dfs 60 (k + 7) (k + 5 + 2)).f 36) []) (dCons (dVar 0) (dCons (dC (.int 11)) dNil))) dNil))))))) (fr42 q n w b p x5 x6 x7) T = .nx (fr42 q n w b p x5 (some (.lst (xs.map pairP))) x7) T2 := by
    simp only [dAsg, u_dCallL, u_dCons, v 0 (.ref q) _ _ _ rfl rfl, v 1 (.int n) _ _ _ rfl rfl, v 2 (.str w) _ _ _ rfl rfl, v 3 (.int b) _ _ _ rfl rfl, v 4 (.int p) _ _ _ rfl rfl, u_bok, u_dC, u_dNil]
    rw [(call_eq (by rfl)).trans e1]
    simp only [u_bok]
    rw [(call_eq (by rfl)).trans e2]
    rfl
  have s1 := fun T => sights_vals (k := k) (S := T) h (v := .lst (xs.map pairP)) (.inl rfl) l2' hf
  have g2 : dAsg (.name 7) (dCallL (callOp 5 ((Lv G dfs 60 (k + 7) (k + 5 + 2)).f 17) []) (dCons (dVar 1) (dCons (dVar 2) (dCons (dVar 3) (dCons (dVar 4) (dCons (dVar 6) dNil)))))) (fr42 q n w b p x5 (some (.lst (xs.map pairP))) x7) T2 = .nx (fr42 q n w b p x5 (some (.lst (xs.map pairP))) (some (.int (vis n w b p xs).length))) (T2 ++ [(false, .lst (vis n w b p xs))]) := by
    simp only [dAsg, u_dCallL, u_dCons, v 1 (.int n) _ _ _ rfl rfl, v 2 (.str w) _ _ _ rfl rfl, v 3 (.int b) _ _ _ rfl rfl, v 4 (.int p) _ _ _ rfl rfl, v 6 (.lst (xs.map pairP)) _ _ _ rfl rfl, u_bok, u_dNil]
    rw [(call_eq (by rfl)).trans (s1 T2)]
    rfl
  generalize hF : fr42 q n w b p x5 (some (.lst (xs.map pairP))) (some (.int (vis n w b p xs).length)) = F at *
  have w1 : ∀ T, dVar 1 F T = .ok (.int n) T := fun T => by subst hF; rfl
  have w2 : ∀ T, dVar 2 F T = .ok (.str w) T := fun T => by subst hF; rfl
  have w3 : ∀ T, dVar 3 F T = .ok (.int b) T := fun T => by subst hF; rfl
  have w4 : ∀ T, dVar 4 F T = .ok (.int p) T := fun T => by subst hF; rfl
  have w6 : ∀ T, dVar 6 F T = .ok (.lst (xs.map pairP)) T := fun T => by subst hF; rfl
  have w7 : ∀ T, dVar 7 F T = .ok (.int (vis n w b p xs).length) T := fun T => by subst hF; rfl
  have letT : ∀ (T : Store), dBl (dBin (oIs true) (dCallL (callOp 5 ((Lv G dfs 60 (k + 7) (k + 5 + 2)).f 14) []) (dCons (dVar 1) (dCons (dVar 2) (dCons (dVar 3) (dCons (dVar 4) (dCons (dVar 6) dNil)))))) (dC (.bl true))) F T = .ok false T := fun T => by
    simp only [dBl, u_dBin, u_dCallL, u_dCons, w1, w2, w3, w4, w6, u_bok, u_dNil]
    rw [(call_eq (by rfl)).trans (let_vals (k := k) (S := T) h (v := .lst (xs.map pairP)) (.inl rfl) hf)]
    simp only [u_bok, u_dC, is_tt]
  have letU : ∀ (u : Str), W3 u → u ≠ "barred" → ∀ (T : Store), dBl (dBin (oIs true) (dCallL (callOp 5 ((Lv G dfs 60 (k + 7) (k + 5 + 2)).f 14) []) (dCons (dVar 1) (dCons (dC (.str u)) (dCons (dVar 3) (dCons (dVar 4) (dCons (dVar 6) dNil)))))) (dC (.bl true))) F T = .ok false T := fun u h1 h2 T => by
    simp only [dBl, u_dBin, u_dCallL, u_dCons, w1, w3, w4, w6, u_bok, u_dNil, u_dC]
    rw [(call_eq (by rfl)).trans (let_vals (k := k) (S := T) (h.other h1) (v := .lst (xs.map pairP)) (.inl rfl) (fwS_other h2 xs 0 p hf))]
    simp only [u_bok, is_tt]
  have sigU : ∀ (u : Str), W3 u → u ≠ "barred" → ∀ (T : Store), (dCallL (callOp 5 ((Lv G dfs 60 (k + 7) (k + 5 + 2)).f 17) []) (dCons (dVar 1) (dCons (dC (.str u)) (dCons (dVar 3) (dCons (dVar 4) (dCons (dVar 6) dNil)))))) F T = .ok (.int (vis n u b p xs).length) (T ++ [(false, .lst (vis n u b p xs))]) := fun u h1 h2 T => by
    simp only [u_dCallL, u_dCons, w1, w3, w4, w6, u_bok, u_dNil, u_dC]
    exact (call_eq (by rfl)).trans (sights_vals (k := k) (S := T) (h.other h1) (v := .lst (xs.map pairP)) (.inl rfl) l2' (fwS_other h2 xs 0 p hf))
  have wf : W3 "free" := .inr (.inl rfl)
  have wl : W3 "left" := .inr (.inr rfl)
  have q4 : ∀ T, dBl (dBin oNe (dVar 7) (dCallL oLen (dCons (dCallL (callOp 5 ((Lv G dfs 60 (k + 7) (k + 5 + 2)).f 40) []) (dCons (dVar 1) (dCons (dVar 2) (dCons (dVar 3) (dCons (dVar 4) (dCons (dVar 6) dNil)))))) dNil))) F T = .ok false (T ++ [(false, .lst (vis n w b p xs))]) := fun T => by
    simp only [dBl, u_dBin, w7, u_dCallL, u_dCons, w1, w2, w3, w4, w6, u_bok, u_dNil]
    rw [(call_eq (by rfl)).trans (e40 (k := k + 4) (S := T) hn h.n6 h.w3 l2' hf)]
    simp only [u_bok, u_lenL, u_neI]
    simp [vis]
  have q5 : ∀ T, dOrT (dAndT (dBl (dBin oNe (dVar 2) (dC (.str "free")))) (dBl (dBin oLt (dVar 7) (dC (.int 1))))) (dBl (dBin (oCmpI fun i j => decide (j < i)) (dVar 7) (dVar 1))) F T = .ok false T := fun T => by
    have nf : oNe (.str w) (.str "free") T = .ok (.bl (decide (w ≠ "free"))) T := by
      rcases h.w3 with rfl | rfl | rfl <;> kernel_rfl
    have len := visS_len (n := n) (w := w) (b := b) (pl := plc p xs) n.toNat 0
    have len' : ¬ (n < ((vis n w b p xs).length : Int)) := by
      show ¬ (n < ((visS n w b (plc p xs) 0 n.toNat).length : Int))
      omega
    have c1 : dAndT (dBl (dBin oNe (dVar 2) (dC (.str "free")))) (dBl (dBin oLt (dVar 7) (dC (.int 1)))) F T = .ok false T := by
      simp only [u_dAndT, dBl, u_dBin, w2, u_bok, u_dC, nf]
      by_cases hw : w = "free"
      · simp only [hw, ne_eq, not_true_eq_false, decide_false, u_bok, Bool.false_eq_true, if_false]
      · have so := seen_once hn h.w3 hw h.p0 h.pn hf
        have so' : ¬ (((vis n w b p xs).length : Int) < 1) := by
          show ¬ (((visS n w b (plc p xs) 0 n.toNat).length : Int) < 1)
          omega
        simp only [hw, ne_eq, not_false_eq_true, decide_true, u_bok, if_true, w7, u_lt, so', decide_false]
    rw [u_dOrT, c1]
    simp only [u_bok, Bool.false_eq_true, if_false, dBl, u_dBin, w7, w1, u_cmp, len', decide_false]
  have q8 : ∀ T, dBl (dBin (oCmpI fun i j => decide (j < i)) (dCallL (callOp 5 ((Lv G dfs 60 (k + 7) (k + 5 + 2)).f 17) []) (dCons (dVar 1) (dCons (dC (.str "free")) (dCons (dVar 3) (dCons (dVar 4) (dCons (dVar 6) dNil)))))) (dCallL (callOp 5 ((Lv G dfs 60 (k + 7) (k + 5 + 2)).f 17) []) (dCons (dVar 1) (dCons (dC (.str "left")) (dCons (dVar 3) (dCons (dVar 4) (dCons (dVar 6) dNil))))))) F T = .ok false ((T ++ [(false, .lst (vis n "free" b p xs))]) ++ [(false, .lst (vis n "left" b p xs))]) := fun T => by
    have fl := free_le (n := n) (b := b) (p := p) (xs := xs)
    have fl' : ¬ (((vis n "left" b p xs).length : Int) < ((vis n "free" b p xs).length : Int)) := by
      unfold vis
      omega
    rw [dBl, u_dBin, sigU "free" wf (by decide), u_bok, sigU "left" wl (by decide), u_bok, u_cmp]
    simp only [u_bok, fl', decide_false]
  refine ⟨(((T2 ++ [(false, .lst (vis n w b p xs))]) ++ [(false, .lst (vis n w b p xs))]) ++ [(false, .lst (vis n "free" b p xs))]) ++ [(false, .lst (vis n "left" b p xs))], some (.lst (xs.map pairP)), some (.int (vis n w b p xs).length), ((((kp1.trans kp2).app _).app _).app _).app _, ?_⟩
  · unfold b42
    rw [seq_nx g1, seq_nx g2, seq_nx (S' := T2 ++ [(false, .lst (vis n w b p xs))]) (fr' := F) (by rw [u_dIf, letT]; rfl), seq_nx (S' := (T2 ++ [(false, .lst (vis n w b p xs))]) ++ [(false, .lst (vis n w b p xs))]) (fr' := F) (by rw [u_dIf, q4]; rfl), seq_nx (S' := (T2 ++ [(false, .lst (vis n w b p xs))]) ++ [(false, .lst (vis n w b p xs))]) (fr' := F) (by rw [u_dIf, q5]; rfl),
      seq_nx (S' := (T2 ++ [(false, .lst (vis n w b p xs))]) ++ [(false, .lst (vis n w b p xs))]) (fr' := F) (by rw [u_dIf, letU "free" wf (by decide)]; rfl), seq_nx (S' := (T2 ++ [(false, .lst (vis n w b p xs))]) ++ [(false, .lst (vis n w b p xs))]) (fr' := F) (by rw [u_dIf, letU "left" wl (by decide)]; rfl),
      seq_nx (S' := (((T2 ++ [(false, .lst (vis n w b p xs))]) ++ [(false, .lst (vis n w b p xs))]) ++ [(false, .lst (vis n "free" b p xs))]) ++ [(false, .lst (vis n "left" b p xs))]) (fr' := F) (by rw [u_dIf, q8]; rfl), u_dNext, hF]
theorem go42 {p : Int} (h : Ok n w b p) {q : Nat} : ∀ (m : Nat) (i : Int) (T : Store) (x5 x6 x7 : Option PV), Src q T → ∃ (T' : Store) (y5 y6 y7 : Option PV), Kp q T T' ∧ forGo (.name 5) (b42 (Lv G dfs 60 (k + 7)) (k + 5)) (rngP i m) (fr42 q n w b p x5 x6 x7) T = .nx (fr42 q n w b p y5 y6 y7) T'
  | 0, i, T, x5, x6, x7, hs => ⟨T, x5, x6, x7, Kp.refl hs, rfl⟩
  | m + 1, i, T, x5, x6, x7, hs => by
    obtain ⟨T1, z6, z7, k1, e1⟩ := b42_run (k := k) h hs (x5 := some (.int i)) (x6 := x6) (x7 := x7)
    obtain ⟨T2, y5, y6, y7, k2, e2⟩ := go42 h m (i + 1) T1 (some (.int i)) z6 z7 k1.src
    exact ⟨T2, y5, y6, y7, k1.trans k2, by rw [rngP, forGo_next (fr2 := fr42 q n w b p (some (.int i)) x6 x7) rfl e1, e2]⟩
theorem record_ok {p : Int} (h : Ok n w b p) {q : Nat} (hs : Src q S) : ∃ T, Kp q S T ∧ (Lv G dfs 60 (k + 8) (k + 8)).f 42 [.ref q, .int n, .str w, .int b, .int p] S = .ok (.bl true) T := by
  obtain ⟨T, y5, y6, y7, kp, e⟩ := go42 (k := k) h 8 0 S none none none hs
  refine ⟨T, kp, ?_⟩
  rw [f42 (k + 5)]
  have sF : startF ["_law_source", "_law_size", "_law_way", "_law_begin", "_law_spot", "_law_turn", "_law_steps", "_law_told"] [.ref q, .int n, .str w, .int b, .int p] = fr42 q n w b p none none none := by simp [startF, fr42]
  rw [sF]
  show resOf (dSeq (dFor (dRng1 (dCons (dC (.int 8)) dNil)) (.name 5) (b42 (Lv G dfs 60 (k + 7)) (k + 5))) (dSeq (dRet (dC (.bl true))) dNext) _ S) = _
  have h3 : dRng1 (dCons (dC (.int 8)) dNil) (fr42 q n w b p none none none) S = .ok (rngP 0 8) S := rng1_eq (l := dCons (dC (.int 8)) dNil) (j := 8) (by simp) (by decide) (by decide)
  rw [seq_for_nx h3 e]
  rfl
end
end K22
end
section
set_option Elab.async false
set_option linter.all false
set_option maxRecDepth 100000
set_option maxHeartbeats 0
/-! the least moves of one walk -/
namespace K22
open PySem E2
variable {S : Store}
def csA : List (Int × Int × Int) := (pages 6).flatMap fun n => (pages n).flatMap fun b => (pages n).filterMap fun p => if p = b then none else some (n, b, p)
def csB : List (Int × Int) := (pages 6).flatMap fun n => (pages n).map fun b => (n, b)
theorem lmA : (csA.map fun c => (Lv G dfs 60 19 19).f 34 [.int c.1, .tup [.int c.2.1], .int c.2.2] S) = csA.map fun _ => .ok (.int 1) S := by kernel_rfl
theorem lmB : (csB.map fun c => (Lv G dfs 60 19 19).f 34 [.int c.1, .lst [.int c.2], .int c.2] S) = csB.map fun _ => .ok .non S := by kernel_rfl
theorem least_one {n b p : Int} (h5 : n ≤ 5) (b0 : 0 ≤ b) (bn : b < n) (p0 : 0 ≤ p) (pn : p < n) (hne : p ≠ b) : (Lv G dfs 60 19 19).f 34 [.int n, .tup [.int b], .int p] S = .ok (.int 1) S := by
  have hm : (n, b, p) ∈ csA := by
    unfold csA
    refine List.mem_flatMap.mpr ⟨n, mem_pages.mpr ⟨by omega, by omega⟩, List.mem_flatMap.mpr ⟨b, mem_pages.mpr ⟨b0, bn⟩, List.mem_filterMap.mpr ⟨p, mem_pages.mpr ⟨p0, pn⟩, ?_⟩⟩⟩
    rw [if_neg hne]
  exact List.map_inj_left.mp lmA (n, b, p) hm
theorem least_none {n b : Int} (h5 : n ≤ 5) (b0 : 0 ≤ b) (bn : b < n) : (Lv G dfs 60 19 19).f 34 [.int n, .lst [.int b], .int b] S = .ok .non S := by
  have hm : (n, b) ∈ csB := by
    unfold csB
    exact List.mem_flatMap.mpr ⟨n, mem_pages.mpr ⟨by omega, by omega⟩, List.mem_map.mpr ⟨b, mem_pages.mpr ⟨b0, bn⟩, rfl⟩⟩
  exact List.map_inj_left.mp lmB (n, b) hm
end K22
end
section
set_option Elab.async false
set_option linter.all false
set_option maxRecDepth 100000
set_option maxHeartbeats 0
/-! the law -/
namespace K22
open PySem E2
section
variable {k : Nat} {S : Store} {n b : Int} {w : Str}
/-! ### a record that is missed -/
theorem vis_oneA : ((pages 6).all fun n => (pages n).all fun b => (vis n "free" b b []).length == 1) = true := by decide +kernel
theorem vis_zeroA : ((pages 6).all fun n => (pages n).all fun b => (pages n).all fun p => decide (p = b) || (vis n "free" b p [(0, b)]).length == 0) = true := by decide +kernel
theorem vis_one (h5 : n ≤ 5) (b0 : 0 ≤ b) (bn : b < n) : (vis n "free" b b []).length = 1 := by
  have := List.all_eq_true.mp (List.all_eq_true.mp vis_oneA n (mem_pages.mpr ⟨by omega, by omega⟩)) b (mem_pages.mpr ⟨b0, bn⟩)
  simpa using this
theorem vis_zero {p : Int} (h5 : n ≤ 5) (b0 : 0 ≤ b) (bn : b < n) (p0 : 0 ≤ p) (pn : p < n) (hp : p ≠ b) : (vis n "free" b p [(0, b)]).length = 0 := by
  have := List.all_eq_true.mp (List.all_eq_true.mp (List.all_eq_true.mp vis_zeroA n (mem_pages.mpr ⟨by omega, by omega⟩)) b (mem_pages.mpr ⟨b0, bn⟩)) p (mem_pages.mpr ⟨p0, pn⟩)
  simpa [hp] using this
theorem miss_let {p : Int} (h2 : 2 ≤ n) (b0 : 0 ≤ b) (bn : b < n) (hp : p ≠ b) : fwS n "free" b 0 p [(0, b)] = none := by
  have : okS n "free" b 0 p (0, b) = true := by
    unfold okS mvB leB inR
    simp only [Bool.and_eq_true, decide_eq_true_eq, Bool.not_eq_true', decide_eq_false_iff_not, Bool.or_eq_true]
    exact ⟨⟨⟨⟨by omega, by omega⟩, b0, by omega⟩, fun e => hp e.symm⟩, .inl (.inl (by decide))⟩
  simp [fwS, this]
theorem wfree : W3 "free" := .inr (.inl rfl)
theorem missed_ok {p : Int} (h1 : 1 ≤ n) (h5 : n ≤ 5) (b0 : 0 ≤ b) (bn : b < n) (p0 : 0 ≤ p) (pn : p < n) : ∃ r, (Lv G dfs 60 20 20).f 43 [.int n, .int b, .int p] S = .ok (.bl true) (S ++ r) := by
  have f := f43 17 [.int n, .int b, .int p] S
  simp only [Nat.reduceAdd] at f
  rw [f]
  have sF : startF ["_law_size", "_law_begin", "_law_spot", "_law_steps"] [.int n, .int b, .int p] = [some (.int n), some (.int b), some (.int p), none] := by simp [startF]
  rw [sF]
  have ok : Ok n "free" b p := ⟨h1, by omega, wfree, b0, bn, p0, pn⟩
  by_cases hp : p = b
  · subst hp
    have sv := sights_vals (k := 12) (S := S) ok (v := .lst []) (xs := []) (.inl rfl) (by simp) rfl
    simp only [Nat.reduceAdd] at sv
    rw [vis_one h5 b0 bn] at sv
    have lv := least_none (S := S) h5 b0 bn
    refine ⟨[(false, .lst (vis n "free" p p []))], ?_⟩
    have t1 : dOrT (dBl (dBin oEq (dVar 0) (dC (.int 1)))) (dBl (dBin oEq (dVar 2) (dVar 1))) [some (.int n), some (.int p), some (.int p), none] S = .ok true S := by
      by_cases hn : n = 1 <;> simp [dBl, dVar, isThk, hn]
    have t2 : dBin (oIs false) (dCallL (callOp 3 ((Lv G dfs 60 19 (17 + 2)).f 34) []) (dCons (dVar 0) (dCons (dCallL oLst (dCons (dVar 1) dNil)) (dCons (dVar 2) dNil)))) (dC .non) [some (.int n), some (.int p), some (.int p), none] S = .ok (.bl true) S := by
      have e : (dCallL (callOp 3 ((Lv G dfs 60 19 (17 + 2)).f 34) []) (dCons (dVar 0) (dCons (dCallL oLst (dCons (dVar 1) dNil)) (dCons (dVar 2) dNil)))) [some (.int n), some (.int p), some (.int p), none] S = .ok .non S := by
        simp only [u_dCallL, u_dCons, u_dNil, u_bok, show dVar 0 [some (.int n), some (.int p), some (.int p), none] S = .ok (.int n) S from rfl, show dVar 1 [some (.int n), some (.int p), some (.int p), none] S = .ok (.int p) S from rfl, show dVar 2 [some (.int n), some (.int p), some (.int p), none] S = .ok (.int p) S from rfl]
        rw [u_lst_ (by simp [sizeLine_eq])]
        exact (call_eq (by rfl)).trans lv
      rw [u_dBin, e]
      rfl
    have t3 : dBin oEq (dCallL (callOp 5 ((Lv G dfs 60 19 (17 + 2)).f 17) []) (dCons (dVar 0) (dCons (dC (.str "free")) (dCons (dVar 1) (dCons (dVar 2) (dCons (dCallL oLst dNil) dNil)))))) (dC (.int 1)) [some (.int n), some (.int p), some (.int p), none] S = .ok (.bl true) (S ++ [(false, .lst (vis n "free" p p []))]) := by
      have e : (dCallL (callOp 5 ((Lv G dfs 60 19 (17 + 2)).f 17) []) (dCons (dVar 0) (dCons (dC (.str "free")) (dCons (dVar 1) (dCons (dVar 2) (dCons (dCallL oLst dNil) dNil)))))) [some (.int n), some (.int p), some (.int p), none] S = .ok (.int 1) (S ++ [(false, .lst (vis n "free" p p []))]) := by
        simp only [u_dCallL, u_dCons, u_dNil, u_bok, u_dC, show dVar 0 [some (.int n), some (.int p), some (.int p), none] S = .ok (.int n) S from rfl, show dVar 1 [some (.int n), some (.int p), some (.int p), none] S = .ok (.int p) S from rfl, show dVar 2 [some (.int n), some (.int p), some (.int p), none] S = .ok (.int p) S from rfl]
        rw [u_lst_ (by simp [sizeLine_eq])]
        exact (call_eq (by rfl)).trans sv
      rw [u_dBin, e, u_bok, u_dC, u_bok, u_eqI]
      rfl
    simp only [d43]
    refine (congrArg resOf (seq_rt ?_)).trans rfl
    rw [u_dIf, t1]
    simp only [u_lok, if_true]
    refine seq_rt ?_
    rw [u_dRet, and_t t2, t3]
    rfl
  · have h2 : 2 ≤ n := by omega
    have sv := sights_vals (k := 12) (S := S) ok (v := .lst ([(0, b)].map pairP)) (xs := [(0, b)]) (.inl rfl) (by simp) (miss_let h2 b0 bn hp)
    simp only [Nat.reduceAdd] at sv
    rw [vis_zero h5 b0 bn p0 pn hp] at sv
    have lv := least_one (S := S) h5 b0 bn p0 pn hp
    refine ⟨[(false, .lst (vis n "free" b p [(0, b)]))], ?_⟩
    have t1 : dOrT (dBl (dBin oEq (dVar 0) (dC (.int 1)))) (dBl (dBin oEq (dVar 2) (dVar 1))) [some (.int n), some (.int b), some (.int p), none] S = .ok false S := by
      have hn : n ≠ 1 := by omega
      simp [dBl, dVar, isThk, hn, hp]
    have t0 : dAsg (.name 3) (dCallL oLst (dCons (dCallL oTup (dCons (dC (.int 0)) (dCons (dVar 1) dNil))) dNil)) [some (.int n), some (.int b), some (.int p), none] S = .nx [some (.int n), some (.int b), some (.int p), some (.lst ([(0, b)].map pairP))] S := by
      simp [dAsg, dVar, isThk, sizeLine_eq, bindG, pairP]
    generalize hF : ([some (.int n), some (.int b), some (.int p), some (.lst ([(0, b)].map pairP))] : E2.Frame) = F at *
    have v0 : ∀ T, dVar 0 F T = .ok (.int n) T := by subst hF; exact fun _ => rfl
    have v1 : ∀ T, dVar 1 F T = .ok (.int b) T := by subst hF; exact fun _ => rfl
    have v2 : ∀ T, dVar 2 F T = .ok (.int p) T := by subst hF; exact fun _ => rfl
    have v3 : ∀ T, dVar 3 F T = .ok (.lst ([(0, b)].map pairP)) T := by subst hF; exact fun _ => rfl
    have t2 : dBin oEq (dCallL (callOp 3 ((Lv G dfs 60 19 (17 + 2)).f 34) []) (dCons (dVar 0) (dCons (dCallL oTup (dCons (dVar 1) dNil)) (dCons (dVar 2) dNil)))) (dC (.int 1)) F S = .ok (.bl true) S := by
      have e : (dCallL (callOp 3 ((Lv G dfs 60 19 (17 + 2)).f 34) []) (dCons (dVar 0) (dCons (dCallL oTup (dCons (dVar 1) dNil)) (dCons (dVar 2) dNil)))) F S = .ok (.int 1) S := by
        simp only [u_dCallL, u_dCons, u_dNil, u_bok, v0, v1, v2]
        rw [u_tup_ (by simp [sizeLine_eq])]
        exact (call_eq (by rfl)).trans lv
      rw [u_dBin, e, u_bok, u_dC, u_bok, u_eqI]
      rfl
    have t3 : dBin oEq (dCallL (callOp 5 ((Lv G dfs 60 19 (17 + 2)).f 17) []) (dCons (dVar 0) (dCons (dC (.str "free")) (dCons (dVar 1) (dCons (dVar 2) (dCons (dVar 3) dNil)))))) (dC (.int 0)) F S = .ok (.bl true) (S ++ [(false, .lst (vis n "free" b p [(0, b)]))]) := by
      have e : (dCallL (callOp 5 ((Lv G dfs 60 19 (17 + 2)).f 17) []) (dCons (dVar 0) (dCons (dC (.str "free")) (dCons (dVar 1) (dCons (dVar 2) (dCons (dVar 3) dNil)))))) F S = .ok (.int 0) (S ++ [(false, .lst (vis n "free" b p [(0, b)]))]) := by
        simp only [u_dCallL, u_dCons, u_dNil, u_bok, u_dC, v0, v1, v2, v3]
        exact (call_eq (by rfl)).trans sv
      rw [u_dBin, e, u_bok, u_dC, u_bok, u_eqI]
      rfl
    simp only [d43]
    rw [seq_nx (S' := S) (fr' := [some (.int n), some (.int b), some (.int p), none]) (by rw [u_dIf, t1]; rfl), seq_nx t0]
    refine (congrArg resOf (seq_rt ?_)).trans rfl
    rw [u_dRet, and_t t2, t3]
    rfl
/-! ### papers -/
theorem vis_ints {pl : Int → List PV} : ∀ (m : Nat) (i : Int), ∃ is : List Int, visS n w b pl i m = is.map .int
  | 0, i => ⟨[], rfl⟩
  | m + 1, i => by
    obtain ⟨is, e⟩ := vis_ints (pl := pl) m (i + 1)
    simp only [visS, e]
    split
    · exact ⟨i :: is, rfl⟩
    · exact ⟨is, rfl⟩
theorem eq_nilI {is : List Int} : oEq (.lst (is.map .int)) (.lst []) S = .ok (.bl (is.map PV.int).isEmpty) S := by
  have e : shD S (.lst (is.map .int)) = some (.list (is.map .int)) := by
    have s : SeqAt.shaped (.list (is.map .int)) = true := by
      unfold SeqAt.shaped
      rw [PyData.canLay0, lay_ints, PyData.depth, depth_ints]
      rfl
    simp [shD, toD, toDL_ints, s]
  have e0 : shD S (.lst []) = some (.list []) := rfl
  simp only [oEq, e, e0]
  cases is <;> rfl
theorem miss_vals {p : Int} (h : Ok n w b p) {xs : List (Int × Int)} (hl : xs.length ≤ 1000) (hf : fwS n w b 0 p xs = none) : (Lv G dfs 60 (k + 7) (k + 7)).f 27 [.int n, .str w, .int b, .int p, .lst (xs.map pairP)] S = .ok (.bl (vis n w b p xs).isEmpty) (S ++ [(false, .lst (vis n w b p xs))]) := by
  rw [f27 (k + 4)]
  have sF : startF ["pages", "rule", "begin", "page", "moves"] [.int n, .str w, .int b, .int p, .lst (xs.map pairP)] = [some (.int n), some (.str w), some (.int b), some (.int p), some (.lst (xs.map pairP))] := by simp [startF]
  rw [sF]
  have h1 := num_vals (k := k + 2) (S := S) (i := b) (lo := 0) (hi := n - 1) h.b0 (by have := h.bn; omega)
  have h2 := num_vals (k := k + 2) (S := S) (i := p) (lo := 0) (hi := n - 1) h.p0 (by have := h.pn; omega)
  have h3 := e2 (k := k + 3) (S := S) (v := .lst (xs.map pairP)) (xs := xs.map pairP) (.inl rfl)
  have h4 := e12 (k := k) (S := S) (b := b) h.pos h.w3 (p := p) (v := .lst (xs.map pairP)) (.inl rfl)
  rw [hf] at h4
  have h5 := e16 (k := k + 2) (S := S) (b := b) h.pos h.n6 h.w3 (p := p) (ms := .lst (xs.map pairP)) (.inl rfl) hl
  have h0 : oIs true PV.non .non S = .ok (.bl false) S := rfl
  obtain ⟨is, ei⟩ := vis_ints (n := n) (w := w) (b := b) (pl := plc p xs) n.toNat 0
  have h6 := fun T => eq_nilI (S := T) (is := is)
  rw [← ei] at h6
  simp [d27, callOp, h1, h2, h3, h4, h5, retN, h0, dVar, i1, i2, i3, dSeq, dTru, dBl, h6, vis]
theorem paper_miss {p : Int} (h : Ok n w b p) {xs : List (Int × Int)} (hx : xs = [] ∨ xs = [(0, 0)]) (hf : fwS n w b 0 p xs = none) : (Lv G dfs 60 (k + 8) (k + 8)).f 28 [.int n, .str w, .tup [.str "miss", .int b, .int p, .lst (xs.map pairP)]] S = .ok (.bl (vis n w b p xs).isEmpty) (S ++ [(false, .lst (vis n w b p xs))]) := by
  rw [f28 (k + 5)]
  generalize hv : PV.tup [.str "miss", .int b, .int p, .lst (xs.map pairP)] = v
  have sF : startF ["pages", "rule", "value"] [.int n, .str w, v] = [some (.int n), some (.str w), some v] := by simp [startF]
  rw [sF]
  have a1 := e4 (k := k + 2) (S := S) h.n1 h.n6
  have a2 := e6 (k := k + 3) (S := S) h.w3
  have a3 := miss_vals (k := k) (S := S) h (xs := xs) (by rcases hx with rfl | rfl <;> simp) hf
  have vt : isThk v = false := by subst hv; rfl
  have q1 : oIsi [v, .ty .tuple] S = .ok (.bl true) S := by subst hv; simp [oIsi, tyOf, isI]
  have q2 : oEq v (.tup []) S = .ok (.bl false) S := by
    subst hv
    rcases hx with rfl | rfl <;> kernel_rfl
  have q3 : oIx v (.int 0) S = .ok (.str "miss") S := by subst hv; rfl
  have q4 : oIx v (.int 1) S = .ok (.int b) S := by subst hv; rfl
  have q5 : oIx v (.int 2) S = .ok (.int p) S := by subst hv; rfl
  have q6 : oIx v (.int 3) S = .ok (.lst (xs.map pairP)) S := by subst hv; rfl
  have q7 : oIsi [.str "miss", .ty .str] S = .ok (.bl true) S := by simp [oIsi, tyOf, isI]
  have q8 : oEq (.str "miss") (.str "miss") S = .ok (.bl true) S := by kernel_rfl
  have q9 : oLen [v] S = .ok (.int 4) S := by subst hv; rfl
  simp [d28, callOp, a1, a2, a3, dVar, i1, i2, vt, dSeq, dTru, dBl, q1, q2, q3, q4, q5, q6, q7, q8, q9, dAndV, sizeLine_eq]
theorem shL {L : List Sta} : oEq (.tup [.str "none", .lst (L.map encS)]) (.tup []) S = .ok (.bl false) S := by
  have e : shD S (.tup [.str "none", .lst (L.map encS)]) = some (.tuple [.str "none", .list (L.map dS)]) := by
    have s : SeqAt.shaped (.tuple [.str "none", .list (L.map dS)]) = true := by
      have c : (PyData.tuple [.str "none", .list (L.map dS)]).canLay0 = true := by
        rw [PyData.canLay0, PyData.canLayAll0, PyData.canLayAll0, PyData.canLay0, PyData.canLay0, PyData.canLayAll0, lay_L]
        decide +kernel
      have d : (PyData.tuple [.str "none", .list (L.map dS)]).depth ≤ 64 := by
        have := depth_L L
        simp only [PyData.depth, PyData.depthAll]
        omega
      unfold SeqAt.shaped
      rw [c, decide_eq_true d]
      rfl
    simp [shD, toD, toDL, toDL_enc, s]
  have e0 : shD S (.tup []) = some (.tuple []) := rfl
  simp only [oEq, e, e0]
  rfl
theorem paper_none (h1 : 1 ≤ n) (h5 : n ≤ 5) (hw : W3 w) {L : List Sta} (c : Clo n w L) : ∃ T, (Lv G dfs 60 (k + 9) (k + 9)).f 28 [.int n, .str w, .tup [.str "none", .lst (L.map encS)]] S = .ok (.bl true) T := by
  obtain ⟨T, e, _⟩ := none_vals (k := k) (S := S) h1 h5 hw c
  refine ⟨T, ?_⟩
  rw [f28 (k + 6)]
  have q2 := shL (S := S) (L := L)
  generalize hv : PV.tup [.str "none", .lst (L.map encS)] = v at *
  have sF : startF ["pages", "rule", "value"] [.int n, .str w, v] = [some (.int n), some (.str w), some v] := by simp [startF]
  rw [sF]
  have a1 := e4 (k := k + 3) (S := S) h1 (by omega)
  have a2 := e6 (k := k + 4) (S := S) hw
  have vt : isThk v = false := by subst hv; rfl
  have q1 : oIsi [v, .ty .tuple] S = .ok (.bl true) S := by subst hv; simp [oIsi, tyOf, isI]
  have q3 : oIx v (.int 0) S = .ok (.str "none") S := by subst hv; rfl
  have q4 : oIx v (.int 1) S = .ok (.lst (L.map encS)) S := by subst hv; rfl
  have q7 : oIsi [.str "none", .ty .str] S = .ok (.bl true) S := by simp [oIsi, tyOf, isI]
  have q8 : oEq (.str "none") (.str "miss") S = .ok (.bl false) S := by kernel_rfl
  have q8' : oEq (.str "none") (.str "none") S = .ok (.bl true) S := by kernel_rfl
  have q9 : oLen [v] S = .ok (.int 2) S := by subst hv; rfl
  simp [d28, callOp, a1, a2, e, dVar, i1, i2, vt, dSeq, dTru, dBl, q1, q2, q3, q4, q7, q8, q8', q9, dAndV, sizeLine_eq]
/-- the told paper: told, and accepted -/
theorem paper_ok (h1 : 1 ≤ n) (h5 : n ≤ 5) (hw : W3 w) : ∃ (v : PV) (T T' : Store) (f : Str), isThk v = false ∧ (Lv G dfs 60 (k + 9) (k + 9)).f 23 [.int n, .str w] S = .ok v T ∧ (Lv G dfs 60 (k + 9) (k + 9)).f 28 [.int n, .str w, v] T = .ok (.bl true) T' ∧ (∀ T, oIx v (.int 0) T = .ok (.str f) T) ∧ f = (if w = "free" ∧ 1 < n then "miss" else "none") := by
  have a1 := e4 (k := k + 3) (S := S) h1 (by omega)
  have a2 := e6 (k := k + 4) (S := S) hw
  have sF : startF ["pages", "rule"] [.int n, .str w] = [some (.int n), some (.str w)] := by simp [startF]
  by_cases hc : w = "free" ∧ 1 < n
  · obtain ⟨rfl, hn⟩ := hc
    have ok : Ok n "free" 0 1 := ⟨h1, by omega, wfree, by omega, by omega, by omega, by omega⟩
    have hl : fwS n "free" 0 0 1 [(0, 0)] = none := miss_let (by omega) (by omega) (by omega) (by omega)
    have vz := vis_zero (n := n) (b := 0) (p := 1) h5 (by omega) (by omega) (by omega) (by omega) (by omega)
    have pm := paper_miss (k := k + 1) (S := S) ok (xs := [(0, 0)]) (.inr rfl) hl
    rw [List.isEmpty_iff_length_eq_zero.mpr vz] at pm
    refine ⟨.tup [.str "miss", .int 0, .int 1, .lst [.tup [.int 0, .int 0]]], S, _, "miss", rfl, ?_, pm, fun _ => rfl, by rw [if_pos ⟨rfl, hn⟩]⟩
    rw [f23 (k + 6), sF]
    have e0 : oEq (.str "free") (.str "free") S = .ok (.bl true) S := by kernel_rfl
    simp [d23, callOp, a1, a2, dVar, i1, i2, dSeq, dBl, e0, hn, sizeLine_eq]
  · have w2 : W2 n w := by
      rcases hw with rfl | rfl | rfl
      · exact .inl rfl
      · refine .inr (.inr ⟨rfl, ?_⟩)
        by_cases z : 1 < n
        · exact absurd ⟨rfl, z⟩ hc
        · omega
      · exact .inr (.inl rfl)
    obtain ⟨L, T, e1, _, c⟩ := all_vals (k := k) (S := S) h1 h5 hw w2
    obtain ⟨T', e2⟩ := paper_none (k := k) (S := T) h1 h5 hw c
    refine ⟨.tup [.str "none", .lst (L.map encS)], T, T', "none", rfl, ?_, e2, fun _ => rfl, by rw [if_neg hc]⟩
    rw [f23 (k + 6), sF]
    have ef : oEq (.str w) (.str "free") S = .ok (.bl (decide (w = "free"))) S := by
      rcases hw with rfl | rfl | rfl <;> kernel_rfl
    by_cases hf : w = "free"
    · have z : ¬ 1 < n := fun z => hc ⟨hf, z⟩
      subst hf
      have e0 : oEq (.str "free") (.str "free") S = .ok (.bl true) S := by kernel_rfl
      simp [d23, callOp, a1, a2, dVar, i1, i2, dSeq, dBl, e0, z, e1, sizeLine_eq]
    · simp [d23, callOp, a1, a2, dVar, i1, i2, dSeq, dBl, ef, hf, e1, sizeLine_eq]
theorem e35 {ns : List Int} {j : Int} (h0 : 0 ≤ j) (h4 : j < 100) : ∃ S', Src S.length S' ∧ (Lv G dfs 60 (k + 3) (k + 3)).f 35 [.scr ns, .int j] S = .ok (.ref S.length) S' := by
  obtain ⟨S', h, e⟩ := pool_run (ns := ns) (S := S) h0 h4
  refine ⟨S', h, ?_⟩
  rw [f35]
  exact e
def i44 (Φ : Nat → Phi) (k : Nat) : DS := (dSeq (dIf (dNotT (dTru (dCallL (callOp 5 ((Φ (k + 2)).f 42) []) (dCons (dVar 2) (dCons (dVar 3) (dCons (dVar 4) (dCons (dVar 5) (dCons (dVar 6) dNil)))))))) (dSeq (dRet (dC (.bl false))) dNext) dNext) (dSeq (dIf (dNotT (dTru (dCallL (callOp 3 ((Φ (k + 2)).f 43) []) (dCons (dVar 3) (dCons (dVar 5) (dCons (dVar 6) dNil)))))) (dSeq (dRet (dC (.bl false))) dNext) dNext) dNext))
def b44 (Φ : Nat → Phi) (k : Nat) : DS := (dSeq (dAsg (.name 2) (dCallL (callOp 2 ((Φ (k + 2)).f 35) []) (dCons (dVar 0) (dCons (dVar 1) dNil)))) (dSeq (dPar [3, 4] (dCons (dBin oAdd (dC (.int 1)) (dCallL (callOp 2 ((Φ (k + 2)).f 36) []) (dCons (dVar 2) (dCons (dC (.int 5)) dNil)))) (dCons (dCallL (callOp 2 ((Φ (k + 2)).f 37) []) (dCons (dVar 2) (dCons (dCallL oLst (dCons (dC (.str "barred")) (dCons (dC (.str "free")) (dCons (dC (.str "left")) dNil)))) dNil))) dNil))) (dSeq (dAsg (.name 5) (dCallL (callOp 2 ((Φ (k + 2)).f 36) []) (dCons (dVar 2) (dCons (dVar 3) dNil)))) (dSeq (dFor (dRng1 (dCons (dVar 3) dNil)) (.name 6) (dSeq (dIf (dNotT (dTru (dCallL (callOp 5 ((Φ (k + 2)).f 42) []) (dCons (dVar 2) (dCons (dVar 3) (dCons (dVar 4) (dCons (dVar 5) (dCons (dVar 6) dNil)))))))) (dSeq (dRet (dC (.bl false))) dNext) dNext) (dSeq (dIf (dNotT (dTru (dCallL (callOp 3 ((Φ (k + 2)).f 43) []) (dCons (dVar 3) (dCons (dVar 5) (dCons (dVar 6) dNil)))))) (dSeq (dRet (dC (.bl false))) dNext) dNext) dNext))) (dSeq (dAsg (.name 7) (dCallL (callOp 2 ((Φ (k + 2)).f 23) []) (dCons (dVar 3) (dCons (dVar 4) dNil)))) (dSeq (dIf (dBl (dBin oNe (dBin oEq (dBin oIx (dVar 7) (dC (.int 0))) (dC (.str "miss"))) (dAndV (dBin oEq (dVar 4) (dC (.str "free"))) (dBin (oCmpI fun i j => decide (j < i)) (dVar 3) (dC (.int 1)))))) (dSeq (dRet (dC (.bl false))) dNext) dNext) (dSeq (dIf (dBl (dBin (oIs true) (dCallL (callOp 3 ((Φ (k + 2)).f 28) []) (dCons (dVar 3) (dCons (dVar 4) (dCons (dVar 7) dNil)))) (dC (.bl true)))) (dSeq (dRet (dC (.bl false))) dNext) dNext) (dSeq (dIf (dBl (dBin (oIs true) (dCallL (callOp 3 ((Φ (k + 2)).f 28) []) (dCons (dVar 3) (dCons (dVar 4) (dCons (dCallL oTup (dCons (dC (.str "miss")) (dCons (dVar 5) (dCons (dVar 5) (dCons (dCallL oLst dNil) dNil))))) dNil)))) (dC (.bl false)))) (dSeq (dRet (dC (.bl false))) dNext) dNext) dNext))))))))
def fr44 (ns : List Int) (x1 x2 x3 x4 x5 x6 x7 : Option PV) : E2.Frame := [some (.scr ns), x1, x2, x3, x4, x5, x6, x7]
theorem ways {x : PV} (h : x ∈ [PV.str "barred", .str "free", .str "left"]) : ∃ w, x = .str w ∧ W3 w := by
  simp only [List.mem_cons, List.not_mem_nil, or_false] at h
  rcases h with rfl | rfl | rfl
  · exact ⟨_, rfl, .inl rfl⟩
  · exact ⟨_, rfl, .inr (.inl rfl)⟩
  · exact ⟨_, rfl, .inr (.inr rfl)⟩
theorem call_of {f : List PV → Store → Res PV} {m : Nat} {a : DA} {fr : E2.Frame} {T T1 : Store} {xs : List PV} (h : a fr T = .ok xs T1) (hm : xs.length = m) : dCallL (callOp m f []) a fr T = f xs T1 := by
  rw [u_dCallL, h, u_bok, call_eq hm]
theorem i44_run {x7 : Option PV} {ns : List Int} {j q : Nat} {p : Int} (h1 : 1 ≤ n) (h5 : n ≤ 5) (hw : W3 w) (b0 : 0 ≤ b) (bn : b < n) (p0 : 0 ≤ p) (pn : p < n) {T : Store} (hs : Src q T) : ∃ T', Src q T' ∧ i44 (Lv G dfs 60 20) 18 (fr44 ns (some (.int j)) (some (.ref q)) (some (.int n)) (some (.str w)) (some (.int b)) (some (.int p)) x7) T = .nx (fr44 ns (some (.int j)) (some (.ref q)) (some (.int n)) (some (.str w)) (some (.int b)) (some (.int p)) x7) T' := by
  have ok : Ok n w b p := ⟨h1, by omega, hw, b0, bn, p0, pn⟩
  obtain ⟨T1, kp, e1⟩ := record_ok (k := 12) (S := T) ok hs
  simp only [Nat.reduceAdd] at e1
  obtain ⟨r, e2⟩ := missed_ok (S := T1) h1 h5 b0 bn p0 pn
  refine ⟨T1 ++ r, kp.src.app r, ?_⟩
  have g1 : dNotT (dTru (dCallL (callOp 5 ((Lv G dfs 60 20 (18 + 2)).f 42) []) (dCons (dVar 2) (dCons (dVar 3) (dCons (dVar 4) (dCons (dVar 5) (dCons (dVar 6) dNil))))))) (fr44 ns (some (.int j)) (some (.ref q)) (some (.int n)) (some (.str w)) (some (.int b)) (some (.int p)) x7) T = .ok false T1 := by
    have c : dCallL (callOp 5 ((Lv G dfs 60 20 (18 + 2)).f 42) []) (dCons (dVar 2) (dCons (dVar 3) (dCons (dVar 4) (dCons (dVar 5) (dCons (dVar 6) dNil))))) (fr44 ns (some (.int j)) (some (.ref q)) (some (.int n)) (some (.str w)) (some (.int b)) (some (.int p)) x7) T = .ok (.bl true) T1 := by
      refine (call_of (m := 5) (xs := [.ref q, .int n, .str w, .int b, .int p]) (T1 := T) ?_ rfl).trans e1
      rfl
    rw [u_dNotT, dTru, c]
    rfl
  have g2 : dNotT (dTru (dCallL (callOp 3 ((Lv G dfs 60 20 (18 + 2)).f 43) []) (dCons (dVar 3) (dCons (dVar 5) (dCons (dVar 6) dNil))))) (fr44 ns (some (.int j)) (some (.ref q)) (some (.int n)) (some (.str w)) (some (.int b)) (some (.int p)) x7) T1 = .ok false (T1 ++ r) := by
    have c : dCallL (callOp 3 ((Lv G dfs 60 20 (18 + 2)).f 43) []) (dCons (dVar 3) (dCons (dVar 5) (dCons (dVar 6) dNil))) (fr44 ns (some (.int j)) (some (.ref q)) (some (.int n)) (some (.str w)) (some (.int b)) (some (.int p)) x7) T1 = .ok (.bl true) (T1 ++ r) := by
      refine (call_of (m := 3) (xs := [.int n, .int b, .int p]) (T1 := T1) ?_ rfl).trans e2
      rfl
    rw [u_dNotT, dTru, c]
    rfl
  unfold i44
  rw [seq_nx (S' := T1) (fr' := fr44 ns (some (.int j)) (some (.ref q)) (some (.int n)) (some (.str w)) (some (.int b)) (some (.int p)) x7) (by rw [u_dIf, g1]; rfl), seq_nx (S' := T1 ++ r) (fr' := fr44 ns (some (.int j)) (some (.ref q)) (some (.int n)) (some (.str w)) (some (.int b)) (some (.int p)) x7) (by rw [u_dIf, g2]; rfl)]
  rfl
theorem go44 {x7 : Option PV} {ns : List Int} {j q : Nat} (h1 : 1 ≤ n) (h5 : n ≤ 5) (hw : W3 w) (b0 : 0 ≤ b) (bn : b < n) : ∀ (m : Nat) (i : Int) (T : Store) (x6 : Option PV), 0 ≤ i → i + m ≤ n → Src q T →
    ∃ T' y6, Src q T' ∧ forGo (.name 6) (i44 (Lv G dfs 60 20) 18) (rngP i m) (fr44 ns (some (.int j)) (some (.ref q)) (some (.int n)) (some (.str w)) (some (.int b)) x6 x7) T = .nx (fr44 ns (some (.int j)) (some (.ref q)) (some (.int n)) (some (.str w)) (some (.int b)) y6 x7) T'
  | 0, i, T, x6, _, _, hs => ⟨T, x6, hs, rfl⟩
  | m + 1, i, T, x6, h0, hi, hs => by
    obtain ⟨T1, s1, e1⟩ := i44_run (ns := ns) (j := j) (p := i) h1 h5 hw b0 bn h0 (by omega) hs
    obtain ⟨T2, y6, s2, e2⟩ := go44 h1 h5 hw b0 bn m (i + 1) T1 (some (.int i)) (by omega) (by omega) s1
    exact ⟨T2, y6, s2, by rw [rngP, forGo_next (fr2 := fr44 ns (some (.int j)) (some (.ref q)) (some (.int n)) (some (.str w)) (some (.int b)) (some (.int i)) x7) rfl e1, e2]⟩
theorem b44_run {ns : List Int} {j : Nat} (hj : j < 100) {x2 x3 x4 x5 x6 x7 : Option PV} : ∃ (y2 y3 y4 y5 y6 y7 : Option PV) (T' : Store), b44 (Lv G dfs 60 20) 18 (fr44 ns (some (.int j)) x2 x3 x4 x5 x6 x7) S = .nx (fr44 ns (some (.int j)) y2 y3 y4 y5 y6 y7) T' := by
  obtain ⟨S1, s1, e1⟩ := e35 (k := 17) (S := S) (ns := ns) (j := j) (by omega) (by omega)
  obtain ⟨t, S2, t5, k2, e2⟩ := take_ok (k := 17) S1 5 s1 (by omega) (by omega)
  obtain ⟨x, hx, S3, k3, e3⟩ := one_ok (k := 16) (xs := [.str "barred", .str "free", .str "left"]) k2.src (by simp) (by simp)
  obtain ⟨w, rfl, hw⟩ := ways hx
  have n1 : (1 : Int) ≤ 1 + t := by omega
  have n5 : (1 : Int) + t ≤ 5 := by omega
  obtain ⟨b, S4, bn, k4, e4⟩ := take_ok (k := 17) S3 (1 + t) k3.src (by omega) (by omega)
  simp only [Nat.reduceAdd] at e1 e2 e3 e4
  obtain ⟨S5, y6, s5, e5⟩ := go44 (x7 := x7) (ns := ns) (j := j) (q := S.length) (n := 1 + t) (w := w) (b := b) n1 n5 hw (by omega) bn (1 + (t : Int)).toNat 0 S4 x6 (Int.le_refl _) (by omega) k4.src
  obtain ⟨v, S6, S7, f, vt, e6, e7, vx, fe⟩ := paper_ok (k := 11) (S := S5) (n := 1 + t) (w := w) n1 n5 hw
  have ok : Ok (1 + t) w b b := ⟨n1, by omega, hw, by omega, bn, by omega, bn⟩
  have e8 := paper_miss (k := 12) (S := S7) ok (xs := []) (.inl rfl) rfl
  simp only [Nat.reduceAdd] at e6 e7 e8
  have vne : (vis (1 + t) w b b []).isEmpty = false := by
    have so : 1 ≤ (vis (1 + t) w b b []).length := by
      by_cases hf : w = "free"
      · subst hf
        rw [vis_one n5 (by omega) bn]
        exact Nat.le_refl _
      · exact seen_once (by omega) hw hf (by omega) bn rfl
    cases h : vis (1 + t) w b b [] with
    | nil => rw [h] at so; simp at so
    | cons a r => rfl
  rw [vne] at e8
  have c1 : dAsg (.name 2) (dCallL (callOp 2 ((Lv G dfs 60 20 (18 + 2)).f 35) []) (dCons (dVar 0) (dCons (dVar 1) dNil))) (fr44 ns (some (.int j)) x2 x3 x4 x5 x6 x7) S = .nx (fr44 ns (some (.int j)) (some (.ref S.length)) x3 x4 x5 x6 x7) S1 := by
    have c : dCallL (callOp 2 ((Lv G dfs 60 20 (18 + 2)).f 35) []) (dCons (dVar 0) (dCons (dVar 1) dNil)) (fr44 ns (some (.int j)) x2 x3 x4 x5 x6 x7) S = .ok (.ref S.length) S1 := by
      refine (call_of (m := 2) (xs := [.scr ns, .int j]) (T1 := S) ?_ rfl).trans e1
      rfl
    rw [dAsg, c]
    rfl
  have c2 : dPar [3, 4] (dCons (dBin oAdd (dC (.int 1)) (dCallL (callOp 2 ((Lv G dfs 60 20 (18 + 2)).f 36) []) (dCons (dVar 2) (dCons (dC (.int 5)) dNil)))) (dCons (dCallL (callOp 2 ((Lv G dfs 60 20 (18 + 2)).f 37) []) (dCons (dVar 2) (dCons (dCallL oLst (dCons (dC (.str "barred")) (dCons (dC (.str "free")) (dCons (dC (.str "left")) dNil)))) dNil))) dNil)) (fr44 ns (some (.int j)) (some (.ref S.length)) x3 x4 x5 x6 x7) S1 = .nx (fr44 ns (some (.int j)) (some (.ref S.length)) (some (.int (1 + t))) (some (.str w)) x5 x6 x7) S3 := by
    have ca : dCallL (callOp 2 ((Lv G dfs 60 20 (18 + 2)).f 36) []) (dCons (dVar 2) (dCons (dC (.int 5)) dNil)) (fr44 ns (some (.int j)) (some (.ref S.length)) x3 x4 x5 x6 x7) S1 = .ok (.int (t : Nat)) S2 := by
      refine (call_of (m := 2) (xs := [.ref S.length, .int 5]) (T1 := S1) ?_ rfl).trans e2
      rfl
    have cb : dCallL (callOp 2 ((Lv G dfs 60 20 (18 + 2)).f 37) []) (dCons (dVar 2) (dCons (dCallL oLst (dCons (dC (.str "barred")) (dCons (dC (.str "free")) (dCons (dC (.str "left")) dNil)))) dNil)) (fr44 ns (some (.int j)) (some (.ref S.length)) x3 x4 x5 x6 x7) S2 = .ok (.str w) S3 := by
      refine (call_of (m := 2) (xs := [.ref S.length, .lst [.str "barred", .str "free", .str "left"]]) (T1 := S2) ?_ rfl).trans e3
      simp [fr44, dVar, isThk, sizeLine_eq]
    rw [dPar, u_dCons, u_dBin, u_dC, u_bok, ca]
    simp only [u_bok, u_add, u_dCons, cb, u_dNil, u_lok]
    rfl
  have c3 : dAsg (.name 5) (dCallL (callOp 2 ((Lv G dfs 60 20 (18 + 2)).f 36) []) (dCons (dVar 2) (dCons (dVar 3) dNil))) (fr44 ns (some (.int j)) (some (.ref S.length)) (some (.int (1 + t))) (some (.str w)) x5 x6 x7) S3 = .nx (fr44 ns (some (.int j)) (some (.ref S.length)) (some (.int (1 + t))) (some (.str w)) (some (.int (b : Nat))) x6 x7) S4 := by
    have c : dCallL (callOp 2 ((Lv G dfs 60 20 (18 + 2)).f 36) []) (dCons (dVar 2) (dCons (dVar 3) dNil)) (fr44 ns (some (.int j)) (some (.ref S.length)) (some (.int (1 + t))) (some (.str w)) x5 x6 x7) S3 = .ok (.int (b : Nat)) S4 := by
      refine (call_of (m := 2) (xs := [.ref S.length, .int (1 + t)]) (T1 := S3) ?_ rfl).trans e4
      rfl
    rw [dAsg, c]
    rfl
  have r4 : dRng1 (dCons (dVar 3) dNil) (fr44 ns (some (.int j)) (some (.ref S.length)) (some (.int (1 + t))) (some (.str w)) (some (.int (b : Nat))) x6 x7) S4 = .ok (rngP 0 (1 + (t : Int)).toNat) S4 := rng1_eq rfl (by omega) (by omega)
  have c5 : dAsg (.name 7) (dCallL (callOp 2 ((Lv G dfs 60 20 (18 + 2)).f 23) []) (dCons (dVar 3) (dCons (dVar 4) dNil))) (fr44 ns (some (.int j)) (some (.ref S.length)) (some (.int (1 + t))) (some (.str w)) (some (.int (b : Nat))) y6 x7) S5 = .nx (fr44 ns (some (.int j)) (some (.ref S.length)) (some (.int (1 + t))) (some (.str w)) (some (.int (b : Nat))) y6 (some v)) S6 := by
    have c : dCallL (callOp 2 ((Lv G dfs 60 20 (18 + 2)).f 23) []) (dCons (dVar 3) (dCons (dVar 4) dNil)) (fr44 ns (some (.int j)) (some (.ref S.length)) (some (.int (1 + t))) (some (.str w)) (some (.int (b : Nat))) y6 x7) S5 = .ok v S6 := by
      refine (call_of (m := 2) (xs := [.int (1 + t), .str w]) (T1 := S5) ?_ rfl).trans e6
      rfl
    rw [dAsg, c]
    rfl
  generalize hF : fr44 ns (some (.int j)) (some (.ref S.length)) (some (.int (1 + t))) (some (.str w)) (some (.int (b : Nat))) y6 (some v) = F at *
  have v7 : ∀ T, dVar 7 F T = .ok v T := fun T => by subst hF; exact dVar_of rfl vt
  have v4 : ∀ T, dVar 4 F T = .ok (.str w) T := fun T => by subst hF; rfl
  have v3 : ∀ T, dVar 3 F T = .ok (.int (1 + t)) T := fun T => by subst hF; rfl
  have v5 : ∀ T, dVar 5 F T = .ok (.int (b : Nat)) T := fun T => by subst hF; rfl
  have ef : ∀ T, oEq (.str w) (.str "free") T = .ok (.bl (decide (w = "free"))) T := fun T => by
    rcases hw with rfl | rfl | rfl <;> kernel_rfl
  have em : ∀ T, oEq (.str f) (.str "miss") T = .ok (.bl (decide (w = "free" ∧ (1 : Int) < 1 + t))) T := fun T => by
    rw [fe]
    by_cases hc : w = "free" ∧ (1 : Int) < 1 + t
    · rw [if_pos hc, decide_eq_true hc]
      kernel_rfl
    · rw [if_neg hc, decide_eq_false hc]
      kernel_rfl
  have q6 : dBl (dBin oNe (dBin oEq (dBin oIx (dVar 7) (dC (.int 0))) (dC (.str "miss"))) (dAndV (dBin oEq (dVar 4) (dC (.str "free"))) (dBin (oCmpI fun i j => decide (j < i)) (dVar 3) (dC (.int 1))))) F S6 = .ok false S6 := by
    have z1 : dBin oEq (dBin oIx (dVar 7) (dC (.int 0))) (dC (.str "miss")) F S6 = .ok (.bl (decide (w = "free" ∧ (1 : Int) < 1 + t))) S6 := by
      simp only [u_dBin, v7, u_bok, u_dC, vx, em]
    have z2 : dAndV (dBin oEq (dVar 4) (dC (.str "free"))) (dBin (oCmpI fun i j => decide (j < i)) (dVar 3) (dC (.int 1))) F S6 = .ok (.bl (decide (w = "free" ∧ (1 : Int) < 1 + t))) S6 := by
      have z3 : dBin oEq (dVar 4) (dC (.str "free")) F S6 = .ok (.bl (decide (w = "free"))) S6 := by simp only [u_dBin, v4, u_bok, u_dC, ef]
      by_cases hf : w = "free"
      · rw [and_t (S1 := S6) (by rw [z3, decide_eq_true hf])]
        simp only [u_dBin, v3, u_bok, u_dC, u_cmp, hf, true_and]
      · rw [and_f (S1 := S6) (by rw [z3, decide_eq_false hf])]
        simp [hf]
    rw [dBl, u_dBin, z1, u_bok, z2, u_bok, u_neB]
    simp
  have q7 : dBl (dBin (oIs true) (dCallL (callOp 3 ((Lv G dfs 60 20 (18 + 2)).f 28) []) (dCons (dVar 3) (dCons (dVar 4) (dCons (dVar 7) dNil)))) (dC (.bl true))) F S6 = .ok false S7 := by
    have c : dCallL (callOp 3 ((Lv G dfs 60 20 (18 + 2)).f 28) []) (dCons (dVar 3) (dCons (dVar 4) (dCons (dVar 7) dNil))) F S6 = .ok (.bl true) S7 := by
      refine (call_of (m := 3) (xs := [.int (1 + t), .str w, v]) (T1 := S6) ?_ rfl).trans e7
      simp only [u_dCons, v3, v4, v7, u_bok, u_dNil]
    rw [dBl, u_dBin, c, u_bok, u_dC, u_bok, is_tt]
    rfl
  have q8 : dBl (dBin (oIs true) (dCallL (callOp 3 ((Lv G dfs 60 20 (18 + 2)).f 28) []) (dCons (dVar 3) (dCons (dVar 4) (dCons (dCallL oTup (dCons (dC (.str "miss")) (dCons (dVar 5) (dCons (dVar 5) (dCons (dCallL oLst dNil) dNil))))) dNil)))) (dC (.bl false))) F S7 = .ok false (S7 ++ [(false, .lst (vis (1 + t) w b b []))]) := by
    have c : dCallL (callOp 3 ((Lv G dfs 60 20 (18 + 2)).f 28) []) (dCons (dVar 3) (dCons (dVar 4) (dCons (dCallL oTup (dCons (dC (.str "miss")) (dCons (dVar 5) (dCons (dVar 5) (dCons (dCallL oLst dNil) dNil))))) dNil))) F S7 = .ok (.bl false) (S7 ++ [(false, .lst (vis (1 + t) w b b []))]) := by
      refine (call_of (m := 3) (xs := [.int (1 + t), .str w, .tup [.str "miss", .int b, .int b, .lst []]]) (T1 := S7) ?_ rfl).trans e8
      simp only [u_dCons, v3, v4, v5, u_bok, u_dNil, u_dCallL, u_dC]
      rw [u_lst_ (by simp [sizeLine_eq]), u_bok, u_bok, u_bok, u_bok, u_bok, u_tup_ (by simp [sizeLine_eq])]
      rfl
    rw [dBl, u_dBin, c, u_bok, u_dC, u_bok]
    rfl
  refine ⟨some (.ref S.length), some (.int (1 + t)), some (.str w), some (.int (b : Nat)), y6, some v, S7 ++ [(false, .lst (vis (1 + t) w b b []))], ?_⟩
  unfold b44
  rw [seq_nx c1, seq_nx c2, seq_nx c3]
  show dSeq (dFor (dRng1 (dCons (dVar 3) dNil)) (.name 6) (i44 (Lv G dfs 60 20) 18)) _ _ _ = _
  rw [seq_for_nx r4 e5, seq_nx c5, seq_nx (S' := S6) (fr' := F) (by rw [u_dIf, q6]; rfl), seq_nx (S' := S7) (fr' := F) (by rw [u_dIf, q7]; rfl), seq_nx (S' := S7 ++ [(false, .lst (vis (1 + t) w b b []))]) (fr' := F) (by rw [u_dIf, q8]; rfl), u_dNext, hF]
end
theorem plain : Plain := by
  intro ns hl _
  have e : runD G 60 (Lv G dfs 60 20) 20 lawDf [.scr ns] [] = resOf (d44 (Lv G dfs 60 20) 18 (startF ["_law_script", "_law_k", "_law_source", "_law_size", "_law_way", "_law_begin", "_law_spot", "_law_paper"] [.scr ns]) []) := by
    show runD G 60 (Lv G dfs 60 20) (18 + 2) ⟨"law", L2.defArgs (top 56), L2.defBody (top 56), L2.defScope (top 56), ["_law_script"], ["_law_script", "_law_k", "_law_source", "_law_size", "_law_way", "_law_begin", "_law_spot", "_law_paper"], false⟩ _ _ = _
    unfold runD
    dsimp only
    rw [c44]
  have hst : startF ["_law_script", "_law_k", "_law_source", "_law_size", "_law_way", "_law_begin", "_law_spot", "_law_paper"] [.scr ns] = fr44 ns none none none none none none none := by simp [startF, fr44]
  rw [e, hst]
  have hr : ∃ j : Nat, j ≤ 4 ∧ (dRng1 (dCons (dCallL oMax (dCons (dC (.int 1)) (dCons (dCallL oMin (dCons (dC (.int 4)) (dCons (dCallL oLen (dCons (dVar 0) dNil)) dNil))) dNil))) dNil)) (fr44 ns none none none none none none none) [] = .ok (rngP 0 j) [] := by
    refine ⟨(if (if (ns.length : Int) < 4 then (ns.length : Int) else 4) > 1 then (if (ns.length : Int) < 4 then (ns.length : Int) else 4) else 1 : Int).toNat, by split <;> (try split) <;> omega, ?_⟩
    refine rng1_eq (by simp [fr44, dVar, isThk, oMax, oMin]) (by split <;> (try split) <;> omega) (by split <;> (try split) <;> omega)
  obtain ⟨j, hj, er⟩ := hr
  obtain ⟨f3, S3, e3, _⟩ := for_inv (t := .name 1) (body := b44 (Lv G dfs 60 20) 18) (J := fun fr _ => ∃ x1 x2 x3 x4 x5 x6 x7, fr = fr44 ns x1 x2 x3 x4 x5 x6 x7) (K := fun fr _ => ∃ x1 x2 x3 x4 x5 x6 x7, fr = fr44 ns x1 x2 x3 x4 x5 x6 x7) (fun _ _ z => z) (rngP 0 j) (fun x hx fr S ⟨x1, x2, x3, x4, x5, x6, x7, hfr⟩ => by
    subst hfr
    obtain ⟨i, rfl, i0, i1⟩ := rngP_mem j 0 x hx
    obtain ⟨y2, y3, y4, y5, y6, y7, S', z⟩ := b44_run (ns := ns) (S := S) (j := i.toNat) (by omega) (x2 := x2) (x3 := x3) (x4 := x4) (x5 := x5) (x6 := x6) (x7 := x7)
    rw [show ((i.toNat : Nat) : Int) = i by omega] at z
    exact ⟨_, _, _, rfl, z, _, _, _, _, _, _, _, rfl⟩) (fr44 ns none none none none none none none) [] ⟨_, _, _, _, _, _, _, rfl⟩
  refine ⟨S3, ?_⟩
  show resOf (dSeq (dFor _ (.name 1) (b44 (Lv G dfs 60 20) 18)) _ _ _) = _
  rw [seq_for_nx er e3]
  rfl
end K22
theorem k22_done : PySem.Challenge.rw_plainstore_k22_whole_walks_that_miss_or.Holds := k22_of K22.plain
end
theorem PySem.Challenge.cw_plainstore_k22_whole_walks_that_miss_or_holds : PySem.Challenge.rw_plainstore_k22_whole_walks_that_miss_or.Holds := by
  exact k22_done
