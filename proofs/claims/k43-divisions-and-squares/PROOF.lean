import PyProof.Rows.All
import Wide.All
import OpenK.AllK
import Wide.FinOn
import HandS.ForMost
import HandS.ForExc
import HandS.Wide
import HandS.WideBits
import HandS.TupAny
import HandS.Rev
import HandS.Conv
import HandS.Flow
import HandS.Defaults
import HandS.Style
import HandS.SortInts
import HandS.IsInst
import HandS.EndBits
import HandS.Deep
import HandS.ExcInit
import HandS.ExcField
import HandS.ExcIs
import HandS.TryMany
import HandS.WordsExc
import KE.KExcSuper
import KE.KSuper
import HandS.More
import KE.GoesEnum
import HandS.Iter
import HandS.NoneIn
import HandS.RevRange
import PySem.Challenge.RW_swornspire_k43_divisions_and_squares
set_option Elab.async false
set_option linter.all false
set_option maxRecDepth 100000
/-! MiniPy, part A: data, what a value denotes, heaps without the owned lists. -/
namespace Mp
open PySem PySem.Spec PyProof.Rows L2

abbrev D := PyData

/-! ### what a value denotes -/
/-- a list that is read: tracked, or a part of what never changes -/
def LsR (K : PySem.W.Frag) (H : Hp) (a : Addr) (vs : List V) : Prop := Rd H a (.lst vs) ∨
  ∃ (its : List Value) (n : Nat), K.lookup a = some { cls := .type "list", data := .seq its.toArray n } ∧ its.length ≤ sizeLine ∧ Vals vs its
theorem LsR.sq {K : PySem.W.Frag} {H : Hp} {a : Addr} {vs : List V} (h : LsR K H a vs) : SqL K H a vs := by
  rcases h with h | ⟨its, n, h1, h2, h3⟩
  · exact .inl h
  · exact .inr ⟨_, its.toArray, n, h1, rfl, rfl, rfl, by simpa using h2, by simpa using h3⟩
mutual
inductive Dn (K : PySem.W.Frag) (H : Hp) : V → D → Prop
  | non : Dn K H .non .none
  | bl (b : Bool) : Dn K H (.bl b) (.bool b)
  | int (i : Int) : Dn K H (.int i) (.int i)
  | str (x : Str) : Dn K H (.str x) (.str x)
  | lst {a : Addr} {vs : List V} {ds : List D} : LsR K H a vs → DnAll K H vs ds → Dn K H (.ref a) (.list ds)
  | tup {a : Addr} {vs : List V} {ds : List D} : SqT K H a vs → DnAll K H vs ds → Dn K H (.ref a) (.tuple ds)
  | dct {a : Addr} {kvs : List (Key × V)} {kds : List (D × D)} : Rd H a (.dK kvs) → DnKV K H kvs kds → Dn K H (.ref a) (.dict kds)
inductive DnAll (K : PySem.W.Frag) (H : Hp) : List V → List D → Prop
  | nil : DnAll K H [] []
  | cons {v : V} {vs : List V} {d : D} {ds : List D} : Dn K H v d → DnAll K H vs ds → DnAll K H (v :: vs) (d :: ds)
inductive DnKV (K : PySem.W.Frag) (H : Hp) : List (Key × V) → List (D × D) → Prop
  | nil : DnKV K H [] []
  | int {i : Int} {v : V} {kvs : List (Key × V)} {d : D} {kds : List (D × D)} : Dn K H v d → DnKV K H kvs kds → DnKV K H ((.inl i, v) :: kvs) ((.int i, d) :: kds)
  | str {x : Str} {v : V} {kvs : List (Key × V)} {d : D} {kds : List (D × D)} : Dn K H v d → DnKV K H kvs kds → DnKV K H ((.inr x, v) :: kvs) ((.str x, d) :: kds)
end

theorem Same.seqT {K : PySem.W.Frag} {H H' : Hp} {a : Addr} {xs : List V} (e : Same H H') (h : SqT K H a xs) : SqT K H' a xs := by
  rcases h with (h | ⟨o, h⟩) | h
  · exact .inl (.inl (e _ _ h))
  · exact .inl (.inr ⟨o, e _ _ h⟩)
  · exact .inr h
theorem Same.rd {H H' : Hp} {a : Addr} {u : HO} (e : Same H H') (h : Rd H a u) : Rd H' a u := by
  rcases h with h | ⟨o, h⟩
  · exact .inl (e _ _ h)
  · exact .inr ⟨o, e _ _ h⟩
theorem Same.ls {K : PySem.W.Frag} {H H' : Hp} {a : Addr} {vs : List V} (e : Same H H') (h : LsR K H a vs) : LsR K H' a vs := by
  rcases h with h | h
  · exact .inl (Same.rd e h)
  · exact .inr h

section
variable {K : PySem.W.Frag} {H H' : Hp}
mutual
theorem Dn.mono (e : Same H H') : ∀ (d : D) {v : V}, Dn K H v d → Dn K H' v d
  | .none, _, h => by cases h; exact .non
  | .bool _, _, h => by cases h; exact .bl _
  | .int _, _, h => by cases h; exact .int _
  | .str _, _, h => by cases h; exact .str _
  | .list ds, _, h => by cases h with | lst h1 h2 => exact .lst (Same.ls e h1) (DnAll.mono e ds h2)
  | .tuple ds, _, h => by cases h with | tup h1 h2 => exact .tup (Same.seqT e h1) (DnAll.mono e ds h2)
  | .dict kds, _, h => by cases h with | dct h1 h2 => exact .dct (Same.rd e h1) (DnKV.mono e kds h2)
theorem DnAll.mono (e : Same H H') : ∀ (ds : List D) {vs : List V}, DnAll K H vs ds → DnAll K H' vs ds
  | [], _, h => by cases h; exact .nil
  | d :: ds, _, h => by cases h with | cons h1 h2 => exact .cons (Dn.mono e d h1) (DnAll.mono e ds h2)
theorem DnKV.mono (e : Same H H') : ∀ (kds : List (D × D)) {kvs : List (Key × V)}, DnKV K H kvs kds → DnKV K H' kvs kds
  | [], _, h => by cases h; exact .nil
  | (k, d) :: kds, _, h => by
    cases h with
    | int h1 h2 => exact .int (Dn.mono e d h1) (DnKV.mono e kds h2)
    | str h1 h2 => exact .str (Dn.mono e d h1) (DnKV.mono e kds h2)
end
theorem DnAll.length {vs : List V} {ds : List D} (h : DnAll K H vs ds) : vs.length = ds.length := by
  induction vs generalizing ds with
  | nil => cases h; rfl
  | cons v vs ih => cases h with | cons _ h2 => simp [ih h2]
theorem DnAll.get {vs : List V} {ds : List D} (h : DnAll K H vs ds) {i : Nat} {d : D} (e : ds[i]? = some d) : ∃ v, vs[i]? = some v ∧ Dn K H v d := by
  induction vs generalizing ds i with
  | nil => cases h; simp at e
  | cons v vs ih =>
    cases h with
    | cons h1 h2 =>
      cases i with
      | zero => simp at e; subst e; exact ⟨v, rfl, h1⟩
      | succ i => simpa using ih h2 (by simpa using e)
theorem DnAll.get' {vs : List V} {ds : List D} (h : DnAll K H vs ds) {i : Nat} {v : V} (e : vs[i]? = some v) : ∃ d, ds[i]? = some d ∧ Dn K H v d := by
  induction vs generalizing ds i with
  | nil => simp at e
  | cons w vs ih =>
    cases h with
    | cons h1 h2 =>
      cases i with
      | zero => simp at e; subst e; exact ⟨_, rfl, h1⟩
      | succ i => simpa using ih h2 (by simpa using e)
theorem DnAll.append {vs ws : List V} {ds es : List D} (h : DnAll K H vs ds) (h' : DnAll K H ws es) : DnAll K H (vs ++ ws) (ds ++ es) := by
  induction vs generalizing ds with
  | nil => cases h; exact h'
  | cons v vs ih => cases h with | cons h1 h2 => exact .cons h1 (ih h2)
theorem DnAll.take {vs : List V} {ds : List D} (h : DnAll K H vs ds) (n : Nat) : DnAll K H (vs.take n) (ds.take n) := by
  induction vs generalizing ds n with
  | nil => cases h; simp; exact .nil
  | cons v vs ih =>
    cases h with
    | cons h1 h2 =>
      cases n with
      | zero => simp; exact .nil
      | succ n => simpa using .cons h1 (ih h2 n)
theorem DnAll.drop {vs : List V} {ds : List D} (h : DnAll K H vs ds) (n : Nat) : DnAll K H (vs.drop n) (ds.drop n) := by
  induction vs generalizing ds n with
  | nil => cases h; simp; exact .nil
  | cons v vs ih =>
    cases h with
    | cons h1 h2 =>
      cases n with
      | zero => exact .cons h1 h2
      | succ n => simpa using ih h2 n
theorem DnAll.set {vs : List V} {ds : List D} (h : DnAll K H vs ds) {v : V} {d : D} (hv : Dn K H v d) (n : Nat) : DnAll K H (vs.set n v) (ds.set n d) := by
  induction vs generalizing ds n with
  | nil => cases h; simp; exact .nil
  | cons w vs ih =>
    cases h with
    | cons h1 h2 =>
      cases n with
      | zero => exact .cons hv h2
      | succ n => simpa using .cons h1 (ih h2 n)
theorem DnAll.reverse {vs : List V} {ds : List D} (h : DnAll K H vs ds) : DnAll K H vs.reverse ds.reverse := by
  induction vs generalizing ds with
  | nil => cases h; exact .nil
  | cons w vs ih =>
    cases h with
    | cons h1 h2 => simpa using (ih h2).append (.cons h1 .nil)
theorem DnAll.rep {vs : List V} {ds : List D} (h : DnAll K H vs ds) : ∀ n : Nat, DnAll K H (List.replicate n vs).flatten (List.replicate n ds).flatten
  | 0 => .nil
  | n + 1 => by
    rw [List.replicate_succ, List.replicate_succ, List.flatten_cons, List.flatten_cons]
    exact h.append (DnAll.rep h n)
theorem DnAll.dropLast {vs : List V} {ds : List D} (h : DnAll K H vs ds) : DnAll K H vs.dropLast ds.dropLast := by
  rw [List.dropLast_eq_take, List.dropLast_eq_take, h.length]; exact h.take _
theorem DnAll.eraseIdx {vs : List V} {ds : List D} (h : DnAll K H vs ds) : ∀ n : Nat, DnAll K H (vs.eraseIdx n) (ds.eraseIdx n) := by
  induction vs generalizing ds with
  | nil => intro n; cases h; simp; exact .nil
  | cons w vs ih =>
    intro n
    cases h with
    | cons h1 h2 =>
      cases n with
      | zero => exact h2
      | succ n => simpa using .cons h1 (ih h2 n)
theorem DnAll.ints {vs : List V} : ∀ {ns : List Int}, DnAll K H vs (ns.map PyData.int) → vs = ns.map V.int := by
  induction vs with
  | nil => intro ns h; cases ns with | nil => rfl | cons _ _ => cases h
  | cons v vs ih =>
    intro ns h
    cases ns with
    | nil => cases h
    | cons n ns => cases h with | cons h1 h2 => cases h1; rw [ih h2]; rfl
theorem DnAll.of_ints : ∀ (ns : List Int), DnAll K H (ns.map V.int) (ns.map PyData.int)
  | [] => .nil
  | n :: ns => .cons (.int n) (DnAll.of_ints ns)
end

/-! ### data without lists and dicts -/
mutual
def noL : D → Bool
  | .list _ => false
  | .dict _ => false
  | .tuple ds => noLs ds
  | .none => true
  | .bool _ => true
  | .int _ => true
  | .str _ => true
def noLs : List D → Bool
  | [] => true
  | d :: ds => noL d && noLs ds
end

/-! ### the heap without some addresses -/
open Classical in
noncomputable def wo (P : Addr → Prop) (H : Hp) : Hp := fun a => if P a then none else H a
theorem wo_some {P : Addr → Prop} {H : Hp} {a : Addr} {o : HO} : wo P H a = some o ↔ ¬ P a ∧ H a = some o := by
  unfold wo
  by_cases h : P a
  · simp [h]
  · simp [h]
theorem wo_same {P : Addr → Prop} {H H' : Hp} (e : Same H H') : Same (wo P H) (wo P H') := fun a o h => by
  rw [wo_some] at h ⊢; exact ⟨h.1, e _ _ h.2⟩
theorem wo_sub {P P' : Addr → Prop} {H : Hp} (e : ∀ a, P a → P' a) : Same (wo P' H) (wo P H) := fun a o h => by
  rw [wo_some] at h ⊢; exact ⟨fun z => h.1 (e a z), h.2⟩
theorem wo_all {P : Addr → Prop} {H : Hp} : Same (wo P H) H := fun a o h => (wo_some.mp h).2
theorem wo_gen {P P' : Addr → Prop} {H H' : Hp} (e : ∀ a o, ¬ P a → H a = some o → ¬ P' a ∧ H' a = some o) : Same (wo P H) (wo P' H') := fun a o h => by
  rw [wo_some] at h ⊢; exact e a o h.1 h.2
section
variable {K : PySem.W.Frag} {H : Hp} {P : Addr → Prop}
/-- a list-free datum stands whatever lists are taken away -/
theorem rd_wo {a : Addr} {u : HO} (h : Rd H a u) (hn : ∀ o, H a = some o → ¬ P a) : Rd (wo P H) a u := by
  rcases h with h | ⟨o, h⟩
  · exact .inl (wo_some.mpr ⟨hn _ h, h⟩)
  · exact .inr ⟨o, wo_some.mpr ⟨hn _ h, h⟩⟩
mutual
theorem Dn.noL (hP : ∀ a, P a → (∃ xs, H a = some (.lst xs)) ∨ (∃ kvs, H a = some (.dK kvs)) ∨ ∃ C dx fs, H a = some (.ins C dx fs)) : ∀ (d : D) {v : V}, Dn K H v d → noL d = true → Dn K (wo P H) v d
  | .none, _, h, _ => by cases h; exact .non
  | .bool _, _, h, _ => by cases h; exact .bl _
  | .int _, _, h, _ => by cases h; exact .int _
  | .str _, _, h, _ => by cases h; exact .str _
  | .list ds, _, h, n => by simp [Mp.noL] at n
  | .tuple ds, _, h, n => by
    cases h with
    | tup h1 h2 =>
      refine .tup ?_ (DnAll.noL hP ds h2 (by simpa [Mp.noL] using n))
      rcases h1 with (h1 | ⟨o, h1⟩) | h1
      · refine .inl (.inl (wo_some.mpr ⟨fun z => ?_, h1⟩))
        rcases hP _ z with ⟨_, q⟩ | ⟨_, q⟩ | ⟨_, _, _, q⟩ <;> rw [h1] at q <;> cases q
      · refine .inl (.inr ⟨o, wo_some.mpr ⟨fun z => ?_, h1⟩⟩)
        rcases hP _ z with ⟨_, q⟩ | ⟨_, q⟩ | ⟨_, _, _, q⟩ <;> rw [h1] at q <;> cases q
      · exact .inr h1
  | .dict kds, _, h, n => by simp [Mp.noL] at n
theorem DnAll.noL (hP : ∀ a, P a → (∃ xs, H a = some (.lst xs)) ∨ (∃ kvs, H a = some (.dK kvs)) ∨ ∃ C dx fs, H a = some (.ins C dx fs)) : ∀ (ds : List D) {vs : List V}, DnAll K H vs ds → noLs ds = true → DnAll K (wo P H) vs ds
  | [], _, h, _ => by cases h; exact .nil
  | d :: ds, _, h, n => by
    simp only [noLs, Bool.and_eq_true] at n
    cases h with | cons h1 h2 => exact .cons (Dn.noL hP d h1 n.1) (DnAll.noL hP ds h2 n.2)
end
end
/-! ### equality of data -/
section
variable {K : PySem.W.Frag} {H : Hp}
mutual
theorem Dn.dp : ∀ (d : D) {v : V}, Dn K H v d → d.canLay0 = true → Dp K H v d
  | .none, _, h, _ => by cases h; exact .non
  | .bool _, _, h, _ => by cases h; exact .bl _
  | .int _, _, h, _ => by cases h; exact .int _
  | .str _, _, h, _ => by cases h; exact .str _
  | .list ds, _, h, n => by cases h with | lst h1 h2 => exact .lst h1.sq (DnAll.dp ds h2 (by simpa [PyData.canLay0] using n))
  | .tuple ds, _, h, n => by cases h with | tup h1 h2 => exact .tup h1 (DnAll.dp ds h2 (by simpa [PyData.canLay0] using n))
  | .dict kds, _, h, n => nomatch n
theorem DnAll.dp : ∀ (ds : List D) {vs : List V}, DnAll K H vs ds → PyData.canLayAll0 ds = true → DpAll K H vs ds
  | [], _, h, _ => by cases h; exact .nil
  | d :: ds, _, h, n => by
    have n' : d.canLay0 = true ∧ PyData.canLayAll0 ds = true := by simpa [PyData.canLayAll0] using n
    cases h with | cons h1 h2 => exact .cons (Dn.dp d h1 n'.1) (DnAll.dp ds h2 n'.2)
end
end
end Mp

/-! MiniPy, part B: the core syntax, its meaning on data, the translation of the text. -/
namespace Mp
open PySem PySem.Spec PyProof.Rows L2

/-! ### the core syntax -/
inductive Bi where
  | len | int | abs | max | min | tuple | list | sum | any | all | str | bool | sorted | bitlen
  deriving DecidableEq
/-- what a value is asked to be: a built-in class by its name, a class of the text by its number -/
inductive Ty where
  | b (n : String) | c (i : Nat)
  deriving DecidableEq
inductive T where
  | n (i : Nat) | tup (is : List Nat)
  deriving DecidableEq
mutual
inductive E where
  | bad
  | v (i : Nat)
  | k (d : D)
  | g (i : Nat)
  | bin (op : Operator) (a b : E)
  | neg (a : E)
  | cmp (op : CmpOp) (a b : E)
  | chain (op op' : CmpOp) (a b c : E)
  | and (a b : E)
  | or (a b : E)
  | not (a : E)
  | ite (c a b : E)
  | tup (es : Es)
  | lst (es : Es)
  | dct0
  | sub (a b : E)
  | sli (a : E) (lo hi : O)
  | rev (a : E)
  | call (f : Nat) (es : Es)
  | bi (f : Bi) (es : Es)
  | isi (a : E) (ts : List Ty)
  | trev (a : E)
  | gin (neg : Bool) (i : Nat) (a : E)
  | gix (i : Nat) (a : E)
  | dctK (kds : List (Str × D))
  | fld (x : Str) (i : Nat) (f : Str)
  | comp (elt : E) (t : T) (it : I) (c : O) (own : List Nat)
inductive Es where
  | nil
  | cons (e : E) (es : Es)
inductive O where
  | no
  | yes (e : E)
inductive I where
  | it (e : E)
  | r1 (a : E)
  | r2 (a b : E)
  | zip (a b : E)
  | enum (a : E)
  | rev (a : E)
  | rr1 (a : E)
  | rr2 (a b : E)
end
mutual
/-- an expression with calls inside that change an instance -/
inductive Xp where
  | p (e : E)
  | call (f : Nat) (as : Xps)
  | meth (x m : Str) (i : Nat) (f : Nat) (as : Xps)
  | tup (as : Xps)
  | bin (op : Operator) (a b : Xp)
  | tupOf (a : Xp)
  | sli (a : Xp) (lo hi : O)
  | comp (x : Xp) (o : Nat) (t : T) (it : I) (own : List Nat)
inductive Xps where
  | nil
  | ob (i : Nat) (as : Xps)
  | cons (x : Xp) (as : Xps)
end
mutual
inductive S where
  | bad
  | set (t : T) (e : E)
  | par (is : List Nat) (es : Es)
  | setIx (i : Nat) (x e : E)
  | app (i : Nat) (e : E)
  | ext (i : Nat) (e : E)
  | pop (t : Option Nat) (i : Nat)
  | dpop (i : Nat) (k d : E)
  | popF (t : Option Nat) (i : Nat)
  | ex (e : E)
  | io (t : Option Nat) (f : Nat) (es : Es)
  | ioR (f : Nat) (es : Es)
  | callF (i : Nat) (f : Nat) (es : Es)
  | ioC (t : Nat) (h : Nat) (as : Es) (f : Nat) (es : Es)
  | setX (t : T) (x : Xp)
  | retX (x : Xp)
  | setIxX (i : Nat) (k : E) (x : Xp)
  | fset (x : Str) (i : Nat) (f : Str) (e : E)
  | fapp (x : Str) (i : Nat) (f : Str) (e : E)
  | new (x f1 f2 : Str) (i : Nat) (e : E)
  | ifS (c : E) (a b : Ss)
  | wh (dead : List Nat) (c : E) (b : Ss)
  | forS (dead : List Nat) (t : T) (it : I) (b : Ss)
  | ret (e : E)
  | retN
  | brk
  | ct
  | pass
  | raise (c : Nat) (f : Str) (e : E)
inductive Ss where
  | nil
  | cons (s : S) (ss : Ss)
end

/-! ### results -/
structure Exc where
  cls : Nat
  fs : List (Str × D)
inductive R (α : Type) where
  | ok (a : α)
  | ex (x : Exc)
  | st
def R.bind {α β : Type} : R α → (α → R β) → R β
  | .ok a, f => f a
  | .ex x, _ => .ex x
  | .st, _ => .st
@[simp] theorem R.bind_ok {α β : Type} (a : α) (f : α → R β) : (R.ok a).bind f = f a := Eq.trans rfl rfl
@[simp] theorem R.bind_ex {α β : Type} (x : Exc) (f : α → R β) : (R.ex x : R α).bind f = .ex x := Eq.trans rfl rfl
@[simp] theorem R.bind_st {α β : Type} (f : α → R β) : (R.st : R α).bind f = .st := Eq.trans rfl rfl
/-- one of two, by a test -/
def iteR {α : Type} (b : Bool) (x y : R α) : R α := match b with
  | true => x
  | false => y
@[simp] theorem iteR_t {α : Type} (x y : R α) : iteR true x y = x := Eq.trans rfl rfl
@[simp] theorem iteR_f {α : Type} (x y : R α) : iteR false x y = y := Eq.trans rfl rfl
def R.of {α : Type} : Option α → R α
  | some a => .ok a
  | none => .st
@[simp] theorem R.of_some {α : Type} (a : α) : R.of (some a) = .ok a := Eq.trans rfl rfl
@[simp] theorem R.of_none {α : Type} : R.of (none : Option α) = .st := Eq.trans rfl rfl

/-! ### operations on data -/
/- (tests by Nat.ble: a term with letters stops there, in the kernel too) -/
def mulOk (i j : Int) : Bool := Nat.ble i.natAbs 18446744073709551615 || Nat.ble j.natAbs 18446744073709551615 || Nat.ble (Builtin.Int.intBits i + Builtin.Int.intBits j) 134217728
def divOk (_i j : Int) : Bool := decide (0 < j)
def powOk (i j : Int) : Bool := decide (0 ≤ j) && Nat.ble j.natAbs 1000000 && Nat.ble i.natAbs 18446744073709551615
def shlOk (i j : Int) : Bool := powOk i j || (decide (0 ≤ j) && Nat.ble (Builtin.Int.intBits i + j.natAbs) 134217728)
theorem mulOk_iff {i j : Int} : mulOk i j = true ↔ (-(2 ^ 64) < i ∧ i < 2 ^ 64) ∨ (-(2 ^ 64) < j ∧ j < 2 ^ 64) ∨ (Builtin.Int.intBits i : Int) + (Builtin.Int.intBits j : Int) ≤ 134217728 := by
  unfold mulOk
  simp only [Bool.or_eq_true, Nat.ble_eq]
  omega
theorem divOk_iff {i j : Int} : divOk i j = true ↔ 0 < j := by
  unfold divOk
  exact decide_eq_true_iff
theorem powOk_iff {i j : Int} : powOk i j = true ↔ 0 ≤ j ∧ j ≤ 1000000 ∧ i.natAbs < 2 ^ 64 := by
  unfold powOk
  simp only [Bool.and_eq_true, Nat.ble_eq, decide_eq_true_eq]
  omega
theorem shlOk_iff {i j : Int} : shlOk i j = true ↔ (0 ≤ j ∧ j ≤ 1000000 ∧ i.natAbs < 2 ^ 64) ∨ (0 ≤ j ∧ (Builtin.Int.intBits i : Int) + j ≤ 2 ^ 27) := by
  unfold shlOk
  rw [Bool.or_eq_true, powOk_iff]
  simp only [Bool.and_eq_true, Nat.ble_eq, decide_eq_true_eq]
  omega
def lmOk (n : Nat) (k : Int) : Bool := Nat.ble k.natAbs 9223372036854775807 && Nat.ble (n * k.toNat) sizeLine
theorem lmOk_iff {n : Nat} {k : Int} : lmOk n k = true ↔ (-(2 ^ 63) < k ∧ k < 2 ^ 63) ∧ n * k.toNat ≤ sizeLine := by
  unfold lmOk
  simp only [Bool.and_eq_true, Nat.ble_eq]
  constructor
  · rintro ⟨h1, h2⟩; exact ⟨by omega, h2⟩
  · rintro ⟨h1, h2⟩; exact ⟨by omega, h2⟩
def binD (op : Operator) (x y : D) : Option D :=
  match op, x, y with
  | .Add, .int i, .int j => some (.int (i + j))
  | .Sub, .int i, .int j => some (.int (i - j))
  | .Mult, .int i, .int j => if mulOk i j then some (.int (i * j)) else none
  | .FloorDiv, .int i, .int j => if divOk i j then some (.int (i / j)) else if j < 0 then some (.int (-i / -j)) else none
  | .Mod, .int i, .int j => if 0 < j then some (.int (i % j)) else if j < 0 then some (.int (-(-i % -j))) else none
  | .Pow, .int i, .int j => if powOk i j then some (.int (i ^ j.toNat)) else none
  | .LShift, .int i, .int j => if shlOk i j then some (.int (i * 2 ^ j.toNat)) else none
  | .RShift, .int i, .int j => if 0 ≤ j then some (.int (i / 2 ^ j.toNat)) else none
  | .BitAnd, .int i, .int j => some (.int (Builtin.bitAnd i j))
  | .BitOr, .int i, .int j => some (.int (Builtin.bitOr i j))
  | .BitXor, .int i, .int j => some (.int (Builtin.bitXor i j))
  | .Add, .str a, .str b => if a.length + b.length ≤ sizeLine then some (.str (a ++ b)) else none
  | .Add, .list a, .list b => if a.length + b.length ≤ sizeLine then some (.list (a ++ b)) else none
  | .Add, .tuple a, .tuple b => if a.length + b.length ≤ sizeLine then some (.tuple (a ++ b)) else none
  | .Mult, .list a, .int k => if lmOk a.length k then some (.list (List.replicate k.toNat a).flatten) else none
  | _, _, _ => none
def flatD : D → Bool
  | .none => true
  | .bool _ => true
  | .int _ => true
  | .str _ => true
  | _ => false
def keyEq (k x : D) : Bool :=
  match k, x with
  | .int i, .int j => decide (i = j)
  | .str a, .str b => decide (a = b)
  | _, _ => false
def dGet (k : D) : List (D × D) → Option D
  | [] => none
  | (x, d) :: r => if keyEq x k then some d else dGet k r
def isKey : D → Bool
  | .int _ => true
  | .str _ => true
  | _ => false
def eqD (x y : D) : Option Bool :=
  match x, y with
  | .int i, .int j => some (decide (i = j))
  | .str a, .str b => some (decide (a = b))
  | .bool a, .bool b => some (decide (a = b))
  | x, y => if SeqAt.shaped x && SeqAt.shaped y then some (PyData.eqv x y) else none
def inD (x y : D) : Option Bool :=
  match y with
  | .list ds => if flatD x && ds.all flatD then some (ds.any fun d => PyData.eqv d x) else if SeqAt.shaped x && SeqAt.shaped (.list ds) then some (ds.any fun d => PyData.eqv d x) else none
  | .tuple ds => if flatD x && ds.all flatD then some (ds.any fun d => PyData.eqv d x) else none
  | .dict kds => if isKey x then some (dGet x kds).isSome else none
  | .str b => match x with
    | .str a => some (!(Builtin.Str.occurrences b a 0 b.length 1).isEmpty)
    | _ => none
  | _ => none
def isNone : D → Bool
  | .none => true
  | _ => false
def cmpD (op : CmpOp) (x y : D) : Option Bool :=
  match op with
  | .Eq => eqD x y
  | .NotEq => (eqD x y).map (!·)
  | .Lt => match x, y with
    | .int i, .int j => some (decide (i < j))
    | .str a, .str b => some (decide (a.cps.toList < b.cps.toList))
    | _, _ => none
  | .LtE => match x, y with
    | .int i, .int j => some (decide (i ≤ j))
    | _, _ => none
  | .Gt => match x, y with
    | .int i, .int j => some (decide (j < i))
    | _, _ => none
  | .GtE => match x, y with
    | .int i, .int j => some (decide (j ≤ i))
    | _, _ => none
  | .Is => if isNone y then some (isNone x) else none
  | .IsNot => if isNone y then some (!isNone x) else none
  | .In => inD x y
  | .NotIn => (inD x y).map (!·)
def truD : D → Option Bool
  | .none => some false
  | .bool b => some b
  | .int i => some (i != 0)
  | .str s => if s.length ≤ sizeLine then some ((s.length : Int) != 0) else none
  | .list ds => some (!ds.isEmpty)
  | .tuple ds => some (!ds.isEmpty)
  | .dict kds => some (!kds.isEmpty)
def subD (x y : D) : Option D :=
  match x, y with
  | .list ds, .int i => atI ds i
  | .tuple ds, .int i => atI ds i
  | .str z, .int i => if z.length ≤ sizeLine then (atI z.cps.toList i).map fun c => .str ⟨#[c]⟩ else none
  | .dict kds, k => if isKey k then dGet k kds else none
  | _, _ => none
def cutD {α : Type} (xs : List α) (lo hi : Option Int) : List α := (xs.drop (HT.sIx xs.length 0 lo)).take (HT.sIx xs.length xs.length hi - HT.sIx xs.length 0 lo)
def sliD (x : D) (lo hi : Option Int) : Option D :=
  match x with
  | .list ds => some (.list (cutD ds lo hi))
  | .tuple ds => some (.tuple (cutD ds lo hi))
  | .str z => if z.length ≤ sizeLine then some (.str (cutS z lo hi)) else none
  | _ => none
def revD : D → Option D
  | .list ds => some (.list ds.reverse)
  | .tuple ds => some (.tuple ds.reverse)
  | _ => none
def intsOf : List D → Option (List Int)
  | [] => some []
  | .int i :: ds => (intsOf ds).map (i :: ·)
  | _ => none
def boolsOf : List D → Option (List Bool)
  | [] => some []
  | .bool i :: ds => (boolsOf ds).map (i :: ·)
  | _ => none
def maxL : List Int → Option Int
  | [] => none
  | i :: is => some (is.foldl max i)
def minL : List Int → Option Int
  | [] => none
  | i :: is => some (is.foldl min i)
def biD (f : Bi) (ds : List D) : Option D :=
  match f, ds with
  | .len, [.str s] => if s.length ≤ sizeLine then some (.int s.length) else none
  | .len, [.list xs] => some (.int xs.length)
  | .len, [.tuple xs] => some (.int xs.length)
  | .len, [.dict xs] => some (.int xs.length)
  | .int, [.int i] => some (.int i)
  | .int, [.bool b] => some (.int (if b then 1 else 0))
  | .abs, [.int i] => some (.int (if i < 0 then -i else i))
  | .max, [.int i, .int j] => some (.int (if j > i then j else i))
  | .min, [.int i, .int j] => some (.int (if j < i then j else i))
  | .max, [.list xs] => (intsOf xs).bind fun is => (maxL is).map .int
  | .min, [.list xs] => (intsOf xs).bind fun is => (minL is).map .int
  | .tuple, [.list xs] => some (.tuple xs)
  | .tuple, [.tuple xs] => some (.tuple xs)
  | .list, [.list xs] => some (.list xs)
  | .list, [.tuple xs] => some (.list xs)
  | .sum, [.list xs] => (intsOf xs).map fun is => .int is.sum
  | .any, [.list xs] => (boolsOf xs).map fun bs => .bool (bs.any id)
  | .all, [.list xs] => (boolsOf xs).map fun bs => .bool (bs.all id)
  | .str, [.int i] => if i.natAbs.log2 < 1920 then some (.str (toString i)) else none
  | .bitlen, [.int i] => some (.int (Builtin.Int.intBits i : Nat))
  | _, _ => none
def tyOf : D → String
  | .none => "NoneType"
  | .bool _ => "bool"
  | .int _ => "int"
  | .str _ => "str"
  | .list _ => "list"
  | .tuple _ => "tuple"
  | .dict _ => "dict"
/-- isinstance of a built-in class -/
def isT (d : D) (n : String) : Option Bool :=
  if n = "int" ∨ n = "bool" ∨ n = "str" ∨ n = "tuple" ∨ n = "list" ∨ n = "dict" then some (tyOf d == n || (tyOf d == "bool" && n == "int")) else none
def isiD (d : D) : List Ty → Option Bool
  | [.b n] => isT d n
  | _ => none

/-! ### states -/
abbrev Tau := List (Option (Bool × D))
def lk (d : D) : List Nat → List Nat
  | [] => []
  | i :: L => if noL d then [] else i :: L
def lkE (e : E) (L : List Nat) : List Nat :=
  match e with
  | .v _ => []
  | _ => L
def isC : D → Bool
  | .list _ => true
  | .dict _ => true
  | _ => false
/-- an instance, as a datum: a dict whose first key is None; then its attributes -/
def isOb : D → Bool
  | .dict ((.none, _) :: _) => true
  | _ => false
def frz1 (τ : Tau) (i : Nat) : Tau :=
  match τ[i]? with
  | some (some (true, d)) => τ.set i (match isOb d with | true => none | false => some (false, d))
  | _ => τ
def own? (τ : Tau) (i : Nat) : Option D :=
  match τ[i]? with
  | some (some (true, d)) => some d
  | _ => none
/-- an attribute of an instance -/
def fget (f : Str) : List (D × D) → Option D
  | (.str g, d) :: r => match f == g with
    | true => some d
    | false => fget f r
  | _ => none
/-- an attribute that is no list takes a datum that is no list -/
def fsetD (f : Str) (d : D) : List (D × D) → Option (List (D × D))
  | (.str g, d0) :: r => if g = f then (match isC d0 with | true => none | false => some ((.str g, d) :: r)) else match fsetD f d r with
    | some r' => some ((.str g, d0) :: r')
    | none => none
  | _ => none
/-- an attribute that is a list grows -/
def fappD (f : Str) (d : D) : List (D × D) → Option (List (D × D))
  | (.str g, d0) :: r => if f == g then (match d0 with | .list ds => some ((.str g, .list (ds ++ [d])) :: r) | _ => none) else match fappD f d r with
    | some r' => some ((.str g, d0) :: r')
    | none => none
  | _ => none
def fldO (x f : Str) (i : Nat) : Option D → R (D × List Nat)
  | some (.dict ((.none, .str c) :: fs)) => if c = x then match fget f fs with
      | some d => .ok (d, match isC d with | true => [i] | false => [])
      | none => .st
    else .st
  | _ => .st
/-- a slot that is read -/
def vO (o : Bool) (d : D) (i : Nat) : R (D × List Nat) := match o with
  | false => .ok (d, [])
  | true => match isOb d with
    | true => .st
    | false => .ok (d, [i])
@[simp] theorem vO_f (d : D) (i : Nat) : vO false d i = .ok (d, []) := Eq.trans rfl rfl
def vT (o : Bool) (d : D) : R Bool := match o with
  | false => R.of (truD d)
  | true => match isOb d with
    | true => .st
    | false => R.of (truD d)
@[simp] theorem vT_f (d : D) : vT false d = R.of (truD d) := Eq.trans rfl rfl
def frz (L : List Nat) (τ : Tau) : Tau := L.foldl frz1 τ
@[simp] theorem frz_nil (τ : Tau) : frz [] τ = τ := rfl
def asgs (io : List Nat) : List Nat → List D → Tau → Option Tau
  | [], [], τ => some τ
  | i :: is, d :: ds, τ => if i ∈ io then none else asgs io is ds (τ.set i (some (false, d)))
  | _, _, _ => none
def asg (io : List Nat) (own : Bool) (t : T) (d : D) (τ : Tau) : Option Tau :=
  match t with
  | .n i => if i ∈ io then none else some (τ.set i (some (own && isC d, d)))
  | .tup is => match d with
    | .tuple ds => asgs io is ds τ
    | .list ds => asgs io is ds τ
    | _ => none
def wipeT (τ : Tau) : List Nat → Tau
  | [] => τ
  | v :: vs => (wipeT τ vs).set v none
def E.fresh : E → Bool
  | .lst _ => true
  | .dct0 => true
  | .dctK _ => true
  | .comp .. => true
  | .bi .list _ => true
  | .bin .. => true
  | .sli .. => true
  | .rev _ => true
  | _ => false
structure G where
  cf : Nat → List D → R (D × List D)
  io : Nat → List Nat
  gl : Nat → Option D
  wN : Nat
  gd : Nat → Option (List (Str × D))
  xr : Bool
  fr : Nat → Bool
/-- a written dict's entry -/
def gdGet (z : Str) : List (Str × D) → Option D
  | [] => none
  | (x, d) :: r => if x = z then some d else gdGet z r
def gdIn (gd : Option (List (Str × D))) (x : D) : Option Bool :=
  match gd, x with
  | some kds, .str z => some (gdGet z kds).isSome
  | _, _ => none
def gdIx (gd : Option (List (Str × D))) (x : D) : Option D :=
  match gd, x with
  | some kds, .str z => gdGet z kds
  | _, _ => none
inductive Out where
  | nx (τ : Tau)
  | ret (τ : Tau) (d : D)
  | brk (τ : Tau)
  | ct (τ : Tau)
  | ex (x : Exc) (τ : Tau)
  | st

/-! ### the meaning -/
def compL (elt : Tau → R (D × List Nat)) (cond : Tau → R Bool) (t : T) (own : List Nat) (τw : Tau) : List D → R (List D × List Nat)
  | [] => .ok ([], [])
  | d :: ds => match asg [] false t d τw with
    | none => .st
    | some τ1 => match cond τ1 with
      | .ok true => match elt τ1 with
        | .ok (x, L) => match compL elt cond t own τw ds with
          | .ok (xs, M) => .ok (x :: xs, L ++ M)
          | _ => .st
        | _ => .st
      | .ok false => compL elt cond t own τw ds
      | _ => .st
def rngL (lo : Int) (n : Nat) : List D := (List.range n).map fun k => .int (lo + (k : Nat))
def zipL : List D → List D → List D
  | x :: xs, y :: ys => .tuple [x, y] :: zipL xs ys
  | _, _ => []
def enumL (i : Int) : List D → List D
  | [] => []
  | x :: xs => .tuple [.int i, x] :: enumL (i + 1) xs
def strL (s : Str) : List D := s.cps.toList.map fun c => .str ⟨#[c]⟩
def small62 (i : Int) : Bool := Nat.ble i.natAbs 4611686018427387903
theorem small62_iff {i : Int} (h : small62 i = true) : -(2 ^ 62) ≤ i ∧ i < 2 ^ 62 := by
  unfold small62 at h
  simp only [Nat.ble_eq] at h
  omega
def rngR1 (j : Int) : R (List D × List Nat) := if small62 j then .ok (rngL 0 j.toNat, []) else .st
def rngR (i j : Int) : R (List D × List Nat) := if small62 i && small62 j then .ok (rngL i (j - i).toNat, []) else .st
theorem rngR1_ok {j : Int} (h : small62 j = true) : rngR1 j = .ok (rngL 0 j.toNat, []) := by
  unfold rngR1
  rw [if_pos h]
theorem rngR_ok {i j : Int} (h : small62 i = true) (h2 : small62 j = true) : rngR i j = .ok (rngL i (j - i).toNat, []) := by
  unfold rngR
  rw [if_pos (Bool.and_eq_true_iff.mpr ⟨h, h2⟩)]
def iter1 : D → Option (List D)
  | .list ds => some ds
  | .tuple ds => some ds
  | .str s => some (strL s)
  | _ => none
def lkI (it : I) (L : List Nat) : List Nat :=
  match it with
  | .it e => lkE e L
  | _ => L
mutual
def evE (g : G) : E → Tau → R (D × List Nat)
  | .bad, _ => .st
  | .v i, τ => match τ[i]? with
    | some (some (o, d)) => vO o d i
    | _ => .st
  | .k d, _ => .ok (d, [])
  | .g i, _ => match g.gl i with
    | some d => .ok (d, [])
    | none => .st
  | .bin op a b, τ => (evE g a τ).bind fun x => (evE g b τ).bind fun y => match binD op x.1 y.1 with
    | some z => .ok (z, lk z (lkE a x.2 ++ lkE b y.2))
    | none => .st
  | .neg a, τ => (evE g a τ).bind fun x => match x.1 with
    | .int i => .ok (.int (-i), [])
    | _ => .st
  | .cmp op a b, τ => (evE g a τ).bind fun x => (evE g b τ).bind fun y => match cmpD op x.1 y.1 with
    | some z => .ok (.bool z, [])
    | none => .st
  | .chain op op' a b c, τ => (evE g a τ).bind fun x => (evE g b τ).bind fun y => match cmpD op x.1 y.1 with
    | some true => (evE g c τ).bind fun z => match cmpD op' y.1 z.1 with
      | some r => .ok (.bool r, [])
      | none => .st
    | some false => .ok (.bool false, [])
    | none => .st
  | .and a b, τ => (evE g a τ).bind fun x => match x.1 with
    | .bool true => evE g b τ
    | .bool false => .ok (.bool false, [])
    | _ => .st
  | .or a b, τ => (evE g a τ).bind fun x => match x.1 with
    | .bool true => .ok (.bool true, [])
    | .bool false => evE g b τ
    | _ => .st
  | .not a, τ => (evE g a τ).bind fun x => match x.1 with
    | .bool b => .ok (.bool (!b), [])
    | _ => .st
  | .ite c a b, τ => (evT g c τ).bind fun x => iteR x (evE g a τ) (evE g b τ)
  | .tup es, τ => (evEs g es τ).bind fun x => if x.1.length ≤ sizeLine then .ok (.tuple x.1, x.2) else .st
  | .lst es, τ => (evEs g es τ).bind fun x => if x.1.length ≤ sizeLine then .ok (.list x.1, x.2) else .st
  | .dct0, _ => .ok (.dict [], [])
  | .sub a b, τ => (evE g a τ).bind fun x => (evE g b τ).bind fun y => match subD x.1 y.1 with
    | some z => .ok (z, lk z (lkE a x.2))
    | none => .st
  | .sli a lo hi, τ => (evE g a τ).bind fun x => (evO g lo τ).bind fun l => (evO g hi τ).bind fun h => match sliD x.1 l h with
    | some z => .ok (z, lk z (lkE a x.2))
    | none => .st
  | .rev a, τ => (evE g a τ).bind fun x => match revD x.1 with
    | some z => .ok (z, lk z (lkE a x.2))
    | none => .st
  | .call f es, τ => match g.io f with
    | [] => (evEs g es τ).bind fun x => (g.cf f x.1).bind fun r => match r.2 with
      | [] => .ok (r.1, lk r.1 x.2)
      | _ :: _ => .st
    | _ :: _ => .st
  | .bi f es, τ => (evEs g es τ).bind fun x => match biD f x.1 with
    | some z => .ok (z, lk z (match es with | .cons e .nil => lkE e x.2 | _ => x.2))
    | none => .st
  | .isi a ts, τ => (evE g a τ).bind fun x => match isiD x.1 ts with
    | some b => .ok (.bool b, [])
    | none => .st
  | .trev a, τ => (evE g a τ).bind fun x => match x.1 with
    | .list ds => .ok (.tuple ds.reverse, lk (.tuple ds) (lkE a x.2))
    | _ => .st
  | .gin neg i a, τ => (evE g a τ).bind fun x => match gdIn (g.gd i) x.1 with
    | some b => .ok (.bool (neg != b), [])
    | none => .st
  | .gix i a, τ => (evE g a τ).bind fun x => match gdIx (g.gd i) x.1 with
    | some d => .ok (d, [])
    | none => .st
  | .dctK kds, _ => .ok (.dict (kds.map fun p => (.str p.1, p.2)), [])
  | .fld x i f, τ => fldO x f i (own? τ i)
  | .comp elt t it c own, τ => (evI g it τ).bind fun x => if x.1.length ≤ sizeLine then
      (compL (evE g elt) (evC g c) t own (wipeT (frz (lkI it x.2) τ) own) x.1).bind fun y => .ok (.list y.1, lkI it x.2 ++ y.2)
    else .st
/-- as a test -/
def evT (g : G) : E → Tau → R Bool
  | .not a, τ => (evT g a τ).bind fun x => .ok (!x)
  | .and a b, τ => (evT g a τ).bind fun x => match x with
    | true => evT g b τ
    | false => .ok false
  | .or a b, τ => (evT g a τ).bind fun x => match x with
    | true => .ok true
    | false => evT g b τ
  | .ite _ _ _, _ => .st
  | .cmp op a b, τ => (evE g a τ).bind fun x => (evE g b τ).bind fun y => match cmpD op x.1 y.1 with
    | some z => .ok z
    | none => .st
  | .chain op op' a b c, τ => (evE g a τ).bind fun x => (evE g b τ).bind fun y => match cmpD op x.1 y.1 with
    | some true => (evE g c τ).bind fun z => match cmpD op' y.1 z.1 with
      | some r => .ok r
      | none => .st
    | some false => .ok false
    | none => .st
  | .call f es, τ => match g.io f with
    | [] => (evEs g es τ).bind fun x => (g.cf f x.1).bind fun r => match r.2 with
      | [] => R.of (truD r.1)
      | _ :: _ => .st
    | _ :: _ => .st
  | .v i, τ => match τ[i]? with
    | some (some (o, d)) => vT o d
    | _ => .st
  | .bi f es, τ => (evEs g es τ).bind fun x => (R.of (biD f x.1)).bind fun z => R.of (truD z)
  | .isi a ts, τ => (evE g a τ).bind fun x => R.of (isiD x.1 ts)
  | .gin neg i a, τ => (evE g a τ).bind fun x => (R.of (gdIn (g.gd i) x.1)).bind fun b => .ok (neg != b)
  | .sub a b, τ => (evE g a τ).bind fun x => (evE g b τ).bind fun y => (R.of (subD x.1 y.1)).bind fun z => R.of (truD z)
  | _, _ => .st
def evEs (g : G) : Es → Tau → R (List D × List Nat)
  | .nil, _ => .ok ([], [])
  | .cons e es, τ => (evE g e τ).bind fun x => (evEs g es τ).bind fun y => .ok (x.1 :: y.1, x.2 ++ y.2)
def evO (g : G) : O → Tau → R (Option Int)
  | .no, _ => .ok none
  | .yes e, τ => (evE g e τ).bind fun x => match x.1 with
    | .int i => .ok (some i)
    | _ => .st
/-- a clause's test -/
def evC (g : G) : O → Tau → R Bool
  | .no, _ => .ok true
  | .yes e, τ => evT g e τ
/-- what is walked -/
def evI (g : G) : I → Tau → R (List D × List Nat)
  | .it e, τ => (evE g e τ).bind fun x => match iter1 x.1 with
    | some ds => .ok (ds, x.2)
    | none => .st
  | .r1 a, τ => (evE g a τ).bind fun x => match x.1 with
    | .int j => rngR1 j
    | _ => .st
  | .r2 a b, τ => (evE g a τ).bind fun x => (evE g b τ).bind fun y => match x.1, y.1 with
    | .int i, .int j => rngR i j
    | _, _ => .st
  | .zip a b, τ => (evE g a τ).bind fun x => (evE g b τ).bind fun y => match iter1 x.1, iter1 y.1 with
    | some xs, some ys => .ok (zipL xs ys, x.2 ++ y.2)
    | _, _ => .st
  | .enum a, τ => (evE g a τ).bind fun x => match iter1 x.1 with
    | some xs => .ok (enumL 0 xs, x.2)
    | none => .st
  | .rev a, τ => (evE g a τ).bind fun x => match x.1 with
    | .list xs => .ok (xs.reverse, x.2)
    | .tuple xs => .ok (xs.reverse, x.2)
    | _ => .st
  | .rr1 a, τ => (evE g a τ).bind fun x => match x.1 with
    | .int j => (rngR1 j).bind fun y => .ok (y.1.reverse, [])
    | _ => .st
  | .rr2 a b, τ => (evE g a τ).bind fun x => (evE g b τ).bind fun y => match x.1, y.1 with
    | .int i, .int j => (rngR i j).bind fun y => .ok (y.1.reverse, [])
    | _, _ => .st
end
/-- the values of the slots that are handed back -/
def outs (τ : Tau) : List Nat → Option (List D)
  | [] => some []
  | i :: is => match τ[i]? with
    | some (some (true, d)) => (outs τ is).map (d :: ·)
    | _ => none
/-- the arguments of a call that changes the one at place j: the data, what leaks, the slot -/
def evIo (g : G) : Nat → Es → Tau → R (List D × List Nat × Nat)
  | _, .nil, _ => .st
  | 0, .cons e es, τ => match e with
    | .v i => match own? τ i with
      | some d => (evEs g es τ).bind fun y => .ok (d :: y.1, y.2, i)
      | none => .st
    | _ => .st
  | j + 1, .cons e es, τ => (evE g e τ).bind fun x => (evIo g j es τ).bind fun y => .ok (x.1 :: y.1, x.2 ++ y.2.1, y.2.2)
def dPut (k v : D) (kds : List (D × D)) : List (D × D) := if (kds.any fun p => keyEq p.1 k) = true then kds.map (fun p => if keyEq p.1 k then (p.1, v) else p) else kds ++ [(k, v)]
def dDrop (k : D) (kds : List (D × D)) : List (D × D) := kds.filter fun p => !keyEq p.1 k
def setIxD (c x v : D) : Option D :=
  match c, x with
  | .list ds, .int i => (ixN ds.length i).map fun j => .list (ds.set j v)
  | .dict kds, k => if isKey k && !isOb (.dict kds) && decide (kds.length < sizeLine) then some (.dict (dPut k v kds)) else none
  | _, _ => none
def forL (io dead : List Nat) (t : T) (body : Tau → Out) : List D → Tau → Out
  | [], τ => .nx τ
  | d :: ds, τ => match asg io false t d τ with
    | none => .st
    | some τ1 => match body τ1 with
      | .nx τ2 => forL io dead t body ds (wipeT τ2 dead)
      | .ct τ2 => forL io dead t body ds (wipeT τ2 dead)
      | .brk τ2 => .nx (wipeT τ2 dead)
      | .ret τ2 d => .ret τ2 d
      | .ex x τ2 => .ex x τ2
      | .st => .st
def whL (dead : List Nat) (c : Tau → R Bool) (body : Tau → Out) : Nat → Tau → Out
  | 0, _ => .st
  | n + 1, τ => match c τ with
    | .ok true => match body τ with
      | .nx τ2 => whL dead c body n (wipeT τ2 dead)
      | .ct τ2 => whL dead c body n (wipeT τ2 dead)
      | .brk τ2 => .nx (wipeT τ2 dead)
      | .ret τ2 d => .ret τ2 d
      | .ex x τ2 => .ex x τ2
      | .st => .st
    | .ok false => .nx τ
    | .ex x => .ex x τ
    | .st => .st
def Out.ofR {α : Type} (r : R α) (τ : Tau) (f : α → Out) : Out :=
  match r with
  | .ok a => f a
  | .ex x => .ex x τ
  | .st => .st
def Out.seq (o : Out) (f : Tau → Out) : Out := match o with
  | .nx τ2 => f τ2
  | .ret τ2 d => .ret τ2 d
  | .brk τ2 => .brk τ2
  | .ct τ2 => .ct τ2
  | .ex x τ2 => .ex x τ2
  | .st => .st
@[simp] theorem Out.seq_nx (τ : Tau) (f : Tau → Out) : Out.seq (.nx τ) f = f τ := Eq.trans rfl rfl
@[simp] theorem Out.seq_ret (τ : Tau) (d : D) (f : Tau → Out) : Out.seq (.ret τ d) f = .ret τ d := Eq.trans rfl rfl
@[simp] theorem Out.seq_brk (τ : Tau) (f : Tau → Out) : Out.seq (.brk τ) f = .brk τ := Eq.trans rfl rfl
@[simp] theorem Out.seq_ct (τ : Tau) (f : Tau → Out) : Out.seq (.ct τ) f = .ct τ := Eq.trans rfl rfl
@[simp] theorem Out.seq_ex (x : Exc) (τ : Tau) (f : Tau → Out) : Out.seq (.ex x τ) f = .ex x τ := Eq.trans rfl rfl
@[simp] theorem Out.seq_st (f : Tau → Out) : Out.seq .st f = .st := Eq.trans rfl rfl
def ifK (f h : Tau → Out) (τ : Tau) (b : Bool) : Out := match b with
  | true => f τ
  | false => h τ
@[simp] theorem ifK_t (f h : Tau → Out) (τ : Tau) : ifK f h τ true = f τ := Eq.trans rfl rfl
@[simp] theorem ifK_f (f h : Tau → Out) (τ : Tau) : ifK f h τ false = h τ := Eq.trans rfl rfl
@[simp] theorem Out.ofR_ok {α : Type} (a : α) (τ : Tau) (f : α → Out) : Out.ofR (.ok a) τ f = f a := Eq.trans rfl rfl
@[simp] theorem Out.ofR_ex {α : Type} (x : Exc) (τ : Tau) (f : α → Out) : Out.ofR (.ex x : R α) τ f = .ex x τ := Eq.trans rfl rfl
@[simp] theorem Out.ofR_st {α : Type} (τ : Tau) (f : α → Out) : Out.ofR (.st : R α) τ f = .st := Eq.trans rfl rfl
def Out.ofO : Option Tau → Out
  | some τ => .nx τ
  | none => .st
@[simp] theorem Out.ofO_some (τ : Tau) : Out.ofO (some τ) = .nx τ := Eq.trans rfl rfl
@[simp] theorem Out.ofO_none : Out.ofO none = .st := Eq.trans rfl rfl
/-- an atom -/
def isA : D → Bool
  | .none => true
  | .bool _ => true
  | .int _ => true
  | .str _ => true
  | _ => false
/-- the mark of a def whose result is its own, among its slots that are handed back -/
abbrev mkN : Nat := 1000000
def ioM (io : List Nat) (fr : Bool) : List Nat := match fr with
  | true => mkN :: io
  | false => io
@[simp] theorem ioM_f (io : List Nat) : ioM io false = io := Eq.trans rfl rfl
@[simp] theorem ioM_t (io : List Nat) : ioM io true = 1000000 :: io := Eq.trans rfl rfl
theorem mem_ioM {io : List Nat} {fr : Bool} {i : Nat} (h : i ∈ io) : i ∈ ioM io fr := by
  cases fr
  · exact h
  · exact List.mem_cons_of_mem _ h
/-- a comprehension whose elements change the instance in slot o -/
def compX (elt : Tau → R (D × Tau)) (o : Nat) (t : T) (own : List Nat) : List D → Tau → R (List D × Tau)
  | [], τ => .ok ([], τ)
  | d :: ds, τ => match asg [] false t d (wipeT τ own) with
    | none => .st
    | some τ1 => match elt τ1 with
      | .ok (x, τ2) => match own? τ2 o with
        | some ob => match compX elt o t own ds (τ.set o (some (true, ob))) with
          | .ok (xs, τ3) => .ok (x :: xs, τ3)
          | _ => .st
        | none => .st
      | _ => .st
/-- the instance stands first -/
def obX (i : Nat) (τ : Tau) (r : R (List D × Option (Nat × Nat) × Tau)) : R (List D × Option (Nat × Nat) × Tau) := match own? τ i with
  | some _ => match r with
    | .ok (ds, none, τ1) => .ok (.none :: ds, some (0, i), τ1)
    | _ => .st
  | none => .st
def callX (g : G) (f : Nat) (r : R (List D × Option (Nat × Nat) × Tau)) : R (D × Tau) := match r with
  | .ok (ds, some (j, i), τ1) => match g.io f with
    | [j'] => if j = j' then match own? τ1 i with
      | some ob => match g.cf f (ds.set j ob) with
        | .ok (r, [d]) => if isC d then .ok (r, τ1.set i (some (true, d))) else .st
        | _ => .st
      | none => .st
      else .st
    | _ => .st
  | .ok (ds, none, τ1) => match g.io f with
    | [] => match g.cf f ds with
      | .ok (r, []) => .ok (r, τ1)
      | _ => .st
    | _ => .st
  | _ => .st
def methX (x m : Str) (o : Option D) (r : R (D × Tau)) : R (D × Tau) := match o with
  | some (.dict ((.none, .str c) :: fs)) => if c = x then match fget m fs with
      | none => r
      | some _ => .st
    else .st
  | _ => .st
mutual
def evXp (g : G) : Xp → Tau → R (D × Tau)
  | .p e, τ => match evE g e τ with
    | .ok (d, []) => .ok (d, τ)
    | _ => .st
  | .call f as, τ => callX g f (evXps g as τ)
  | .meth x m i f as, τ => methX x m (own? τ i) (callX g f (obX i τ (evXps g as τ)))
  | .tup as, τ => match evXps g as τ with
    | .ok (ds, none, τ1) => if ds.length ≤ sizeLine then .ok (.tuple ds, τ1) else .st
    | _ => .st
  | .bin op a b, τ => match evXp g a τ with
    | .ok (x, τ1) => match evXp g b τ1 with
      | .ok (y, τ2) => match binD op x y with
        | some z => .ok (z, τ2)
        | none => .st
      | _ => .st
    | _ => .st
  | .tupOf a, τ => match evXp g a τ with
    | .ok (x, τ1) => match biD .tuple [x] with
      | some z => .ok (z, τ1)
      | none => .st
    | _ => .st
  | .sli a lo hi, τ => match evXp g a τ with
    | .ok (x, τ1) => match evO g lo τ1 with
      | .ok l => match evO g hi τ1 with
        | .ok h => match sliD x l h with
          | some z => .ok (z, τ1)
          | none => .st
        | _ => .st
      | _ => .st
    | _ => .st
  | .comp x o t it own, τ => match evI g it τ with
    | .ok (ds, []) => if ds.length ≤ sizeLine ∧ o ∉ own then match compX (evXp g x) o t own ds τ with
      | .ok (xs, τ1) => .ok (.list xs, τ1)
      | _ => .st
      else .st
    | _ => .st
/-- arguments: their data (None where the instance stands), the instance's place and slot -/
def evXps (g : G) : Xps → Tau → R (List D × Option (Nat × Nat) × Tau)
  | .nil, τ => .ok ([], none, τ)
  | .ob i as, τ => obX i τ (evXps g as τ)
  | .cons x as, τ => match evXp g x τ with
    | .ok (d, τ1) => match evXps g as τ1 with
      | .ok (ds, o, τ2) => .ok (d :: ds, o.map fun q => (q.1 + 1, q.2), τ2)
      | _ => .st
    | _ => .st
end
/-- a return -/
def retO (io : List Nat) (e : E) (x : D × List Nat) (τ : Tau) : Out := match io.contains mkN with
  | false => .ret (frz x.2 τ) x.1
  | true => match isC x.1 with
    | false => .ret (frz x.2 τ) x.1
    | true => match e.fresh with
      | true => .ret (frz x.2 τ) x.1
      | false => match e with
        | .v i => match own? τ i with
          | some d => match isOb d with
            | true => .st
            | false => if i ∈ io then .st else .ret (frz1 τ i) d
          | none => .st
        | _ => .st
theorem retO_no {io : List Nat} {e : E} {x : D × List Nat} {τ : Tau} (h : io.contains mkN = false) : retO io e x τ = .ret (frz x.2 τ) x.1 := by
  unfold retO
  rw [h]
mutual
def evS (g : G) (io : List Nat) : S → Tau → Out
  | .bad, _ => .st
  | .set t e, τ => .ofR (evE g e τ) τ fun x => .ofO (asg io e.fresh t x.1 (frz x.2 τ))
  | .par is es, τ => .ofR (evEs g es τ) τ fun x => .ofO (asgs io is x.1 (frz x.2 τ))
  | .setIx i x e, τ => match own? τ i with
    | none => .st
    | some _ => .ofR (evE g e τ) τ fun v => .ofR (evE g x τ) τ fun k => match own? (frz v.2 τ) i with
      | some c => match setIxD c k.1 v.1 with
        | some c' => .nx ((frz v.2 τ).set i (some (true, c')))
        | none => .st
      | none => .st
  | .app i e, τ => match own? τ i with
    | some (.list _) => .ofR (evE g e τ) τ fun v => match own? (frz v.2 τ) i with
      | some (.list ds) => if ds.length < sizeLine then .nx ((frz v.2 τ).set i (some (true, .list (ds ++ [v.1])))) else .st
      | _ => .st
    | _ => .st
  | .ext i e, τ => match own? τ i with
    | some (.list _) => .ofR (evE g e τ) τ fun v => match v.1 with
      | .list es => match own? (frz (lkE e v.2) τ) i with
        | some (.list ds) => if ds.length + es.length ≤ sizeLine then .nx ((frz (lkE e v.2) τ).set i (some (true, .list (ds ++ es)))) else .st
        | _ => .st
      | _ => .st
    | _ => .st
  | .pop t i, τ => match own? τ i with
    | some (.list ds) => match ds[ds.length - 1]? with
      | some d => match t with
        | none => .nx (τ.set i (some (true, .list ds.dropLast)))
        | some j => if j ∈ io ∨ j = i then .st else .nx ((τ.set i (some (true, .list ds.dropLast))).set j (some (false, d)))
      | none => .st
    | _ => .st
  | .popF t i, τ => match own? τ i with
    | some (.list (d :: ds)) => match t with
        | none => .nx (τ.set i (some (true, .list ds)))
        | some j => if j ∈ io ∨ j = i then .st else .nx ((τ.set i (some (true, .list ds))).set j (some (false, d)))
    | _ => .st
  | .dpop i k d, τ => match own? τ i with
    | some (.dict kds) => if isOb (.dict kds) then .st else .ofR (evE g k τ) τ fun x => .ofR (evE g d τ) τ fun y => if isKey x.1 then .nx (τ.set i (some (true, .dict (dDrop x.1 kds)))) else .st
    | _ => .st
  | .ex e, τ => .ofR (evE g e τ) τ fun _ => .nx τ
  | .io t f es, τ => match g.io f with
    | [j] => match evIo g j es τ with
      | .ok x => if x.2.1.contains x.2.2 then .st else match g.cf f x.1 with
        | .ok (r, [d]) => if isC d then match t with
            | none => .nx ((frz x.2.1 τ).set x.2.2 (some (true, d)))
            | some i => if i ∈ io ∨ i = x.2.2 then .st else .nx (((frz x.2.1 τ).set x.2.2 (some (true, d))).set i (some (false, r)))
          else .st
        | _ => .st
      | _ => .st
    | _ => .st
  | .ioR f es, τ => match g.io f with
    | [j] => match evIo g j es τ with
      | .ok x => if x.2.1.contains x.2.2 then .st else match g.cf f x.1 with
        | .ok (r, [d]) => if isC d && !isC r then .ret ((frz x.2.1 τ).set x.2.2 (some (true, d))) r else .st
        | _ => .st
      | _ => .st
    | _ => .st
  | .callF i f es, τ => match g.io f with
    | [] => .ofR (evEs g es τ) τ fun x => if g.fr f then .ofR (g.cf f x.1) τ fun r => match r.2 with
      | [] => if i ∈ io then .st else .nx ((frz x.2 τ).set i (some (isC r.1, r.1)))
      | _ => .st
      else .st
    | _ => .st
  | .ioC t h as f es, τ => match g.io h, g.io f with
    | [], [j] => match evEs g as τ with
      | .ok (ds, []) => match evIo g j es τ with
        | .ok x => if x.2.1.contains x.2.2 then .st else match g.cf f x.1 with
          | .ok (r, [d]) => if isC d then match g.cf h (ds ++ [r]) with
              | .ok (z, []) => if t ∈ io ∨ t = x.2.2 then .st else .nx (((frz x.2.1 τ).set x.2.2 (some (true, d))).set t (some (false, z)))
              | _ => .st
            else .st
          | _ => .st
        | _ => .st
      | _ => .st
    | _, _ => .st
  | .setX t x, τ => match evXp g x τ with
    | .ok (d, τ1) => .ofO (asg io false t d τ1)
    | _ => .st
  | .retX x, τ => match evXp g x τ with
    | .ok (d, τ1) => match isC d with
      | false => .ret τ1 d
      | true => .st
    | _ => .st
  | .setIxX i k x, τ => match evXp g x τ with
    | .ok (d, τ1) => match own? τ1 i with
      | some c => match evE g k τ1 with
        | .ok (n, []) => match setIxD c n d with
          | some c' => .nx (τ1.set i (some (true, c')))
          | none => .st
        | _ => .st
      | none => .st
    | _ => .st
  | .fset x i f e, τ => match own? τ i with
    | some (.dict ((.none, .str c) :: fs)) => if c = x ∧ Nat.ble fs.length 900 = true then .ofR (evE g e τ) τ fun v => match isC v.1, v.2 with
      | false, [] => match fsetD f v.1 fs with
        | some fs' => .nx (τ.set i (some (true, .dict ((.none, .str c) :: fs'))))
        | none => .st
      | _, _ => .st
      else .st
    | _ => .st
  | .fapp x i f e, τ => match own? τ i with
    | some (.dict ((.none, .str c) :: fs)) => if c = x then match fget f fs with
      | some (.list ds) => if ds.length < sizeLine then .ofR (evE g e τ) τ fun v => match v.2 with
        | [] => match fappD f v.1 fs with
          | some fs' => .nx (τ.set i (some (true, .dict ((.none, .str c) :: fs'))))
          | none => .st
        | _ => .st
        else .st
      | _ => .st
      else .st
    | _ => .st
  | .new x f1 f2 i e, τ => if g.xr then .ofR (evE g e τ) τ fun v => match isC v.1, v.2 with
      | false, [] => if i ∈ io ∨ ¬ i < τ.length ∨ f2 = f1 then .st else .nx (τ.set i (some (true, .dict [(.none, .str x), (.str f1, .list []), (.str f2, v.1)])))
      | _, _ => .st
    else .st
  | .ifS c a b, τ => .ofR (evT g c τ) τ (ifK (evSs g io a) (evSs g io b) τ)
  | .wh dead c b, τ => whL dead (evT g c) (evSs g io b) g.wN (wipeT τ dead)
  | .forS dead t it b, τ => .ofR (evI g it τ) τ fun x => forL io dead t (evSs g io b) x.1 (wipeT (frz x.2 τ) dead)
  | .ret e, τ => .ofR (evE g e τ) τ fun x => retO io e x τ
  | .retN, τ => .ret τ .none
  | .brk, τ => .brk τ
  | .ct, τ => .ct τ
  | .pass, τ => .nx τ
  | .raise c f e, τ => if g.xr then .ofR (evE g e τ) τ fun x => if isA x.1 then .ex ⟨c, [(f, x.1)]⟩ τ else .st else .st
def evSs (g : G) (io : List Nat) : Ss → Tau → Out
  | .nil, τ => .nx τ
  | .cons s ss, τ => (evS g io s τ).seq (evSs g io ss)
end
mutual
/-- without the words which slots a loop forgets -/
def S.strip : S → S
  | .ifS c a b => .ifS c a.strip b.strip
  | .wh _ c b => .wh [] c b.strip
  | .forS _ t it b => .forS [] t it b.strip
  | s => s
def Ss.strip : Ss → Ss
  | .nil => .nil
  | .cons s ss => .cons s.strip ss.strip
end
/-- a def: its parameters' number, its slots' number, the parameters that it changes, its body -/
structure Fn where
  nps : Nat
  nsl : Nat
  io : List Nat
  body : Ss
  fr : Bool
def mark (io : List Nat) : Nat → List D → Tau
  | _, [] => []
  | i, d :: ds => some (io.contains i && isC d, d) :: mark io (i + 1) ds
def startT (F : Fn) (ds : List D) : Tau := mark F.io 0 ds ++ List.replicate (F.nsl - F.nps) none
def runF (g : G) (F : Fn) (ds : List D) : R (D × List D) :=
  if ds.length = F.nps then
    match evSs g (ioM F.io F.fr) F.body (startT F ds) with
    | .nx τ => (R.of (outs τ F.io)).bind fun os => .ok (.none, os)
    | .ret τ d => (R.of (outs τ F.io)).bind fun os => .ok (d, os)
    | .ex x _ => .ex x
    | _ => .st
  else .st
/-- what an exception of the first part of a def's body comes to -/
def Out.hand (o : Out) (f : Exc → Tau → Out) : Out := match o with
  | .ex x τ => f x τ
  | .nx τ2 => .nx τ2
  | .ret τ2 d => .ret τ2 d
  | .brk τ2 => .brk τ2
  | .ct τ2 => .ct τ2
  | .st => .st
/-- a def whose body is a try statement with one clause, and more: the try's body, the clause's meaning -/
structure Tr where
  b1 : Ss
  hd : G → Exc → Tau → Out
def runT (g : G) (F : Fn) (t : Tr) (ds : List D) : R (D × List D) :=
  if ds.length = F.nps then
    match ((evSs g F.io t.b1 (startT F ds)).hand (t.hd g)).seq (evSs g F.io F.body) with
    | .nx τ => (R.of (outs τ F.io)).bind fun os => .ok (.none, os)
    | .ret τ d => (R.of (outs τ F.io)).bind fun os => .ok (d, os)
    | .ex x _ => .ex x
    | _ => .st
  else .st
structure Pr where
  fs : Nat → Option Fn
  gl : Nat → Option D
  wN : Nat
  gd : Nat → Option (List (Str × D))
  xcs : List (Str × (Nat × Str))
  ts : Nat → Option (Fn × Tr)
  cls : Option (Str × List Str)
  mkc : Option (Str × Str × Str)
def Pr.io (p : Pr) (f : Nat) : List Nat := match p.fs f with | some F => F.io | none => []
def Pr.fr (p : Pr) (f : Nat) : Bool := match p.fs f with | some F => F.fr | none => false
def callN (p : Pr) : Nat → Nat → List D → R (D × List D)
  | 0, _, _ => .st
  | n + 1, f, ds => match p.fs f with
    | some F => runF ⟨callN p n, p.io, p.gl, p.wN, p.gd, Nat.ble 2 n, p.fr⟩ F ds
    | none => match p.ts f with
      | some (F, t) => runT ⟨callN p n, p.io, p.gl, p.wN, p.gd, Nat.ble 2 n, p.fr⟩ F t ds
      | none => .st
end Mp

/-! MiniPy, part C: states and heaps. -/
namespace Mp
open PySem PySem.Spec PyProof.Rows L2

/-- the attributes of an owned instance: at most one of them is a list of its own, at r -/
inductive FldsAt (K : PySem.W.Frag) (H : Hp) (P : Addr → Prop) : Option Addr → List (Str × V) → List (D × D) → Prop
  | nil : FldsAt K H P none [] []
  | dat {r : Option Addr} {f : Str} {v : V} {d : D} {fvs : List (Str × V)} {fs : List (D × D)} : isC d = false → Dn K (wo P H) v d → FldsAt K H P r fvs fs → FldsAt K H P r ((f, v) :: fvs) ((.str f, d) :: fs)
  | lst {q : Addr} {f : Str} {vs : List V} {ds : List D} {fvs : List (Str × V)} {fs : List (D × D)} : H q = some (.lst vs) → DnAll K (wo P H) vs ds → FldsAt K H P none fvs fs → FldsAt K H P (some q) ((f, .ref q) :: fvs) ((.str f, .list ds) :: fs)
/-- the class of a name -/
def ClsOf (K : PySem.W.Frag) (c : Str) (C : Addr) : Prop := PySem.W.nsIn K mainGlobals c = some (some (.ref C))
/-- what stands at an owned address -/
def DctAt (K : PySem.W.Frag) (H : Hp) (P : Addr → Prop) (p : Addr) (r : Option Addr) : List (D × D) → Prop
  | (.none, .str c) :: fs => ∃ C dx fvs, H p = some (.ins C dx fvs) ∧ ClsOf K c C ∧ FldsAt K H P r fvs fs
  | kds => r = none ∧ ∃ kvs, H p = some (.dK kvs) ∧ DnKV K (wo P H) kvs kds
def OwnAt (K : PySem.W.Frag) (H : Hp) (P : Addr → Prop) (p : Addr) (r : Option Addr) : D → Prop
  | .list ds => r = none ∧ ∃ vs, H p = some (.lst vs) ∧ DnAll K (wo P H) vs ds
  | .dict kds => DctAt K H P p r kds
  | _ => False
def IsCo : HO → Prop
  | .lst _ => True
  | .dK _ => True
  | .ins _ _ _ => True
  | _ => False
abbrev Ps := Nat → Bool → Option Addr
def noP : Bool → Option Addr := fun _ => none
/-- the addresses that are taken away: those from outside and the owned ones -/
def PP (P0 : Addr → Prop) (ps : Ps) : Addr → Prop := fun a => P0 a ∨ ∃ i b, ps i b = some a
def dr (L : List Nat) (ps : Ps) : Ps := fun i b => if i ∈ L then none else ps i b
theorem dr_nil (ps : Ps) : dr [] ps = ps := by funext i b; simp [dr]
theorem dr_some {L : List Nat} {ps : Ps} {i : Nat} {b : Bool} {p : Addr} : dr L ps i b = some p ↔ i ∉ L ∧ ps i b = some p := by
  unfold dr; by_cases h : i ∈ L <;> simp [h]
theorem dr_in {L : List Nat} {ps : Ps} {i : Nat} (h : i ∈ L) : dr L ps i = noP := funext fun b => if_pos h
theorem dr_no' {L : List Nat} {ps : Ps} {i : Nat} (h : i ∉ L) : dr L ps i = ps i := funext fun b => if_neg h
theorem dr_pin {L : List Nat} {ps q : Ps} {i : Nat} (h : ps i = noP ∨ ps i = q i) : dr L ps i = noP ∨ dr L ps i = q i := by
  by_cases z : i ∈ L
  · exact .inl (dr_in z)
  · rw [dr_no' z]; exact h
theorem dr_no {L : List Nat} {ps : Ps} {i : Nat} {b : Bool} (h : i ∉ L) : dr L ps i b = ps i b := by unfold dr; rw [if_neg h]
theorem PP_dr {P0 : Addr → Prop} {L M : List Nat} {ps : Ps} (h : ∀ i, i ∈ L → i ∈ M) : ∀ a, PP P0 (dr M ps) a → PP P0 (dr L ps) a := fun a z => by
  rcases z with z | ⟨i, b, z⟩
  · exact .inl z
  · obtain ⟨h1, h2⟩ := dr_some.mp z
    exact .inr ⟨i, b, dr_some.mpr ⟨fun q => h1 (h i q), h2⟩⟩
theorem PP_dr0 {P0 : Addr → Prop} {M : List Nat} {ps : Ps} : ∀ a, PP P0 (dr M ps) a → PP P0 ps a := fun a z => by
  have := PP_dr (L := []) (M := M) (P0 := P0) (ps := ps) (fun i q => nomatch q) a z
  rwa [dr_nil] at this

/-- what is fixed through a def's body: the heap at its entry, the addresses that may change, those taken away from outside, the slots handed back and their addresses -/
structure Fx where
  H0 : Hp
  io : Addr → Prop
  P0 : Addr → Prop
  iol : List Nat
  q : Ps
  nw : Addr → Prop
structure Rel (K : PySem.W.Frag) (F : Fx) (ps : Ps) (H : Hp) (σ : L2.St) (τ : Tau) : Prop where
  ls : σ.length = τ.length
  own : ∀ (i : Nat) (d : D), τ[i]? = some (some (true, d)) → ∃ p, ps i false = some p ∧ σ[i]? = some (some (.ref p)) ∧ OwnAt K H (PP F.P0 ps) p (ps i true) d
  cln : ∀ (i : Nat) (d : D), τ[i]? = some (some (false, d)) → ∃ v, σ[i]? = some (some v) ∧ Dn K (wo (PP F.P0 ps) H) v d
  pown : ∀ (i : Nat) (b : Bool) (p : Addr), ps i b = some p → ∃ d : D, τ[i]? = some (some (true, d))
  inj : ∀ (i j : Nat) (b c : Bool) (p : Addr), ps i b = some p → ps j c = some p → i = j ∧ b = c
  out : ∀ (i : Nat) (b : Bool) (p : Addr), ps i b = some p → ¬ F.P0 p
  keep : ∀ a o, F.H0 a = some o → ¬ F.io a → H a = some o
  new : ∀ (i : Nat) (b : Bool) (p : Addr), ps i b = some p → F.io p ∨ F.H0 p = none
  p0 : ∀ a, F.P0 a → ∃ o, H a = some o ∧ IsCo o
  pin : ∀ (i : Nat), i ∈ F.iol → ps i = noP ∨ ps i = F.q i
  nw : (∀ (i : Nat) (b : Bool) (p : Addr), ps i b = some p → i ∉ F.iol → F.nw p) ∧ ∀ a, H a = none → F.nw a
theorem Same.none {H H' : Hp} (e : Same H H') {a : Addr} (h : H' a = none) : H a = none := by
  cases h2 : H a with
  | none => rfl
  | some o => rw [e _ _ h2] at h; cases h
section
variable {K : PySem.W.Frag} {F : Fx} {ps : Ps} {H H' : Hp} {σ : L2.St} {τ : Tau}
theorem DnKV.mono' {K : PySem.W.Frag} {H H' : Hp} (e : Same H H') {kds : List (D × D)} {kvs : List (Key × V)} (h : DnKV K H kvs kds) : DnKV K H' kvs kds := DnKV.mono e kds h
theorem FldsAt.mono {P P' : Addr → Prop} (s : Same (wo P H) (wo P' H')) {r : Option Addr} {fvs : List (Str × V)} {fs : List (D × D)} (h : FldsAt K H P r fvs fs) (e : ∀ q o, r = some q → H q = some o → H' q = some o) : FldsAt K H' P' r fvs fs := by
  induction h with
  | nil => exact .nil
  | dat h1 h2 _ ih => exact .dat h1 (Dn.mono s _ h2) (ih e)
  | lst h1 h2 _ ih => exact .lst (e _ _ rfl h1) (DnAll.mono s _ h2) (ih fun q o z => by cases z)
theorem FldsAt.inner {P : Addr → Prop} {q : Addr} {fvs : List (Str × V)} {fs : List (D × D)} {r : Option Addr} (h : FldsAt K H P r fvs fs) (e : r = some q) : ∃ vs, H q = some (.lst vs) := by
  induction h with
  | nil => cases e
  | dat _ _ _ ih => exact ih e
  | lst h1 _ _ _ => cases e; exact ⟨_, h1⟩
theorem own?_some {τ : Tau} {i : Nat} {d : D} (h : own? τ i = some d) : τ[i]? = some (some (true, d)) := by
  unfold own? at h
  split at h
  · rename_i d' e
    cases h; exact e
  · cases h
theorem FldsAt.get {P : Addr → Prop} {r : Option Addr} {f : Str} {d : D} {fvs : List (Str × V)} {fs : List (D × D)} (h : FldsAt K H P r fvs fs) (e : fget f fs = some d) :
    ∃ v, fvs.lookup f = some v ∧ ((isC d = false ∧ Dn K (wo P H) v d) ∨ ∃ q vs ds, r = some q ∧ v = .ref q ∧ d = .list ds ∧ H q = some (.lst vs) ∧ DnAll K (wo P H) vs ds) := by
  induction h with
  | nil => cases e
  | dat h1 h2 _ ih =>
    rename_i r' g v d' fvs fs _
    unfold fget at e
    rw [List.lookup_cons]
    cases hb : f == g with
    | true => rw [hb] at e; cases e; exact ⟨v, rfl, .inl ⟨h1, h2⟩⟩
    | false => rw [hb] at e; exact ih e
  | lst h1 h2 _ ih =>
    rename_i q g vs ds fvs fs _
    unfold fget at e
    rw [List.lookup_cons]
    cases hb : f == g with
    | true => rw [hb] at e; cases e; exact ⟨_, rfl, .inr ⟨q, vs, ds, rfl, rfl, rfl, h1, h2⟩⟩
    | false =>
      rw [hb] at e
      obtain ⟨v, z1, z2⟩ := ih e
      refine ⟨v, z1, ?_⟩
      rcases z2 with z2 | ⟨q', vs', ds', z3, _⟩
      · exact .inl z2
      · cases z3
theorem fsetD_at {P P' : Addr → Prop} (s : Same (wo P H) (wo P' H')) {r : Option Addr} {f : Str} {v : V} {d : D} {fvs : List (Str × V)} {fs fs' : List (D × D)} (h : FldsAt K H P r fvs fs) (e : fsetD f d fs = some fs') (hc : isC d = false) (hv : Dn K (wo P' H') v d) (e2 : ∀ q o, r = some q → H q = some o → H' q = some o) :
    FldsAt K H' P' r (putF f v fvs) fs' := by
  induction h generalizing fs' with
  | nil => cases e
  | dat h1 h2 h3 ih =>
    rename_i r' g w d' fvs fs
    unfold fsetD at e
    unfold putF
    by_cases hb : g = f
    · rw [if_pos hb, h1] at e
      cases e
      rw [if_pos hb]
      exact .dat hc hv (h3.mono s e2)
    · rw [if_neg hb] at e
      rw [if_neg hb]
      split at e
      · rename_i r2 hr
        cases e
        exact .dat h1 (Dn.mono s _ h2) (ih hr e2)
      · cases e
  | lst h1 h2 h3 ih =>
    rename_i q g vs ds fvs fs
    unfold fsetD at e
    unfold putF
    by_cases hb : g = f
    · rw [if_pos hb] at e; cases e
    · rw [if_neg hb] at e
      rw [if_neg hb]
      split at e
      · rename_i r2 hr
        cases e
        exact .lst (e2 _ _ rfl h1) (DnAll.mono s _ h2) (ih hr fun _ _ z => by cases z)
      · cases e
theorem fappD_at {P P' : Addr → Prop} (s : Same (wo P H) (wo P' H')) {q : Addr} {f : Str} {v : V} {d : D} {vs : List V} {ds : List D} {fvs : List (Str × V)} {fs fs' : List (D × D)} (h : FldsAt K H P (some q) fvs fs) (e : fappD f d fs = some fs') (hg : fget f fs = some (.list ds)) (hq : H q = some (.lst vs)) (hv : Dn K (wo P' H') v d) (hq' : H' q = some (.lst (vs ++ [v]))) :
    FldsAt K H' P' (some q) fvs fs' := by
  generalize hr : some q = r at h
  induction h generalizing fs' with
  | nil => cases hr
  | dat h1 h2 h3 ih =>
    rename_i r' g w d' fvs fs
    unfold fappD at e
    unfold fget at hg
    cases hb : f == g with
    | true =>
      rw [hb] at hg; cases hg
      cases h1
    | false =>
      rw [hb] at hg e
      rw [if_neg (by decide)] at e
      split at e
      · rename_i r2 hr2
        cases e
        exact .dat h1 (Dn.mono s _ h2) (ih hr2 hg hr)
      · cases e
  | lst h1 h2 h3 ih =>
    rename_i q' g vs' ds' fvs fs
    cases hr
    rw [hq] at h1; cases h1
    unfold fappD at e
    unfold fget at hg
    cases hb : f == g with
    | true =>
      rw [hb] at hg e
      cases hg
      rw [if_pos rfl] at e
      cases e
      exact .lst hq' ((DnAll.mono s _ h2).append (.cons hv .nil)) (h3.mono s fun _ _ z => by cases z)
    | false =>
      rw [hb] at hg
      obtain ⟨_, _, z⟩ := h3.get hg
      rcases z with ⟨z, _⟩ | ⟨_, _, _, z, _⟩
      · cases z
      · cases z
/-- a dict that is owned is an instance or a plain dict -/
theorem DctAt.cases' {P : Addr → Prop} {p : Addr} {r : Option Addr} {kds : List (D × D)} (h : DctAt K H P p r kds) :
    (isOb (.dict kds) = true ∧ ∃ c fs C dx fvs, kds = (.none, .str c) :: fs ∧ H p = some (.ins C dx fvs) ∧ ClsOf K c C ∧ FldsAt K H P r fvs fs) ∨ (isOb (.dict kds) = false ∧ r = none ∧ ∃ kvs, H p = some (.dK kvs) ∧ DnKV K (wo P H) kvs kds) := by
  unfold DctAt at h
  split at h
  · rename_i c fs
    obtain ⟨C, dx, fvs, h1, h2, h3⟩ := h
    exact .inl ⟨rfl, c, fs, C, dx, fvs, rfl, h1, h2, h3⟩
  · rename_i hn
    refine .inr ⟨?_, h.1, h.2⟩
    obtain ⟨_, kvs, _, h3⟩ := h
    cases h3 with
    | nil => rfl
    | int _ _ => rfl
    | str _ _ => rfl
theorem OwnAt.ob {P : Addr → Prop} {p : Addr} {r : Option Addr} {d : D} (h : OwnAt K H P p r d) (n : isOb d = true) : ∃ c fs C dx fvs, d = .dict ((.none, .str c) :: fs) ∧ H p = some (.ins C dx fvs) ∧ ClsOf K c C ∧ FldsAt K H P r fvs fs := by
  cases d with
  | dict kds =>
    rcases DctAt.cases' h with ⟨_, c, fs, C, dx, fvs, e, h1, h2, h3⟩ | ⟨z, _⟩
    · exact ⟨c, fs, C, dx, fvs, by rw [e], h1, h2, h3⟩
    · rw [n] at z; cases z
  | _ => cases n
theorem OwnAt.dct {P : Addr → Prop} {p : Addr} {r : Option Addr} {kds : List (D × D)} (h : OwnAt K H P p r (.dict kds)) (n : isOb (.dict kds) = false) : r = none ∧ ∃ kvs, H p = some (.dK kvs) ∧ DnKV K (wo P H) kvs kds := by
  rcases DctAt.cases' h with ⟨z, _⟩ | ⟨_, h⟩
  · rw [n] at z; cases z
  · exact h
theorem DctAt.plain {P : Addr → Prop} {p : Addr} {kds : List (D × D)} {kvs : List (Key × V)} (h1 : H p = some (.dK kvs)) (h2 : DnKV K (wo P H) kvs kds) : DctAt K H P p none kds := by
  unfold DctAt
  split
  · cases h2
  · exact ⟨rfl, kvs, h1, h2⟩
theorem OwnAt.mono {P P' : Addr → Prop} {p : Addr} {r : Option Addr} {d : D} (h : OwnAt K H P p r d) (e : ∀ o, H p = some o → H' p = some o) (e2 : ∀ q o, r = some q → H q = some o → H' q = some o) (s : Same (wo P H) (wo P' H')) : OwnAt K H' P' p r d := by
  cases d with
  | list ds => obtain ⟨h0, vs, h1, h2⟩ := h; exact ⟨h0, vs, e _ h1, DnAll.mono s _ h2⟩
  | dict ds =>
    rcases DctAt.cases' h with ⟨_, c, fs, C, dx, fvs, rfl, h1, h2, h3⟩ | ⟨_, h0, kvs, h1, h2⟩
    · exact ⟨C, dx, fvs, e _ h1, h2, h3.mono s e2⟩
    · subst h0; exact DctAt.plain (e _ h1) (DnKV.mono s _ h2)
  | _ => exact h.elim
theorem OwnAt.there {P : Addr → Prop} {p : Addr} {r : Option Addr} {d : D} (h : OwnAt K H P p r d) : ∃ o, H p = some o ∧ IsCo o := by
  cases d with
  | list ds => obtain ⟨_, vs, h1, h2⟩ := h; exact ⟨_, h1, trivial⟩
  | dict ds =>
    rcases DctAt.cases' h with ⟨_, c, fs, C, dx, fvs, rfl, h1, h2, h3⟩ | ⟨_, h0, kvs, h1, h2⟩
    · exact ⟨_, h1, trivial⟩
    · exact ⟨_, h1, trivial⟩
  | _ => exact h.elim
theorem OwnAt.inner {P : Addr → Prop} {p q : Addr} {r : Option Addr} {d : D} (h : OwnAt K H P p r d) (e : r = some q) : ∃ o, H q = some o ∧ IsCo o := by
  cases d with
  | list ds => rw [h.1] at e; cases e
  | dict ds =>
    rcases DctAt.cases' h with ⟨_, c, fs, C, dx, fvs, rfl, h1, h2, h3⟩ | ⟨_, h0, kvs, h1, h2⟩
    · obtain ⟨vs, z⟩ := h3.inner e
      exact ⟨_, z, trivial⟩
    · rw [h0] at e; cases e
  | _ => exact h.elim
theorem OwnAt.isC {P : Addr → Prop} {p : Addr} {r : Option Addr} {d : D} (h : OwnAt K H P p r d) : isC d = true := by
  cases d with
  | list ds => rfl
  | dict ds => rfl
  | _ => exact h.elim
theorem Rel.there (r : Rel K F ps H σ τ) {a : Addr} (h : PP F.P0 ps a) : ∃ o, H a = some o ∧ IsCo o := by
  rcases h with h | ⟨i, b, h⟩
  · exact r.p0 a h
  · obtain ⟨d, e⟩ := r.pown i b a h
    obtain ⟨p, e1, _, e2⟩ := r.own i d e
    cases b with
    | false => rw [h] at e1; cases e1; exact e2.there
    | true => exact e2.inner h
theorem Rel.mono (r : Rel K F ps H σ τ) (e : Same H H') : Rel K F ps H' σ τ :=
  ⟨r.ls, fun i d h => let ⟨p, h1, h2, h3⟩ := r.own i d h; ⟨p, h1, h2, h3.mono (fun o q => e _ _ q) (fun _ o _ q => e _ _ q) (wo_same e)⟩, fun i d h => let ⟨v, h1, h2⟩ := r.cln i d h; ⟨v, h1, Dn.mono (wo_same e) _ h2⟩, r.pown, r.inj, r.out,
    fun a o h n => e _ _ (r.keep a o h n), r.new, fun a h => let ⟨o, h1, h2⟩ := r.p0 a h; ⟨o, e _ _ h1, h2⟩, r.pin, r.nw.1, fun a h => r.nw.2 a (Same.none e h)⟩
/-- what a slot's value denotes, read in the whole heap -/
theorem Dn.full {P : Addr → Prop} {v : V} {d : D} (h : Dn K (wo P H) v d) : Dn K H v d := Dn.mono wo_all d h
theorem Dn.sub {P P' : Addr → Prop} {v : V} {d : D} (h : Dn K (wo P' H) v d) (e : ∀ a, P a → P' a) : Dn K (wo P H) v d := Dn.mono (wo_sub e) d h
theorem DnAll.full {P : Addr → Prop} {v : List V} {d : List D} (h : DnAll K (wo P H) v d) : DnAll K H v d := DnAll.mono wo_all d h
theorem DnAll.sub {P P' : Addr → Prop} {v : List V} {d : List D} (h : DnAll K (wo P' H) v d) (e : ∀ a, P a → P' a) : DnAll K (wo P H) v d := DnAll.mono (wo_sub e) d h
/-- an owned list, given up, is a datum like others -/
theorem OwnAt.dn {P P' : Addr → Prop} {p : Addr} {r : Option Addr} {d : D} (h : OwnAt K H P p r d) (nb : isOb d = false) (n : ¬ P' p) (e : ∀ a, P' a → P a) : Dn K (wo P' H) (.ref p) d := by
  cases d with
  | list ds => obtain ⟨_, vs, h1, h2⟩ := h; exact .lst (.inl (.inl (wo_some.mpr ⟨n, h1⟩))) (h2.sub e)
  | dict ds => obtain ⟨_, vs, h1, h2⟩ := h.dct nb; exact .dct (.inl (wo_some.mpr ⟨n, h1⟩)) (DnKV.mono (wo_sub e) _ h2)
  | _ => exact h.elim
theorem frz1_get {i j : Nat} : (frz1 τ i)[j]? = if j = i then (match τ[i]? with | some (some (true, d)) => some (match isOb d with | true => none | false => some (false, d)) | x => x) else τ[j]? := by
  unfold frz1
  split
  · rename_i d e
    by_cases h : j = i
    · subst h
      have := List.getElem?_eq_some_iff.mp e
      first
        | (rw [List.getElem?_set_self this.1, if_pos rfl, e]; done)
        | (rw [List.getElem?_set_self this.1, if_pos rfl]; done)
        | (rw [List.getElem?_set_self this.1, if_pos rfl, e]; rfl)
        | (rw [List.getElem?_set_self this.1, if_pos rfl]; simp only [e])
    · rw [List.getElem?_set_ne (fun z => h z.symm), if_neg h]
  · rename_i hn
    by_cases h : j = i
    · subst h
      first
        | (rw [if_pos rfl]; done)
        | (rw [if_pos rfl]
           split
           · rename_i d e; exact (hn _ e).elim
           · rfl)
    · rw [if_neg h]
theorem frz1_length {i : Nat} : (frz1 τ i).length = τ.length := by
  unfold frz1; split <;> simp
theorem Rel.frz1 (r : Rel K F ps H σ τ) (i : Nat) : Rel K F (dr [i] ps) H σ (frz1 τ i) := by
  have hs : ∀ a, PP F.P0 (dr [i] ps) a → PP F.P0 ps a := PP_dr0
  refine ⟨by rw [frz1_length]; exact r.ls, fun j d h => ?_, fun j d h => ?_, fun j b p h => ?_, fun j k b c p h1 h2 => ?_, fun j b p h => ?_, r.keep, fun j b p h => ?_, r.p0, fun j hi => dr_pin (r.pin j hi), fun j b p h hi => r.nw.1 j b p (dr_some.mp h).2 hi, r.nw.2⟩
  · rw [frz1_get] at h
    by_cases hj : j = i
    · rw [if_pos hj] at h
      split at h
      · split at h
        · cases h
        · cases h
      · rename_i hn; subst hj; exact (hn _ h).elim
    · rw [if_neg hj] at h
      obtain ⟨p, h1, h2, h3⟩ := r.own j d h
      have hn : j ∉ [i] := by simpa using hj
      exact ⟨p, dr_some.mpr ⟨hn, h1⟩, h2, by rw [dr_no hn]; exact h3.mono (fun _ q => q) (fun _ _ _ q => q) (wo_sub hs)⟩
  · rw [frz1_get] at h
    by_cases hj : j = i
    · rw [if_pos hj] at h
      subst hj
      split at h
      · rename_i d' e
        split at h
        · cases h
        · rename_i nb
          cases h
          obtain ⟨p, h1, h2, h3⟩ := r.own j _ e
          refine ⟨_, h2, h3.dn nb (fun z => ?_) hs⟩
          rcases z with z | ⟨k, b, z⟩
          · exact r.out _ _ _ h1 z
          · obtain ⟨z1, z2⟩ := dr_some.mp z
            exact z1 (by simp [(r.inj _ _ _ _ _ z2 h1).1])
      · obtain ⟨v, h1, h2⟩ := r.cln j _ h
        exact ⟨v, h1, h2.sub hs⟩
    · rw [if_neg hj] at h
      obtain ⟨v, h1, h2⟩ := r.cln j d h
      exact ⟨v, h1, h2.sub hs⟩
  · obtain ⟨z1, z2⟩ := dr_some.mp h
    obtain ⟨d, e⟩ := r.pown j b p z2
    exact ⟨d, by rw [frz1_get, if_neg (by simpa using z1)]; exact e⟩
  · exact r.inj j k b c p (dr_some.mp h1).2 (dr_some.mp h2).2
  · exact r.out j b p (dr_some.mp h).2
  · exact r.new j b p (dr_some.mp h).2
theorem dr_cons (i : Nat) (L : List Nat) (ps : Ps) : dr L (dr [i] ps) = dr (i :: L) ps := by
  funext j b
  unfold dr
  by_cases h1 : j = i <;> by_cases h2 : j ∈ L <;> simp [h1, h2]
theorem Rel.frz (r : Rel K F ps H σ τ) (L : List Nat) : Rel K F (dr L ps) H σ (frz L τ) := by
  induction L generalizing τ ps with
  | nil => rw [dr_nil]; exact r
  | cons i L ih =>
    have := ih (r.frz1 i)
    rw [dr_cons] at this
    exact this
theorem frz_length (L : List Nat) (τ : Tau) : (frz L τ).length = τ.length := by
  induction L generalizing τ with
  | nil => rfl
  | cons i L ih => show (frz L (frz1 τ i)).length = _; rw [ih, frz1_length]
/-- forgetting one owned slot -/
def dr1 (i : Nat) (ps : Ps) : Ps := fun j b => if j = i then none else ps j b
theorem dr1_no {i j : Nat} {b : Bool} (h : j ≠ i) : dr1 i ps j b = ps j b := if_neg h
theorem dr1_some {i j : Nat} {b : Bool} {p : Addr} : dr1 i ps j b = some p ↔ j ≠ i ∧ ps j b = some p := by
  unfold dr1; by_cases h : j = i <;> simp [h]
theorem dr1_pin {i j : Nat} {q : Ps} (h : ps j = noP ∨ ps j = q j) : dr1 i ps j = noP ∨ dr1 i ps j = q j := by
  by_cases z : j = i
  · exact .inl (funext fun b => if_pos z)
  · have : dr1 i ps j = ps j := funext fun b => if_neg z
    rw [this]; exact h
theorem PP_drop {i : Nat} : ∀ a, PP F.P0 (dr1 i ps) a → PP F.P0 ps a := fun a z => by
  rcases z with z | ⟨j, b, z⟩
  · exact .inl z
  · exact .inr ⟨j, b, (dr1_some.mp z).2⟩
/-- a slot takes a datum that is not owned -/
theorem Rel.set (r : Rel K F ps H σ τ) {i : Nat} {v : V} {d : D} (h : Dn K (wo (PP F.P0 ps) H) v d) : Rel K F (dr1 i ps) H (σ.set i (some v)) (τ.set i (some (false, d))) := by
  have hs := PP_drop (F := F) (ps := ps) (i := i)
  have hl := r.ls
  refine ⟨by simp [hl], fun j e he => ?_, fun j e he => ?_, fun j b p hp => ?_, fun j k b c p h1 h2 => ?_, fun j b p hp => r.out j b p (dr1_some.mp hp).2, r.keep, fun j b p hp => r.new j b p (dr1_some.mp hp).2, r.p0, fun j hi => dr1_pin (r.pin j hi), fun j b p hp hi => r.nw.1 j b p (dr1_some.mp hp).2 hi, r.nw.2⟩
  · by_cases hj : j = i
    · subst hj
      by_cases hlt : j < τ.length
      · rw [List.getElem?_set_self hlt] at he; cases he
      · rw [List.getElem?_eq_none (by simpa using hlt)] at he; cases he
    · rw [List.getElem?_set_ne (fun z => hj z.symm)] at he
      obtain ⟨p, h1, h2, h3⟩ := r.own j e he
      exact ⟨p, dr1_some.mpr ⟨hj, h1⟩, by rw [List.getElem?_set_ne (fun z => hj z.symm)]; exact h2, by rw [dr1_no hj]; exact h3.mono (fun _ q => q) (fun _ _ _ q => q) (wo_sub hs)⟩
  · by_cases hj : j = i
    · subst hj
      by_cases hlt : j < τ.length
      · rw [List.getElem?_set_self hlt] at he; cases he
        exact ⟨v, by rw [List.getElem?_set_self (by rw [hl]; exact hlt)], h.sub hs⟩
      · rw [List.getElem?_eq_none (by simpa using hlt)] at he; cases he
    · rw [List.getElem?_set_ne (fun z => hj z.symm)] at he
      obtain ⟨w, h1, h2⟩ := r.cln j e he
      exact ⟨w, by rw [List.getElem?_set_ne (fun z => hj z.symm)]; exact h1, h2.sub hs⟩
  · obtain ⟨hj, hp⟩ := dr1_some.mp hp
    obtain ⟨e, he⟩ := r.pown j b p hp
    exact ⟨e, by rw [List.getElem?_set_ne (fun z => hj z.symm)]; exact he⟩
  · exact r.inj j k b c p (dr1_some.mp h1).2 (dr1_some.mp h2).2
/-- a slot is forgotten -/
theorem Rel.lose (r : Rel K F ps H σ τ) {i : Nat} {v : Option V} : Rel K F (dr1 i ps) H (σ.set i v) (τ.set i none) := by
  have hs := PP_drop (F := F) (ps := ps) (i := i)
  have hl := r.ls
  have key : ∀ (j : Nat) (x : Bool × D), (τ.set i none)[j]? = some (some x) → j ≠ i ∧ τ[j]? = some (some x) := fun j x he => by
    by_cases hj : j = i
    · subst hj
      by_cases hlt : j < τ.length
      · rw [List.getElem?_set_self hlt] at he; cases he
      · rw [List.getElem?_eq_none (by simpa using hlt)] at he; cases he
    · rw [List.getElem?_set_ne (fun z => hj z.symm)] at he
      exact ⟨hj, he⟩
  refine ⟨by simp [hl], fun j e he => ?_, fun j e he => ?_, fun j b p hp => ?_, fun j k b c p h1 h2 => ?_, fun j b p hp => r.out j b p (dr1_some.mp hp).2, r.keep, fun j b p hp => r.new j b p (dr1_some.mp hp).2, r.p0, fun j hi => dr1_pin (r.pin j hi), fun j b p hp hi => r.nw.1 j b p (dr1_some.mp hp).2 hi, r.nw.2⟩
  · obtain ⟨hj, he⟩ := key j _ he
    obtain ⟨p, h1, h2, h3⟩ := r.own j e he
    exact ⟨p, dr1_some.mpr ⟨hj, h1⟩, by rw [List.getElem?_set_ne (fun z => hj z.symm)]; exact h2, by rw [dr1_no hj]; exact h3.mono (fun _ q => q) (fun _ _ _ q => q) (wo_sub hs)⟩
  · obtain ⟨hj, he⟩ := key j _ he
    obtain ⟨w, h1, h2⟩ := r.cln j e he
    exact ⟨w, by rw [List.getElem?_set_ne (fun z => hj z.symm)]; exact h1, h2.sub hs⟩
  · obtain ⟨hj, hp⟩ := dr1_some.mp hp
    obtain ⟨e, he⟩ := r.pown j b p hp
    exact ⟨e, by rw [List.getElem?_set_ne (fun z => hj z.symm)]; exact he⟩
  · exact r.inj j k b c p (dr1_some.mp h1).2 (dr1_some.mp h2).2
/-- a slot takes a new thing, at p, with its own list at q -/
def st1 (i : Nat) (p : Addr) (q : Option Addr) (ps : Ps) : Ps := fun j b => if j = i then (match b with | false => some p | true => q) else ps j b
theorem st1_no {i j : Nat} {b : Bool} {p : Addr} {q : Option Addr} (h : j ≠ i) : st1 i p q ps j b = ps j b := if_neg h
theorem st1_f {i : Nat} {p : Addr} {q : Option Addr} : st1 i p q ps i false = some p := if_pos rfl
theorem st1_t {i : Nat} {p : Addr} {q : Option Addr} : st1 i p q ps i true = q := if_pos rfl
theorem st1_some {i j : Nat} {b : Bool} {p a : Addr} {q : Option Addr} (h : st1 i p q ps j b = some a) : (j = i ∧ ((b = false ∧ a = p) ∨ (b = true ∧ q = some a))) ∨ (j ≠ i ∧ ps j b = some a) := by
  by_cases hj : j = i
  · subst hj
    cases b with
    | false => rw [st1_f] at h; cases h; exact .inl ⟨rfl, .inl ⟨rfl, rfl⟩⟩
    | true => rw [st1_t] at h; exact .inl ⟨rfl, .inr ⟨rfl, h⟩⟩
  · rw [st1_no hj] at h; exact .inr ⟨hj, h⟩
theorem Rel.setNewO (r : Rel K F ps H σ τ) (e : Same H H') {i : Nat} {p : Addr} {q : Option Addr} {d : D} (hi : i ∉ F.iol) (hlt : i < τ.length) (hn : H p = none) (hq : ∀ a, q = some a → H a = none ∧ a ≠ p) (h : OwnAt K H' (fun a => a = p ∨ q = some a ∨ PP F.P0 ps a) p q d) :
    Rel K F (st1 i p q ps) H' (σ.set i (some (.ref p))) (τ.set i (some (true, d))) := by
  have hl := r.ls
  have npp : ∀ a, H a = none → ¬ PP F.P0 ps a := fun a hn z => by
    obtain ⟨o, q, _⟩ := r.there z
    rw [hn] at q; cases q
  have hs : ∀ a, PP F.P0 (st1 i p q ps) a → (a = p ∨ q = some a ∨ PP F.P0 ps a) := fun a z => by
    rcases z with z | ⟨j, b, z⟩
    · exact .inr (.inr (.inl z))
    · rcases st1_some z with ⟨_, ⟨_, z⟩ | ⟨_, z⟩⟩ | ⟨_, z⟩
      · exact .inl z
      · exact .inr (.inl z)
      · exact .inr (.inr (.inr ⟨j, b, z⟩))
  have key : Same (wo (PP F.P0 ps) H) (wo (PP F.P0 (st1 i p q ps)) H') := wo_gen fun a o h1 h2 =>
    ⟨fun z => by
      rcases hs a z with z | z | z
      · rw [z, hn] at h2; cases h2
      · rw [(hq a z).1] at h2; cases h2
      · exact h1 z, e _ _ h2⟩
  have nw : ∀ (b : Bool) (a : Addr), st1 i p q ps i b = some a → H a = none := fun b a z => by
    rcases st1_some z with ⟨_, ⟨_, z⟩ | ⟨_, z⟩⟩ | ⟨z, _⟩
    · rw [z]; exact hn
    · exact (hq a z).1
    · exact absurd rfl z
  refine ⟨by simp [hl], fun j x he => ?_, fun j x he => ?_, fun j b a ha => ?_, fun j k b c a h1 h2 => ?_, fun j b a ha => ?_, fun a o h1 h2 => e _ _ (r.keep a o h1 h2), fun j b a ha => ?_, fun a h1 => let ⟨o, h2, h3⟩ := r.p0 a h1; ⟨o, e _ _ h2, h3⟩, fun j hj2 => ?_, fun j b a ha hj2 => ?_, fun a h => r.nw.2 a (Same.none e h)⟩
  · by_cases hj : j = i
    · subst hj
      rw [List.getElem?_set_self hlt] at he; cases he
      exact ⟨p, st1_f, by rw [List.getElem?_set_self (by rw [hl]; exact hlt)], by rw [st1_t]; exact h.mono (fun _ q => q) (fun _ _ _ q => q) (wo_sub hs)⟩
    · rw [List.getElem?_set_ne (fun z => hj z.symm)] at he
      obtain ⟨a, h1, h2, h3⟩ := r.own j x he
      exact ⟨a, by rw [st1_no hj]; exact h1, by rw [List.getElem?_set_ne (fun z => hj z.symm)]; exact h2, by rw [st1_no hj]; exact h3.mono (fun _ q => e _ _ q) (fun _ _ _ q => e _ _ q) key⟩
  · by_cases hj : j = i
    · subst hj
      rw [List.getElem?_set_self hlt] at he; cases he
    · rw [List.getElem?_set_ne (fun z => hj z.symm)] at he
      obtain ⟨w, h1, h2⟩ := r.cln j x he
      exact ⟨w, by rw [List.getElem?_set_ne (fun z => hj z.symm)]; exact h1, Dn.mono key _ h2⟩
  · by_cases hj : j = i
    · subst hj
      exact ⟨d, by rw [List.getElem?_set_self hlt]⟩
    · rw [st1_no hj] at ha
      obtain ⟨x, he⟩ := r.pown j b a ha
      exact ⟨x, by rw [List.getElem?_set_ne (fun z => hj z.symm)]; exact he⟩
  · by_cases hj : j = i
    · subst hj
      by_cases hk : k = j
      · subst hk
        refine ⟨rfl, ?_⟩
        rcases st1_some h1 with ⟨_, ⟨b1, z1⟩ | ⟨b1, z1⟩⟩ | ⟨z, _⟩
        · rcases st1_some h2 with ⟨_, ⟨b2, z2⟩ | ⟨b2, z2⟩⟩ | ⟨z, _⟩
          · rw [b1, b2]
          · exact absurd z1 (hq a z2).2
          · exact absurd rfl z
        · rcases st1_some h2 with ⟨_, ⟨b2, z2⟩ | ⟨b2, z2⟩⟩ | ⟨z, _⟩
          · exact absurd z2 (hq a z1).2
          · rw [b1, b2]
          · exact absurd rfl z
        · exact absurd rfl z
      · rw [st1_no hk] at h2
        exact absurd (.inr ⟨k, c, h2⟩) (npp a (nw b a h1))
    · rw [st1_no hj] at h1
      by_cases hk : k = i
      · subst hk
        exact absurd (.inr ⟨j, b, h1⟩) (npp a (nw c a h2))
      · rw [st1_no hk] at h2
        exact r.inj j k b c a h1 h2
  · by_cases hj : j = i
    · subst hj
      exact fun z => npp a (nw b a ha) (.inl z)
    · rw [st1_no hj] at ha; exact r.out j b a ha
  · by_cases hj : j = i
    · subst hj
      have hn := nw b a ha
      by_cases hio : F.io a
      · exact .inl hio
      · right
        cases h0 : F.H0 a with
        | none => rfl
        | some o => have := r.keep a o h0 hio; rw [hn] at this; cases this
    · rw [st1_no hj] at ha; exact r.new j b a ha
  · by_cases hj : j = i
    · exact absurd (hj ▸ hj2) hi
    · have : st1 i p q ps j = ps j := funext fun b => st1_no hj
      rw [this]; exact r.pin j hj2
  · by_cases hj : j = i
    · subst hj; exact r.nw.2 a (nw b a ha)
    · rw [st1_no hj] at ha; exact r.nw.1 j b a ha hj2
/-- a slot takes a new list or dict -/
theorem Rel.setNew (r : Rel K F ps H σ τ) (e : Same H H') {i : Nat} {p : Addr} {d : D} (hi : i ∉ F.iol) (hlt : i < τ.length) (hn : H p = none) (h : OwnAt K H' (fun a => a = p ∨ PP F.P0 ps a) p none d) :
    Rel K F (st1 i p none ps) H' (σ.set i (some (.ref p))) (τ.set i (some (true, d))) :=
  r.setNewO e hi hlt hn (fun a z => by cases z) (h.mono (fun _ q => q) (fun _ _ _ q => q) (wo_sub fun a z => z.elim .inl fun z => z.elim (fun z => by cases z) .inr))
/-- an owned thing is changed -/
theorem Rel.writeG (r : Rel K F ps H σ τ) {i : Nat} {p : Addr} {d : D} (hp : ps i false = some p) (kp : ∀ a o, H a = some o → a ≠ p → ps i true ≠ some a → H' a = some o) (hd : OwnAt K H' (PP F.P0 ps) p (ps i true) d) :
    Rel K F ps H' σ (τ.set i (some (true, d))) := by
  have hl := r.ls
  obtain ⟨d0, hi⟩ := r.pown i false p hp
  have hlt := (List.getElem?_eq_some_iff.mp hi).1
  have key : Same (wo (PP F.P0 ps) H) (wo (PP F.P0 ps) H') := wo_gen fun a u h1 h2 => ⟨h1, kp _ _ h2 (fun z => h1 (by rw [z]; exact .inr ⟨i, false, hp⟩)) fun z => h1 (.inr ⟨i, true, z⟩)⟩
  have oth : ∀ (j : Nat) (b : Bool) (a : Addr) (o : HO), j ≠ i → ps j b = some a → H a = some o → H' a = some o := fun j b a o hj ha ho =>
    kp a o ho (fun z => hj (r.inj j i b false a ha (by rw [z]; exact hp)).1) fun z => hj (r.inj j i b true a ha z).1
  have old : ∀ a u, F.H0 a = some u → ¬ F.io a → H a = some u → H' a = some u := fun a u h1 h2 h3 => kp _ _ h3 (fun z => by
      rcases r.new i false p hp with n | n
      · exact h2 (by rw [z]; exact n)
      · rw [z, n] at h1; cases h1) fun z => by
      rcases r.new i true a z with n | n
      · exact h2 n
      · rw [n] at h1; cases h1
  refine ⟨by simp [hl], fun j x he => ?_, fun j x he => ?_, fun j b q hq => ?_, r.inj, r.out, fun a u h1 h2 => old a u h1 h2 (r.keep a u h1 h2), r.new, fun a h1 => ?_, r.pin, r.nw.1, fun a h => r.nw.2 a ?_⟩
  · by_cases hj : j = i
    · subst hj
      rw [List.getElem?_set_self hlt] at he; cases he
      obtain ⟨q, z1, z2, _⟩ := r.own j _ hi
      rw [hp] at z1; cases z1
      exact ⟨p, hp, z2, hd⟩
    · rw [List.getElem?_set_ne (fun z => hj z.symm)] at he
      obtain ⟨q, h1, h2, h3⟩ := r.own j x he
      exact ⟨q, h1, h2, h3.mono (fun u z => oth j false _ _ hj h1 z) (fun q u e z => oth j true _ _ hj e z) key⟩
  · by_cases hj : j = i
    · subst hj
      rw [List.getElem?_set_self hlt] at he; cases he
    · rw [List.getElem?_set_ne (fun z => hj z.symm)] at he
      obtain ⟨w, h1, h2⟩ := r.cln j x he
      exact ⟨w, h1, Dn.mono key _ h2⟩
  · by_cases hj : j = i
    · subst hj
      exact ⟨d, by rw [List.getElem?_set_self hlt]⟩
    · obtain ⟨x, he⟩ := r.pown j b q hq
      exact ⟨x, by rw [List.getElem?_set_ne (fun z => hj z.symm)]; exact he⟩
  · obtain ⟨u, h2, h3⟩ := r.p0 a h1
    exact ⟨u, kp _ _ h2 (fun z => r.out i false p hp (by rw [← z]; exact h1)) (fun z => r.out i true a z h1), h3⟩
  · cases h2 : H a with
    | none => rfl
    | some o =>
      by_cases z : a = p
      · obtain ⟨o, q, _⟩ := hd.there
        rw [z, q] at h; cases h
      · by_cases z2 : ps i true = some a
        · obtain ⟨o, q, _⟩ := hd.inner z2
          rw [q] at h; cases h
        · rw [kp _ _ h2 z z2] at h; cases h
/-- an owned list is changed -/
theorem Rel.write (r : Rel K F ps H σ τ) {i : Nat} {p : Addr} {d : D} {o : HO} (hp : ps i false = some p) (hd : OwnAt K (upd H p o) (PP F.P0 ps) p (ps i true) d) :
    Rel K F ps (upd H p o) σ (τ.set i (some (true, d))) := r.writeG hp (fun a u h n _ => by rw [upd_ne n]; exact h) hd
/-- the slots of a comprehension's own names are forgotten -/
theorem wipeT_length : ∀ (τ : Tau) (vs : List Nat), (wipeT τ vs).length = τ.length
  | _, [] => rfl
  | τ, v :: vs => by show ((wipeT τ vs).set v none).length = _; rw [List.length_set, wipeT_length τ vs]
end
end Mp

/-! MiniPy, part D: operations by values. -/
namespace Mp
open PySem PySem.Spec PyProof.Rows L2

/-- a value, its items clean in G, itself read in H -/
def ElCl (K : PySem.W.Frag) (G H : Hp) (v : V) : D → Prop
  | .list ds => ∃ a vs, v = .ref a ∧ LsR K H a vs ∧ DnAll K G vs ds
  | .dict kds => ∃ a kvs, v = .ref a ∧ Rd H a (.dK kvs) ∧ DnKV K G kvs kds
  | d => Dn K G v d
/-- what an operation hands back: f where a list or dict is always new -/
inductive Res (K : PySem.W.Frag) (f : Bool) (G H : Hp) : D → V → Hp → Prop
  | same {z : D} {v : V} : (f = true → isC z = false) → Dn K G v z → Res K f G H z v H
  | lst {p : Addr} {vs : List V} {ds : List D} : H p = none → DnAll K G vs ds → Res K f G H (.list ds) (.ref p) (upd H p (.lst vs))
  | dct {p : Addr} {vs : List (Key × V)} {ds : List (D × D)} : H p = none → DnKV K G vs ds → Res K f G H (.dict ds) (.ref p) (upd H p (.dK vs))
  | tup {p : Addr} {vs : List V} {ds : List D} : H p = none → DnAll K G vs ds → Res K f G H (.tuple ds) (.ref p) (upd H p (.tup vs))
theorem same_upd {H : Hp} {p : Addr} {o : HO} (h : H p = none) : Same H (upd H p o) := fun b x e => by
  rw [upd_ne (ne_of_none e h)]; exact e
section
variable {K : PySem.W.Frag} {G G' H H' : Hp} {v : V} {d z : D}
theorem Res.same' {f : Bool} (r : Res K f G H z v H') : Same H H' := by
  cases r with
  | same _ _ => exact Same.refl _
  | lst h _ => exact same_upd h
  | dct h _ => exact same_upd h
  | tup h _ => exact same_upd h
theorem ElCl.full (e : Same G H) (h : ElCl K G H v d) : Dn K H v d := by
  cases d with
  | list ds => obtain ⟨a, vs, rfl, h1, h2⟩ := h; exact .lst h1 (DnAll.mono e _ h2)
  | dict ds => obtain ⟨a, vs, rfl, h1, h2⟩ := h; exact .dct h1 (DnKV.mono e _ h2)
  | none => exact Dn.mono e _ (show Dn K G v _ from h)
  | bool _ => exact Dn.mono e _ (show Dn K G v _ from h)
  | int _ => exact Dn.mono e _ (show Dn K G v _ from h)
  | str _ => exact Dn.mono e _ (show Dn K G v _ from h)
  | tuple _ => exact Dn.mono e _ (show Dn K G v _ from h)
theorem ElCl.mono (e : Same G G') (e' : Same H H') (h : ElCl K G H v d) : ElCl K G' H' v d := by
  cases d with
  | list ds => obtain ⟨a, vs, rfl, h1, h2⟩ := h; exact ⟨a, vs, rfl, Same.ls e' h1, DnAll.mono e _ h2⟩
  | dict ds => obtain ⟨a, vs, rfl, h1, h2⟩ := h; exact ⟨a, vs, rfl, Same.rd e' h1, DnKV.mono e _ h2⟩
  | none => exact Dn.mono e _ (show Dn K G v _ from h)
  | bool _ => exact Dn.mono e _ (show Dn K G v _ from h)
  | int _ => exact Dn.mono e _ (show Dn K G v _ from h)
  | str _ => exact Dn.mono e _ (show Dn K G v _ from h)
  | tuple _ => exact Dn.mono e _ (show Dn K G v _ from h)
theorem Dn.elcl (e : Same G H) (h : Dn K G v d) : ElCl K G H v d := by
  cases h with
  | lst h1 h2 => exact ⟨_, _, rfl, Same.ls e h1, h2⟩
  | dct h1 h2 => exact ⟨_, _, rfl, Same.rd e h1, h2⟩
  | non => exact .non
  | bl b => exact .bl b
  | int i => exact .int i
  | str x => exact .str x
  | tup h1 h2 => exact .tup h1 h2
end

section
variable {X : Cx} {pins : List (Addr × Obj)} {σ : L2.St} {H : Hp} {s : Shared}
/-- a list that is read, as an object -/
theorem lstR (I : Inv X pins σ H s) {l : Addr} {xs : List V} (h : LsR X.K H l xs) : xs.length ≤ sizeLine ∧ ∃ (its : List Value) (n : Nat), Vals xs its ∧ xs.length = its.length ∧ s.heap.get? l = some { cls := .type "list", data := .seq its.toArray n } := by
  rcases h with h | ⟨its, n, h1, h2, h3⟩
  · obtain ⟨z, its, n, r, e⟩ : ObjOk X.prog X.w H s.heap l (.lst xs) := h.ok I.hok
    exact ⟨z, its, n, r, r.length, e⟩
  · exact ⟨by rw [h3.length]; exact h2, its, n, h3, h3.length, I.kIn _ _ h1⟩
def rCatR (K : PySem.W.Frag) : R2 := fun x y H Q => ∃ l b xs zs, x = .ref l ∧ y = .ref b ∧ LsR K H l xs ∧ LsR K H b zs ∧ xs.length + zs.length ≤ sizeLine ∧ ∀ p, H p = none → Q (.ref p) (upd H p (.lst (xs ++ zs)))
theorem op_catR : OpR X (binaryOp .Add) (rCatR X.K) := by
  intro pins s σ H x y v u Q I rx ry h
  obtain ⟨l, b, xs, zs, rfl, rfl, hH, hB, hz, q⟩ := h
  cases rx
  cases ry
  obtain ⟨z, its, n, r, hl, e⟩ := lstR I hH
  obtain ⟨z2, its2, n2, r2, hl2, e2⟩ := lstR I hB
  refine PySem.P.add_list e e2 ?_ (by rw [List.size_toArray, List.size_toArray]; omega)
  have ea : its.toArray ++ its2.toArray = (its ++ its2).toArray := by simp
  rw [ea]
  exact ⟨.ref _, _, I.lnew (t' := s.toks) (r.append r2) (by rw [List.length_append]; omega), rfl, q _ I.fresh⟩
def rRepR (K : PySem.W.Frag) : R2 := fun x y H Q => ∃ l k xs, x = .ref l ∧ y = .int k ∧ LsR K H l xs ∧ -(2 ^ 63) ≤ k ∧ k < 2 ^ 63 ∧ xs.length * k.toNat ≤ sizeLine ∧
  ∀ p, H p = none → Q (.ref p) (upd H p (.lst (List.replicate k.toNat xs).flatten))
theorem op_repR : OpR X (binaryOp .Mult) (rRepR X.K) := by
  intro pins s σ H x y v u Q I rx ry h
  obtain ⟨l, k, xs, rfl, rfl, hH, h1, h2, hz, q⟩ := h
  cases rx
  obtain ⟨t, rfl⟩ := ry
  obtain ⟨z, its, n, r, hl, e⟩ := lstR I hH
  have hlen : its.toArray.size * k.toNat ≤ sizeLine := by rw [List.size_toArray, ← hl]; exact hz
  have hcap : ¬ its.toArray.size * k.toNat > (2 ^ 63 - 1) / 8 := by
    have : (sizeLine : Nat) ≤ (2 ^ 63 - 1) / 8 := by decide
    omega
  have hfit : ¬ (!Builtin.List.listFitsIndex k) = true := by
    rw [fitsIndex_both h1 h2]
    exact Bool.false_ne_true
  have hlong : ¬ Builtin.List.listTooLong (its.toArray.size * k.toNat) = true := by
    rw [notLongL hlen]
    exact Bool.false_ne_true
  have hnew : List.foldl (fun x1 x2 => x1 ++ x2) #[] (List.replicate (if its.toArray.isEmpty = true then 0 else k.toNat) its.toArray) = (List.replicate k.toNat its).flatten.toArray := by
    have f0 : ∀ m : Nat, List.foldl (fun x1 x2 => x1 ++ x2) #[] (List.replicate m its.toArray) = (List.replicate m its).flatten.toArray := fun m => by
      have := foldl_rep its m []
      rw [List.nil_append] at this
      exact this
    rw [f0]
    cases its with
    | nil => simp
    | cons a r' => rw [if_neg (by simp)]
  refine wpAny_binaryOp_repeat_ref (T := "list") (U := "int") (by decide) ⟨_, e, rfl⟩ (fun s' => typeIs_int s' k t) noFill_list_mul F.fills_int_mul F.slot_int_rmul repeat_list F.slot_int_index.lookup
    (call_meets F.slot_int_rmul (typeIs_int s k t) F.entry_int_rmul (F.args_int_rmul_2 _ _) (int___rmul___int_list k t l its.toArray n)
      ⟨e, rfl, ⟨_, e, rfl⟩, call_meets F.slot_list_mul ⟨_, e, rfl⟩ F.entry_list_mul (F.args_list_mul_2 _ _) (AutoListH.list___mul___list_int_3 l its.toArray n k t hfit hcap hlong) ⟨e, ?_⟩⟩)
  rw [hnew]
  exact ⟨.ref _, _, I.lnew (t' := s.toks) (r.rep k.toNat) (by rw [PyProof.Rows.lm_len_rep_flat, Nat.mul_comm]; exact hz), rfl, q _ I.fresh⟩
end

/-! ### binary operators -/
def rB (K : PySem.W.Frag) (op : Operator) : R2 := fun x y H Q => ∃ (G : Hp) (d e z : D), Same G H ∧ ElCl K G H x d ∧ ElCl K G H y e ∧ binD op d e = some z ∧ ∀ v H', Res K true G H z v H' → Q v H'
theorem cmul_of {i j : Int} (h : mulOk i j = true) : IntMulOk i j := by
  rcases mulOk_iff.mp h with h | h | h
  · exact CMul.ok (.inl h)
  · exact CMul.ok (.inr h)
  · exact CMulX.ok h
theorem divOk_pos {i j : Int} (h : divOk i j = true) : 0 < j := divOk_iff.mp h
variable {X : Cx}
/-- there is room for a division of great numbers -/
def Pyl (X : Cx) : Prop := X.A.frames = some X.stack → Mod X.K X.mg X.base → ∀ s : Shared, (∀ b o, X.base.get? b = some o → s.heap.get? b = some o) → PySem.PylongRoom (model X.prog X.w) X.A s
theorem Pyl.at {pins : List (Addr × Obj)} {σ : L2.St} {H : Hp} {s : Shared} (h : Pyl X) (I : Inv X pins σ H s) : PySem.PylongRoom (model X.prog X.w) X.A s := h I.ok.frames I.mod s I.bk
theorem fdiv_neg' {i j : Int} (h : j < 0) : i.fdiv j = -i / -j := by
  rw [← Int.neg_fdiv_neg, Int.fdiv_eq_ediv_of_nonneg _ (by omega)]
theorem fmod_neg' {i j : Int} (h : j < 0) : i.fmod j = -(-i % -j) := by
  have h1 := Int.fmod_def i j
  rw [h1, fdiv_neg' h, Int.emod_def, Int.neg_mul]
  omega
theorem op_fdivD (hp : Pyl X) : OpR X (binaryOp .FloorDiv) (rI (fun _ j => j ≠ 0) fun i j => .int (i.fdiv j)) := by
  intro pins s σ H x y v u Q I rx ry h
  obtain ⟨i, j, rfl, rfl, c, q⟩ := h
  obtain ⟨t, rfl⟩ := rx
  obtain ⟨t', rfl⟩ := ry
  exact PyProof.Rows.floordiv_int c ⟨.int (i.fdiv j), H, I.tok _, ⟨_, rfl⟩, q⟩ (.inr (hp.at I))
theorem op_modD : OpR X (binaryOp .Mod) (rI (fun _ j => j ≠ 0) fun i j => .int (i.fmod j)) := by
  intro pins s σ H x y v u Q I rx ry h
  obtain ⟨i, j, rfl, rfl, c, q⟩ := h
  obtain ⟨t, rfl⟩ := rx
  obtain ⟨t', rfl⟩ := ry
  exact PyProof.Rows.mod_int c ⟨.int (i.fmod j), H, I.tok _, ⟨_, rfl⟩, q⟩
theorem op_shlD : OpR X (binaryOp .LShift) (rI (fun i j => shlOk i j = true) fun i j => .int (i * 2 ^ j.toNat)) := by
  intro pins s σ H x y v u Q I rx ry h
  obtain ⟨i, j, rfl, rfl, c, q⟩ := h
  rcases shlOk_iff.mp c with c | c
  · exact op_shl pins s σ H _ _ v u Q I rx ry ⟨i, j, rfl, rfl, c, q⟩
  · exact op_shlW pins s σ H _ _ v u Q I rx ry ⟨i, j, rfl, rfl, c, q⟩
theorem op_mulD : OpR X (binaryOp .Mult) (rI (fun i j => mulOk i j = true) fun i j => .int (i * j)) := opI fun _ _ _ _ _ _ _ hc q => mul_int q (cmul_of hc)
theorem dn_int {K : PySem.W.Frag} {G : Hp} {x : V} {i : Int} (h : Dn K G x (.int i)) : x = .int i := by cases h; rfl
theorem dn_str {K : PySem.W.Frag} {G : Hp} {x : V} {i : Str} (h : Dn K G x (.str i)) : x = .str i := by cases h; rfl
theorem dn_bool {K : PySem.W.Frag} {G : Hp} {x : V} {i : Bool} (h : Dn K G x (.bool i)) : x = .bl i := by cases h; rfl
theorem dn_none {K : PySem.W.Frag} {G : Hp} {x : V} (h : Dn K G x .none) : x = .non := by cases h; rfl
theorem dn_tup {K : PySem.W.Frag} {G : Hp} {x : V} {ds : List D} (h : Dn K G x (.tuple ds)) : ∃ a vs, x = .ref a ∧ SqT K G a vs ∧ DnAll K G vs ds := by
  cases h with | tup h1 h2 => exact ⟨_, _, rfl, h1, h2⟩
theorem op_bin (hpl : Pyl X) (op : Operator) : OpR X (binaryOp op) (rB X.K op) := by
  intro pins s σ H x y v u Q I rx ry h
  obtain ⟨G, d, e, z, sg, hx, hy, hz, q⟩ := h
  have num : ∀ i : Int, (∀ v H', Res X.K true G H (.int i) v H' → Q v H') → Q (.int i) H := fun i q => q _ _ (.same (fun _ => rfl) (.int i))
  cases d with
  | int i =>
    obtain rfl := dn_int (show Dn X.K G x _ from hx)
    cases e with
    | int j =>
      obtain rfl := dn_int (show Dn X.K G y _ from hy)
      cases op <;> simp only [binD, Option.some.injEq, reduceCtorEq] at hz
      · subst hz; exact op_add pins s σ H _ _ v u Q I rx ry ⟨i, j, rfl, rfl, num _ q⟩
      · subst hz; exact op_sub pins s σ H _ _ v u Q I rx ry ⟨i, j, rfl, rfl, num _ q⟩
      · split at hz
        · rename_i c; cases hz; exact op_mulD pins s σ H _ _ v u Q I rx ry ⟨i, j, rfl, rfl, c, num _ q⟩
        · cases hz
      · split at hz
        · rename_i c; cases hz; exact op_mod pins s σ H _ _ v u Q I rx ry ⟨i, j, rfl, rfl, c, num _ q⟩
        · split at hz
          · rename_i c; cases hz; exact op_modD pins s σ H _ _ v u Q I rx ry ⟨i, j, rfl, rfl, by omega, by show Q (.int (i.fmod j)) H; rw [fmod_neg' c]; exact num _ q⟩
          · cases hz
      · split at hz
        · rename_i c; cases hz
          refine op_pow pins s σ H _ _ v u Q I rx ry ⟨i, j, rfl, rfl, ?_, num _ q⟩
          exact powOk_iff.mp c
        · cases hz
      · split at hz
        · rename_i c; cases hz; exact op_shlD pins s σ H _ _ v u Q I rx ry ⟨i, j, rfl, rfl, c, num _ q⟩
        · cases hz
      · split at hz
        · rename_i c; cases hz; exact op_shr pins s σ H _ _ v u Q I rx ry ⟨i, j, rfl, rfl, c, num _ q⟩
        · cases hz
      · subst hz; exact op_or pins s σ H _ _ v u Q I rx ry ⟨i, j, rfl, rfl, num _ q⟩
      · subst hz; exact op_xor pins s σ H _ _ v u Q I rx ry ⟨i, j, rfl, rfl, num _ q⟩
      · subst hz; exact op_and pins s σ H _ _ v u Q I rx ry ⟨i, j, rfl, rfl, num _ q⟩
      · split at hz
        · rename_i c; cases hz
          have hc := divOk_pos c
          exact op_fdivD hpl pins s σ H _ _ v u Q I rx ry ⟨i, j, rfl, rfl, by omega, by show Q (.int (i.fdiv j)) H; rw [Int.fdiv_eq_ediv_of_nonneg _ (by omega)]; exact num _ q⟩
        · split at hz
          · rename_i c; cases hz; exact op_fdivD hpl pins s σ H _ _ v u Q I rx ry ⟨i, j, rfl, rfl, by omega, by show Q (.int (i.fdiv j)) H; rw [fdiv_neg' c]; exact num _ q⟩
          · cases hz
    | _ => cases op <;> simp [binD] at hz
  | str a =>
    obtain rfl := dn_str (show Dn X.K G x _ from hx)
    cases e with
    | str b =>
      obtain rfl := dn_str (show Dn X.K G y _ from hy)
      cases op <;> simp only [binD, Option.some.injEq, reduceCtorEq] at hz
      split at hz
      · rename_i c; cases hz; exact op_add_str pins s σ H _ _ v u Q I rx ry ⟨a, b, rfl, rfl, c, q _ _ (.same (fun _ => rfl) (.str _))⟩
      · cases hz
    | _ => cases op <;> simp [binD] at hz
  | list ds =>
    obtain ⟨a, vs, rfl, h1, h2⟩ := hx
    cases e with
    | list es =>
      obtain ⟨b, ws, rfl, h3, h4⟩ := hy
      cases op <;> simp only [binD, Option.some.injEq, reduceCtorEq] at hz
      split at hz
      · rename_i c; cases hz
        exact op_catR pins s σ H _ _ v u Q I rx ry ⟨a, b, vs, ws, rfl, rfl, h1, h3, by rw [h2.length, h4.length]; exact c, fun p hp => q _ _ (.lst hp (h2.append h4))⟩
      · cases hz
    | int k =>
      obtain rfl := dn_int (show Dn X.K G y _ from hy)
      cases op <;> simp only [binD, Option.some.injEq, reduceCtorEq] at hz
      split at hz
      · rename_i c; cases hz
        exact op_repR pins s σ H _ _ v u Q I rx ry ⟨a, k, vs, rfl, rfl, h1, Int.le_of_lt (lmOk_iff.mp c).1.1, (lmOk_iff.mp c).1.2, by rw [h2.length]; exact (lmOk_iff.mp c).2, fun p hp => q _ _ (.lst hp (h2.rep _))⟩
      · cases hz
    | _ => cases op <;> simp [binD] at hz
  | tuple ds =>
    have hx : Dn X.K G x (.tuple ds) := hx
    obtain ⟨a, vs, rfl, h1, h2⟩ := dn_tup hx
    cases e with
    | tuple es =>
      have hy : Dn X.K G y (.tuple es) := hy
      obtain ⟨b, ws, rfl, h3, h4⟩ := dn_tup hy
      cases op <;> simp only [binD, Option.some.injEq, reduceCtorEq] at hz
      split at hz
      · rename_i c; cases hz
        refine op_catA pins s σ H _ _ v u Q I rx ry ⟨a, b, vs, ws, rfl, rfl, Same.seqT sg h1, Same.seqT sg h3, by rw [h2.length, h4.length]; exact c, fun hv => ?_, fun _ hw => ?_, fun _ _ p hp => q _ _ (.tup hp (h2.append h4))⟩
        · subst hv
          cases h2
          exact q _ _ (.same (fun _ => rfl) hy)
        · subst hw
          cases h4
          refine q _ _ (.same (fun _ => rfl) ?_)
          rw [List.append_nil]; exact hx
      · cases hz
    | _ => cases op <;> simp [binD] at hz
  | _ => cases op <;> simp [binD] at hz
end Mp

/-! MiniPy, part D2: comparisons, truth, subscripts, slices, built-ins by values. -/
namespace Mp
open PySem PySem.Spec PyProof.Rows L2
variable {X : Cx}
/-! ### comparisons -/
theorem Dn.nonref {K : PySem.W.Frag} {G : Hp} {x : V} {d : D} (h : Dn K G x d) : (x = .non ↔ d = .none) := by
  cases h <;> simp
theorem flat_dn {K : PySem.W.Frag} {G : Hp} {x : V} {d : D} (h : Dn K G x d) (f : flatD d = true) : flatV x = true := by
  cases h <;> simp_all [flatD, flatV]
theorem eqV_dn {K : PySem.W.Frag} {G G' : Hp} {x y : V} {d e : D} (h : Dn K G x d) (h' : Dn K G' y e) (f : flatD d = true) (f' : flatD e = true) : eqV x y = PyData.eqv d e := by
  cases h <;> cases h' <;> simp_all [flatD, eqV, PyData.eqv]
theorem flats_dn {K : PySem.W.Frag} {G : Hp} : ∀ {ds : List D} {vs : List V}, DnAll K G vs ds → ds.all flatD = true → vs.all flatV = true
  | [], _, h, _ => by cases h; rfl
  | d :: ds, _, h, f => by
    cases h with
    | cons h1 h2 =>
      simp only [List.all_cons, Bool.and_eq_true] at f ⊢
      exact ⟨flat_dn h1 f.1, flats_dn h2 f.2⟩
theorem inV_dn {K : PySem.W.Frag} {G G' : Hp} {x : V} {d : D} (h : Dn K G x d) (f : flatD d = true) : ∀ {ds : List D} {vs : List V}, DnAll K G' vs ds → ds.all flatD = true → inV x vs = ds.any fun e => PyData.eqv e d
  | [], _, h', _ => by cases h'; rfl
  | e :: ds, _, h', g => by
    cases h' with
    | cons h1 h2 =>
      simp only [List.all_cons, Bool.and_eq_true] at g
      have ih := inV_dn (x := x) h f h2 g.2
      unfold inV at ih ⊢
      rw [List.any_cons, List.any_cons, ih, eqV_dn h1 h g.1 f]
theorem key_dn {K : PySem.W.Frag} {G : Hp} {x : V} {d : D} (h : Dn K G x d) (f : isKey d = true) : ∃ k : Key, x = kV k ∧ ((∃ i, d = .int i ∧ k = .inl i) ∨ ∃ s, d = .str s ∧ k = .inr s) := by
  cases h with
  | int i => exact ⟨.inl i, rfl, .inl ⟨i, rfl, rfl⟩⟩
  | str s => exact ⟨.inr s, rfl, .inr ⟨s, rfl, rfl⟩⟩
  | _ => simp [isKey] at f
def keyOf : D → Key
  | .int i => .inl i
  | .str s => .inr s
  | _ => .inl 0
theorem keyEq_iff {k : D} (f : isKey k = true) {x : D} (f' : isKey x = true) : keyEq x k = decide (keyOf x = keyOf k) := by
  cases k <;> cases x <;> simp_all [isKey, keyEq, keyOf]
theorem valV_dn {K : PySem.W.Frag} {G : Hp} {k : D} (f : isKey k = true) : ∀ {kds : List (D × D)} {kvs : List (Key × V)}, DnKV K G kvs kds → match dGet k kds with
    | some d => ∃ v, valV kvs (keyOf k) = some v ∧ Dn K G v d
    | none => valV kvs (keyOf k) = none
  | [], _, h => by cases h; rfl
  | (x, d) :: kds, _, h => by
    cases h with
    | int h1 h2 =>
      rename_i i v kvs
      have ih := valV_dn f h2
      unfold dGet
      by_cases e : keyEq (.int i) k = true
      · rw [if_pos e]
        rw [keyEq_iff f rfl] at e
        exact ⟨v, valV_pos (of_decide_eq_true e), h1⟩
      · rw [if_neg e]
        rw [keyEq_iff f rfl] at e
        rw [valV_neg (show ¬ (Sum.inl i : Key) = keyOf k from fun z => e (decide_eq_true z))]
        exact ih
    | str h1 h2 =>
      rename_i i v kvs
      have ih := valV_dn f h2
      unfold dGet
      by_cases e : keyEq (.str i) k = true
      · rw [if_pos e]
        rw [keyEq_iff f rfl] at e
        exact ⟨v, valV_pos (of_decide_eq_true e), h1⟩
      · rw [if_neg e]
        rw [keyEq_iff f rfl] at e
        rw [valV_neg (show ¬ (Sum.inr i : Key) = keyOf k from fun z => e (decide_eq_true z))]
        exact ih
def rC (K : PySem.W.Frag) (op : CmpOp) : R2 := fun x y H Q => ∃ (d e : D) (z : Bool), Dn K H x d ∧ Dn K H y e ∧ cmpD op d e = some z ∧ Q (.bl z) H
theorem op_eqX (hu : X.A.units + 64 < cLine) : OpR X (compareOp .Eq) (rC X.K .Eq) := by
  intro pins s σ H x y v u Q I rx ry h
  obtain ⟨d, e, z, hx, hy, hz, q⟩ := h
  have hz : eqD d e = some z := hz
  have gen : ∀ w, SeqAt.shaped d = true → SeqAt.shaped e = true → PyData.eqv d e = w → Q (.bl w) H → wpAny (model X.prog X.w) X.A (compareOp .Eq v u) (EP X pins σ Q) X.xe s := fun w h1 h2 h3 h4 =>
    op_eqD hu pins s σ H x y v u Q I rx ry ⟨d, e, Dn.dp _ hx (SeqAt.canLay_of_shaped h1), Dn.dp _ hy (SeqAt.canLay_of_shaped h2), h1, h2, by rw [h3]; exact h4⟩
  unfold eqD at hz
  split at hz
  · cases hz; cases hx; cases hy
    refine op_eq pins s σ H _ _ v u Q I rx ry ⟨rfl, ?_⟩
    rw [dec_int, Bool.beq_eq_decide_eq]; exact q
  · cases hz; cases hx; cases hy
    refine op_eq pins s σ H _ _ v u Q I rx ry ⟨rfl, ?_⟩
    rw [dec_str, Bool.beq_eq_decide_eq]; exact q
  · cases hz; cases hx; cases hy
    refine op_eq pins s σ H _ _ v u Q I rx ry ⟨rfl, ?_⟩
    rw [dec_bl, Bool.beq_eq_decide_eq]; exact q
  · split at hz
    · rename_i c
      simp only [Bool.and_eq_true] at c
      cases hz
      exact gen _ c.1 c.2 rfl q
    · cases hz
theorem op_neX (hu : X.A.units + 64 < cLine) : OpR X (compareOp .NotEq) (rC X.K .NotEq) := by
  intro pins s σ H x y v u Q I rx ry h
  obtain ⟨d, e, z, hx, hy, hz, q⟩ := h
  have hz0 : (eqD d e).map (!·) = some z := hz
  clear hz
  obtain ⟨z', hz, rfl⟩ := Option.map_eq_some_iff.mp hz0
  clear hz0
  have gen : ∀ w, SeqAt.shaped d = true → SeqAt.shaped e = true → PyData.eqv d e = w → Q (.bl (!w)) H → wpAny (model X.prog X.w) X.A (compareOp .NotEq v u) (EP X pins σ Q) X.xe s := fun w h1 h2 h3 h4 =>
    op_neD hu pins s σ H x y v u Q I rx ry ⟨d, e, Dn.dp _ hx (SeqAt.canLay_of_shaped h1), Dn.dp _ hy (SeqAt.canLay_of_shaped h2), h1, h2, by rw [h3]; exact h4⟩
  unfold eqD at hz
  split at hz
  · cases hz; cases hx; cases hy
    refine op_ne pins s σ H _ _ v u Q I rx ry ⟨rfl, ?_⟩
    rw [dec_int, Bool.beq_eq_decide_eq]; exact q
  · cases hz; cases hx; cases hy
    refine op_ne pins s σ H _ _ v u Q I rx ry ⟨rfl, ?_⟩
    rw [dec_str, Bool.beq_eq_decide_eq]; exact q
  · cases hz; cases hx; cases hy
    refine op_ne pins s σ H _ _ v u Q I rx ry ⟨rfl, ?_⟩
    rw [dec_bl, Bool.beq_eq_decide_eq]; exact q
  · split at hz
    · rename_i c
      simp only [Bool.and_eq_true] at c
      cases hz
      exact gen _ c.1 c.2 rfl q
    · cases hz
theorem op_inX (hu : X.A.units + 65 < cLine) (neg : Bool) {op : CmpOp} (hop : op = if neg then .NotIn else .In) : OpR X (compareOp op) (fun x y H Q => ∃ (d e : D) (z : Bool), Dn X.K H x d ∧ Dn X.K H y e ∧ inD d e = some z ∧ Q (.bl (if neg then !z else z)) H) := by
  intro pins s σ H x y v u Q I rx ry h
  obtain ⟨d, e, z, hx, hy, hz, q⟩ := h
  cases e with
  | list ds =>
    simp only [inD] at hz
    split at hz
    · rename_i c
      simp only [Bool.and_eq_true] at c
      cases hz
      cases hy with
      | lst h1 h2 =>
        have e1 := inV_dn hx c.1 h2 c.2
        have hr : (rIn X.K neg) x (.ref _) H Q := ⟨_, _, rfl, .inl h1.sq, flat_dn hx c.1, flats_dn h2 c.2, by rw [e1]; exact q⟩
        cases neg with
        | true => subst hop; exact op_notIn_seq pins s σ H _ _ v u Q I rx ry hr
        | false => subst hop; exact op_in_seq pins s σ H _ _ v u Q I rx ry hr
    · split at hz
      · rename_i c
        simp only [Bool.and_eq_true] at c
        cases hz
        have h1 := Dn.dp _ hx (SeqAt.canLay_of_shaped c.1)
        have h2 := Dn.dp _ hy (SeqAt.canLay_of_shaped c.2)
        cases neg with
        | true => subst hop; exact op_notInD hu pins s σ H _ _ v u Q I rx ry ⟨d, ds, h1, h2, c.1, c.2, q⟩
        | false => subst hop; exact op_inD hu pins s σ H _ _ v u Q I rx ry ⟨d, ds, h1, h2, c.1, c.2, q⟩
      · cases hz
  | tuple ds =>
    simp only [inD] at hz
    split at hz
    · rename_i c
      simp only [Bool.and_eq_true] at c
      cases hz
      cases hy with
      | tup h1 h2 =>
        have e1 := inV_dn hx c.1 h2 c.2
        have hr : (rIn X.K neg) x (.ref _) H Q := ⟨_, _, rfl, .inr h1, flat_dn hx c.1, flats_dn h2 c.2, by rw [e1]; exact q⟩
        cases neg with
        | true => subst hop; exact op_notIn_seq pins s σ H _ _ v u Q I rx ry hr
        | false => subst hop; exact op_in_seq pins s σ H _ _ v u Q I rx ry hr
    · cases hz
  | dict kds =>
    simp only [inD] at hz
    split at hz
    · rename_i c
      cases hz
      cases hy with
      | @dct a kvs _ h1 h2 =>
        cases (show u = Value.ref _ from ry)
        obtain ⟨k, ek, hk⟩ := key_dn hx c
        have ek' : k = keyOf d := by rcases hk with ⟨i, rfl, rfl⟩ | ⟨i, rfl, rfl⟩ <;> rfl
        subst ek ek'
        have hv := valV_dn c h2
        have hs : (valV kvs (keyOf d)).isSome = (dGet d kds).isSome := by
          cases e2 : dGet d kds with
          | none => rw [e2] at hv; rw [hv]; rfl
          | some w => rw [e2] at hv; obtain ⟨v', h3, _⟩ := hv; rw [h3]; rfl
        have g : DGet H a (kV (keyOf d)) (valV kvs (keyOf d)) := .inl ⟨_, _, h1, rfl, rfl⟩
        cases neg with
        | true => subst hop; exact d_notIn (by omega) I g rx fun s' I' => ⟨.bl _, H, I', rfl, by rw [hs]; exact q⟩
        | false => subst hop; exact d_in (by omega) I g rx fun s' I' => ⟨.bl _, H, I', rfl, by rw [hs]; exact q⟩
    · cases hz
  | str b =>
    cases d with
    | str a =>
      simp only [inD] at hz
      cases hz; cases hx; cases hy
      cases neg with
      | true => subst hop; exact op_notin_str pins s σ H _ _ v u Q I rx ry ⟨a, b, rfl, rfl, q⟩
      | false => subst hop; exact op_in_str pins s σ H _ _ v u Q I rx ry ⟨a, b, rfl, rfl, q⟩
    | _ => simp [inD] at hz
  | _ => simp [inD] at hz
theorem op_cmp (hu : X.A.units + 65 < cLine) (op : CmpOp) : OpR X (compareOp op) (rC X.K op) := by
  cases op with
  | Eq => exact op_eqX (by omega)
  | NotEq => exact op_neX (by omega)
  | Lt =>
    intro pins s σ H x y v u Q I rx ry h
    obtain ⟨d, e, z, hx, hy, hz, q⟩ := h
    simp only [cmpD] at hz
    split at hz
    · cases hz; cases hx; cases hy
      exact op_lt pins s σ H _ _ v u Q I rx ry ⟨_, _, rfl, rfl, q⟩
    · cases hz; cases hx; cases hy
      exact op_lt_str pins s σ H _ _ v u Q I rx ry ⟨_, _, rfl, rfl, q⟩
    · cases hz
  | LtE =>
    intro pins s σ H x y v u Q I rx ry h
    obtain ⟨d, e, z, hx, hy, hz, q⟩ := h
    simp only [cmpD] at hz
    split at hz
    · cases hz; cases hx; cases hy
      exact op_le pins s σ H _ _ v u Q I rx ry ⟨_, _, rfl, rfl, q⟩
    · cases hz
  | Gt =>
    intro pins s σ H x y v u Q I rx ry h
    obtain ⟨d, e, z, hx, hy, hz, q⟩ := h
    simp only [cmpD] at hz
    split at hz
    · cases hz; cases hx; cases hy
      exact op_gt pins s σ H _ _ v u Q I rx ry ⟨_, _, rfl, rfl, q⟩
    · cases hz
  | GtE =>
    intro pins s σ H x y v u Q I rx ry h
    obtain ⟨d, e, z, hx, hy, hz, q⟩ := h
    simp only [cmpD] at hz
    split at hz
    · cases hz; cases hx; cases hy
      exact op_ge pins s σ H _ _ v u Q I rx ry ⟨_, _, rfl, rfl, q⟩
    · cases hz
  | Is =>
    intro pins s σ H x y v u Q I rx ry h
    obtain ⟨d, e, z, hx, hy, hz, q⟩ := h
    simp only [cmpD] at hz
    split at hz
    · rename_i c
      cases hz
      have ey : y = .non := by cases hy <;> simp_all [isNone]
      subst ey
      refine op_isN pins s σ H _ _ v u Q I rx ry ⟨rfl, ?_⟩
      have e1 : decide (x = V.non) = isNone d := by cases hx <;> simp [isNone]
      rw [e1]; exact q
    · cases hz
  | IsNot =>
    intro pins s σ H x y v u Q I rx ry h
    obtain ⟨d, e, z, hx, hy, hz, q⟩ := h
    simp only [cmpD] at hz
    split at hz
    · rename_i c
      cases hz
      have ey : y = .non := by cases hy <;> simp_all [isNone]
      subst ey
      refine op_notN pins s σ H _ _ v u Q I rx ry ⟨rfl, ?_⟩
      have e1 : decide (x = V.non) = isNone d := by cases hx <;> simp [isNone]
      rw [e1]; exact q
    · cases hz
  | In =>
    intro pins s σ H x y v u Q I rx ry h
    obtain ⟨d, e, z, hx, hy, hz, q⟩ := h
    exact op_inX (by omega) false rfl pins s σ H x y v u Q I rx ry ⟨d, e, z, hx, hy, hz, q⟩
  | NotIn =>
    intro pins s σ H x y v u Q I rx ry h
    obtain ⟨d, e, z, hx, hy, hz, q⟩ := h
    have hz0 : (inD d e).map (!·) = some z := hz
    clear hz
    obtain ⟨z', hz, rfl⟩ := Option.map_eq_some_iff.mp hz0
    clear hz0
    exact op_inX (by omega) true rfl pins s σ H x y v u Q I rx ry ⟨d, e, z', hx, hy, hz, q⟩
/-! ### truth -/
theorem truV_of {K : PySem.W.Frag} {H : Hp} {x : V} {d : D} {z : Bool} (h : Dn K H x d) (e : truD d = some z) (hd : ∀ kds, d ≠ .dict kds) : TruV K x H z := by
  cases h with
  | non => simp only [truD, Option.some.injEq] at e; exact e.symm
  | bl b => simp only [truD, Option.some.injEq] at e; exact e.symm
  | int i => simp only [truD, Option.some.injEq] at e; exact e.symm
  | str x =>
    simp only [truD] at e
    split at e
    · rename_i c; exact ⟨c, (Option.some.inj e).symm⟩
    · cases e
  | lst h1 h2 =>
    simp only [truD, Option.some.injEq] at e
    refine .inl ⟨_, h1.sq, ?_⟩
    rw [← e]; cases h2 <;> rfl
  | tup h1 h2 =>
    simp only [truD, Option.some.injEq] at e
    refine .inr (.inl ⟨_, h1, ?_⟩)
    rw [← e]; cases h2 <;> rfl
  | dct h1 h2 => exact absurd rfl (hd _)
theorem tru_okD : TruR X (fun x H Q => ∃ d z, Dn X.K H x d ∧ truD d = some z ∧ Q z H) := by
  intro pins s σ H x v Q I rx h
  obtain ⟨d, z, hx, hz, q⟩ := h
  by_cases hd : ∃ kds, d = .dict kds
  · obtain ⟨kds, rfl⟩ := hd
    cases hx with
    | @dct a kvs _ h1 h2 =>
      cases (show v = Value.ref _ from rx)
      simp only [truD, Option.some.injEq] at hz
      refine d_truth I h1 fun s' I' => ⟨H, I', ?_⟩
      have e : (!List.isEmpty kvs) = z := by rw [← hz]; cases h2 <;> rfl
      rw [e]; exact q
  · exact tru_ok pins s σ H x v Q I rx ⟨z, truV_of hx hz fun kds e => hd ⟨kds, e⟩, q⟩
theorem pt_truthD {a : Expr} {ta : TE} (ha : PE X a ta) (he : ∀ whole, isTrue a X.env whole = (do let v ← whole; standAt a.pos; holding [v] (truthy v))) :
    PT X a (fun σ H Q => ta σ H fun x H' => ∃ d z, Dn X.K H' x d ∧ truD d = some z ∧ Q z H') := by
  refine ⟨fun pins s σ H Q I h => ?_⟩
  exact isTrue_plain (thn (ha.run pins s σ H _ I h) fun v s1 ⟨x, H1, I1, r1, q1⟩ => tru_okD pins s1 σ H1 x v Q I1 r1 q1) (he _)
/-! ### subscripts -/
theorem atI_dn {K : PySem.W.Frag} {G : Hp} {vs : List V} {ds : List D} (h : DnAll K G vs ds) {i : Int} {d : D} (e : atI ds i = some d) : ∃ v, atI vs i = some v ∧ Dn K G v d := by
  unfold atI at e ⊢
  rw [h.length]
  cases hn : ixN ds.length i with
  | none => rw [hn] at e; cases e
  | some j =>
    rw [hn] at e
    obtain ⟨v, h1, h2⟩ := h.get (i := j) e
    exact ⟨v, h1, h2⟩
/-- an item, by values -/
def rIxD (K : PySem.W.Frag) : R2 := fun x y H Q => ∃ (G : Hp) (d e z : D), Same G H ∧ ElCl K G H x d ∧ Dn K H y e ∧ subD d e = some z ∧ ∀ v, Dn K G v z → Q v H
theorem ix_D (hu : X.A.units + 1 < cLine) : IxR X (rIxD X.K) := by
  intro value slice pins s σ H x y v u Q I rx ry h hs
  obtain ⟨G, d, e, z, sg, hx, hy, hz, q⟩ := h
  cases d with
  | list ds =>
    obtain ⟨a, vs, rfl, h1, h2⟩ := hx
    cases e with
    | int i =>
      cases hy
      obtain ⟨w, h3, h4⟩ := atI_dn h2 (show atI ds i = some z from hz)
      exact ix_seq value slice pins s σ H _ _ v u Q I rx ry (.inl ⟨a, vs, i, w, rfl, rfl, h1.sq, h3, q w h4⟩) hs
    | _ => simp [subD] at hz
  | tuple ds =>
    obtain ⟨a, vs, rfl, h1, h2⟩ := dn_tup (show Dn X.K G x (.tuple ds) from hx)
    cases e with
    | int i =>
      cases hy
      obtain ⟨w, h3, h4⟩ := atI_dn h2 (show atI ds i = some z from hz)
      exact ix_seq value slice pins s σ H _ _ v u Q I rx ry (.inr (.inl ⟨a, vs, i, w, rfl, rfl, Same.seqT sg h1, h3, q w h4⟩)) hs
    | _ => simp [subD] at hz
  | str t =>
    obtain rfl := dn_str (show Dn X.K G x _ from hx)
    cases e with
    | int i =>
      cases hy
      simp only [subD] at hz
      split at hz
      · rename_i c
        obtain ⟨w, h3, h4⟩ := Option.map_eq_some_iff.mp hz
        subst h4
        exact ix_seq value slice pins s σ H _ _ v u Q I rx ry (.inr (.inr ⟨t, i, w, rfl, rfl, c, h3, q _ (.str _)⟩)) hs
      · cases hz
    | _ => simp [subD] at hz
  | dict kds =>
    obtain ⟨a, kvs, rfl, h1, h2⟩ := hx
    simp only [subD] at hz
    split at hz
    · rename_i c
      cases (show v = Value.ref _ from rx)
      obtain ⟨k, ek, hk⟩ := key_dn hy c
      have ek' : k = keyOf e := by rcases hk with ⟨i, rfl, rfl⟩ | ⟨i, rfl, rfl⟩ <;> rfl
      subst ek ek'
      have hv := valV_dn c h2
      rw [hz] at hv
      obtain ⟨w, h3, h4⟩ := hv
      have g : DGet H a (kV (keyOf e)) (some w) := .inl ⟨_, _, h1, rfl, h3.symm⟩
      exact tail_any (dict_typeIs I g) PySem.F.slot_dict_getitem.lookup (d_getItem hu I g ry fun w' s' I' r' => ⟨w, H, I', r', q w h4⟩) hs
    · cases hz
  | _ => simp [subD] at hz
/-! ### slices -/
theorem DnAll.cut {K : PySem.W.Frag} {G : Hp} {vs : List V} {ds : List D} (h : DnAll K G vs ds) (lo hi : Option Int) : DnAll K G (cutV vs lo hi) (cutD ds lo hi) := by
  unfold cutV cutD
  rw [h.length]
  exact (h.drop _).take _
def rSlD (K : PySem.W.Frag) : V → Option Int → Option Int → Hp → VK → Prop := fun x lo hi H Q => ∃ (G : Hp) (d z : D), Same G H ∧ ElCl K G H x d ∧ sliD d lo hi = some z ∧ ∀ v H', Res K true G H z v H' → Q v H'
theorem sl_D : SlR X (rSlD X.K) := by
  intro pins s σ H x v vl vu lo hi sl Q I rx hs pl pu h
  obtain ⟨G, d, z, sg, hx, hz, q⟩ := h
  cases d with
  | list ds =>
    obtain ⟨a, vs, rfl, h1, h2⟩ := hx
    cases hz
    exact sl_list pins s σ H _ v vl vu lo hi sl Q I rx hs pl pu ⟨a, vs, rfl, h1.sq, fun p hp => q _ _ (.lst hp (h2.cut lo hi))⟩
  | tuple ds =>
    have hx : Dn X.K G x (.tuple ds) := hx
    obtain ⟨a, vs, rfl, h1, h2⟩ := dn_tup hx
    cases hz
    refine sl_tupA pins s σ H _ v vl vu lo hi sl Q I rx hs pl pu ⟨a, vs, rfl, Same.seqT sg h1, fun c => ?_, fun c p hp => q _ _ (.tup hp (h2.cut lo hi))⟩
    refine q _ _ (.same (fun _ => rfl) ?_)
    have e : cutD ds lo hi = ds := by
      unfold cutD
      rw [← h2.length, c.1, c.2]
      simp [h2.length]
    rw [e]; exact hx
  | str t =>
    obtain rfl := dn_str (show Dn X.K G x _ from hx)
    simp only [sliD] at hz
    split at hz
    · rename_i c
      cases hz
      exact sl_str pins s σ H _ v vl vu lo hi sl Q I rx hs pl pu ⟨t, rfl, c, q _ _ (.same (fun _ => rfl) (.str _))⟩
    · cases hz
  | _ => simp [sliD] at hz
end Mp

/-! MiniPy, part D3: reversed slices, built-ins, isinstance by values. -/
namespace HT
open PySem PySem.W PySem.Calls PyProof.Rows
section
variable {prog : Program} {w : World} {A : Around} {E : Value → Shared → Prop} {s : Shared}
theorem sliceApplied_rev {sl : Addr} {vl vu vs : Value} {n : Nat} {Q : Int × Int × Nat → Shared → Prop} (hs : s.heap.IsSliceOf sl vl vu vs) (pl : IsPart vl none) (pu : IsPart vu none) (pst : IsPart vs (some (-1)))
    (h : Q ((n : Int) - 1, -1, n) s) : wpAny (model prog w) A (Builtin.Slice.sliceApplied (.ref sl) (pure (n : Int))) Q E s := by
  obtain ⟨os, hos, hcs, hds⟩ := id hs
  unfold Builtin.Slice.sliceApplied Builtin.Slice.sliceFields
  refine wpAny_bind (wpAny_bind (wpAny_field hos hds (x := vl) rfl (wpAny_bind (wpAny_field hos hds (x := vu) rfl (wpAny_bind (wpAny_field hos hds (x := vs) rfl (wpAny_pure ?_)))))))
  refine wpAny_bind (slicePart_ pst ?_)
  show wpAny _ _ (if ((-1 : Int) == 0) = true then _ else _) _ _ s
  rw [if_neg (by decide)]
  refine wpAny_bind (slicePart_ pl (wpAny_bind (slicePart_ pu (wpAny_bind (wpAny_pure ?_)))))
  show wpAny _ _ (match Builtin.Slice.sliceAdjust none none (-1) (n : Int) with | (lo, hi) => pure (lo, (-1 : Int), Builtin.Slice.slicePlaces lo hi (-1))) _ _ s
  have e1 : Builtin.Slice.sliceAdjust none none (-1) (n : Int) = ((n : Int) - 1, -1) := by first | rfl | simp [Builtin.Slice.sliceAdjust]
  rw [e1]
  show wpAny _ _ (pure ((n : Int) - 1, (-1 : Int), Builtin.Slice.slicePlaces ((n : Int) - 1) (-1) (-1))) _ _ s
  have e2 : Builtin.Slice.slicePlaces ((n : Int) - 1) (-1) (-1) = n := by
    unfold Builtin.Slice.slicePlaces
    simp only [show ¬ ((-1 : Int) > 0) by omega, if_false, show (- -1 : Int) = 1 by decide, Int.ediv_one]
    split <;> omega
  rw [e2]
  exact wpAny_pure h
theorem pick_rev (xs : Array Value) : ((List.range xs.size).filterMap fun (m : Nat) => xs[((xs.size : Int) - 1 + (m : Int) * -1).toNat]?).toArray = xs.toList.reverse.toArray := by
  have h1 := PySem.W.krv_range xs.size
  have h2 := PySem.W.krv_all xs
  have e : (List.range xs.size).filterMap (fun (m : Nat) => xs[((xs.size : Int) - 1 + (m : Int) * -1).toNat]?) = ((List.range xs.size).map fun k => xs.size - 1 - k).filterMap (xs[·]?) := by
    rw [List.filterMap_map]
    have key : ∀ l : List Nat, (∀ m ∈ l, m < xs.size) → l.filterMap (fun (m : Nat) => xs[((xs.size : Int) - 1 + (m : Int) * -1).toNat]?) = l.filterMap ((xs[·]?) ∘ fun k => xs.size - 1 - k) := by
      intro l
      induction l with
      | nil => intro _; rfl
      | cons m l ih =>
        intro h
        have hm := h m (by simp)
        have e : ((xs.size : Int) - 1 + (m : Int) * -1).toNat = xs.size - 1 - m := by omega
        rw [List.filterMap_cons, List.filterMap_cons, ih fun k hk => h k (List.mem_cons_of_mem _ hk), e]
        rfl
    exact key _ fun m hm => List.mem_range.mp hm
  rw [e, h1, List.filterMap_reverse, h2]
theorem getItem_tuple_rev {t sl : Addr} {items : Array Value} {vl vu vs : Value} {Q : Value → Shared → Prop} (ht : IsTup s.heap t items) (hs : s.heap.IsSliceOf sl vl vu vs) (pl : IsPart vl none) (pu : IsPart vu none) (pst : IsPart vs (some (-1)))
    (h : Q (.ref s.heap.objs.size) { s with heap := s.heap.push { cls := .type "tuple", data := .seq items.toList.reverse.toArray } })
    (hsz : items.size ≤ sizeLine) : wpAny (model prog w) A (getItem (.ref t) (.ref sl)) Q E s := by
  have htake : sizeOk (.seq items.toList.reverse.toArray) := by
    show items.toList.reverse.toArray.size ≤ sizeLine
    rw [List.size_toArray, List.length_reverse, Array.length_toList]
    exact hsz
  obtain ⟨os, hos, hcs, hds⟩ := id hs
  have hTs : s.TypeIs (.ref sl) "slice" := ⟨os, hos, hcs⟩
  unfold getItem
  try with_reducible refine wpAny_holding ?_
  first | refine wpAny_bind (wpAny_pure ?_) | skip
  refine wpAny_bind (wpAny_sequenceKey ht.typeIs (by decide) ?_)
  refine wpAny_bind (wpAny_callSpecial?_slot (name := Str.ofString "__getitem__") ht.typeIs PyProof.Rows.slot_tuple_getitem
    (wpAny_call_entry PyProof.Rows.slot_tuple_getitem ht.typeIs entry_tuple_getitem ?_ (args_tuple_getitem _ _)))
  show wpAny _ _ (Builtin.Tuple.tupleItemsOf (.ref t) >>= _) _ _ s
  refine wpAny_bind (tupleItemsOf_ ht ?_)
  refine wpAny_bind (wpAny_typeOf hTs ?_)
  rw [if_pos (by decide)]
  refine wpAny_bind (sliceApplied_rev hs pl pu pst ?_)
  have hno : ¬ (((items.size : Int) - 1 == 0 && (-1 : Int) == 1 && items.size == items.size) = true) := by
    intro q
    rw [Bool.and_eq_true, Bool.and_eq_true] at q
    have q1 : (-1 : Int) = 1 := eq_of_beq q.1.2
    omega
  show wpAny _ _ (if ((items.size : Int) - 1 == 0 && (-1 : Int) == 1 && items.size == items.size) = true then _ else _) _ _ s
  rw [if_neg hno, pick_rev]
  first
    | exact wpAny_bind (m := Builtin.Tuple.tupleExact _) (wpAny_newObj_type (wpAny_pure ⟨_, rfl, wpAny_pure h⟩) htake)
    | exact wpAny_bind (m := Builtin.Tuple.tupleExact _) (wpAny_newObj_type (wpAny_bind (wpAny_pure (wpAny_pure ⟨_, rfl, wpAny_pure h⟩))) htake)
    | exact wpAny_bind (wpAny_bind (m := Builtin.Tuple.tupleExact _) (wpAny_newObj_type (wpAny_pure (wpAny_pure ⟨_, rfl, wpAny_pure h⟩)) htake))
    | exact wpAny_bind (wpAny_bind (m := Builtin.Tuple.tupleExact _) (wpAny_newObj_type (wpAny_pure ⟨_, rfl, wpAny_pure h⟩) htake))
end
end HT
namespace Mp
open PySem PySem.Spec PyProof.Rows L2
variable {X : Cx}
def tRevA (K : PySem.W.Frag) (te : TE) : TE := fun σ H Q => te σ H fun x H1 => ∃ a xs, x = .ref a ∧
  ((SqL K H1 a xs ∧ ∀ p, H1 p = none → Q (.ref p) (upd H1 p (.lst xs.reverse))) ∨ (SqT K H1 a xs ∧ ∀ p, H1 p = none → Q (.ref p) (upd H1 p (.tup xs.reverse))))
theorem pe_revA {e : Expr} {te : TE} {k : Nat} {p1 p2 p3 pos : Pos} (he : PE X e te) : PE X (.Subscript e (.Slice none none (some (.UnaryOp .USub (.Constant (.int 1) k p1) p2)) p3) pos) (tRevA X.K te) := by
  refine ⟨fun pins s σ H Q I h => ?_⟩
  refine Subscript_ (thn (he.run pins s σ H _ I h) fun v s1 ⟨x, H1, I1, r1, q1⟩ => ?_)
  obtain ⟨a, xs, ex, q⟩ := q1
  subst ex
  cases r1
  have hst : PO X (some (.UnaryOp .USub (.Constant (.int 1) k p1) p2)) (tPart (tUn (rU fun i => .int (-i)) (tC (.int 1)))) := po_some (pe_un un_neg pe_int)
  refine wpAny_Slice (thn (po_none.run pins s1 σ H1 (fun o H2 => o = none ∧ H2 = H1) I1 ⟨rfl, rfl⟩) fun vl s2 ⟨l, H2, I2, pl, el, e2⟩ => ?_)
  subst el e2
  refine thn (po_none.run pins s2 σ H2 (fun o H3 => o = none ∧ H3 = H2) I2 ⟨rfl, rfl⟩) fun vu s3 ⟨u, H3, I3, pu, eu, e3⟩ => ?_
  subst eu e3
  refine thn (hst.run pins s3 σ H3 (fun o H4 => o = some (-1) ∧ H4 = H3) I3 ⟨1, rfl, -1, rfl, rfl, rfl⟩) fun vs s4 ⟨o, H4, I4, ps, eo, e4⟩ => ?_
  subst eo e4
  have I5 : Inv X pins σ H4 { s4 with heap := s4.heap.push { cls := .type "slice", data := .fields #[vl, vu, vs] } } := I4.kept (t' := s4.toks) fun b ob q => Heap.get?_push_of_some _ q
  show wpAny (model X.prog X.w) X.A (subscriptTail e (.Slice none none (some (.UnaryOp .USub (.Constant (.int 1) k p1) p2)) p3) (.ref a) (.ref s4.heap.objs.size)) (EP X pins σ Q) X.xe { s4 with heap := s4.heap.push { cls := .type "slice", data := .fields #[vl, vu, vs] } }
  rcases q with ⟨hx, q⟩ | ⟨hx, q⟩
  · obtain ⟨its, r, ht, hz⟩ := I5.list hx
    have hlen := r.length
    refine tail_any (ops := [.ref a, .ref s4.heap.objs.size]) ht.isList.typeIs (PySem.slot_list_getitem.lookup) ?_ (by with_unfolding_all rfl)
    refine wpAny_getItem_list_slice ht.isList (Heap.IsSliceOf.new _ vl vu vs) pl pu ps (by decide) ?_ (by rw [List.size_toArray]; omega)
    rw [PySem.W.krv_pick]
    refine ⟨.ref _, _, I5.laid (t' := s4.toks) (o := .lst xs.reverse) (fun b ob q => Heap.get?_push_of_some _ q) (Nat.le_refl _) ?_, rfl, q _ (I5.hok.fresh (Nat.le_refl _))⟩
    exact ⟨by rw [List.length_reverse]; exact hz, _, 0, r.reverse, Heap.get?_push_size _ rfl⟩
  · obtain ⟨its, r, ht, hz⟩ := I5.tuple hx
    have hlen := r.length
    refine tail_any (ops := [.ref a, .ref s4.heap.objs.size]) ht.typeIs (PyProof.Rows.slot_tuple_getitem.lookup) ?_ (by with_unfolding_all rfl)
    refine HT.getItem_tuple_rev ht (Heap.IsSliceOf.new _ vl vu vs) pl pu ps ?_ (by rw [List.size_toArray]; omega)
    refine ⟨.ref _, _, I5.laid (t' := s4.toks) (o := .tup xs.reverse) (fun b ob q => Heap.get?_push_of_some _ q) (Nat.le_refl _) ?_, rfl, q _ (I5.hok.fresh (Nat.le_refl _))⟩
    exact ⟨by rw [List.length_reverse]; exact hz, _, r.reverse, ⟨_, Heap.get?_push_size _ rfl, rfl, 0, rfl⟩⟩
/-! ### built-ins -/
/-- a call of a built-in, by data: f where a list is always new -/
def rBi (K : PySem.W.Frag) (f : Bi) : List V → Hp → VK → Prop := fun vs H Q => ∃ (G : Hp) (ds : List D) (z : D), Same G H ∧ vs.length = ds.length ∧ (∀ (i : Nat) (v : V) (d : D), vs[i]? = some v → ds[i]? = some d → ElCl K G H v d) ∧ biD f ds = some z ∧ ∀ v H', Res K (f == .list) G H z v H' → Q v H'
theorem one_of {K : PySem.W.Frag} {G H : Hp} {vs : List V} {d : D} (hl : vs.length = [d].length) (h : ∀ (i : Nat) (v : V) (e : D), vs[i]? = some v → [d][i]? = some e → ElCl K G H v e) : ∃ v, vs = [v] ∧ ElCl K G H v d := by
  match vs, hl with
  | [v], _ => exact ⟨v, rfl, h 0 v d rfl rfl⟩
theorem two_of {K : PySem.W.Frag} {G H : Hp} {vs : List V} {d d' : D} (hl : vs.length = [d, d'].length) (h : ∀ (i : Nat) (v : V) (e : D), vs[i]? = some v → [d, d'][i]? = some e → ElCl K G H v e) : ∃ v v', vs = [v, v'] ∧ ElCl K G H v d ∧ ElCl K G H v' d' := by
  match vs, hl with
  | [v, v'], _ => exact ⟨v, v', rfl, h 0 v d rfl rfl, h 1 v' d' rfl rfl⟩
theorem intsOf_eq : ∀ {ds : List D} {is : List Int}, intsOf ds = some is → ds = is.map PyData.int
  | [], _, h => by cases h; rfl
  | d :: ds, is, h => by
    cases d with
    | int i =>
      obtain ⟨js, h1, h2⟩ := Option.map_eq_some_iff.mp (show (intsOf ds).map (i :: ·) = some is from h)
      subst h2
      rw [intsOf_eq h1]; rfl
    | _ => simp [intsOf] at h
theorem boolsOf_eq : ∀ {ds : List D} {is : List Bool}, boolsOf ds = some is → ds = is.map PyData.bool
  | [], _, h => by cases h; rfl
  | d :: ds, is, h => by
    cases d with
    | bool i =>
      obtain ⟨js, h1, h2⟩ := Option.map_eq_some_iff.mp (show (boolsOf ds).map (i :: ·) = some is from h)
      subst h2
      rw [boolsOf_eq h1]; rfl
    | _ => simp [boolsOf] at h
theorem DnAll.bls {K : PySem.W.Frag} {H : Hp} {vs : List V} : ∀ {ns : List Bool}, DnAll K H vs (ns.map PyData.bool) → vs = ns.map V.bl := by
  induction vs with
  | nil => intro ns h; cases ns with | nil => rfl | cons _ _ => cases h
  | cons v vs ih =>
    intro ns h
    cases ns with
    | nil => cases h
    | cons n ns => cases h with | cons h1 h2 => cases h1; rw [ih h2]; rfl
theorem DnKV.length {K : PySem.W.Frag} {H : Hp} : ∀ {kvs : List (Key × V)} {kds : List (D × D)}, DnKV K H kvs kds → kvs.length = kds.length
  | _, _, .nil => rfl
  | _, _, .int _ h => by simp [DnKV.length h]
  | _, _, .str _ h => by simp [DnKV.length h]
theorem foldl_max_mem : ∀ (is : List Int) (i m : Int), m ∈ i :: is → (∀ y, y ∈ i :: is → y ≤ m) → is.foldl max i = m
  | [], i, m, hm, _ => (List.mem_singleton.mp hm).symm
  | j :: js, i, m, hm, h => by
    show js.foldl max (max i j) = m
    refine foldl_max_mem js (max i j) m ?_ fun y hy => ?_
    · have hi := h i (by simp)
      have hj := h j (by simp)
      rcases List.mem_cons.mp hm with rfl | hm
      · simp [Int.max_eq_left hj]
      · rcases List.mem_cons.mp hm with rfl | hm
        · simp [Int.max_eq_right hi]
        · exact List.mem_cons_of_mem _ hm
    · rcases List.mem_cons.mp hy with rfl | hy
      · exact Int.max_le.mpr ⟨h i (by simp), h j (by simp)⟩
      · exact h y (by simp [hy])
theorem foldl_min_mem : ∀ (is : List Int) (i m : Int), m ∈ i :: is → (∀ y, y ∈ i :: is → m ≤ y) → is.foldl min i = m
  | [], i, m, hm, _ => (List.mem_singleton.mp hm).symm
  | j :: js, i, m, hm, h => by
    show js.foldl min (min i j) = m
    refine foldl_min_mem js (min i j) m ?_ fun y hy => ?_
    · have hi := h i (by simp)
      have hj := h j (by simp)
      rcases List.mem_cons.mp hm with rfl | hm
      · simp [Int.min_eq_left hj]
      · rcases List.mem_cons.mp hm with rfl | hm
        · simp [Int.min_eq_right hi]
        · exact List.mem_cons_of_mem _ hm
    · rcases List.mem_cons.mp hy with rfl | hy
      · exact Int.le_min.mpr ⟨h i (by simp), h j (by simp)⟩
      · exact h y (by simp [hy])
def Bi.val : Bi → Value
  | .len => .builtin "len"
  | .int => .type "int"
  | .abs => .builtin "abs"
  | .max => .builtin "max"
  | .min => .builtin "min"
  | .tuple => .type "tuple"
  | .list => .type "list"
  | .sum => .builtin "sum"
  | .any => .builtin "any"
  | .all => .builtin "all"
  | .str => .type "str"
  | .bool => .type "bool"
  | .sorted => .builtin "sorted"
  | .bitlen => .none
theorem scal_res {K : PySem.W.Frag} {G H : Hp} {f : Bool} {Q : VK} {z : D} {v : V} (q : ∀ v H', Res K f G H z v H' → Q v H') (hc : isC z = false) (h : Dn K G v z) : Q v H := q v H (.same (fun _ => hc) h)
theorem call_bi (hc : X.calm = true) {f : Bi} (hf : f ≠ .bitlen) : CallR X f.val (rBi X.K f) := by
  intro pins s σ H xs us Q I r h
  obtain ⟨G, ds, z, sg, hl, hv, hz, q⟩ := h
  unfold biD at hz
  split at hz
  · split at hz
    · rename_i c; cases hz
      obtain ⟨v, rfl, e⟩ := one_of hl hv
      obtain rfl := dn_str (show Dn X.K G v _ from e)
      exact call_len pins s σ H _ us Q I r ⟨_, _, rfl, ⟨c, rfl⟩, scal_res q rfl (.int _)⟩
    · cases hz
  · cases hz
    obtain ⟨v, rfl, a, vs, rfl, h1, h2⟩ := one_of hl hv
    exact call_len pins s σ H _ us Q I r ⟨_, _, rfl, .inl ⟨vs, h1.sq, h2.length.symm⟩, scal_res q rfl (.int _)⟩
  · cases hz
    obtain ⟨v, rfl, e⟩ := one_of hl hv
    obtain ⟨a, vs, rfl, h1, h2⟩ := dn_tup (show Dn X.K G v _ from e)
    exact call_len pins s σ H _ us Q I r ⟨_, _, rfl, .inr ⟨vs, Same.seqT sg h1, h2.length.symm⟩, scal_res q rfl (.int _)⟩
  · cases hz
    obtain ⟨v, rfl, a, vs, rfl, h1, h2⟩ := one_of hl hv
    obtain ⟨u, rfl, ru⟩ := vals1 r
    cases ru
    refine d_len I h1 fun t s' I' => ⟨.int vs.length, H, I', ⟨t, rfl⟩, ?_⟩
    rw [h2.length]
    exact scal_res q rfl (.int _)
  · cases hz
    obtain ⟨v, rfl, e⟩ := one_of hl hv
    obtain rfl := dn_int (show Dn X.K G v _ from e)
    exact call_int1 pins s σ H _ us Q I r (.inl ⟨_, rfl, scal_res q rfl (.int _)⟩)
  · cases hz
    obtain ⟨v, rfl, e⟩ := one_of hl hv
    obtain rfl := dn_bool (show Dn X.K G v _ from e)
    exact call_int1 pins s σ H _ us Q I r (.inr ⟨_, rfl, scal_res q rfl (.int _)⟩)
  · cases hz
    obtain ⟨v, rfl, e⟩ := one_of hl hv
    obtain rfl := dn_int (show Dn X.K G v _ from e)
    exact call_abs pins s σ H _ us Q I r ⟨_, rfl, scal_res q rfl (.int _)⟩
  · cases hz
    obtain ⟨v, w, rfl, e, e'⟩ := two_of hl hv
    obtain rfl := dn_int (show Dn X.K G v _ from e)
    obtain rfl := dn_int (show Dn X.K G w _ from e')
    exact call_max2 hc pins s σ H _ us Q I r ⟨_, _, rfl, scal_res q rfl (.int _)⟩
  · cases hz
    obtain ⟨v, w, rfl, e, e'⟩ := two_of hl hv
    obtain rfl := dn_int (show Dn X.K G v _ from e)
    obtain rfl := dn_int (show Dn X.K G w _ from e')
    exact call_min2 hc pins s σ H _ us Q I r ⟨_, _, rfl, scal_res q rfl (.int _)⟩
  · obtain ⟨is, h1, h2⟩ := Option.bind_eq_some_iff.mp hz
    obtain ⟨m, h3, rfl⟩ := Option.map_eq_some_iff.mp h2
    obtain rfl := intsOf_eq h1
    obtain ⟨v, rfl, a, vs, rfl, h4, h5⟩ := one_of hl hv
    obtain rfl := h5.ints
    cases is with
    | nil => cases h3
    | cons i is =>
      cases h3
      refine cr_max hc pins s σ H _ us Q I r ⟨a, i :: is, rfl, h4.sq, by simp, fun m hm hle => ?_⟩
      have := scal_res q rfl (.int _)
      rw [foldl_max_mem is i m hm hle] at this
      exact this
  · obtain ⟨is, h1, h2⟩ := Option.bind_eq_some_iff.mp hz
    obtain ⟨m, h3, rfl⟩ := Option.map_eq_some_iff.mp h2
    obtain rfl := intsOf_eq h1
    obtain ⟨v, rfl, a, vs, rfl, h4, h5⟩ := one_of hl hv
    obtain rfl := h5.ints
    cases is with
    | nil => cases h3
    | cons i is =>
      cases h3
      refine cr_min hc pins s σ H _ us Q I r ⟨a, i :: is, rfl, h4.sq, by simp, fun m hm hle => ?_⟩
      have := scal_res q rfl (.int _)
      rw [foldl_min_mem is i m hm hle] at this
      exact this
  · cases hz
    obtain ⟨v, rfl, a, vs, rfl, h1, h2⟩ := one_of hl hv
    exact call_tuple_of pins s σ H _ us Q I r ⟨a, vs, rfl, .inl ⟨h1.sq, fun l hl => q _ _ (.tup hl h2)⟩⟩
  · cases hz
    obtain ⟨v, rfl, e⟩ := one_of hl hv
    have e : Dn X.K G v (.tuple _) := e
    obtain ⟨a, vs, rfl, h1, h2⟩ := dn_tup e
    exact call_tuple_of pins s σ H _ us Q I r ⟨a, vs, rfl, .inr ⟨Same.seqT sg h1, scal_res q rfl e⟩⟩
  · cases hz
    obtain ⟨v, rfl, a, vs, rfl, h1, h2⟩ := one_of hl hv
    exact call_list_of pins s σ H _ us Q I r ⟨a, vs, rfl, .inl h1.sq, fun l hl => q _ _ (.lst hl h2)⟩
  · cases hz
    obtain ⟨v, rfl, e⟩ := one_of hl hv
    obtain ⟨a, vs, rfl, h1, h2⟩ := dn_tup (show Dn X.K G v (.tuple _) from e)
    exact call_list_of pins s σ H _ us Q I r ⟨a, vs, rfl, .inr (Same.seqT sg h1), fun l hl => q _ _ (.lst hl h2)⟩
  · obtain ⟨is, h1, rfl⟩ := Option.map_eq_some_iff.mp hz
    obtain rfl := intsOf_eq h1
    obtain ⟨v, rfl, a, vs, rfl, h4, h5⟩ := one_of hl hv
    obtain rfl := h5.ints
    exact cr_sum hc pins s σ H _ us Q I r ⟨a, is, rfl, h4.sq, scal_res q rfl (.int _)⟩
  · obtain ⟨is, h1, rfl⟩ := Option.map_eq_some_iff.mp hz
    obtain rfl := boolsOf_eq h1
    obtain ⟨v, rfl, a, vs, rfl, h4, h5⟩ := one_of hl hv
    obtain rfl := h5.bls
    exact cr_any hc pins s σ H _ us Q I r ⟨a, is, rfl, h4.sq, scal_res q rfl (.bl _)⟩
  · obtain ⟨is, h1, rfl⟩ := Option.map_eq_some_iff.mp hz
    obtain rfl := boolsOf_eq h1
    obtain ⟨v, rfl, a, vs, rfl, h4, h5⟩ := one_of hl hv
    obtain rfl := h5.bls
    exact cr_all hc pins s σ H _ us Q I r ⟨a, is, rfl, h4.sq, scal_res q rfl (.bl _)⟩
  · split at hz
    · rename_i c; cases hz
      obtain ⟨v, rfl, e⟩ := one_of hl hv
      obtain rfl := dn_int (show Dn X.K G v _ from e)
      exact call_str_int pins s σ H _ us Q I r ⟨_, rfl, c, scal_res q rfl (.str _)⟩
    · cases hz
  · exact absurd rfl hf
  · cases hz
/-! ### isinstance -/
theorem tyX_dn {K : PySem.W.Frag} {H : Hp} {v : V} {d : D} (h : Dn K H v d) : TyX K H v (.type (tyOf d)) := by
  cases h with
  | non => exact .base .non
  | bl b => exact .base (.bl b)
  | int i => exact .base (.int i)
  | str x => exact .base (.str x)
  | lst h1 _ =>
    rcases h1 with (h1 | ⟨o, h1⟩) | ⟨its, n, h1, _, _⟩
    · exact .base (.lst h1)
    · exact .base (.frz h1)
    · exact .kList h1 rfl
  | tup h1 _ =>
    rcases h1 with (h1 | ⟨o, h1⟩) | ⟨o, its, n, h1, h2, _⟩
    · exact .base (.tup h1)
    · exact .fTuple h1
    · exact .kTuple h1 h2
  | dct h1 _ =>
    rcases h1 with h1 | ⟨o, h1⟩
    · exact .base (.dK h1)
    · exact .fDict h1
theorem isT_kit {K : PySem.W.Frag} {d : D} {n : String} {b : Bool} (h : isT d n = some b) : PySem.W.kitOne K (.type (tyOf d)) (.type n) = some b := by
  refine kit_ty ?_
  unfold isT at h
  split at h
  · rename_i c
    cases h
    cases d <;> simp only [tyOf] <;> rcases c with rfl | rfl | rfl | rfl | rfl | rfl <;> decide +kernel
  · cases h
def rIsiD (K : PySem.W.Frag) (n : String) : List V → Hp → VK → Prop := fun vs H Q => ∃ v d b, vs = [v, .ty n] ∧ Dn K H v d ∧ isT d n = some b ∧ Q (.bl b) H
theorem call_isiD {n : String} : CallR X (.builtin "isinstance") (rIsiD X.K n) := by
  intro pins s σ H xs us Q I r h
  obtain ⟨v, d, b, rfl, hd, hb, q⟩ := h
  exact call_isi pins s σ H _ us Q I r ⟨v, .ty n, _, _, b, rfl, .ty n, tyX_dn hd, isT_kit hb, q⟩
end Mp

/-! MiniPy, part E: from the text to the core syntax; what the readings are. -/
namespace Mp
open PySem PySem.Spec PyProof.Rows L2

/-! ### from the text to the core -/
/-- a text's names: a def's slots, the text's own defs, its constants, the built-ins -/
structure Cfg where
  N : List Str
  fns : List (Str × Nat)
  gls : List (Str × Nat)
  bis : List Str
  io : Nat → List Nat
  gds : List (Str × Nat)
  xcs : List (Str × (Nat × Str))
  fr : Nat → Bool
  cls : Option (Str × List Str)
  mts : List (Str × Nat)
  mkc : Option (Str × Str × Str)
def ixOf (x : Str) : List Str → Option Nat
  | [] => none
  | y :: r => if y = x then some 0 else (ixOf x r).map (· + 1)
theorem ixOf_get {x : Str} : ∀ {l : List Str} {i : Nat}, ixOf x l = some i → l[i]? = some x
  | [], _, h => by cases h
  | y :: r, i, h => by
    unfold ixOf at h
    by_cases e : y = x
    · rw [if_pos e] at h; cases h; rw [e]; rfl
    · rw [if_neg e] at h
      obtain ⟨j, h1, rfl⟩ := Option.map_eq_some_iff.mp h
      simpa using ixOf_get h1
/-- a name's number -/
def noOf (x : Str) : List (Str × Nat) → Option Nat
  | [] => none
  | y :: r => if y.1 = x then some y.2 else noOf x r
def xcOf (x : Str) : List (Str × (Nat × Str)) → Option (Nat × Str)
  | [] => none
  | y :: r => if y.1 = x then some y.2 else xcOf x r
theorem noOf_get {x : Str} {i : Nat} : ∀ {l : List (Str × Nat)}, noOf x l = some i → (x, i) ∈ l
  | [], h => by cases h
  | y :: r, h => by
    unfold noOf at h
    by_cases e : y.1 = x
    · rw [if_pos e] at h; cases h; rw [← e]; simp
    · rw [if_neg e] at h; exact List.mem_cons_of_mem _ (noOf_get h)
def okName (x : Str) : Bool := !(x == ("__debug__" : Str)) && !(x == ("__classdict__" : Str)) && !(x == ("__name__" : Str))
def isVis (sc : Scope) (x : Str) : Bool := match sc.names.lookup x with
  | some .local => true
  | some .cell => true
  | some .free => true
  | _ => false
def isGl (sc : Scope) (x : Str) : Bool := match sc.names.lookup x with
  | some .globalImplicit => true
  | _ => false
/-- a name that may be stored: one of the def's (the block's) own -/
def isOwn (sc : Scope) (x : Str) : Bool := match sc.names.lookup x with
  | some .local => true
  | some .cell => true
  | _ => false
def toEs : List E → Es
  | [] => .nil
  | e :: es => .cons e (toEs es)
def biOf1 (x : Str) : Option Bi :=
  if x = "len" then some .len else if x = "int" then some .int else if x = "abs" then some .abs else if x = "max" then some .max else if x = "min" then some .min else
  if x = "tuple" then some .tuple else if x = "list" then some .list else if x = "sum" then some .sum else if x = "any" then some .any else if x = "all" then some .all else if x = "str" then some .str else none
def biOf2 (x : Str) : Option Bi :=
  if x = "max" then some .max else if x = "min" then some .min else none
def tyName (x : Str) : Option String :=
  if x = "int" then some "int" else if x = "bool" then some "bool" else if x = "str" then some "str" else if x = "tuple" then some "tuple" else if x = "list" then some "list" else if x = "dict" then some "dict" else none
def plainIx : Expr → Bool
  | .Slice .. => false
  | _ => true
def noSuper : Expr → Bool
  | .Call (.Name _ _) [] [] _ => false
  | _ => true
def namesIx (N : List Str) (sc : Scope) : List Expr → Option (List Nat)
  | [] => some []
  | .Name x _ :: es => if isOwn sc x then match ixOf x N with
      | some i => (namesIx N sc es).map (i :: ·)
      | none => none
    else none
  | _ => none
def cT (N : List Str) (sc : Scope) : Expr → Option T
  | .Name x _ => if isOwn sc x then (ixOf x N).map .n else none
  | .Tuple es _ _ => (namesIx N sc es).map .tup
  | _ => none
def ownOf (N : List Str) (scope : Scope) : List (Str × Nat) := scope.names.filterMap fun y => match y.2 with
  | .local => (ixOf y.1 N).map fun i => (y.1, i)
  | .cell => (ixOf y.1 N).map fun i => (y.1, i)
  | _ => none
def isTup : Expr → Bool
  | .Tuple .. => true
  | _ => false
def isStar : Expr → Bool
  | .Starred .. => true
  | _ => false
/-- what is walked from its end -/
def mkRev (c : Cfg) (sc : Scope) (f : Expr → E) (a : Expr) : I :=
  match a with
  | .Call (.Name y _) [b] [] _ => if y = "range" ∧ isGl sc y = true ∧ (noOf y c.fns).isNone = true ∧ isStar b = false then (if c.bis.contains "range" then .rr1 (f b) else .it .bad) else .rev (f a)
  | .Call (.Name y _) [b, d] [] _ => if y = "range" ∧ isGl sc y = true ∧ (noOf y c.fns).isNone = true ∧ isStar b = false ∧ isStar d = false then (if c.bis.contains "range" then .rr2 (f b) (f d) else .it .bad) else .rev (f a)
  | _ => .rev (f a)
/-- what is walked; f translates expressions -/
def mkI (c : Cfg) (sc : Scope) (f : Expr → E) (tg iter : Expr) : I :=
  match iter with
  | .Call (.Name x _) [a] [] _ =>
    if isGl sc x && (noOf x c.fns).isNone && !isStar a then
      if x = "range" then (if c.bis.contains "range" then .r1 (f a) else .it .bad)
      else if x = "reversed" then (if c.bis.contains "reversed" then mkRev c sc f a else .it .bad)
      else if x = "enumerate" then (if c.bis.contains "enumerate" && isTup tg then .enum (f a) else .it .bad)
      else .it (f iter)
    else .it (f iter)
  | .Call (.Name x _) [a, b] [] _ =>
    if isGl sc x && (noOf x c.fns).isNone && !isStar a && !isStar b then
      if x = "range" then (if c.bis.contains "range" then .r2 (f a) (f b) else .it .bad)
      else if x = "zip" then (if c.bis.contains "zip" && isTup tg then .zip (f a) (f b) else .it .bad)
      else .it (f iter)
    else .it (f iter)
  | _ => .it (f iter)
def isSet : Expr → Bool
  | .Set .. => true
  | _ => false
/-- a built-in's call -/
def mkB (c : Cfg) (sc : Scope) (f : Expr → E) (x : Str) (args : List Expr) : E :=
  if c.bis.contains x then match args with
    | [a] => match a with
      | .Call (.Name y _) [b] [] _ => if x = "tuple" ∧ y = "reversed" ∧ isGl sc y ∧ c.bis.contains y ∧ isStar b = false then .trev (f b) else match biOf1 x with
        | some k => .bi k (.cons (f a) .nil)
        | none => .bad
      | _ => match biOf1 x with
        | some k => .bi k (.cons (f a) .nil)
        | none => .bad
    | [a, b] => if x = "isinstance" then match b with
        | .Name t _ => if isGl sc t && c.bis.contains t && okName t then match tyName t with
            | some n => .isi (f a) [.b n]
            | none => .bad
          else .bad
        | _ => .bad
      else match biOf2 x with
        | some k => .bi k (.cons (f a) (.cons (f b) .nil))
        | none => .bad
    | _ => .bad
  else .bad
def tIn (t : T) (own : List Nat) : Bool := match t with
  | .n i => own.contains i
  | .tup is => is.all own.contains
/-- a dict of the module -/
def gdName (c : Cfg) (sc : Scope) : Expr → Option Nat
  | .Name x _ => if okName x && isGl sc x then noOf x c.gds else none
  | _ => none
/-- a written value -/
def kOf : Expr → Option D
  | .Constant (.int i) _ _ => some (.int i)
  | .Constant (.bool b) _ _ => some (.bool b)
  | .Constant .none _ _ => some .none
  | .Constant (.str s) _ _ => some (.str s)
  | _ => none
def strOf : Option Expr → Option Str
  | some (.Constant (.str s) _ _) => some s
  | _ => none
/-- a display of written texts and values -/
def kdsOf : List (Option Expr) → List Expr → Option (List (Str × D))
  | [], [] => some []
  | k :: ks, v :: vs => match strOf k, kOf v, kdsOf ks vs with
    | some x, some d, some r => if r.any (fun p => p.1 == x) then none else some ((x, d) :: r)
    | _, _, _ => none
  | _, _ => none
def cE (c : Cfg) : Nat → Scope → Expr → E
  | 0, _, _ => .bad
  | n + 1, sc, e => match e with
    | .Name x _ => if okName x then
        if isVis sc x then match ixOf x c.N with
          | some i => .v i
          | none => .bad
        else if isGl sc x then match noOf x c.gls with
          | some i => .g i
          | none => .bad
        else .bad
      else .bad
    | .Constant (.int i) _ _ => .k (.int i)
    | .Constant (.bool b) _ _ => .k (.bool b)
    | .Constant .none _ _ => .k .none
    | .Constant (.str s) _ _ => .k (.str s)
    | .BinOp a op b _ => .bin op (cE c n sc a) (cE c n sc b)
    | .UnaryOp .Not a _ => .not (cE c n sc a)
    | .UnaryOp .USub a _ => .neg (cE c n sc a)
    | .BoolOp .And (a :: b :: r) p => match r with
      | [] => .and (cE c n sc a) (cE c n sc b)
      | _ => .and (cE c n sc a) (cE c n sc (.BoolOp .And (b :: r) p))
    | .BoolOp .Or (a :: b :: r) p => match r with
      | [] => .or (cE c n sc a) (cE c n sc b)
      | _ => .or (cE c n sc a) (cE c n sc (.BoolOp .Or (b :: r) p))
    | .Compare a [op] [b] _ => if isSet b then .bad else match gdName c sc b with
      | some i => if op = .In then .gin false i (cE c n sc a) else if op = .NotIn then .gin true i (cE c n sc a) else .bad
      | none => .cmp op (cE c n sc a) (cE c n sc b)
    | .Compare a [op, op'] [b, b'] _ => if op = .In ∨ op = .NotIn ∨ op' = .In ∨ op' = .NotIn then .bad else .chain op op' (cE c n sc a) (cE c n sc b) (cE c n sc b')
    | .IfExp t a b _ => .ite (cE c n sc t) (cE c n sc a) (cE c n sc b)
    | .Tuple es _ _ => if es.any isStar then .bad else .tup (toEs (es.map (cE c n sc)))
    | .List es _ => if es.any isStar then .bad else .lst (toEs (es.map (cE c n sc)))
    | .Dict [] [] _ => .dct0
    | .Dict ks vs _ => if ks.length ≤ 15 then match kdsOf ks vs with
      | some kds => .dctK kds
      | none => .bad
      else .bad
    | .Subscript a (.Slice lo hi none _) _ => .sli (cE c n sc a) (match lo with | some e => .yes (cE c n sc e) | none => .no) (match hi with | some e => .yes (cE c n sc e) | none => .no)
    | .Subscript a (.Slice none none (some (.UnaryOp .USub (.Constant (.int 1) _ _) _)) _) _ => .rev (cE c n sc a)
    | .Subscript a i _ => if plainIx i then match gdName c sc a with
      | some k => .gix k (cE c n sc i)
      | none => .sub (cE c n sc a) (cE c n sc i)
      else .bad
    | .Call (.Name x _) args [] _ => if okName x && isGl sc x && !(args.any isStar) then match noOf x c.fns with
        | some k => .call k (toEs (args.map (cE c n sc)))
        | none => mkB c sc (cE c n sc) x args
      else .bad
    | .Call (.Attribute o m apos) [] [] pos => if m = "bit_length" && (apos.endLine == pos.line) && noSuper o then .bi .bitlen (.cons (cE c n sc o) .nil) else .bad
    | .Attribute (.Name l _) f _ => match c.cls with
      | some (x, fl) => if okName l && isVis sc l && fl.contains f then match ixOf l c.N with
          | some j => .fld x j f
          | none => .bad
        else .bad
      | none => .bad
    | .ListComp elt [⟨tg, iter, ifs, 0⟩] scope _ =>
      if blkC c.N sc scope (ownOf c.N scope) && !isSet iter then match cT c.N scope tg with
        | some t => if tIn t ((ownOf c.N scope).map (·.2)) then match ifs with
            | [] => .comp (cE c n (relS scope sc) elt) t (mkI c sc (cE c n sc) tg iter) .no ((ownOf c.N scope).map (·.2))
            | [q] => .comp (cE c n (relS scope sc) elt) t (mkI c sc (cE c n sc) tg iter) (.yes (cE c n (relS scope sc) q)) ((ownOf c.N scope).map (·.2))
            | _ => .bad
          else .bad
        | none => .bad
      else .bad
    | _ => .bad
end Mp

/-! MiniPy, part X: exceptions of the text's own classes, whose __init__ says super().__init__('..'); slf.f = p. -/
namespace Mp
open PySem PySem.Spec PyProof.Rows L2

/-! ### ValueError.__init__ bound to an exception, called -/
section
variable {prog : Program} {w : World} {A : Around} {E : Value → Shared → Prop} {h : Heap} {g : Array GenState} {d : Drawn} {t : Nat} {os : OsState}
variable {nm q : Str} {C N : Addr} {bs bm : List Value} {hdct : Bool} {sn : List Str} {sub : List Value} {ab : Bool} {col : Option Bool} {dd : Option Addr} {k0 k1 k2 k3 k5 : Option Value}
theorem call_mw {u e t0 : Addr} {rest : List Value} {Q : Value → Shared → Prop}
    (hC : h.get? C = some (excClassObj nm q C N bs bm hdct sn sub ab col dd k0 k1 k2 k3 k5 "ValueError.__new__")) (he : h.get? e = some (HandSPX.excO C t0)) (hu : h.get? u = some (W.kxs_mw "ValueError.__init__" e)) (hrest : rest.length ≤ sizeLine)
    (hq : ∀ h' t1, (∀ b o, b ≠ e → h.get? b = some o → h'.get? b = some o) → h'.get? e = some (HandSPX.excO C t1) → Q .none ⟨h', g, d, t, os⟩) :
    wpAny (model prog w) A (call (.ref u) rest) Q E ⟨h, g, d, t, os⟩ := by
  refine wpAny_call (codeAny_of_tree ?_)
  show wpAny _ A.in1 (callAny (.ref u) ⟨rest, []⟩) _ _ _
  simp only [callAny]
  refine wpAny_bind (wpAny_load hu ?_)
  simp only [W.kxs_mw, show (Value.type "method-wrapper" == Value.type "method" || Value.type "method-wrapper" == Value.type "builtin_function_or_method" || Value.type "method-wrapper" == Value.type "method-wrapper") = true by decide, if_true]
  refine W.KFB.if_so (by decide) ?_
  refine wpAny_bind (W.check_bound_init F.excBase_ValueError.toExcCallFacts hC he rfl ?_)
  refine wpAny_bind (wpAny_pure (wpAny_pure ?_))
  refine ⟨Code.quiet_builtin _ (by decide +kernel), codeAny_builtin F.excBase_ValueError.initEntry ?_⟩
  rw [Around.under_plainId F.excBase_ValueError.init.plain _]
  wp_walk
  refine hq _ h.objs.size (fun b o hb ho => ?_) ?_
  · rw [Heap.get?_update_other _ _ (Ne.symm hb)]
    exact Heap.get?_push_of_some _ ho
  · rw [Heap.get?_update_self _ (Heap.get?_push_of_some _ he) rfl]
    rfl
end

/-- what the written part says of an own exception class whose __init__ says super().__init__('..'); slf.f = p -/
structure SupC (prog : Program) (K : PySem.W.Frag) (C fI : Addr) (f slf part : Str) (fd : FuncData) : Prop where
  T : OexC K C
  no : PySem.W.findIn K (.ref C) f = some none
  opq : PySem.W.nsIn K cStatics "thirdparty.any" = some none
  mro : PySem.W.mroIn K C (.ref C) = some true
  ve : PySem.W.subIn K (.ref C) (.type "ValueError") = some true
  sin : PySem.W.ks_superIn K C C "__init__" = some (some (.builtin "ValueError.__init__"))
  top : (prog.main.scope.names.lookup ("super" : Str)).isSome = false
  ex : ∃ (oc : Value) (od : Option Addr) (osl : Array (Option Value)) (qual : Str) (params : Arguments) (scope : Scope) (dV kV doc pm : Value) (an : Option Addr) (cda : Addr) (ct : Value) (cc : Addr)
      (vs : Array Value) (file : Str) (tf : Tok) (ccl : Value) (cdd : Option Addr) (ccs : Array (Option Value)) (cl : Value) (cld : Option Addr) (csl : Array (Option Value)) (msg : Str) (k : Nat) (p0 p1 p2 p3 p4 p5 p6 p7 p8 p9 : Pos) (ar : Arg),
    fd = PySem.W.ksFn "__init__" qual params [.Expr (.Call (.Attribute (.Call (.Name "super" p0) [] [] p1) "__init__" p2) [.Constant (.str msg) k p3] [] p4) p5, .Assign [.Attribute (.Name slf p6) f p7] (.Name part p8) p9] scope dV kV doc pm an (.ref cda) ct cc ∧
    K.lookup fI = some ⟨oc, od, .func fd, osl⟩ ∧ PySem.W.codeIn K (.ref cda) qual = true ∧ K.lookup cda = some ⟨ccl, cdd, .fields vs, ccs⟩ ∧ vs[2]? = some (.str file tf) ∧ ((prog.main.file : Str) == file) = true ∧
    K.lookup cc = some ⟨cl, cld, .cell (some (.ref C)), csl⟩ ∧ (params.posonlyargs ++ params.args).head? = some ar ∧ ar.arg = slf ∧
    scope.names.lookup ("super" : Str) = some .globalImplicit ∧ scope.names.lookup ("__class__" : Str) = some .free ∧ scope.names.lookup slf = some .local ∧ scope.names.lookup part = some .local ∧
    (∀ x ∈ scope.names, x.2 ≠ .cell) ∧ scope.isCoroutine = false ∧ scope.isGenerator = false ∧ scope.kind = .function ∧ slf ≠ part ∧ (slf == ("__debug__" : Str)) = false ∧ (part == ("__debug__" : Str)) = false ∧
    ∃ pl : Sem Bool, ∀ env : Env, eval (.Call (.Attribute (.Call (.Name "super" p0) [] [] p1) "__init__" p2) [.Constant (.str msg) k p3] [] p4) env = (do
      let ov ← attributeBase (.Call (.Name "super" p0) [] [] p1) "__init__" env (eval (.Call (.Name "super" p0) [] [] p1) env)
      standAt p2.atName
      let (f, first) ← holding [ov] (getMethod ov "__init__" pl)
      callWith p4 f first (backTo p4 (starEach [.Constant (.str msg) k p3] env)) [])
/-- what such an __init__ does -/
def spI (C : Addr) (f : Str) : Sp := fun vs H Q _ => ∃ a y, vs = [.ref a, y] ∧ H a = some (exo a C none) ∧ ∀ dx, H dx = none → dx ≠ a → Q .non (upd (upd H dx (exd dx [(f, y)])) a (exo a C (some dx)))
section
variable {P : Program} {w : World} {K : PySem.W.Frag} {mg : Str → Option Value} {base : Heap}
theorem fn_init {C fI : Addr} {f slf part : Str} {fd : FuncData} {n : Nat} (S : SupC P K C fI f slf part fd) (sup : mg "super" = none) : FnOk P w K mg base (L2.CX P w) (n + 1) fI fd [slf, part] (spI C f) := by
  obtain ⟨T, no, opq, mro, ve, sin, top, oc, od, osl, qual, params, scope, dV, kV, doc, pm, an, cda, ct, cc, vs, file, tf, ccl, cdd, ccs, cl, cld, csl, msg, k, p0, p1, p2, p3, p4, p5, p6, p7, p8, p9, ar, rfl, lk, hcd, lcda, hvs, hfile, lcc, hp, rfl, hks, hkc, hka, hkp, hcell, hco, hgen, hk, hsp, hd1, hd2, pl, hev⟩ := S
  refine ⟨fun vs H Q E h => by obtain ⟨a, y, rfl, _⟩ := h; rfl, fun A outer s H args us vs' Q E hr e0 hb r hs => ?_⟩
  obtain ⟨a, y, rfl, ha, hq⟩ := hs
  cases r with
  | @cons _ u0 _ ur ra rw' =>
  cases rw' with
  | @cons _ u _ ur2 ry rz =>
  cases rz
  obtain rfl : u0 = Value.ref a := ra
  have KB := e0.mod.kin
  have bk : ∀ b o, base.get? b = some o → s.heap.get? b = some o := fun b o e => (e0.bs b o e).1
  have ba : ∀ b o, base.get? b = some o → b ≠ a := fun b o e z => by
    have := (e0.bs b o e).2
    rw [z, ha] at this; cases this
  obtain ⟨t0, hoa⟩ := exo_at e0.hok ha
  obtain ⟨nm, q, N, bs, bm, sn, sub, ab, col, dd, k0, k1, k2, k3, k5, hC, hbm⟩ := T.cls
  have hcl : PySem.W.clsIn K C = some { name := nm, bases := bs, mro := .ref C :: bm, ns := N, qualname := q, hasDict := true, slotNames := sn, subclasses := sub, abstract := ab, collection := col, hasDel := false } := by unfold PySem.W.clsIn; rw [hC] <;> rfl
  have lim : s.heap.NoLimit := e0.mod.nolimit.keeps bk
  have aL : a ≠ s.heap.objs.size := Nat.ne_of_lt (Heap.lt_size hoa)
  refine ks_codeAny_call_defAt (binds := [(ar.arg, .ref a), (part, u)]) hr.depth (bk _ _ (KB _ _ lk)) rfl lim (PySem.W.codeRec_of (KB.keeps bk) hcd) rfl hb hcell (fun x hx => ?_) (fun h1 hns hk1 => ?_) hco hgen hk
  · rcases List.mem_cons.mp hx with rfl | hx
    · exact hka
    · rcases List.mem_cons.mp hx with rfl | hx
      · exact hkp
      · cases hx
  -- super()
  have b1 : ∀ b o, base.get? b = some o → h1.get? b = some o := fun b o e => hk1 _ _ (bk b o e)
  obtain ⟨oC, hD1, hD2⟩ : ∃ oC, h1.get? C = some oC ∧ oC.data = .cls { name := nm, bases := bs, mro := .ref C :: bm, ns := N, qualname := q, hasDict := true, slotNames := sn, subclasses := sub, abstract := ab, collection := col, hasDel := false } := ⟨_, b1 _ _ (KB _ _ hC), rfl⟩
  obtain ⟨mb, hmb, hmb2⟩ := e0.mod.blt
  have hsu : mb "super" = some (.type "super") := (hmb2 "super" (by decide)).trans (by kernel_rfl)
  have m1 : (fun x => List.lookup x [(ar.arg, Value.ref a), (part, u)].reverse) ar.arg = some (.ref a) := by
    show List.lookup ar.arg [(part, u), (ar.arg, Value.ref a)] = _
    simp [List.lookup, beq_false_of_ne hsp]
  have m2 : (fun x => List.lookup x [(ar.arg, Value.ref a), (part, u)].reverse) part = some u := by
    show List.lookup part [(part, u), (ar.arg, Value.ref a)] = _
    simp [List.lookup]
  refine ks_wpAt_execs_cons (ks_wpAt_Expr_any (ks_wpAt_MethodCall (pl := pl) ?_ (hev _)) (by simp [interactive, callEnv, newEnv, hk]))
  refine ks_wpAt_super_base hks hkc (by decide) rfl (b1 _ _ (KB _ _ lk)) rfl hp rfl (b1 _ _ (KB _ _ lcda)) rfl hvs hfile top ?_
  refine PySem.W.ks_loadName_global hk hks (Calls.loadGlobal_builtin (e0.mod.glob.keeps b1) sup (hmb.keeps b1) hsu ⟨rfl, ?_⟩)
  refine wpAny_loadName_free hk hkc rfl ⟨_, b1 _ _ (KB _ _ lcc), rfl⟩ ?_
  refine wpAny_loadName_local hk hka hns m1 ?_
  refine ks_wpAny_isType_cls hD1 hD2 ⟨rfl, ?_⟩
  refine ks_wpAny_call_super hD1 hD2 (hk1 _ _ hoa) rfl (fun c e => by cases e) (PySem.W.looks_mroIn (KB.keeps b1) mro) (fun h2 e2 k2 => ?_)
  -- its __init__
  have k3 : ∀ b o, h1.get? b = some o → (h2.push (PySem.W.kxs_mw "ValueError.__init__" a)).get? b = some o := fun b o e => Heap.get?_push_of_some _ (k2 b o e)
  have b2 : ∀ b o, base.get? b = some o → h2.get? b = some o := fun b o e => k2 _ _ (b1 b o e)
  have hin : PySem.W.Looks (model P w) h2 (isInstance (.ref a) (.type "ValueError")) true := (PySem.W.InstAt.type (od := none) ⟨k2 _ _ (hk1 _ _ hoa), rfl, rfl, trivial⟩).andThen (PySem.W.looks_subIn (KB.keeps b2) ve)
  have hmr : PySem.W.Looks (model P w) h2 (mroOf (.ref C)) (.ref C :: bm) := (PySem.W.looks_clsIn (KB.keeps b2) hcl).andThen .now
  unfold PySem.W.ks_superIn at sin
  rw [hcl] at sin
  have aC : a ≠ C := fun z => ba C _ (KB _ _ hC) z.symm
  refine PySem.W.kxs_getMethod PySem.W.kxs_ValueError e2 (PySem.W.looks_opaque (KB.keeps b2) opq) hmr rfl (KB.keeps b2) sin hin aC (by decide) ?_
  refine PySem.W.kxs_callWith (i := "ValueError.__init__") (x := a) rfl (Calls.evalArgs_plain (Calls.spliced_cons (wpAny_Constant_str (k := k) (pos := p3) (Calls.spliced_nil ⟨Heap.get?_push_at rfl rfl, ?_⟩))))
  refine call_mw (k3 _ _ (b1 _ _ (KB _ _ hC))) (k3 _ _ (hk1 _ _ hoa)) (Heap.get?_push_at rfl rfl) (by rw [sizeLine_eq]; simp) (fun h4 t1 k4 e4 => ?_)
  -- slf.f = p
  have nL : s.heap.objs.size ≠ a := Ne.symm aL
  have kk : ∀ b o, b ≠ a → h1.get? b = some o → h4.get? b = some o := fun b o hb e => k4 b o hb (k3 b o e)
  have b4 : ∀ b o, base.get? b = some o → h4.get? b = some o := fun b o e => kk b o (ba b o e) (b1 b o e)
  have hns4 : h4.Ns s.heap.objs.size _ := hns.at fun o e => kk _ o nL e
  refine ks_wpAt_execs_cons (ks_wpAt_Assign_Attr (wpAt_of_wpAny (wpAny_Name (wpAny_loadName_local hk hkp hns4 m2 ?_) hd2)))
  refine wpAny_Name (wpAny_loadName_local hk hka hns4 m1 ?_) hd1
  refine PySem.W.set_plain (KB.keeps b4) (ox := { cls := .ref C, dict := none, data := .fields #[.ref t1, .none, .none, .none, .bool false, .none] }) (od := none) ⟨e4, rfl, rfl, trivial⟩ T.sa ?_
  refine PySem.HandSPX.exc_osa (KB.keeps b4) e4 hcl (show PySem.HandSPX.refsVE (.ref C :: bm) = true from hbm) rfl no (fun h5 tk5 dx k5 dn dne hx hn => ?_)
  refine wpAt_of_wpAny (wpAny_execs_nil ?_)
  -- the end
  have kf : ∀ b o, b ≠ a → s.heap.get? b = some o → h5.get? b = some o := fun b o hb e => k5 b o hb (kk b o hb (hk1 b o e))
  obtain ⟨oL, _, _, hoL, _⟩ := hns
  have lt : s.heap.objs.size < dx := Nat.lt_of_lt_of_le (Heap.lt_size (kk _ _ nL hoL)) dn
  have hnd : H dx = none := e0.hok.fresh (Nat.le_of_lt lt)
  have nd : ∀ {b : Addr} {o : Obj}, s.heap.get? b = some o → b ≠ dx := fun {b o} q => Nat.ne_of_lt (Nat.lt_trans (Heap.lt_size q) lt)
  have na : ∀ {b : Addr}, H b = none → b ≠ a := fun {b} n z => by
    rw [z, ha] at n
    cases n
  have Un1 : Un (frs outer) [] H (upd (upd H dx (exd dx [(f, y)])) a (exo a C (some dx))) s.heap h5 := {
    keep := fun b o q n _ _ => kf b o (na n) q
    slot := fun b o q n _ _ => ⟨o.slots, kf b o (na n) q⟩
    free := fun b o q n _ => by rw [upd_ne (na n), upd_ne (nd q)]; exact n
    there := fun b o q _ => by
      by_cases hb : b = a
      · exact ⟨_, by rw [hb]; exact hx⟩
      · exact ⟨o, kf b o hb q⟩
    tups := fun b xs q => by rw [upd_ne (at_ne ha q exo_tup), upd_ne (ne_of_none q hnd)]; exact q
    frzs := fun b o v q => by rw [upd_ne (at_ne ha q exo_frz), upd_ne (ne_of_none q hnd)]; exact q
    tbls := fun b ps q => ⟨#[], by rw [upd_ne (at_ne ha q exo_tbl), upd_ne (ne_of_none q hnd), q]; simp⟩ }
  refine ⟨.non, _, rfl, e0.bare, Un1, fun b o q => ?_, rfl, hq dx hnd dne⟩
  by_cases hb : b = a
  · subst hb
    rw [upd_same] at q
    cases q
    exact exo_ok hx
  · rw [upd_ne hb] at q
    by_cases hd : b = dx
    · subst hd
      rw [upd_same] at q
      cases q
      exact exd_ok hn (relO_put (fs := []) ry fun g => True.intro)
    · rw [upd_ne hd] at q
      exact (e0.hok b o q).stay (fun c v hc z => kf c v (by
          rcases hc with hc | hc
          · rw [hc]
            exact hb
          · exact at_ne ha hc exo_own) z)
        (fun c hc => by rw [upd_ne (at_ne ha hc exo_own), upd_ne (ne_of_none hc hnd)]; exact hc) (fun c xs hc => by rw [upd_ne (at_ne ha hc exo_tup), upd_ne (ne_of_none hc hnd)]; exact hc)
end
end Mp

/-! MiniPy, part X2: raise C(e). -/
namespace Mp
open PySem PySem.Spec PyProof.Rows L2
theorem upd_mk {H : Hp} {a d : Addr} {o1 o2 o3 : HO} {fs : HO} (hd : d ≠ a) (ha : H a = none) : upd (del (upd (upd (upd H a o1) d o2) a o3) a) d fs = upd H d fs := by
  funext b
  unfold upd del
  by_cases h : b = d
  · simp [h]
  · by_cases h2 : b = a
    · subst h2; simp [h, ha]
    · simp [h, h2]
section
variable {X : Cx}
theorem ps_raiseC {W : WX} {x f slf part : Str} {C fI : Addr} {fd : FuncData} {n : Nat} {e : Expr} {te : TE} {p pos pos2 : Pos} (S : SupC X.prog X.K C fI f slf part fd) (sup : X.mg "super" = none)
    (iC : PySem.W.findIn X.K (.ref C) "__init__" = some (some (.ref fI))) (tI : PySem.W.typeIn X.K (.ref fI) = some (.type "function")) (hb : Binds X.K fd [slf, part] []) (hr : Room (n + 2) X.A) (hc : X.calm = true) (tk : Takes X W)
    (hg : Gl X x) (hm : X.mg x = some (.ref C)) (he : PE X e te) (mono : ∀ (σ : L2.St) (H : Hp) (Q Q' : VK), (∀ v H', Q v H' → Q' v H') → te σ H Q → te σ H Q') (hdb : (x == ("__debug__" : Str)) = false) (hs : ∀ es, starEach (e :: es) X.env = (false, eval e X.env) :: starEach es X.env) :
    PS X (.Raise (some (.Call (.Name x p) [e] [] pos)) none pos2) (fun _ σ H => te σ H fun y H1 => ∀ dx, H1 dx = none → W (.ref C) (some dx) σ (upd H1 dx (.xd [(f, y)]))) := by
  have F1 : FnOk X.prog X.w X.K X.mg X.base (L2.CX X.prog X.w) (n + 1) fI fd [slf, part] (spI C f) := fn_init S sup
  have m := pmk_oex (X := X) (e := e) (es := []) (p := p) (pos := pos) (ds := []) (dvs := []) S.T iC tI F1 hr hb .nil passL hg hm (pa_cons he pa_nil (hs [])) hdb (hs []) rfl
  refine ⟨fun pins s σ H D I h => (ps_raise hc tk m).run pins s σ H D I ?_⟩
  refine mono _ _ _ _ (fun y H1 q => ?_) h
  show [y].length ≤ 1000 ∧ ∀ a, H1 a = none → spI C f (.ref a :: ([y] ++ [])) (upd H1 a (exo a C none)) _ _
  refine ⟨by simp, fun a ha => ⟨a, y, rfl, upd_same, fun dx hn hd => ⟨rfl, dx, [(f, y)], upd_same, ?_, ?_, ?_⟩⟩⟩
  · rw [upd_ne hd, upd_same]
  · rw [upd_ne hd] at hn
    exact hn
  · rw [upd_ne hd] at hn
    rw [upd_mk hd ha]
    exact q dx hn
end
end Mp

/-! MiniPy, part X3: isinstance of a caught exception that has its dict. -/
namespace Mp
open PySem PySem.Spec PyProof.Rows L2 PySem.W PySem.Calls
section
variable {prog : Program} {w : World} {A : Around} {E : Value → Shared → Prop} {s : Shared} {K : PySem.W.Frag} {x D : Addr} {ox : Obj} {od : Option Obj}
/-- its class's word __class__ is a descriptor for data: the own dict isn't asked -/
theorem find_class (C : ExcC K D) : findObj K D od "__class__" = some (.bind (.builtin "getset_descriptor.__get__") (.builtin "object.__class__")) := by
  obtain ⟨cd, hc, _⟩ := any_some C.hd
  unfold findObj
  rw [hc, Option.bind_some, C.ha, Option.bind_some]
  simp [C.hn, C.ht]
theorem class_of {Q : Option Value → Shared → Prop} (C : ExcC K D) (X : K.In s.heap) (I : InstAt s.heap x ox D od) (h : Q (some (.ref D)) { s with toks := s.toks + 1 }) :
    wpAny (model prog w) A (getAttr? (.ref x) "__class__") Q E s := by
  obtain ⟨hp, g, d, t, os⟩ := s
  have Lt := I.type (M := model prog w)
  have Lg := looks_findIn (M := model prog w) X C.hg
  have Lk := looks_findIn (M := model prog w) X C.hk
  have Lf := looks_find (M := model prog w) X I (find_class (od := od) C)
  have sub : Looks (model prog w) hp (isInstance (.ref x) (.type "BaseException")) true := Lt.andThen (looks_subIn X C.hs)
  have n2 : (Value.builtin "BaseException.__getattribute__" == Value.builtin "object.__getattribute__") = false := by decide +kernel
  have n1 : (onTheHeap (Value.ref D) && Value.builtin "BaseException.__getattribute__" == Value.builtin "object.__getattribute__") = false := by rw [n2]; rfl
  unfold getAttr? getAttrBy? getAttrBy
  refine wpAny_bind (wpAny_mkText (wpAny_bind (wpAny_attempt (wpAny_holding (wpAny_bind (Lt.at (wpAny_bind (Lg.at ?_))))))))
  show wpAny _ _ (if (onTheHeap (Value.ref D) && Value.builtin "BaseException.__getattribute__" == Value.builtin "object.__getattribute__") = true then _ else _) _ _ _
  rw [n1, if_neg Bool.false_ne_true]
  unfold getAttrByItsOwn hookBefore
  refine wpAny_bind ?_
  rw [if_pos (show onTheHeap (Value.ref D) = true from rfl)]
  refine Lk.at (wpAny_bind (wpAny_attempt (wpAny_holding ?_)))
  unfold callGetattribute
  rw [if_neg (show ¬ (false && onTheHeap (Value.builtin "BaseException.__getattribute__")) = true from Bool.false_ne_true)]
  unfold boundAndCalled
  rw [PySem.F.excAttr_ValueError.ga.bind (.ref x)]
  refine wpAny_bind (wpAny_pure ?_)
  refine wpAny_call (codeAny_call_builtin PySem.F.excAttr_ValueError.ga.plain PySem.F.entry_bexc_ga ?_)
  refine @check_slot (model prog w) _ _ ⟨hp, g, d, t + 1, os⟩ "BaseException.__getattribute__" "BaseException" "__getattribute__" (.ref x) [.str "__class__" t] [] _ (by decide +kernel) (by decide +kernel) sub (PySem.F.args_bexc_ga (.ref x) (.str "__class__" t)) ?_
  unfold Builtin.«object.__getattribute__»
  refine wpAny_bind (wpAny_of_eq (a := ((Value.ref x : Value), [Value.str "__class__" t])) (by first | rfl | (simp only [slotArgs]; rfl)) ?_)
  refine wpAny_bind (wpAny_pure (wpAny_bind (Lt.at (wpAny_bind (Lf.at ?_)))))
  show wpAny _ _ (holding [Value.builtin "object.__class__"] (call (.builtin "getset_descriptor.__get__") [.builtin "object.__class__", .ref x, .ref D]) >>= ret) _ _ _
  refine wpAny_bind (wpAny_holding (wpAny_call (class_get (s := ⟨hp, g, d, t + 1, os⟩) (ox := ox) (od := od) X I C.hm (wpAny_pure ?_))))
  show wpAny _ _ (handedOut (.ref D)) _ _ _
  rw [handedOut_of (v := .ref D) rfl]
  first
    | exact wpAny_pure (wpAny_pure h)
    | exact wpAny_pure h
    | exact wpAny_pure (wpAny_bind (wpAny_pure (wpAny_pure h)))
theorem cls_at {cd : ClassData} (hc : clsIn K D = some cd) : ∃ o : Obj, K.lookup D = some o ∧ o.data = .cls cd := by
  unfold clsIn at hc
  split at hc
  · rename_i ho
    cases hc
    exact ⟨_, ho, rfl⟩
  · cases hc
theorem kitx_e (C : ExcC K D) : KitX K (.ref x) (.ref D) (fun h => ∃ ox od, InstAt h x ox D od) where
  ty := fun _ _ _ ⟨_, _, I⟩ => I.type
  it := fun _ _ X _ => by
    obtain ⟨cd, hc, _⟩ := any_some C.hd
    obtain ⟨o, ho, hd⟩ := cls_at hc
    intro A' Q' E' s' k q
    unfold isType loadHead
    refine wpAny_bind (wpAny_loadPart (k _ _ (X _ _ ho)) (wpAny_pure ?_))
    rw [hd]
    exact q
  ne := fun h tp dd its n sl X htp => by
    obtain ⟨cd, hc, _⟩ := any_some C.hd
    obtain ⟨o, ho, hd⟩ := cls_at hc
    refine Bool.eq_false_iff.mpr fun q => ?_
    have e : D = tp := Value.ref.inj (beq_iff_eq.mp q)
    subst e
    have z := (X _ _ ho).symm.trans htp
    cases z
    cases hd
  ca := fun X ⟨_, _, I⟩ k => class_of C X I k
end
/-- isinstance(e, c), e the exception that the suite holds: c a class, or a tuple of classes -/
def rIs (K : PySem.W.Frag) (a D : Addr) (d : Option Addr) : List V → Hp → VK → Prop := fun xs H Q => ∃ (c : V) (b : Bool), xs = [.ref a, c] ∧ (∀ dd, d = some dd → ∃ fs, H dd = some (.xd fs)) ∧
  ((∃ cv, (∀ u, RelV c u → u = cv) ∧ kitOne K (.ref D) cv = some b) ∨ ∃ (tp : Addr) (vs : List V) (its : List Value), c = .ref tp ∧ H tp = some (.tup vs) ∧ (∀ us, Vals vs us → us = its) ∧ kitAny K (.ref D) its = some b) ∧ Q (.bl b) H
theorem call_is {X : Cx} {a D : Addr} {oe : Obj} {d : Option Addr} {pn : List (Addr × Obj)} (C : ExcC X.K D) (hz : Zc (.ref D) d oe) (hf : ∃ vs, oe.data = .fields vs) : CallR (X.suite a ((a, oe) :: pn)) (.builtin "isinstance") (rIs X.K a D d) := by
  intro pins s σ H xs us Q I r h
  obtain ⟨c, b, rfl, hdd, hc, q⟩ := h
  cases r with
  | @cons _ u1 _ us1 rx rr =>
  cases rr with
  | @cons _ u2 _ us2 rt rr =>
  cases rr
  obtain rfl : u1 = Value.ref a := rx
  obtain ⟨hget, _⟩ := I.pin (a, oe) (List.mem_append.mpr (.inl List.mem_cons_self))
  obtain ⟨vs, hv⟩ := hf
  have J : ∃ ox od, InstAt s.heap a ox D od := by
    obtain ⟨oc, od, oda, osl⟩ := oe
    obtain ⟨h1, h2⟩ := hz
    dsimp only at h1 h2 hv
    subst h1 hv
    cases d with
    | none => subst h2; exact ⟨_, none, hget, rfl, rfl, trivial⟩
    | some dd =>
      subst h2
      obtain ⟨fs, hfs⟩ := hdd dd rfl
      obtain ⟨mA, ⟨o, _, _, ho, _⟩, _⟩ := I.hok dd _ hfs
      exact ⟨_, some o, hget, rfl, rfl, ho⟩
  rcases hc with ⟨cv, e1, e2⟩ | ⟨tp, ws, its, rfl, e1, e2, e3⟩
  · have ec := e1 _ rt
    subst ec
    exact kia_one (kitx_e C) I.kIn J e2 (fun z => nomatch z) fun tk => ⟨.bl b, H, I.kept (t' := tk) fun _ _ z => z, rfl, q⟩
  · obtain rfl : u2 = Value.ref tp := rt
    obtain ⟨_, its', rv, ob, ho, hcl, n, hd2⟩ := I.hok tp _ e1
    have := e2 _ rv
    subst this
    obtain ⟨oc, od, oda, osl⟩ := ob
    dsimp only at hcl hd2
    subst hcl hd2
    exact kia_tup (kitx_e C) I.kIn J ho e3 (fun z => nomatch z) fun tk => ⟨.bl b, H, I.kept (t' := tk) fun _ _ z => z, rfl, q⟩
end Mp

/-! MiniPy, part F: the readings, one lemma a construct. -/
namespace Mp
open PySem PySem.Spec PyProof.Rows L2

/-- what is true of a result -/
def Sat {α : Type} (r : R α) (p : α → Prop) (xo : Exc → Prop) : Prop := match r with
  | .ok a => p a
  | .ex x => xo x
  | .st => False
theorem Sat.bind {α β : Type} {r : R α} {f : α → R β} {p : β → Prop} {xo : Exc → Prop} : Sat (r.bind f) p xo ↔ Sat r (fun a => Sat (f a) p xo) xo := by
  cases r <;> rfl
theorem Sat.imp {α : Type} {r : R α} {p q : α → Prop} {xo yo : Exc → Prop} (h : Sat r p xo) (hp : ∀ a, p a → q a) (hx : ∀ x, xo x → yo x) : Sat r q yo := by
  cases r with
  | ok a => exact hp a h
  | ex x => exact hx x h
  | st => exact h
/-- how an exception lies in the heap (given from outside) -/
abbrev XA := Exc → Value → Option Addr → Hp → Prop
def XO (W : WX) (xa : XA) (σ : L2.St) (H : Hp) (x : Exc) : Prop := ∀ cls dd H', Same H H' → xa x cls dd H' → W cls dd σ H'
theorem XO.mono {W : WX} {xa : XA} {σ : L2.St} {H H' : Hp} {x : Exc} (h : XO W xa σ H x) (e : Same H H') : XO W xa σ H' x := fun cls dd H2 e2 => h cls dd H2 (e.trans e2)
structure EPost (K : PySem.W.Frag) (P0 : Addr → Prop) (ps : Ps) (H H' : Hp) (c : E) (x : D × List Nat) (v : V) : Prop where
  same : Same H H'
  den : Dn K (wo (PP P0 (dr x.2 ps)) H') v x.1
  el : ElCl K (wo (PP P0 (dr (lkE c x.2) ps)) H') H' v x.1
  fr : c.fresh = true → isC x.1 = true → ∃ p, v = .ref p ∧ H p = none ∧ OwnAt K H' (fun a => a = p ∨ PP P0 (dr x.2 ps) a) p none x.1
def tE (K : PySem.W.Frag) (g : G) (W : WX) (xa : XA) (c : E) : TE := fun σ H Q => ∃ F ps τ, Rel K F ps H σ τ ∧ Sat (evE g c τ) (fun x => ∀ v H', EPost K F.P0 ps H H' c x v → Q v H') (XO W xa σ H)
def tT (K : PySem.W.Frag) (g : G) (W : WX) (xa : XA) (c : E) : TT := fun σ H Q => ∃ F ps τ, Rel K F ps H σ τ ∧ Sat (evT g c τ) (fun b => ∀ H', Same H H' → Q b H') (XO W xa σ H)
structure APost (K : PySem.W.Frag) (P0 : Addr → Prop) (ps : Ps) (H H' : Hp) (x : List D × List Nat) (vs : List V) : Prop where
  same : Same H H'
  den : DnAll K (wo (PP P0 (dr x.2 ps)) H') vs x.1
def tA (K : PySem.W.Frag) (g : G) (W : WX) (xa : XA) (cs : Es) : TA := fun σ H Q => ∃ F ps τ, Rel K F ps H σ τ ∧ Sat (evEs g cs τ) (fun x => ∀ vs H', APost K F.P0 ps H H' x vs → Q vs H') (XO W xa σ H)
theorem PE.imp {X : Cx} {e : Expr} {t t' : TE} (h : PE X e t) (i : ∀ σ H Q, t' σ H Q → t σ H Q) : PE X e t' := ⟨fun pins s σ H Q I q => h.run pins s σ H Q I (i σ H Q q)⟩
theorem PT.imp {X : Cx} {e : Expr} {t t' : TT} (h : PT X e t) (i : ∀ σ H Q, t' σ H Q → t σ H Q) : PT X e t' := ⟨fun pins s σ H Q I q => h.run pins s σ H Q I (i σ H Q q)⟩
theorem PA.imp {X : Cx} {e : List Expr} {t t' : TA} (h : PA X e t) (i : ∀ σ H Q, t' σ H Q → t σ H Q) : PA X e t' := ⟨fun pos pins s σ H Q I q => h.run pos pins s σ H Q I (i σ H Q q)⟩

section
variable {K : PySem.W.Frag} {P0 : Addr → Prop} {ps : Ps} {H H' : Hp} {c : E} {v : V} {z : D} {L M : List Nat}
theorem Dn.isC {K : PySem.W.Frag} {H : Hp} {v : V} {d : D} (h : Dn K H v d) : isC d = true → ∃ a, v = .ref a := fun e => by
  cases h <;> first | exact ⟨_, rfl⟩ | (simp [Mp.isC] at e)
/-- a scalar, whatever the heap -/
theorem scal {G G' : Hp} (h : Dn K G v z) (f : flatD z = true) : Dn K G' v z := by
  cases h <;> first | exact .non | exact .bl _ | exact .int _ | exact .str _ | (simp [flatD] at f)
theorem lk_flat (f : flatD z = true) : lk z L = [] := by
  cases L with
  | nil => rfl
  | cons i L => cases z <;> simp_all [lk, flatD, noL]
/-- what leaks, where nothing can -/
theorem lk_cons {i : Nat} : lk z (i :: L) = if noL z then [] else i :: L := rfl
theorem lk_dn (hP : ∀ a, PP P0 ps a → ∃ o, H' a = some o ∧ IsCo o) (h : Dn K (wo (PP P0 (dr L ps)) H') v z) : Dn K (wo (PP P0 (dr (lk z L) ps)) H') v z := by
  cases L with
  | nil => exact h
  | cons i L =>
    by_cases n : noL z = true
    · rw [lk_cons, if_pos n, dr_nil]
      refine Dn.noL (fun a q => ?_) z h.full n
      obtain ⟨o, h1, h2⟩ := hP a q
      cases o with
      | lst xs => exact .inl ⟨xs, h1⟩
      | dK kvs => exact .inr (.inl ⟨kvs, h1⟩)
      | ins C dx fs => exact .inr (.inr ⟨C, dx, fs, h1⟩)
      | _ => exact h2.elim
    · rw [lk_cons, if_neg n]; exact h
theorem lk_sub : ∀ i, i ∈ lk z L → i ∈ L := fun i h => by
  cases L with
  | nil => exact h
  | cons j L =>
    rw [lk_cons] at h
    split at h
    · cases h
    · exact h
theorem lk_isC (h : isC z = true) : lk z L = L := by
  cases L with
  | nil => rfl
  | cons i L => cases z <;> simp_all [lk, Mp.isC, noL]
theorem lkE_sub : ∀ i, i ∈ lkE c L → i ∈ L := fun i h => by
  unfold lkE at h; split at h
  · cases h
  · exact h
theorem lkE_nv (h : ∀ i, c ≠ .v i) : lkE c L = L := by
  unfold lkE; split
  · exact absurd rfl (h _)
  · rfl
/-- from an operation's result -/
theorem EPost.of_res {f : Bool} {H1 H2 : Hp} (nv : ∀ i, c ≠ .v i) (hf : c.fresh = true → f = true) (e : Same H H1) (e' : Same H1 H2) (hP : ∀ a, PP P0 ps a → ∃ o, H a = some o ∧ IsCo o)
    (r : Res K f (wo (PP P0 (dr L ps)) H1) H1 z v H2) : EPost K P0 ps H H2 c (z, lk z L) v := by
  have there : ∀ a, PP P0 ps a → ∃ o, H2 a = some o ∧ IsCo o := fun a q => let ⟨o, h1, h2⟩ := hP a q; ⟨o, e' _ _ (e _ _ h1), h2⟩
  have key : Dn K (wo (PP P0 (dr L ps)) H2) v z ∧ (f = true → isC z = true → ∃ p, v = .ref p ∧ H p = none ∧ OwnAt K H2 (fun a => a = p ∨ PP P0 (dr L ps) a) p none z) := by
    cases r with
    | same h1 h2 => exact ⟨Dn.mono (wo_same e') _ h2, fun a b => by rw [h1 a] at b; cases b⟩
    | lst h1 h2 =>
      rename_i p vs ds
      have hn : H p = none := e.free h1
      have np : ¬ PP P0 (dr L ps) p := fun q => by
        obtain ⟨o, h3, _⟩ := hP p (PP_dr0 p q)
        rw [hn] at h3; cases h3
      have hs : Same (wo (PP P0 (dr L ps)) H1) (wo (fun a => a = p ∨ PP P0 (dr L ps) a) (upd H1 p (.lst vs))) := wo_gen fun a o q1 q2 =>
        ⟨fun q => q.elim (fun q => by rw [q, h1] at q2; cases q2) q1, e' _ _ q2⟩
      exact ⟨.lst (.inl (.inl (wo_some.mpr ⟨np, upd_same⟩))) (DnAll.mono (wo_same e') _ h2), fun _ _ => ⟨p, rfl, hn, rfl, vs, upd_same, DnAll.mono hs _ h2⟩⟩
    | dct h1 h2 =>
      rename_i p vs ds
      have hn : H p = none := e.free h1
      have np : ¬ PP P0 (dr L ps) p := fun q => by
        obtain ⟨o, h3, _⟩ := hP p (PP_dr0 p q)
        rw [hn] at h3; cases h3
      have hs : Same (wo (PP P0 (dr L ps)) H1) (wo (fun a => a = p ∨ PP P0 (dr L ps) a) (upd H1 p (.dK vs))) := wo_gen fun a o q1 q2 =>
        ⟨fun q => q.elim (fun q => by rw [q, h1] at q2; cases q2) q1, e' _ _ q2⟩
      exact ⟨.dct (.inl (wo_some.mpr ⟨np, upd_same⟩)) (DnKV.mono (wo_same e') _ h2), fun _ _ => ⟨p, rfl, hn, DctAt.plain upd_same (DnKV.mono hs _ h2)⟩⟩
    | tup h1 h2 =>
      rename_i p vs ds
      have hn : H p = none := e.free h1
      have np : ¬ PP P0 (dr L ps) p := fun q => by
        obtain ⟨o, h3, _⟩ := hP p (PP_dr0 p q)
        rw [hn] at h3; cases h3
      exact ⟨.tup (.inl (.inl (wo_some.mpr ⟨np, upd_same⟩))) (DnAll.mono (wo_same e') _ h2), fun _ b => by cases b⟩
  have den : Dn K (wo (PP P0 (dr (lk z L) ps)) H2) v z := lk_dn there key.1
  refine ⟨e.trans e', den, ?_, fun h1 h2 => ?_⟩
  · rw [lkE_nv nv]; exact Dn.elcl wo_all den
  · obtain ⟨p, q1, q2, q3⟩ := key.2 (hf h1) h2
    exact ⟨p, q1, q2, by rw [lk_isC h2]; exact q3⟩
theorem EPost.scal (nv : ∀ i, c ≠ .v i) (e : Same H H') (h : ∀ G, Dn K G v z) (f : isC z = false) : EPost K P0 ps H H' c (z, []) v :=
  ⟨e, h _, by rw [lkE_nv nv]; exact Dn.elcl wo_all (h _), fun _ b => by rw [f] at b; cases b⟩
end

/-- an operand's items, in the heap behind the second one -/
theorem EPost.el2 {K : PySem.W.Frag} {P0 : Addr → Prop} {ps : Ps} {H H1 H2 : Hp} {c : E} {x : D × List Nat} {v : V} (p : EPost K P0 ps H H1 c x v) (e : Same H1 H2) {M : List Nat} (hM : ∀ i, i ∈ lkE c x.2 → i ∈ M) : ElCl K (wo (PP P0 (dr M ps)) H2) H2 v x.1 :=
  p.el.mono ((wo_same e).trans (wo_sub (PP_dr hM))) e
theorem EPost.dn {K : PySem.W.Frag} {P0 : Addr → Prop} {ps : Ps} {H H1 : Hp} {c : E} {x : D × List Nat} {v : V} (p : EPost K P0 ps H H1 c x v) : Dn K H1 v x.1 := p.den.full
/-- behind a call -/
structure CPost (K : PySem.W.Frag) (P0 : Addr → Prop) (ps : Ps) (io : List Nat) (fl : Bool) (H H' : Hp) (r : D × List D) (v : V) : Prop where
  keep : ∀ a o, H a = some o → (¬ ∃ i b, ps i b = some a) → H' a = some o
  den : Dn K (wo (PP P0 ps) H') v r.1
  outs : ∀ (m i : Nat), io[m]? = some i → ∃ p d, ps i false = some p ∧ r.2[m]? = some d ∧ OwnAt K H' (PP P0 ps) p (ps i true) d
  len : r.2.length = io.length
  fr : fl = true → isC r.1 = true → ∃ p, v = .ref p ∧ H p = none ∧ OwnAt K H' (fun a => a = p ∨ PP P0 ps a) p none r.1
/-- a def's promise: what its meaning hands back -/
def spD (K : PySem.W.Frag) (cf : List D → R (D × List D)) (io : List Nat) (fl : Bool) (xa : XA) : Sp := fun vs H Q E => ∃ (F : Fx) (ps : Ps) (ds : List D),
  Rel K F ps H (vs.map some) (mark io 0 ds) ∧ F.H0 = H ∧ F.io = (fun a => ∃ i b, ps i b = some a) ∧ F.iol = ioM io fl ∧ F.q = ps ∧ F.nw = (fun a => H a = none) ∧
  Sat (cf ds) (fun r => ∀ v H', CPost K F.P0 ps io fl H H' r v → Q v H') (fun x => ∀ cls dd H', (∀ a o, H a = some o → (¬ ∃ i b, ps i b = some a) → H' a = some o) → xa x cls dd H' → E cls dd H')
/-- the entries of a written dict with text keys -/
inductive Ents (K : PySem.W.Frag) (P : Params) : List DictEntry → List (Str × D) → Prop
  | nil : Ents K P [] []
  | cons {e : DictEntry} {x : Str} {t : Tok} {v : V} {d : D} {r : List DictEntry} {kr : List (Str × D)} : e.key = .str x t → e.hash = PyData.keyHash P x → RelV v e.val → (∀ H, Dn K H v d) → Ents K P r kr → Ents K P (e :: r) ((x, d) :: kr)
theorem Ents.lit {K : PySem.W.Frag} {P : Params} : ∀ {es : List DictEntry} {kds : List (Str × D)}, Ents K P es kds → PySem.W.KeysLit P es
  | _, _, .nil => trivial
  | _, _, .cons h1 h2 _ _ r => ⟨⟨_, _, h1, h2⟩, r.lit⟩
theorem Ents.find {K : PySem.W.Frag} {P : Params} {z : Str} : ∀ {es : List DictEntry} {kds : List (Str × D)}, Ents K P es kds → match gdGet z kds with
    | some d => ∃ e v, es.find? (·.key.isStr z) = some e ∧ RelV v e.val ∧ ∀ H, Dn K H v d
    | none => es.find? (·.key.isStr z) = none
  | _, _, .nil => rfl
  | _, _, .cons (e := e) (x := x) (t := t) (v := v) (d := d) (r := r) (kr := kr) h1 h2 h3 h4 rr => by
    have ih := rr.find (z := z)
    have hk : e.key.isStr z = decide (x = z) := by
      rw [h1]
      show (x == z) = _
      by_cases hx : x = z
      · subst hx; simp
      · simp [hx]
    unfold gdGet
    by_cases hx : x = z
    · rw [if_pos hx]
      exact ⟨e, v, by rw [List.find?_cons, hk, hx]; simp, h3, h4⟩
    · rw [if_neg hx]
      have : (e :: r).find? (·.key.isStr z) = r.find? (·.key.isStr z) := by rw [List.find?_cons, hk]; simp [hx]
      rw [this]
      exact ih
theorem Ents.noref {K : PySem.W.Frag} {P : Params} : ∀ {es : List DictEntry} {kds : List (Str × D)}, Ents K P es kds → es.any (·.refKey) = false
  | _, _, .nil => rfl
  | _, _, .cons h1 _ _ _ r => by
    rw [List.any_cons, r.noref, Bool.or_false]
    unfold DictEntry.refKey
    rw [h1]
structure GdAt (K : PySem.W.Frag) (w : World) (d : Addr) (kds : List (Str × D)) : Prop where
  low : (d == sysModules) = false
  at_ : ∃ es n, K.lookup d = some ⟨.type "dict", none, .dict es n, #[]⟩ ∧ Ents K w.params es.toList kds
theorem GdAt.get {K : PySem.W.Frag} {w : World} {d : Addr} {kds : List (Str × D)} (h : GdAt K w d kds) (z : Str) : match gdGet z kds with
    | some dd => ∃ u v, PySem.W.nsIn K d z = some (some u) ∧ RelV v u ∧ ∀ H, Dn K H v dd
    | none => PySem.W.nsIn K d z = some none := by
  obtain ⟨es, n, h1, h2⟩ := h.at_
  have f := h2.find (z := z)
  have hn : PySem.W.nsIn K d z = (match es.toList.find? (·.key.isStr z) with | some e => some (some e.val) | none => if es.toList.any (·.refKey) then none else some none) := by
    unfold PySem.W.nsIn
    rw [h1]
    rfl
  cases hg : gdGet z kds with
  | none =>
    rw [hg] at f
    dsimp only at f ⊢
    rw [hn, f]
    dsimp only
    rw [h2.noref]
    rfl
  | some dd =>
    rw [hg] at f
    obtain ⟨e, v, f1, f2, f3⟩ := f
    dsimp only
    rw [hn, f1]
    exact ⟨_, v, rfl, f2, f3⟩
theorem GdAt.kd {K : PySem.W.Frag} {w : World} {d : Addr} {kds : List (Str × D)} (h : GdAt K w d kds) : ∃ es n, KDict K w d es n := by
  obtain ⟨es, n, h1, h2⟩ := h.at_
  exact ⟨es, n, h1, h2.lit, h.low⟩
/-- an own exception class that the text raises: number q, its word f -/
structure XcAt (X : Cx) (xa : XA) (q : Nat) (f x : Str) : Prop where
  ex : ∃ (C fI : Addr) (slf part : Str) (fd : FuncData), X.mg x = some (.ref C) ∧ X.mg "super" = none ∧ PySem.W.findIn X.K (.ref C) "__init__" = some (some (.ref fI)) ∧ PySem.W.typeIn X.K (.ref fI) = some (.type "function") ∧
    SupC X.prog X.K C fI f slf part fd ∧ Binds X.K fd [slf, part] [] ∧ ∀ (dx : Addr) (H : Hp) (y : V) (d : D), isA d = true → Dn X.K H y d → H dx = some (.xd [(f, y)]) → xa ⟨q, [(f, d)]⟩ (.ref C) (some dx) H
/-- what a class's __init__ promises that is: self.f1 = []; self.f2 = its argument -/
def spInit (K : PySem.W.Frag) (f1 f2 : Str) : Sp := fun vs H Q _ => ∃ a C dx y, vs = [.ref a, y] ∧ H a = some (.ins C dx []) ∧ Cls K C ∧ NoAttr K C f1 ∧ NoAttr K C f2 ∧
  ∀ q, H q = none → Q .non (upd (upd H q (.lst [])) a (.ins C dx [(f1, .ref q), (f2, y)]))
structure Envr (X : Cx) (c : Cfg) (sc : Scope) (g : G) (k : Nat) (W : WX) (xa : XA) : Prop where
  N : X.N = c.N
  nd : X.N.Nodup
  sc : X.env.scope = sc
  calm : X.calm = true
  room : Room k X.A
  tk : Takes X W
  fn : ∀ (f : Nat) (x : Str), noOf x c.fns = some f → ∃ a fd qs, X.mg x = some (.ref a) ∧ PySem.W.keepIn X.K (.ref a) = true ∧ Binds X.K fd qs [] ∧ FnOk X.prog X.w X.K X.mg X.base (L2.CX X.prog X.w) k a fd qs (spD X.K (g.cf f) (g.io f) (g.fr f) xa)
  bi : ∀ x : Str, c.bis.contains x = true → X.mg x = none
  gl : ∀ (i : Nat) (x : Str), noOf x c.gls = some i → ∃ u v, X.mg x = some u ∧ RelV v u ∧ ∀ d, g.gl i = some d → ∀ H, Dn X.K H v d
  gd : ∀ (i : Nat) (x : Str), noOf x c.gds = some i → ∃ d kds, X.mg x = some (.ref d) ∧ g.gd i = some kds ∧ GdAt X.K X.w d kds
  xr : g.xr = true → 2 ≤ k
  pyl : Pyl X
  xc : ∀ (x : Str) (q : Nat) (f : Str), xcOf x c.xcs = some (q, f) → XcAt X xa q f x
  cls : ∀ (x : Str) (fl : List Str), c.cls = some (x, fl) → ∀ C, ClsOf X.K x C → Cls X.K C ∧ ∀ f ∈ fl, NoAttr X.K C f
  mkc : ∀ (x f1 f2 : Str), c.mkc = some (x, f1, f2) → f2 ≠ f1 ∧ ∃ C fI fd qs, X.mg x = some (.ref C) ∧ ClsOf X.K x C ∧ Cls X.K C ∧ NoAttr X.K C f1 ∧ NoAttr X.K C f2 ∧ Mk X.K C fI ∧ Binds X.K fd qs [] ∧ FnOk X.prog X.w X.K X.mg X.base (L2.CX X.prog X.w) 1 fI fd qs (spInit X.K f1 f2)
  mt : ∀ (f : Nat) (m : Str), noOf m c.mts = some f → ∃ x fl, c.cls = some (x, fl) ∧ ∃ a fd qs, (∀ C, ClsOf X.K x C → Meth X.K C m a) ∧ Binds X.K fd qs [] ∧ FnOk X.prog X.w X.K X.mg X.base (L2.CX X.prog X.w) k a fd qs (spD X.K (g.cf f) (g.io f) (g.fr f) xa)
section
variable {X : Cx} {c : Cfg} {sc : Scope} {g : G} {k : Nat} {W : WX} {xa : XA} (ev : Envr X c sc g k W xa)
theorem ok_names {x : Str} (h : okName x = true) : (x == ("__debug__" : Str)) = false ∧ (x == ("__classdict__" : Str)) = false ∧ x ≠ "__name__" := by
  unfold okName at h
  simp only [Bool.and_eq_true, Bool.not_eq_true'] at h
  exact ⟨h.1.1, h.1.2, fun e => by rw [e] at h; simp at h⟩
include ev
theorem Envr.gl_of {x : Str} (h : isGl sc x = true) : Gl X x := by
  show X.env.kindOf x = _
  unfold isGl at h
  rw [← ev.sc] at h
  show X.env.scope.names.lookup x = _
  split at h
  · assumption
  · cases h
theorem Envr.vis_of {x : Str} (h : isVis sc x = true) : Vis X.env.scope x := by
  unfold isVis at h
  rw [← ev.sc] at h
  split at h
  · exact .inl (by assumption)
  · exact .inr (.inl (by assumption))
  · exact .inr (.inr (by assumption))
  · cases h
theorem Envr.at_ {x : Str} {i : Nat} (h : ixOf x c.N = some i) : X.N[i]? = some x := by rw [ev.N]; exact ixOf_get h
omit ev in
theorem sE_bad {e : Expr} : PE X e (tE X.K g W xa .bad) := ⟨fun _ _ _ _ _ _ h => by obtain ⟨_, _, _, _, h⟩ := h; exact h.elim⟩
omit ev in
theorem sT_bad {e : Expr} : PT X e (tT X.K g W xa .bad) := ⟨fun _ _ _ _ _ _ h => by obtain ⟨_, _, _, _, h⟩ := h; exact h.elim⟩
theorem sE_v {x : Str} {i : Nat} {pos : Pos} (ho : okName x = true) (hv : isVis sc x = true) (hi : ixOf x c.N = some i) : PE X (.Name x pos) (tE X.K g W xa (.v i)) := by
  obtain ⟨o1, o2, _⟩ := ok_names ho
  refine PE.imp (pe_var (ev.at_ hi) (ev.vis_of hv) o1 o2) fun σ H Q h => ?_
  obtain ⟨F, ps, τ, r, h⟩ := h
  unfold evE at h
  split at h
  · rename_i o d e
    cases o with
    | true =>
      obtain ⟨p, h1, h2, h3⟩ := r.own i d e
      unfold vO at h
      dsimp only at h
      split at h
      · exact h.elim
      rename_i nb
      refine ⟨.ref p, h2, h _ H ⟨Same.refl _, ?_, ?_, fun z => by cases z⟩⟩
      · refine h3.dn nb (fun q => ?_) PP_dr0
        rcases q with q | ⟨j, b, q⟩
        · exact r.out _ _ _ h1 q
        · obtain ⟨q1, q2⟩ := dr_some.mp q
          exact q1 (by simp [(r.inj _ _ _ _ _ q2 h1).1])
      · show ElCl X.K (wo (PP F.P0 (dr [] ps)) H) H (.ref p) d
        rw [dr_nil]
        cases d with
        | list ds => obtain ⟨_, vs, q1, q2⟩ := h3; exact ⟨p, vs, rfl, .inl (.inl q1), q2⟩
        | dict ds => obtain ⟨_, vs, q1, q2⟩ := h3.dct nb; exact ⟨p, vs, rfl, .inl q1, q2⟩
        | _ => exact h3.elim
    | false =>
      obtain ⟨v, h1, h2⟩ := r.cln i d e
      refine ⟨v, h1, h _ H ⟨Same.refl _, ?_, ?_, fun z => by cases z⟩⟩
      · show Dn X.K (wo (PP F.P0 (dr [] ps)) H) v d
        rw [dr_nil]; exact h2
      · show ElCl X.K (wo (PP F.P0 (dr [] ps)) H) H v d
        rw [dr_nil]; exact Dn.elcl wo_all h2
  · exact h.elim
theorem sE_g {x : Str} {i : Nat} {pos : Pos} (ho : okName x = true) (hv : isGl sc x = true) (hi : noOf x c.gls = some i) : PE X (.Name x pos) (tE X.K g W xa (.g i)) := by
  obtain ⟨o1, o2, _⟩ := ok_names ho
  obtain ⟨u, v, h1, h2, h3⟩ := ev.gl i x hi
  refine PE.imp (pe_glob (ev.gl_of hv) h1 h2 o1) fun σ H Q h => ?_
  obtain ⟨F, ps, τ, r, h⟩ := h
  unfold evE at h
  split at h
  · rename_i d e
    refine h v H ⟨Same.refl _, h3 d e _, Dn.elcl wo_all (h3 d e _), fun z => by cases z⟩
  · exact h.elim
omit ev in
theorem sE_k {e : Expr} {v : V} {d : D} (h : PE X e (tC v)) (hd : ∀ G, Dn X.K G v d) (hc : isC d = false) : PE X e (tE X.K g W xa (.k d)) := by
  refine PE.imp h fun σ H Q h => ?_
  obtain ⟨F, ps, τ, r, h⟩ := h
  exact h v H (EPost.scal (fun i z => by cases z) (Same.refl _) hd hc)
omit ev in
theorem two {a b : E} {F : Fx} {ps : Ps} {H : Hp} {σ : L2.St} {τ : Tau} {α : Type} {f : D × List Nat → D × List Nat → R α} {p : α → Prop} {Q : V → V → Hp → Prop} (r : Rel X.K F ps H σ τ)
    (h : Sat ((evE g a τ).bind fun x => (evE g b τ).bind fun y => f x y) p (XO W xa σ H))
    (q : ∀ x y v u H1 H2, EPost X.K F.P0 ps H H1 a x v → EPost X.K F.P0 ps H1 H2 b y u → Rel X.K F ps H2 σ τ → Sat (f x y) p (XO W xa σ H) → Q v u H2) :
    tE X.K g W xa a σ H fun v H1 => tE X.K g W xa b σ H1 fun u H2 => Q v u H2 := by
  refine ⟨F, ps, τ, r, (Sat.bind.mp h).imp (fun x hx v H1 pa => ?_) fun _ z => z⟩
  refine ⟨F, ps, τ, r.mono pa.same, (Sat.bind.mp hx).imp (fun y hy u H2 pb => ?_) fun _ z => XO.mono z pa.same⟩
  exact q x y v u H1 H2 pa pb ((r.mono pa.same).mono pb.same) hy
theorem sE_bin {a b : Expr} {ca cb : E} {op : Operator} {pos : Pos} (ha : PE X a (tE X.K g W xa ca)) (hb : PE X b (tE X.K g W xa cb)) : PE X (.BinOp a op b pos) (tE X.K g W xa (.bin op ca cb)) := by
  refine PE.imp (pe_op (op_bin ev.pyl op) ha hb) fun σ H Q h => ?_
  obtain ⟨F, ps, τ, r, h⟩ := h
  unfold evE at h
  refine two r h fun x y v u H1 H2 pa pb r2 hz => ?_
  split at hz
  · rename_i z e
    refine ⟨wo (PP F.P0 (dr (lkE ca x.2 ++ lkE cb y.2) ps)) H2, x.1, y.1, z, wo_all, pa.el2 pb.same fun i hi => List.mem_append_left _ hi, pb.el2 (Same.refl _) fun i hi => List.mem_append_right _ hi, e, fun v' H' rs => ?_⟩
    exact hz v' H' (EPost.of_res (fun i z => by cases z) (fun _ => rfl) (pa.same.trans pb.same) rs.same' (fun a q => r.there q) rs)
  · exact hz.elim
omit ev in
theorem one {a : E} {F : Fx} {ps : Ps} {H : Hp} {σ : L2.St} {τ : Tau} {α : Type} {f : D × List Nat → R α} {p : α → Prop} {Q : V → Hp → Prop} (r : Rel X.K F ps H σ τ)
    (h : Sat ((evE g a τ).bind f) p (XO W xa σ H)) (q : ∀ x v H1, EPost X.K F.P0 ps H H1 a x v → Rel X.K F ps H1 σ τ → Sat (f x) p (XO W xa σ H) → Q v H1) : tE X.K g W xa a σ H Q :=
  ⟨F, ps, τ, r, (Sat.bind.mp h).imp (fun x hx v H1 pa => q x v H1 pa (r.mono pa.same) hx) fun _ z => z⟩
omit ev in
theorem sE_neg {a : Expr} {ca : E} {pos : Pos} (ha : PE X a (tE X.K g W xa ca)) : PE X (.UnaryOp .USub a pos) (tE X.K g W xa (.neg ca)) := by
  refine PE.imp (pe_un un_neg ha) fun σ H Q h => ?_
  obtain ⟨F, ps, τ, r, h⟩ := h
  unfold evE at h
  refine one r h fun x v H1 pa r1 hz => ?_
  split at hz
  · rename_i i e
    have := pa.dn
    rw [e] at this
    cases this
    exact ⟨i, rfl, hz _ _ (EPost.scal (fun i z => by cases z) pa.same (fun _ => .int _) rfl)⟩
  · exact hz.elim
theorem sE_cmp {a b : Expr} {ca cb : E} {op : CmpOp} {pos : Pos} (ha : PE X a (tE X.K g W xa ca)) (hb : PE X b (tE X.K g W xa cb)) (hm : behindInMarks op b = false) : PE X (.Compare a [op] [b] pos) (tE X.K g W xa (.cmp op ca cb)) := by
  refine PE.imp (pe_cmpR (op_cmp (by have := ev.room.un; omega) op) ha hb hm) fun σ H Q h => ?_
  obtain ⟨F, ps, τ, r, h⟩ := h
  unfold evE at h
  refine two r h fun x y v u H1 H2 pa pb r2 hz => ?_
  split at hz
  · rename_i z e
    exact ⟨x.1, y.1, z, Dn.mono pb.same _ pa.dn, pb.dn, e, hz _ _ (EPost.scal (fun i z => by cases z) (pa.same.trans pb.same) (fun _ => .bl _) rfl)⟩
  · exact hz.elim
theorem sT_cmp {a b : Expr} {ca cb : E} {op : CmpOp} {pos : Pos} (ha : PE X a (tE X.K g W xa ca)) (hb : PE X b (tE X.K g W xa cb)) (hm : behindInMarks op b = false) : PT X (.Compare a [op] [b] pos) (tT X.K g W xa (.cmp op ca cb)) := by
  refine PT.imp (pt_cmpR (op_cmp (by have := ev.room.un; omega) op) ha hb hm) fun σ H Q h => ?_
  obtain ⟨F, ps, τ, r, h⟩ := h
  unfold evT at h
  refine two r h fun x y v u H1 H2 pa pb r2 hz => ?_
  split at hz
  · rename_i z e
    exact ⟨x.1, y.1, z, Dn.mono pb.same _ pa.dn, pb.dn, e, z, rfl, hz _ (pa.same.trans pb.same)⟩
  · exact hz.elim
theorem sE_chain {a b d : Expr} {ca cb cd : E} {op op' : CmpOp} {pos : Pos} (ha : PE X a (tE X.K g W xa ca)) (hb : PE X b (tE X.K g W xa cb)) (hd : PE X d (tE X.K g W xa cd))
    (h2 : behindInMarks op' d = false) : PE X (.Compare a [op, op'] [b, d] pos) (tE X.K g W xa (.chain op op' ca cb cd)) := by
  refine PE.imp (pe_chain (op_cmp (by have := ev.room.un; omega) op) (op_cmp (by have := ev.room.un; omega) op') ha hb hd h2) fun σ H Q h => ?_
  obtain ⟨F, ps, τ, r, h⟩ := h
  unfold evE at h
  refine two r h fun x y v u H1 H2 pa pb r2 hz => ?_
  split at hz
  · rename_i e
    refine ⟨x.1, y.1, true, Dn.mono pb.same _ pa.dn, pb.dn, e, true, rfl, ?_⟩
    rw [if_pos rfl]
    have hz' : Sat ((evE g cd τ).bind fun z => match cmpD op' y.1 z.1 with | some r => R.ok (PyData.bool r, ([] : List Nat)) | none => .st) _ (XO W xa σ H2) := hz.imp (fun _ z => z) fun _ z => XO.mono z (pa.same.trans pb.same)
    refine one r2 hz' fun z w H3 pc r3 hz => ?_
    split at hz
    · rename_i q e'
      exact ⟨y.1, z.1, q, Dn.mono pc.same _ pb.dn, pc.dn, e', hz _ _ (EPost.scal (fun i z => by cases z) ((pa.same.trans pb.same).trans pc.same) (fun _ => .bl _) rfl)⟩
    · exact hz.elim
  · rename_i e
    refine ⟨x.1, y.1, false, Dn.mono pb.same _ pa.dn, pb.dn, e, false, rfl, ?_⟩
    rw [if_neg (by decide)]
    exact hz _ _ (EPost.scal (fun i z => by cases z) (pa.same.trans pb.same) (fun _ => .bl _) rfl)
  · exact hz.elim
theorem sT_chain {a b d : Expr} {ca cb cd : E} {op op' : CmpOp} {pos : Pos} (ha : PE X a (tE X.K g W xa ca)) (hb : PE X b (tE X.K g W xa cb)) (hd : PE X d (tE X.K g W xa cd))
    (h2 : behindInMarks op' d = false) : PT X (.Compare a [op, op'] [b, d] pos) (tT X.K g W xa (.chain op op' ca cb cd)) := by
  refine PT.imp (pt_chain (op_cmp (by have := ev.room.un; omega) op) (op_cmp (by have := ev.room.un; omega) op') ha hb hd h2) fun σ H Q h => ?_
  obtain ⟨F, ps, τ, r, h⟩ := h
  unfold evT at h
  refine two r h fun x y v u H1 H2 pa pb r2 hz => ?_
  split at hz
  · rename_i e
    refine ⟨x.1, y.1, true, Dn.mono pb.same _ pa.dn, pb.dn, e, true, rfl, ?_⟩
    rw [if_pos rfl]
    have hz' : Sat ((evE g cd τ).bind fun z => match cmpD op' y.1 z.1 with | some r => R.ok r | none => .st) _ (XO W xa σ H2) := hz.imp (fun _ z => z) fun _ z => XO.mono z (pa.same.trans pb.same)
    refine one r2 hz' fun z w H3 pc r3 hz => ?_
    split at hz
    · rename_i q e'
      exact ⟨y.1, z.1, q, Dn.mono pc.same _ pb.dn, pc.dn, e', q, rfl, hz _ ((pa.same.trans pb.same).trans pc.same)⟩
    · exact hz.elim
  · rename_i e
    refine ⟨x.1, y.1, false, Dn.mono pb.same _ pa.dn, pb.dn, e, false, rfl, ?_⟩
    rw [if_neg (by decide)]
    exact ⟨false, rfl, hz _ (pa.same.trans pb.same)⟩
  · exact hz.elim
omit ev in
/-- a test, then what stands behind it -/
theorem oneT {a : E} {F : Fx} {ps : Ps} {H : Hp} {σ : L2.St} {τ : Tau} {α : Type} {f : Bool → R α} {p : α → Prop} {Q : Bool → Hp → Prop} (r : Rel X.K F ps H σ τ)
    (h : Sat ((evT g a τ).bind f) p (XO W xa σ H)) (q : ∀ b H1, Same H H1 → Rel X.K F ps H1 σ τ → Sat (f b) p (XO W xa σ H) → Q b H1) : tT X.K g W xa a σ H Q :=
  ⟨F, ps, τ, r, (Sat.bind.mp h).imp (fun b hx H1 e => q b H1 e (r.mono e) hx) fun _ z => z⟩
omit ev in
/-- the same result at a later heap -/
theorem later {c : E} {F : Fx} {ps : Ps} {H H1 : Hp} {σ : L2.St} {τ : Tau} {cc : E} {Q : VK} (nv : ∀ i, cc ≠ .v i) (nf : cc.fresh = false) (e : Same H H1) (r : Rel X.K F ps H1 σ τ)
    (h : Sat (evE g c τ) (fun x => ∀ v H', EPost X.K F.P0 ps H H' cc x v → Q v H') (XO W xa σ H)) : tE X.K g W xa c σ H1 Q :=
  ⟨F, ps, τ, r, h.imp (fun x hx v H' p => hx v H' ⟨e.trans p.same, p.den, by rw [lkE_nv nv]; exact Dn.elcl wo_all p.den, fun z => by rw [nf] at z; cases z⟩) fun _ z => XO.mono z e⟩
omit ev in
theorem sE_and {a : Expr} {b : Expr} {rest : List Expr} {ca cb : E} {pos : Pos} (ha : PE X a (tE X.K g W xa ca)) (hb : PE X (.BoolOp .And (b :: rest) pos) (tE X.K g W xa cb)) : PE X (.BoolOp .And (a :: b :: rest) pos) (tE X.K g W xa (.and ca cb)) := by
  refine PE.imp (pe_and ha hb) fun σ H Q h => ?_
  obtain ⟨F, ps, τ, r, h⟩ := h
  unfold evE at h
  refine one r h fun x v H1 pa r1 hz => ?_
  have dv := pa.dn
  split at hz
  · rename_i e
    rw [e] at dv; cases dv
    refine ⟨true, rfl, ?_⟩
    rw [if_pos rfl]
    exact later (fun i z => by cases z) rfl pa.same r1 hz
  · rename_i e
    rw [e] at dv; cases dv
    refine ⟨false, rfl, ?_⟩
    rw [if_neg (by decide)]
    exact hz _ _ (EPost.scal (fun i z => by cases z) pa.same (fun _ => .bl _) rfl)
  · exact hz.elim
omit ev in
theorem sE_or {a : Expr} {b : Expr} {rest : List Expr} {ca cb : E} {pos : Pos} (ha : PE X a (tE X.K g W xa ca)) (hb : PE X (.BoolOp .Or (b :: rest) pos) (tE X.K g W xa cb)) : PE X (.BoolOp .Or (a :: b :: rest) pos) (tE X.K g W xa (.or ca cb)) := by
  refine PE.imp (pe_or ha hb) fun σ H Q h => ?_
  obtain ⟨F, ps, τ, r, h⟩ := h
  unfold evE at h
  refine one r h fun x v H1 pa r1 hz => ?_
  have dv := pa.dn
  split at hz
  · rename_i e
    rw [e] at dv; cases dv
    refine ⟨true, rfl, ?_⟩
    rw [if_pos rfl]
    exact hz _ _ (EPost.scal (fun i z => by cases z) pa.same (fun _ => .bl _) rfl)
  · rename_i e
    rw [e] at dv; cases dv
    refine ⟨false, rfl, ?_⟩
    rw [if_neg (by decide)]
    exact later (fun i z => by cases z) rfl pa.same r1 hz
  · exact hz.elim
omit ev in
theorem sE_not {a : Expr} {ca : E} {pos : Pos} (ha : PE X a (tE X.K g W xa ca)) : PE X (.UnaryOp .Not a pos) (tE X.K g W xa (.not ca)) := by
  refine PE.imp (pe_not ha) fun σ H Q h => ?_
  obtain ⟨F, ps, τ, r, h⟩ := h
  unfold evE at h
  refine one r h fun x v H1 pa r1 hz => ?_
  have dv := pa.dn
  split at hz
  · rename_i b e
    rw [e] at dv; cases dv
    exact ⟨b, rfl, hz _ _ (EPost.scal (fun i z => by cases z) pa.same (fun _ => .bl _) rfl)⟩
  · exact hz.elim
omit ev in
theorem sT_not {a : Expr} {ca : E} {pos : Pos} (ha : PT X a (tT X.K g W xa ca)) : PT X (.UnaryOp .Not a pos) (tT X.K g W xa (.not ca)) := by
  refine PT.imp (pt_not ha) fun σ H Q h => ?_
  obtain ⟨F, ps, τ, r, h⟩ := h
  unfold evT at h
  exact oneT r h fun b H1 e r1 hz => hz _ e
omit ev in
theorem laterT {c : E} {F : Fx} {ps : Ps} {H H1 : Hp} {σ : L2.St} {τ : Tau} {Q : Bool → Hp → Prop} (e : Same H H1) (r : Rel X.K F ps H1 σ τ)
    (h : Sat (evT g c τ) (fun b => ∀ H', Same H H' → Q b H') (XO W xa σ H)) : tT X.K g W xa c σ H1 Q :=
  ⟨F, ps, τ, r, h.imp (fun b hx H' q => hx H' (e.trans q)) fun _ z => XO.mono z e⟩
omit ev in
theorem sW_and {a : Expr} {b : Expr} {rest : List Expr} {ca cb : E} {pos : Pos} (ha : PT X a (tT X.K g W xa ca)) (hb : PW X (.BoolOp .And (b :: rest) pos) (tT X.K g W xa cb)) : PW X (.BoolOp .And (a :: b :: rest) pos) (tT X.K g W xa (.and ca cb)) := by
  have h0 := pw_and ha hb
  refine ⟨fun wh pins s σ H Q I h => h0.run wh pins s σ H Q I ?_⟩
  obtain ⟨F, ps, τ, r, h⟩ := h
  unfold evT at h
  refine oneT r h fun b H1 e r1 hz => ?_
  cases b with
  | true => rw [if_pos rfl]; exact laterT e r1 hz
  | false => rw [if_neg (by decide)]; exact hz _ e
omit ev in
theorem sW_or {a : Expr} {b : Expr} {rest : List Expr} {ca cb : E} {pos : Pos} (ha : PT X a (tT X.K g W xa ca)) (hb : PW X (.BoolOp .Or (b :: rest) pos) (tT X.K g W xa cb)) : PW X (.BoolOp .Or (a :: b :: rest) pos) (tT X.K g W xa (.or ca cb)) := by
  have h0 := pw_or ha hb
  refine ⟨fun wh pins s σ H Q I h => h0.run wh pins s σ H Q I ?_⟩
  obtain ⟨F, ps, τ, r, h⟩ := h
  unfold evT at h
  refine oneT r h fun b H1 e r1 hz => ?_
  cases b with
  | true => rw [if_pos rfl]; exact hz _ e
  | false => rw [if_neg (by decide)]; exact laterT e r1 hz
omit ev in
theorem sE_ite {t a b : Expr} {ct ca cb : E} {pos : Pos} (ht : PT X t (tT X.K g W xa ct)) (ha : PE X a (tE X.K g W xa ca)) (hb : PE X b (tE X.K g W xa cb)) : PE X (.IfExp t a b pos) (tE X.K g W xa (.ite ct ca cb)) := by
  refine PE.imp (pe_ifExp ht ha hb) fun σ H Q h => ?_
  obtain ⟨F, ps, τ, r, h⟩ := h
  unfold evE at h
  refine oneT r h fun q H1 e r1 hz => ?_
  cases q with
  | true => rw [if_pos rfl]; exact later (fun i z => by cases z) rfl e r1 hz
  | false => rw [if_neg (by decide)]; exact later (fun i z => by cases z) rfl e r1 hz
omit ev in
theorem star_step {e : Expr} (h : isStar e = false) (es : List Expr) (env : Env) : starEach (e :: es) env = (false, eval e env) :: starEach es env := by
  cases e <;> first | rfl | (simp [isStar] at h)
omit ev in
theorem star_all {pos : Pos} {env : Env} : ∀ {es : List Expr}, es.any isStar = false → (backTo pos (starEach es env)).any (·.1) = false
  | [], _ => rfl
  | e :: es, h => by
    simp only [List.any_cons, Bool.or_eq_false_iff] at h
    rw [star_step h.1]
    show (false || (backTo pos (starEach es env)).any (·.1)) = false
    rw [star_all h.2]; rfl
omit ev in
theorem sEs {f : Expr → E} : ∀ {es : List Expr}, (∀ e ∈ es, PE X e (tE X.K g W xa (f e))) → es.any isStar = false → PA X es (tA X.K g W xa (toEs (es.map f)))
  | [], _, _ => PA.imp pa_nil fun σ H Q h => by
    obtain ⟨F, ps, τ, r, h⟩ := h
    exact h [] H ⟨Same.refl _, .nil⟩
  | e :: es, h, hs => by
    simp only [List.any_cons, Bool.or_eq_false_iff] at hs
    refine PA.imp (pa_cons (h e (by simp)) (sEs (es := es) (fun e' q => h e' (List.mem_cons_of_mem _ q)) hs.2) (star_step hs.1 _ _)) fun σ H Q h => ?_
    obtain ⟨F, ps, τ, r, h⟩ := h
    have h : Sat ((evE g (f e) τ).bind fun x => (evEs g (toEs (es.map f)) τ).bind fun y => R.ok (x.1 :: y.1, x.2 ++ y.2)) _ _ := h
    refine one r h fun x v H1 pa r1 hz => ⟨F, ps, τ, r1, (Sat.bind.mp hz).imp (fun y hy vs H2 pb => ?_) fun _ z => XO.mono z pa.same⟩
    refine hy (v :: vs) H2 ⟨pa.same.trans pb.same, .cons ?_ (pb.den.sub (PP_dr fun i hi => List.mem_append_right _ hi))⟩
    exact Dn.mono (wo_same pb.same) _ (pa.den.sub (PP_dr fun i hi => List.mem_append_left _ hi))
omit ev in
theorem sE_tup {es : List Expr} {cs : Es} {n : Nat} {pos : Pos} (h : PA X es (tA X.K g W xa cs)) : PE X (.Tuple es n pos) (tE X.K g W xa (.tup cs)) := by
  refine PE.imp (pe_tup h) fun σ H Q h => ?_
  obtain ⟨F, ps, τ, r, h⟩ := h
  unfold evE at h
  refine ⟨F, ps, τ, r, (Sat.bind.mp h).imp (fun x hx vs H1 pa => ?_) fun _ z => z⟩
  split at hx
  · rename_i c
    refine ⟨by rw [pa.den.length]; exact c, fun p hp => ?_⟩
    have r1 := r.mono pa.same
    have np : ¬ PP F.P0 (dr x.2 ps) p := fun q => by
      obtain ⟨o, h3, _⟩ := r1.there (PP_dr0 p q)
      rw [hp] at h3; cases h3
    have den : Dn X.K (wo (PP F.P0 (dr x.2 ps)) (upd H1 p (.tup vs))) (.ref p) (.tuple x.1) := .tup (.inl (.inl (wo_some.mpr ⟨np, upd_same⟩))) (DnAll.mono (wo_same (same_upd hp)) _ pa.den)
    exact hx _ _ ⟨pa.same.trans (same_upd hp), den, Dn.elcl wo_all den, fun z => by cases z⟩
  · exact hx.elim
omit ev in
theorem sE_lst {es : List Expr} {cs : Es} {pos : Pos} (h : PA X es (tA X.K g W xa cs)) : PE X (.List es pos) (tE X.K g W xa (.lst cs)) := by
  refine PE.imp (pe_lst h) fun σ H Q h => ?_
  obtain ⟨F, ps, τ, r, h⟩ := h
  unfold evE at h
  refine ⟨F, ps, τ, r, (Sat.bind.mp h).imp (fun x hx vs H1 pa => ?_) fun _ z => z⟩
  split at hx
  · rename_i c
    refine ⟨by rw [pa.den.length]; exact c, fun p hp => ?_⟩
    have r1 := r.mono pa.same
    have := EPost.of_res (K := X.K) (P0 := F.P0) (ps := ps) (H := H) (c := .lst cs) (f := true) (L := x.2) (fun i z => by cases z) (fun _ => rfl) pa.same (same_upd hp) (fun a q => r.there q) (.lst hp pa.den)
    rw [lk_isC rfl] at this
    exact hx _ _ this
  · exact hx.elim
omit ev in
theorem sE_dct0 {pos : Pos} : PE X (.Dict [] [] pos) (tE X.K g W xa .dct0) := by
  refine PE.imp pe_dnewK fun σ H Q h => ?_
  obtain ⟨F, ps, τ, r, h⟩ := h
  intro p hp
  exact h _ _ (EPost.of_res (K := X.K) (P0 := F.P0) (ps := ps) (H := H) (c := .dct0) (f := true) (L := []) (fun i z => by cases z) (fun _ => rfl) (Same.refl _) (same_upd hp) (fun a q => r.there q) (.dct hp .nil))
theorem sE_sub {a b : Expr} {ca cb : E} {pos : Pos} (ha : PE X a (tE X.K g W xa ca)) (hb : PE X b (tE X.K g W xa cb)) (hs : PlainIx b) : PE X (.Subscript a b pos) (tE X.K g W xa (.sub ca cb)) := by
  refine PE.imp (pe_ix (ix_D (hu_of ev.room)) ha hb hs) fun σ H Q h => ?_
  obtain ⟨F, ps, τ, r, h⟩ := h
  unfold evE at h
  refine two r h fun x y v u H1 H2 pa pb r2 hz => ?_
  split at hz
  · rename_i z e
    refine ⟨_, x.1, y.1, z, wo_all, pa.el2 pb.same (fun i hi => hi), pb.dn, e, fun v' hv => hz _ _ ?_⟩
    exact EPost.of_res (f := false) (fun i z => by cases z) (fun z => by cases z) (pa.same.trans pb.same) (Same.refl _) (fun a q => r.there q) (.same (fun z => by cases z) hv)
  · exact hz.elim
theorem sT_sub {a b : Expr} {ca cb : E} {pos : Pos} (ha : PE X a (tE X.K g W xa ca)) (hb : PE X b (tE X.K g W xa cb)) (hs : PlainIx b) : PT X (.Subscript a b pos) (tT X.K g W xa (.sub ca cb)) := by
  refine PT.imp (pt_truthD (pe_ix (ix_D (hu_of ev.room)) ha hb hs) fun _ => rfl) fun σ H Q h => ?_
  obtain ⟨F, ps, τ, r, h⟩ := h
  unfold evT at h
  refine two r h fun x y v u H1 H2 pa pb r2 hz => ?_
  cases e : subD x.1 y.1 with
  | none => rw [e] at hz; exact hz.elim
  | some z =>
    rw [e] at hz
    cases e' : truD z with
    | none =>
      have hz : Sat (R.of (truD z)) _ _ := hz
      rw [e'] at hz; exact hz.elim
    | some q =>
      have hz : Sat (R.of (truD z)) _ _ := hz
      rw [e'] at hz
      exact ⟨_, x.1, y.1, z, wo_all, pa.el2 pb.same (fun i hi => hi), pb.dn, e, fun v' hv => ⟨z, q, hv.full, e', hz _ (pa.same.trans pb.same)⟩⟩
/-! ### dicts of the module -/
theorem gdName_ok {e : Expr} {i : Nat} (h : gdName c sc e = some i) : ∃ d kds, PE X e (tC (.ref d)) ∧ g.gd i = some kds ∧ GdAt X.K X.w d kds ∧ isSet e = false := by
  unfold gdName at h
  split at h
  · rename_i x pos
    split at h
    · rename_i hc
      simp only [Bool.and_eq_true] at hc
      obtain ⟨d, kds, h1, h2, h3⟩ := ev.gd i x h
      obtain ⟨o1, _, _⟩ := ok_names hc.1
      exact ⟨d, kds, pe_glob (ev.gl_of hc.2) h1 rfl o1, h2, h3, rfl⟩
    · cases h
  · cases h
omit ev in
theorem gin_rd {kds : List (Str × D)} {d : Addr} {x : D} {b : Bool} {v : V} {H : Hp} (G : GdAt X.K X.w d kds) (h : gdIn (some kds) x = some b) (hd : Dn X.K H v x) :
    ∃ (z : Str) (r : Option Value), v = .str z ∧ PySem.W.nsIn X.K d z = some r ∧ r.isSome = b := by
  unfold gdIn at h
  split at h
  · rename_i kds' z e
    cases e
    cases hd
    have q := G.get z
    have h := Option.some.inj h
    cases hg : gdGet z kds with
    | none => rw [hg] at q h; exact ⟨z, none, rfl, q, by rw [← h]; rfl⟩
    | some dd => rw [hg] at q h; obtain ⟨u, w, q1, _, _⟩ := q; exact ⟨z, some u, rfl, q1, by rw [← h]; rfl⟩
  · cases h
theorem sE_gin {a b : Expr} {ca : E} {i : Nat} {pos : Pos} (ha : PE X a (tE X.K g W xa ca)) (hb : gdName c sc b = some i) (hm : behindInMarks .In b = false) : PE X (.Compare a [.In] [b] pos) (tE X.K g W xa (.gin false i ca)) := by
  obtain ⟨d, kds, h1, h2, h3, _⟩ := gdName_ok ev hb
  obtain ⟨es, n, kd⟩ := h3.kd
  refine PE.imp (pe_cmpR (op_in_kd kd) ha h1 hm) fun σ H Q h => ?_
  obtain ⟨F, ps, τ, r, h⟩ := h
  unfold evE at h
  rw [h2] at h
  refine one r h fun x v H1 pa r1 hz => ?_
  split at hz
  · rename_i z e
    obtain ⟨s, r', e1, e2, e3⟩ := gin_rd h3 e pa.dn
    refine ⟨s, r', e1, rfl, e2, ?_⟩
    rw [e3]
    exact hz _ _ (EPost.scal (fun i z => by cases z) pa.same (fun _ => by rw [Bool.false_bne]; exact .bl _) rfl)
  · exact hz.elim
theorem sE_gnin {a b : Expr} {ca : E} {i : Nat} {pos : Pos} (ha : PE X a (tE X.K g W xa ca)) (hb : gdName c sc b = some i) (hm : behindInMarks .NotIn b = false) : PE X (.Compare a [.NotIn] [b] pos) (tE X.K g W xa (.gin true i ca)) := by
  obtain ⟨d, kds, h1, h2, h3, _⟩ := gdName_ok ev hb
  obtain ⟨es, n, kd⟩ := h3.kd
  refine PE.imp (pe_cmpR (op_notIn_kd kd) ha h1 hm) fun σ H Q h => ?_
  obtain ⟨F, ps, τ, r, h⟩ := h
  unfold evE at h
  rw [h2] at h
  refine one r h fun x v H1 pa r1 hz => ?_
  split at hz
  · rename_i z e
    obtain ⟨s, r', e1, e2, e3⟩ := gin_rd h3 e pa.dn
    refine ⟨s, r', e1, rfl, e2, ?_⟩
    rw [e3]
    exact hz _ _ (EPost.scal (fun i z => by cases z) pa.same (fun _ => by rw [Bool.true_bne]; exact .bl _) rfl)
  · exact hz.elim
theorem sT_gin {a b : Expr} {ca : E} {i : Nat} {pos : Pos} (ha : PE X a (tE X.K g W xa ca)) (hb : gdName c sc b = some i) (hm : behindInMarks .In b = false) : PT X (.Compare a [.In] [b] pos) (tT X.K g W xa (.gin false i ca)) := by
  obtain ⟨d, kds, h1, h2, h3, _⟩ := gdName_ok ev hb
  obtain ⟨es, n, kd⟩ := h3.kd
  refine PT.imp (pt_cmpR (op_in_kd kd) ha h1 hm) fun σ H Q h => ?_
  obtain ⟨F, ps, τ, r, h⟩ := h
  unfold evT at h
  rw [h2] at h
  refine one r h fun x v H1 pa r1 hz => ?_
  cases e : gdIn (some kds) x.1 with
  | none => rw [e] at hz; exact hz.elim
  | some z =>
    rw [e] at hz
    obtain ⟨s, r', e1, e2, e3⟩ := gin_rd h3 e pa.dn
    refine ⟨s, r', e1, rfl, e2, _, rfl, ?_⟩
    rw [e3]
    have := hz H1 pa.same
    rwa [Bool.false_bne] at this
theorem sT_gnin {a b : Expr} {ca : E} {i : Nat} {pos : Pos} (ha : PE X a (tE X.K g W xa ca)) (hb : gdName c sc b = some i) (hm : behindInMarks .NotIn b = false) : PT X (.Compare a [.NotIn] [b] pos) (tT X.K g W xa (.gin true i ca)) := by
  obtain ⟨d, kds, h1, h2, h3, _⟩ := gdName_ok ev hb
  obtain ⟨es, n, kd⟩ := h3.kd
  refine PT.imp (pt_cmpR (op_notIn_kd kd) ha h1 hm) fun σ H Q h => ?_
  obtain ⟨F, ps, τ, r, h⟩ := h
  unfold evT at h
  rw [h2] at h
  refine one r h fun x v H1 pa r1 hz => ?_
  cases e : gdIn (some kds) x.1 with
  | none => rw [e] at hz; exact hz.elim
  | some z =>
    rw [e] at hz
    obtain ⟨s, r', e1, e2, e3⟩ := gin_rd h3 e pa.dn
    refine ⟨s, r', e1, rfl, e2, _, rfl, ?_⟩
    rw [e3]
    have := hz H1 pa.same
    rwa [Bool.true_bne] at this
theorem sE_gix {a b : Expr} {cb : E} {i : Nat} {pos : Pos} (ha : gdName c sc a = some i) (hb : PE X b (tE X.K g W xa cb)) (hs : PlainIx b) : PE X (.Subscript a b pos) (tE X.K g W xa (.gix i cb)) := by
  obtain ⟨d, kds, h1, h2, h3, _⟩ := gdName_ok ev ha
  refine PE.imp (pe_ix ix_kdict h1 hb hs) fun σ H Q h => ?_
  obtain ⟨F, ps, τ, r, h⟩ := h
  unfold evE at h
  rw [h2] at h
  refine one r h fun x v H1 pa r1 hz => ?_
  split at hz
  · rename_i z e
    unfold gdIx at e
    split at e
    · rename_i kds' s e0 e1
      cases e0
      have hd := pa.dn
      rw [e1] at hd
      cases hd
      have q := h3.get s
      rw [e] at q
      obtain ⟨u, w, q1, q2, q3⟩ := q
      obtain ⟨es, n, l1, l2⟩ := h3.at_
      refine ⟨d, s, w, rfl, rfl, ⟨es, n, u, l1, l2.lit, q1, q2⟩, ?_⟩
      exact hz _ _ ⟨pa.same, q3 _, Dn.elcl wo_all (q3 _), fun z => by cases z⟩
    · cases e
  · exact hz.elim
/-! ### a written display -/
omit ev in
theorem kOf_ok {e : Expr} {d : D} (h : kOf e = some d) : ∃ v, PE X e (tC v) ∧ ∀ H, Dn X.K H v d := by
  unfold kOf at h
  split at h <;> cases h
  · exact ⟨_, pe_int, fun _ => .int _⟩
  · exact ⟨_, pe_bl, fun _ => .bl _⟩
  · exact ⟨_, pe_non, fun _ => .non⟩
  · exact ⟨_, pe_str, fun _ => .str _⟩
omit ev in
theorem putK_new {kvs : List (Key × V)} {k : Key} {v : V} (h : ∀ p ∈ kvs, p.1 ≠ k) : putK kvs k v = kvs ++ [(k, v)] := by
  unfold putK
  rw [if_neg]
  intro hc
  rw [List.any_eq_true] at hc
  obtain ⟨p, h1, h2⟩ := hc
  exact h p h1 (of_decide_eq_true h2)
omit ev in
theorem mergeK_new : ∀ {more kvs : List (Key × V)}, ((kvs ++ more).map (·.1)).Nodup → mergeK kvs more = kvs ++ more
  | [], kvs, _ => by unfold mergeK; simp
  | (k, v) :: more, kvs, h => by
    have e : kvs ++ (k, v) :: more = (kvs ++ [(k, v)]) ++ more := by simp
    have hk : ∀ p ∈ kvs, p.1 ≠ k := fun p hp q => by
      rw [List.map_append, List.nodup_append] at h
      exact h.2.2 p.1 (List.mem_map_of_mem hp) k (by simp) q
    show mergeK (putK kvs k v) more = _
    rw [putK_new hk, mergeK_new (by rw [← e]; exact h), e]
omit ev in
theorem kds_ok {pos : Pos} : ∀ {ks : List (Option Expr)} {vs : List Expr} {kds : List (Str × D)}, kdsOf ks vs = some kds → ∃ (trs : List (TE × TE)) (kvs : List (Key × V)), PPs X pos ks vs trs ∧
    (∀ σ H Q, Q (kvs.map fun kv => (kV kv.1, kv.2)) H → tPairs trs σ H Q) ∧ ks.all (·.isSome) = true ∧ ks.length = vs.length ∧ kvs.length = ks.length ∧ kvs.map (·.1) = kds.map (fun p => Sum.inr p.1) ∧ (kds.map (·.1)).Nodup ∧ ∀ H, DnKV X.K H kvs (kds.map fun p => (.str p.1, p.2))
  | [], [], _, h => by cases h; exact ⟨[], [], pps_nil, fun _ _ _ q => q, rfl, rfl, rfl, rfl, List.nodup_nil, fun _ => .nil⟩
  | k :: ks, v :: vs, kds, h => by
    unfold kdsOf at h
    split at h
    · rename_i x d r hx hd hr
      split at h
      · cases h
      · rename_i hn
        cases h
        obtain ⟨trs, kvs, q1, q2, q3, q4, q5, q6, q7, q8⟩ := kds_ok (pos := pos) hr
        obtain ⟨w, w1, w2⟩ := kOf_ok (X := X) hd
        unfold strOf at hx
        split at hx
        · cases hx
          refine ⟨(tC (.str x), tC w) :: trs, (.inr x, w) :: kvs, pps_cons pe_str w1 q1, fun σ H Q q => ?_, by simpa using q3, by simp [q4], by simp [q5], by simp [q6], ?_, fun H => .str (w2 H) (q8 H)⟩
          · exact q2 _ _ _ q
          · rw [List.map_cons, List.nodup_cons]
            refine ⟨fun z => hn ?_, q7⟩
            obtain ⟨p, z1, z2⟩ := List.mem_map.mp z
            rw [List.any_eq_true]
            exact ⟨p, z1, by simp [z2]⟩
        · cases hx
    · cases h
  | [], _ :: _, _, h => by cases h
  | _ :: _, [], _, h => by cases h
omit ev in
theorem sE_dctK {ks : List (Option Expr)} {vs : List Expr} {kds : List (Str × D)} {pos : Pos} (h : kdsOf ks vs = some kds) (hn : ks ≠ []) (h15 : ks.length ≤ 15) : PE X (.Dict ks vs pos) (tE X.K g W xa (.dctK kds)) := by
  obtain ⟨trs, kvs, q1, q2, q3, q4, q5, q6, q7, q8⟩ := kds_ok (X := X) (pos := pos) h
  refine PE.imp (pe_disp q1 q3 q4 hn h15) fun σ H Q h => ?_
  obtain ⟨F, ps, τ, r, h⟩ := h
  intro p hp
  refine q2 _ _ _ ⟨upd_same, kvs, rfl, by rw [q5]; exact h15, ?_⟩
  have e1 : mergeK [] kvs = kvs := mergeK_new (kvs := []) (by
    show (kvs.map (·.1)).Nodup
    rw [q6, show (kds.map fun p => (Sum.inr p.1 : Key)) = (kds.map (·.1)).map Sum.inr by rw [List.map_map]; rfl]
    exact q7.map _ fun a b hab z => hab (Sum.inr.inj z))
  have e2 : upd (upd H p (.dK [])) p (.dK kvs) = upd H p (.dK kvs) := by
    funext a
    unfold upd
    split <;> rfl
  rw [e1, e2]
  exact h _ _ (EPost.of_res (K := X.K) (P0 := F.P0) (ps := ps) (H := H) (c := .dctK kds) (f := true) (L := []) (fun i z => by cases z) (fun _ => rfl) (Same.refl _) (same_upd hp) (fun a q => r.there q) (.dct hp (q8 _)))
end
end Mp

/-! MiniPy, part G: calls, built-ins, slices, what is walked, targets. -/
namespace Mp
open PySem PySem.Spec PyProof.Rows L2
section
variable {X : Cx} {c : Cfg} {sc : Scope} {g : G} {k : Nat} {W : WX} {xa : XA} (ev : Envr X c sc g k W xa)
include ev
/-! ### slices -/
def tO (K : PySem.W.Frag) (g : G) (W : WX) (xa : XA) (o : O) : TO := fun σ H Q => ∃ F ps τ, Rel K F ps H σ τ ∧ Sat (evO g o τ) (fun l => ∀ H', Same H H' → Q l H') (XO W xa σ H)
omit ev in
theorem sO_no : PO X none (tO X.K g W xa .no) := ⟨fun pins s σ H Q I h => po_none.run pins s σ H Q I (by
  obtain ⟨F, ps, τ, r, h⟩ := h
  exact h H (Same.refl _))⟩
omit ev in
theorem sO_yes {e : Expr} {ce : E} (he : PE X e (tE X.K g W xa ce)) : PO X (some e) (tO X.K g W xa (.yes ce)) := ⟨fun pins s σ H Q I h => (po_some he).run pins s σ H Q I (by
  obtain ⟨F, ps, τ, r, h⟩ := h
  unfold evO at h
  refine one r h fun x v H1 pa r1 hz => ?_
  split at hz
  · rename_i i e
    have := pa.dn
    rw [e] at this; cases this
    exact ⟨i, rfl, hz _ pa.same⟩
  · exact hz.elim)⟩
omit ev in
theorem sE_sli {a : Expr} {lo hi : Option Expr} {ca : E} {cl ch : O} {p2 pos : Pos} (ha : PE X a (tE X.K g W xa ca)) (hl : PO X lo (tO X.K g W xa cl)) (hh : PO X hi (tO X.K g W xa ch)) :
    PE X (.Subscript a (.Slice lo hi none p2) pos) (tE X.K g W xa (.sli ca cl ch)) := by
  refine PE.imp (pe_slice sl_D ha hl hh) fun σ H Q h => ?_
  obtain ⟨F, ps, τ, r, h⟩ := h
  unfold evE at h
  refine one r h fun x v H1 pa r1 hz => ⟨F, ps, τ, r1, (Sat.bind.mp hz).imp (fun l hl H2 e2 => ⟨F, ps, τ, r1.mono e2, (Sat.bind.mp hl).imp (fun u hu H3 e3 => ?_) fun _ z => XO.mono z (pa.same.trans e2)⟩) fun _ z => XO.mono z pa.same⟩
  split at hu
  · rename_i z e
    exact ⟨_, x.1, z, wo_all, pa.el2 (e2.trans e3) (fun i hi => hi), e, fun v' H' rs => hu _ _ (EPost.of_res (fun i z => by cases z) (fun _ => rfl) ((pa.same.trans e2).trans e3) rs.same' (fun a q => r.there q) rs)⟩
  · exact hu.elim
omit ev in
theorem sE_rev {a : Expr} {ca : E} {j : Nat} {p1 p2 p3 pos : Pos} (ha : PE X a (tE X.K g W xa ca)) :
    PE X (.Subscript a (.Slice none none (some (.UnaryOp .USub (.Constant (.int 1) j p1) p2)) p3) pos) (tE X.K g W xa (.rev ca)) := by
  refine PE.imp (pe_revA ha) fun σ H Q h => ?_
  obtain ⟨F, ps, τ, r, h⟩ := h
  unfold evE at h
  refine one r h fun x v H1 pa r1 hz => ?_
  obtain ⟨d, L⟩ := x
  cases d with
  | list ds =>
    obtain ⟨b, vs, rfl, h1, h2⟩ := pa.el
    exact ⟨b, vs, rfl, .inl ⟨h1.sq, fun p hp => hz _ _ (EPost.of_res (fun i z => by cases z) (fun _ => rfl) pa.same (same_upd hp) (fun a q => r.there q) (.lst hp h2.reverse))⟩⟩
  | tuple ds =>
    obtain ⟨b, vs, rfl, h1, h2⟩ := dn_tup (show Dn X.K _ v (.tuple ds) from pa.el)
    exact ⟨b, vs, rfl, .inr ⟨Same.seqT wo_all h1, fun p hp => hz _ _ (EPost.of_res (f := true) (fun i z => by cases z) (fun _ => rfl) pa.same (same_upd hp) (fun a q => r.there q) (.tup hp h2.reverse))⟩⟩
  | _ => exact hz.elim
/-! ### calls -/
omit ev in
theorem mark_nil : ∀ (i : Nat) (ds : List D), mark [] i ds = ds.map fun d => some (false, d)
  | _, [] => rfl
  | i, d :: ds => by
    show some (([] : List Nat).contains i && isC d, d) :: mark [] (i + 1) ds = _
    rw [mark_nil (i + 1) ds]; rfl
omit ev in
theorem rel_args {fl : Bool} {K : PySem.W.Frag} {P : Addr → Prop} {H : Hp} {vs : List V} {ds : List D} (h : DnAll K (wo P H) vs ds) (hP : ∀ a, P a → ∃ o, H a = some o ∧ IsCo o) :
    Rel K ⟨H, fun a => ∃ i b, (fun _ _ => none : Ps) i b = some a, P, ioM [] fl, fun _ _ => none, fun a => H a = none⟩ (fun _ _ => none) H (vs.map some) (mark [] 0 ds) := by
  rw [mark_nil]
  have hpp : ∀ a, PP P (fun _ _ => none) a → P a := fun a z => z.elim (fun q => q) fun ⟨_, _, q⟩ => by cases q
  refine ⟨by simp [h.length], fun i d e => ?_, fun i d e => ?_, fun i b p e => (by cases e), fun i j b c p e => (by cases e), fun i b p e => (by cases e), fun a o e _ => e, fun i b p e => (by cases e), hP, fun i _ => .inl rfl, fun i b p e => (by cases e), fun a h => h⟩
  · rw [List.getElem?_map] at e
    obtain ⟨_, _, e2⟩ := Option.map_eq_some_iff.mp e
    cases e2
  · rw [List.getElem?_map] at e
    obtain ⟨d', e1, e2⟩ := Option.map_eq_some_iff.mp e
    cases e2
    obtain ⟨v, h1, h2⟩ := h.get e1
    exact ⟨v, by rw [List.getElem?_map, h1]; rfl, h2.sub hpp⟩
omit ev in
/-- a call's promise, from its meaning, where it changes nothing -/
theorem spD_pureF {fl : Bool} {K : PySem.W.Frag} {cf : List D → R (D × List D)} {P : Addr → Prop} {H : Hp} {vs : List V} {ds : List D} {Q : VK} {E : XK} (h : DnAll K (wo P H) vs ds) (hP : ∀ a, P a → ∃ o, H a = some o ∧ IsCo o)
    (q : Sat (cf ds) (fun r => r.2 = [] → ∀ v H', Same H H' → Dn K (wo P H') v r.1 → (fl = true → isC r.1 = true → ∃ p, v = .ref p ∧ H p = none ∧ OwnAt K H' (fun a => a = p ∨ P a) p none r.1) → Q v H') (fun x => ∀ cls dd H', Same H H' → xa x cls dd H' → E cls dd H')) : spD K cf [] fl xa vs H Q E := by
  refine ⟨_, _, ds, rel_args h hP, rfl, rfl, rfl, rfl, rfl, q.imp (fun r hr v H' p => ?_) fun x hx cls dd H' k => hx cls dd H' fun a o e => k a o e fun ⟨_, _, z⟩ => by cases z⟩
  refine hr ?_ v H' (fun a o e => p.keep a o e fun ⟨_, _, z⟩ => by cases z) (p.den.sub fun a z => .inl z) fun h1 h2 => ?_
  · have := p.len
    simpa using this
  · obtain ⟨a, e1, e2, e3⟩ := p.fr h1 h2
    exact ⟨a, e1, e2, e3.mono (fun _ z => z) (fun _ _ _ z => z) (wo_sub fun b z => z.imp id fun z => .inl z)⟩
omit ev in
theorem spD_pure {fl : Bool} {K : PySem.W.Frag} {cf : List D → R (D × List D)} {P : Addr → Prop} {H : Hp} {vs : List V} {ds : List D} {Q : VK} {E : XK} (h : DnAll K (wo P H) vs ds) (hP : ∀ a, P a → ∃ o, H a = some o ∧ IsCo o)
    (q : Sat (cf ds) (fun r => r.2 = [] → ∀ v H', Same H H' → Dn K (wo P H') v r.1 → Q v H') (fun x => ∀ cls dd H', Same H H' → xa x cls dd H' → E cls dd H')) : spD K cf [] fl xa vs H Q E :=
  spD_pureF h hP (q.imp (fun r hr h0 v H' e d _ => hr h0 v H' e d) fun _ z => z)
theorem pe_call0S {CX : CXT} {sp : Sp} {E : L2.St → XK} {f : Addr} {fd : FuncData} {qs : List Str} {x : Str} {p pos : Pos} (F : FnOk X.prog X.w X.K X.mg X.base CX k f fd qs sp) (hr : Room k X.A) (hg : Gl X x) (hm : X.mg x = some (.ref f)) (hk : PySem.W.keepIn X.K (.ref f) = true) (hb : Binds X.K fd qs []) (hx : ∀ σ, PassesAt CX X σ (E σ))
    (hdb : (x == ("__debug__" : Str)) = false := by decide) : PE X (.Call (.Name x p) [] [] pos) (tCallS sp E tNil) := by
  refine ⟨fun pins s σ H Q I h => ?_⟩
  refine wpAny_Call_Name_kw (ld_glob I hg hm ?_ hdb)
  exact PySem.W.callWith_K0 I.kIn hk (run_fnS (us := []) F hr hb (hx σ) I .nil h)
/-- the reading of a call of the text's own, changing nothing -/
theorem call_rd {f : Nat} {cs : Es} (hio : g.io f = []) {F : Fx} {ps : Ps} {H : Hp} {σ : L2.St} {τ : Tau} (r : Rel X.K F ps H σ τ) {α : Type} {h : D × List D → List D × List Nat → R α} {p : α → Prop} {Q : VK}
    (hs : Sat ((evEs g cs τ).bind fun x => (g.cf f x.1).bind fun q => h q x) p (XO W xa σ H))
    (hq : ∀ q x v H', q.2 = [] → Same H H' → Dn X.K (wo (PP F.P0 (dr x.2 ps)) H') v q.1 → (g.fr f = true → isC q.1 = true → ∃ a, v = .ref a ∧ H a = none ∧ OwnAt X.K H' (fun b => b = a ∨ PP F.P0 (dr x.2 ps) b) a none q.1) → Sat (h q x) p (XO W xa σ H) → Q v H') : tCallS (spD X.K (g.cf f) (g.io f) (g.fr f) xa) (WE W) (tA X.K g W xa cs) σ H Q := by
  refine ⟨F, ps, τ, r, (Sat.bind.mp hs).imp (fun x hx vs H1 pa => ?_) fun _ z => z⟩
  rw [hio]
  have r1 := r.mono pa.same
  refine spD_pureF pa.den (fun a z => r1.there (PP_dr0 a z)) ((Sat.bind.mp hx).imp (fun q hq' h0 v H' e den fr => ?_) fun x z cls dd H' e => z cls dd H' (pa.same.trans e))
  exact hq q x v H' h0 (pa.same.trans e) den (fun z1 z2 => let ⟨a, y1, y2, y3⟩ := fr z1 z2; ⟨a, y1, Same.none pa.same y2, y3⟩) hq'
theorem sE_call {x : Str} {args : List Expr} {f : Nat} {cs : Es} {p pos : Pos} (ho : okName x = true) (hg : isGl sc x = true) (hf : noOf x c.fns = some f) (hs : args.any isStar = false) (hn : args = [] → cs = .nil) (ha : PA X args (tA X.K g W xa cs)) :
    PE X (.Call (.Name x p) args [] pos) (tE X.K g W xa (.call f cs)) := by
  obtain ⟨a, fd, qs, h1, h2, h3, h4⟩ := ev.fn f x hf
  obtain ⟨o1, _, _⟩ := ok_names ho
  have main : PE X (.Call (.Name x p) args [] pos) (tCallS (spD X.K (g.cf f) (g.io f) (g.fr f) xa) (WE W) (tA X.K g W xa cs)) := by
    cases args with
    | nil =>
      obtain rfl := hn rfl
      refine PE.imp (pe_call0S ev h4 ev.room (ev.gl_of hg) h1 h2 h3 (fun σ => passAt ev.tk σ) o1) fun σ H Q h => ?_
      obtain ⟨F, ps, τ, r, h⟩ := h
      exact h [] H ⟨Same.refl _, .nil⟩
    | cons e es =>
      simp only [List.any_cons, Bool.or_eq_false_iff] at hs
      exact pe_callS h4 ev.room (ev.gl_of hg) h1 h2 h3 (fun σ => passAt ev.tk σ) ha o1 (star_step hs.1 _ _) (star_all hs.2)
  refine PE.imp main fun σ H Q h => ?_
  obtain ⟨F, ps, τ, r, h⟩ := h
  unfold evE at h
  split at h
  · rename_i hio
    refine call_rd ev hio r h fun q x v H' h0 e den _ hz => ?_
    rw [h0] at hz
    refine hz v H' ?_
    have den' := lk_dn (fun a z => let ⟨o, q1, q2⟩ := r.there z; ⟨o, e _ _ q1, q2⟩) den
    exact ⟨e, den', Dn.elcl wo_all den', fun z => by cases z⟩
  · exact h.elim
theorem sE_callMain {x : Str} {args : List Expr} {f : Nat} {cs : Es} {p pos : Pos} (ho : okName x = true) (hg : isGl sc x = true) (hf : noOf x c.fns = some f) (hs : args.any isStar = false) (hn : args = [] → cs = .nil) (ha : PA X args (tA X.K g W xa cs)) :
    PE X (.Call (.Name x p) args [] pos) (tCallS (spD X.K (g.cf f) (g.io f) (g.fr f) xa) (WE W) (tA X.K g W xa cs)) := by
  obtain ⟨a, fd, qs, h1, h2, h3, h4⟩ := ev.fn f x hf
  obtain ⟨o1, _, _⟩ := ok_names ho
  cases args with
  | nil =>
    obtain rfl := hn rfl
    refine PE.imp (pe_call0S ev h4 ev.room (ev.gl_of hg) h1 h2 h3 (fun σ => passAt ev.tk σ) o1) fun σ H Q h => ?_
    obtain ⟨F, ps, τ, r, h⟩ := h
    exact h [] H ⟨Same.refl _, .nil⟩
  | cons e es =>
    simp only [List.any_cons, Bool.or_eq_false_iff] at hs
    exact pe_callS h4 ev.room (ev.gl_of hg) h1 h2 h3 (fun σ => passAt ev.tk σ) ha o1 (star_step hs.1 _ _) (star_all hs.2)
theorem sT_call {x : Str} {args : List Expr} {f : Nat} {cs : Es} {p pos : Pos} (ho : okName x = true) (hg : isGl sc x = true) (hf : noOf x c.fns = some f) (hs : args.any isStar = false) (hn : args = [] → cs = .nil) (ha : PA X args (tA X.K g W xa cs)) :
    PT X (.Call (.Name x p) args [] pos) (tT X.K g W xa (.call f cs)) := by
  refine PT.imp (pt_truthD (sE_callMain ev ho hg hf hs hn ha) fun _ => rfl) fun σ H Q h => ?_
  obtain ⟨F, ps, τ, r, h⟩ := h
  unfold evT at h
  split at h
  · rename_i hio
    refine call_rd ev hio r h fun q x v H' h0 e den _ hz => ?_
    rw [h0] at hz
    cases e' : truD q.1 with
    | none =>
      have hz : Sat (R.of (truD q.1)) _ _ := hz
      rw [e'] at hz; exact hz.elim
    | some z =>
      have hz : Sat (R.of (truD q.1)) _ _ := hz
      rw [e'] at hz
      exact ⟨q.1, z, den.full, e', hz _ e⟩
  · exact h.elim
/-! ### names as tests -/
theorem sT_v {x : Str} {i : Nat} {pos : Pos} (ho : okName x = true) (hv : isVis sc x = true) (hi : ixOf x c.N = some i) : PT X (.Name x pos) (tT X.K g W xa (.v i)) := by
  refine PT.imp (pt_truthD (sE_v ev ho hv hi) fun _ => rfl) fun σ H Q h => ?_
  obtain ⟨F, ps, τ, r, h⟩ := h
  refine ⟨F, ps, τ, r, ?_⟩
  unfold evT at h
  unfold evE
  split
  · rename_i o d e
    rw [e] at h
    have h : Sat (vT o d) _ _ := h
    unfold vT at h
    unfold vO
    have fin : Sat (R.of (truD d)) (fun b => ∀ H', Same H H' → Q b H') (XO W xa σ H) → ∀ L, Sat (R.ok (d, L)) (fun x => ∀ v H', EPost X.K F.P0 ps H H' (.v i) x v → ∃ d z, Dn X.K H' v d ∧ truD d = some z ∧ Q z H') (XO W xa σ H) := fun h L => by
      cases e' : truD d with
      | none => rw [e'] at h; exact h.elim
      | some z =>
        rw [e'] at h
        exact fun v H' pa => ⟨d, z, pa.dn, e', h _ pa.same⟩
    cases o with
    | false => exact fin h _
    | true =>
      dsimp only at h ⊢
      split at h
      · exact h.elim
      · exact fin h _
  · rename_i hn
    split at h
    · rename_i o d e; exact (hn _ _ e).elim
    · exact h.elim
/-! ### built-ins -/
omit ev in
theorem boot1 {x : Str} {f : Bi} (h : biOf1 x = some f) : bootBuiltins x = some f.val ∧ x ≠ "__name__" ∧ (x == ("__debug__" : Str)) = false ∧ f ≠ .bitlen := by
  unfold biOf1 at h
  by_cases h1 : x = "len"
  · rw [if_pos h1] at h; cases h; subst h1; exact ⟨by decide +kernel, by decide, by decide, by decide⟩
  rw [if_neg h1] at h
  by_cases h1 : x = "int"
  · rw [if_pos h1] at h; cases h; subst h1; exact ⟨by decide +kernel, by decide, by decide, by decide⟩
  rw [if_neg h1] at h
  by_cases h1 : x = "abs"
  · rw [if_pos h1] at h; cases h; subst h1; exact ⟨by decide +kernel, by decide, by decide, by decide⟩
  rw [if_neg h1] at h
  by_cases h1 : x = "max"
  · rw [if_pos h1] at h; cases h; subst h1; exact ⟨by decide +kernel, by decide, by decide, by decide⟩
  rw [if_neg h1] at h
  by_cases h1 : x = "min"
  · rw [if_pos h1] at h; cases h; subst h1; exact ⟨by decide +kernel, by decide, by decide, by decide⟩
  rw [if_neg h1] at h
  by_cases h1 : x = "tuple"
  · rw [if_pos h1] at h; cases h; subst h1; exact ⟨by decide +kernel, by decide, by decide, by decide⟩
  rw [if_neg h1] at h
  by_cases h1 : x = "list"
  · rw [if_pos h1] at h; cases h; subst h1; exact ⟨by decide +kernel, by decide, by decide, by decide⟩
  rw [if_neg h1] at h
  by_cases h1 : x = "sum"
  · rw [if_pos h1] at h; cases h; subst h1; exact ⟨by decide +kernel, by decide, by decide, by decide⟩
  rw [if_neg h1] at h
  by_cases h1 : x = "any"
  · rw [if_pos h1] at h; cases h; subst h1; exact ⟨by decide +kernel, by decide, by decide, by decide⟩
  rw [if_neg h1] at h
  by_cases h1 : x = "all"
  · rw [if_pos h1] at h; cases h; subst h1; exact ⟨by decide +kernel, by decide, by decide, by decide⟩
  rw [if_neg h1] at h
  by_cases h1 : x = "str"
  · rw [if_pos h1] at h; cases h; subst h1; exact ⟨by decide +kernel, by decide, by decide, by decide⟩
  rw [if_neg h1] at h
  cases h
omit ev in
theorem boot2 {x : Str} {f : Bi} (h : biOf2 x = some f) : bootBuiltins x = some f.val ∧ x ≠ "__name__" ∧ (x == ("__debug__" : Str)) = false ∧ f ≠ .bitlen := by
  unfold biOf2 at h
  by_cases h1 : x = "max"
  · rw [if_pos h1] at h; cases h; subst h1; exact ⟨by decide +kernel, by decide, by decide, by decide⟩
  rw [if_neg h1] at h
  by_cases h1 : x = "min"
  · rw [if_pos h1] at h; cases h; subst h1; exact ⟨by decide +kernel, by decide, by decide, by decide⟩
  rw [if_neg h1] at h
  cases h
/-- any built-in's call -/
theorem pe_bi {x : Str} {f : Bi} {e : Expr} {es : List Expr} {t : TA} {p pos : Pos} (hv : bootBuiltins x = some f.val) (hb : f ≠ .bitlen) (hn : x ≠ "__name__") (hd : (x == ("__debug__" : Str)) = false) (hg : isGl sc x = true) (hm : c.bis.contains x = true)
    (hs : (e :: es).any isStar = false) (ha : PA X (e :: es) t) : PE X (.Call (.Name x p) (e :: es) [] pos) (tCB (rBi X.K f) t) := by
  simp only [List.any_cons, Bool.or_eq_false_iff] at hs
  have hc := call_bi (X := X) ev.calm hb
  cases f with
  | bitlen => exact absurd rfl hb
  | len => exact pe_callB hc (ev.gl_of hg) (ev.bi x hm) hv ha hn hd (star_step hs.1 _ _) (star_all hs.2)
  | abs => exact pe_callB hc (ev.gl_of hg) (ev.bi x hm) hv ha hn hd (star_step hs.1 _ _) (star_all hs.2)
  | max => exact pe_callB hc (ev.gl_of hg) (ev.bi x hm) hv ha hn hd (star_step hs.1 _ _) (star_all hs.2)
  | min => exact pe_callB hc (ev.gl_of hg) (ev.bi x hm) hv ha hn hd (star_step hs.1 _ _) (star_all hs.2)
  | sum => exact pe_callB hc (ev.gl_of hg) (ev.bi x hm) hv ha hn hd (star_step hs.1 _ _) (star_all hs.2)
  | any => exact pe_callB hc (ev.gl_of hg) (ev.bi x hm) hv ha hn hd (star_step hs.1 _ _) (star_all hs.2)
  | all => exact pe_callB hc (ev.gl_of hg) (ev.bi x hm) hv ha hn hd (star_step hs.1 _ _) (star_all hs.2)
  | sorted => exact pe_callB hc (ev.gl_of hg) (ev.bi x hm) hv ha hn hd (star_step hs.1 _ _) (star_all hs.2)
  | int => exact pe_callTy hc (ev.gl_of hg) (ev.bi x hm) hv ha hn hd (star_step hs.1 _ _) (star_all hs.2)
  | tuple => exact pe_callTy hc (ev.gl_of hg) (ev.bi x hm) hv ha hn hd (star_step hs.1 _ _) (star_all hs.2)
  | list => exact pe_callTy hc (ev.gl_of hg) (ev.bi x hm) hv ha hn hd (star_step hs.1 _ _) (star_all hs.2)
  | str => exact pe_callTy hc (ev.gl_of hg) (ev.bi x hm) hv ha hn hd (star_step hs.1 _ _) (star_all hs.2)
  | bool => exact pe_callTy hc (ev.gl_of hg) (ev.bi x hm) hv ha hn hd (star_step hs.1 _ _) (star_all hs.2)
omit ev in
theorem fresh_bi {f : Bi} {es : Es} (h : (E.bi f es).fresh = true) : (f == Bi.list) = true := by
  cases f <;> first | rfl | (simp [E.fresh] at h)
/-- one argument -/
theorem bi1_rd {f : Bi} {ca : E} {F : Fx} {ps : Ps} {H : Hp} {σ : L2.St} {τ : Tau} {α : Type} {h : D × List Nat → D → R α} {p : α → Prop} {Q : VK} (r : Rel X.K F ps H σ τ)
    (hs : Sat ((evE g ca τ).bind fun x => (R.of (biD f [x.1])).bind (h x)) p (XO W xa σ H))
    (hq : ∀ x z v H', Same H H' → EPost X.K F.P0 ps H H' (.bi f (.cons ca .nil)) (z, lk z (lkE ca x.2)) v → Sat (h x z) p (XO W xa σ H) → Q v H') : tCB (rBi X.K f) (tCons (tE X.K g W xa ca) tNil) σ H Q := by
  refine one r hs fun x v H1 pa r1 hz => ?_
  cases e : biD f [x.1] with
  | none => rw [e] at hz; exact hz.elim
  | some z =>
    rw [e] at hz
    refine ⟨wo (PP F.P0 (dr (lkE ca x.2) ps)) H1, [x.1], z, wo_all, rfl, fun i w d h1 h2 => ?_, e, fun v' H' rs => ?_⟩
    · cases i with
      | zero => cases h1; cases h2; exact pa.el
      | succ i => simp at h1
    · exact hq x z v' H' (pa.same.trans rs.same') (EPost.of_res (fun i z => by cases z) fresh_bi pa.same rs.same' (fun a q => r.there q) rs) hz
theorem sE_bi1 {x : Str} {f : Bi} {a : Expr} {ca : E} {p pos : Pos} (hf : biOf1 x = some f) (hg : isGl sc x = true) (hm : c.bis.contains x = true) (hs : [a].any isStar = false) (ha : PE X a (tE X.K g W xa ca)) :
    PE X (.Call (.Name x p) [a] [] pos) (tE X.K g W xa (.bi f (.cons ca .nil))) := by
  obtain ⟨b1, b2, b3, b4⟩ := boot1 hf
  have hs0 := hs
  simp only [List.any_cons, Bool.or_eq_false_iff] at hs
  refine PE.imp (pe_bi ev b1 b4 b2 b3 hg hm hs0 (pa_cons ha pa_nil (star_step hs.1 _ _))) fun σ H Q h => ?_
  obtain ⟨F, ps, τ, r, h⟩ := h
  unfold evE at h
  have h' : Sat ((evE g ca τ).bind fun x => (R.of (biD f [x.1])).bind fun z => R.ok (z, lk z (lkE ca x.2))) (fun x => ∀ v H', EPost X.K F.P0 ps H H' (.bi f (.cons ca .nil)) x v → Q v H') (XO W xa σ H) := by
    simp only [evEs] at h
    rw [Sat.bind] at h ⊢
    rw [Sat.bind] at h
    refine h.imp (fun x hx => ?_) fun _ z => z
    simp only [R.bind_ok] at hx
    have hx : Sat (match biD f [x.1] with | some z => R.ok (z, lk z (lkE ca (x.2 ++ []))) | none => R.st) _ _ := hx
    rw [List.append_nil] at hx
    cases e : biD f [x.1] with
    | none => rw [e] at hx; exact hx
    | some z => rw [e] at hx; exact hx
  exact bi1_rd ev r h' fun x z v H' e pp hz => hz v H' pp
theorem sT_bi1 {x : Str} {f : Bi} {a : Expr} {ca : E} {p pos : Pos} (hf : biOf1 x = some f) (hg : isGl sc x = true) (hm : c.bis.contains x = true) (hs : [a].any isStar = false) (ha : PE X a (tE X.K g W xa ca)) :
    PT X (.Call (.Name x p) [a] [] pos) (tT X.K g W xa (.bi f (.cons ca .nil))) := by
  obtain ⟨b1, b2, b3, b4⟩ := boot1 hf
  have hs0 := hs
  simp only [List.any_cons, Bool.or_eq_false_iff] at hs
  refine PT.imp (pt_truthD (pe_bi ev b1 b4 b2 b3 hg hm hs0 (pa_cons ha pa_nil (star_step hs.1 _ _))) fun _ => rfl) fun σ H Q h => ?_
  obtain ⟨F, ps, τ, r, h⟩ := h
  unfold evT at h
  have h' : Sat ((evE g ca τ).bind fun x => (R.of (biD f [x.1])).bind fun z => R.of (truD z)) (fun b => ∀ H', Same H H' → Q b H') (XO W xa σ H) := by
    simp only [evEs] at h
    rw [Sat.bind] at h ⊢
    rw [Sat.bind] at h
    refine h.imp (fun x hx => ?_) fun _ z => z
    simp only [R.bind_ok] at hx
    exact hx
  refine bi1_rd ev r h' fun x z v H' e pp hz => ?_
  cases e' : truD z with
  | none => rw [e'] at hz; exact hz.elim
  | some q => rw [e'] at hz; exact ⟨z, q, pp.dn, e', hz _ e⟩
theorem sE_bi2 {x : Str} {f : Bi} {a b : Expr} {ca cb : E} {p pos : Pos} (hf : biOf2 x = some f) (hg : isGl sc x = true) (hm : c.bis.contains x = true) (hs : [a, b].any isStar = false) (ha : PE X a (tE X.K g W xa ca)) (hb : PE X b (tE X.K g W xa cb)) :
    PE X (.Call (.Name x p) [a, b] [] pos) (tE X.K g W xa (.bi f (.cons ca (.cons cb .nil)))) := by
  obtain ⟨b1, b2, b3, b4⟩ := boot2 hf
  have hs0 := hs
  simp only [List.any_cons, Bool.or_eq_false_iff] at hs
  refine PE.imp (pe_bi ev b1 b4 b2 b3 hg hm hs0 (pa_cons ha (pa_cons hb pa_nil (star_step hs.2.1 _ _)) (star_step hs.1 _ _))) fun σ H Q h => ?_
  obtain ⟨F, ps, τ, r, h⟩ := h
  unfold evE at h
  have h' : Sat ((evE g ca τ).bind fun x => (evE g cb τ).bind fun y => (R.of (biD f [x.1, y.1])).bind fun z => R.ok (z, lk z (x.2 ++ y.2))) (fun x => ∀ v H', EPost X.K F.P0 ps H H' (.bi f (.cons ca (.cons cb .nil))) x v → Q v H') (XO W xa σ H) := by
    simp only [evEs] at h
    rw [Sat.bind] at h ⊢
    rw [Sat.bind] at h
    refine h.imp (fun x hx => ?_) fun _ z => z
    rw [Sat.bind] at hx ⊢
    rw [Sat.bind] at hx
    refine hx.imp (fun y hy => ?_) fun _ z => z
    have hy : Sat (match biD f [x.1, y.1] with | some z => R.ok (z, lk z (x.2 ++ (y.2 ++ []))) | none => R.st) _ _ := hy
    rw [List.append_nil] at hy
    cases e : biD f [x.1, y.1] with
    | none => rw [e] at hy; exact hy
    | some z => rw [e] at hy; exact hy
  refine two r h' fun x y v u H1 H2 pa pb r2 hz => ?_
  cases e : biD f [x.1, y.1] with
  | none => rw [e] at hz; exact hz.elim
  | some z =>
    rw [e] at hz
    refine ⟨wo (PP F.P0 (dr (x.2 ++ y.2) ps)) H2, [x.1, y.1], z, wo_all, rfl, fun i w d h1 h2 => ?_, e, fun v' H' rs => ?_⟩
    · cases i with
      | zero => cases h1; cases h2; exact pa.el2 pb.same fun i hi => List.mem_append_left _ (lkE_sub i hi)
      | succ i =>
        cases i with
        | zero => cases h1; cases h2; exact pb.el2 (Same.refl _) fun i hi => List.mem_append_right _ (lkE_sub i hi)
        | succ i => simp at h1
    · exact hz v' H' (EPost.of_res (fun i z => by cases z) fresh_bi (pa.same.trans pb.same) rs.same' (fun a q => r.there q) rs)
/-! ### isinstance, tuple(reversed(..)), bit_length -/
omit ev in
theorem tyName_ok {t : Str} {n : String} (h : tyName t = some n) : bootBuiltins t = some (.type n) ∧ t ≠ "__name__" ∧ (t == ("__debug__" : Str)) = false := by
  unfold tyName at h
  by_cases h1 : t = "int"
  · rw [if_pos h1] at h; cases h; subst h1; exact ⟨by decide +kernel, by decide, by decide⟩
  rw [if_neg h1] at h
  by_cases h1 : t = "bool"
  · rw [if_pos h1] at h; cases h; subst h1; exact ⟨by decide +kernel, by decide, by decide⟩
  rw [if_neg h1] at h
  by_cases h1 : t = "str"
  · rw [if_pos h1] at h; cases h; subst h1; exact ⟨by decide +kernel, by decide, by decide⟩
  rw [if_neg h1] at h
  by_cases h1 : t = "tuple"
  · rw [if_pos h1] at h; cases h; subst h1; exact ⟨by decide +kernel, by decide, by decide⟩
  rw [if_neg h1] at h
  by_cases h1 : t = "list"
  · rw [if_pos h1] at h; cases h; subst h1; exact ⟨by decide +kernel, by decide, by decide⟩
  rw [if_neg h1] at h
  by_cases h1 : t = "dict"
  · rw [if_pos h1] at h; cases h; subst h1; exact ⟨by decide +kernel, by decide, by decide⟩
  rw [if_neg h1] at h
  cases h
theorem pe_isiD {t : Str} {n : String} {a : Expr} {ca : E} {p p2 pos : Pos} (hx : c.bis.contains "isinstance" = true) (hgx : isGl sc "isinstance" = true) (ht : tyName t = some n) (hg : isGl sc t = true) (hm : c.bis.contains t = true) (hs : isStar a = false) (ha : PE X a (tE X.K g W xa ca)) :
    PE X (.Call (.Name "isinstance" p) [a, .Name t p2] [] pos) (tCB (rIsiD X.K n) (tCons (tE X.K g W xa ca) (tCons (tC (.ty n)) tNil))) := by
  obtain ⟨b1, b2, b3⟩ := tyName_ok ht
  exact pe_callB call_isiD (ev.gl_of hgx) (ev.bi _ hx) (by decide +kernel) (pa_cons ha (pa_cons (pe_bltn (ev.gl_of hg) (ev.bi t hm) b1 rfl b2 b3) pa_nil rfl) (star_step hs _ _)) (by decide) (by decide) (star_step hs _ _) rfl
theorem sE_isi {t : Str} {n : String} {a : Expr} {ca : E} {p p2 pos : Pos} (hx : c.bis.contains "isinstance" = true) (hgx : isGl sc "isinstance" = true) (ht : tyName t = some n) (hg : isGl sc t = true) (hm : c.bis.contains t = true) (hs : isStar a = false) (ha : PE X a (tE X.K g W xa ca)) :
    PE X (.Call (.Name "isinstance" p) [a, .Name t p2] [] pos) (tE X.K g W xa (.isi ca [.b n])) := by
  refine PE.imp (pe_isiD ev hx hgx ht hg hm hs ha) fun σ H Q h => ?_
  obtain ⟨F, ps, τ, r, h⟩ := h
  unfold evE at h
  refine one r h fun x v H1 pa r1 hz => ?_
  split at hz
  · rename_i b e
    exact ⟨v, x.1, b, rfl, pa.dn, e, hz _ _ (EPost.scal (fun i z => by cases z) pa.same (fun _ => .bl _) rfl)⟩
  · exact hz.elim
theorem sT_isi {t : Str} {n : String} {a : Expr} {ca : E} {p p2 pos : Pos} (hx : c.bis.contains "isinstance" = true) (hgx : isGl sc "isinstance" = true) (ht : tyName t = some n) (hg : isGl sc t = true) (hm : c.bis.contains t = true) (hs : isStar a = false) (ha : PE X a (tE X.K g W xa ca)) :
    PT X (.Call (.Name "isinstance" p) [a, .Name t p2] [] pos) (tT X.K g W xa (.isi ca [.b n])) := by
  refine PT.imp (pt_val (pe_isiD ev hx hgx ht hg hm hs ha) fun _ => rfl) fun σ H Q h => ?_
  obtain ⟨F, ps, τ, r, h⟩ := h
  unfold evT at h
  refine one r h fun x v H1 pa r1 hz => ?_
  cases e : isiD x.1 [.b n] with
  | none => rw [e] at hz; exact hz.elim
  | some b =>
    rw [e] at hz
    exact ⟨v, x.1, b, rfl, pa.dn, e, b, rfl, hz _ pa.same⟩
omit ev in
theorem noLs_append (as bs : List D) : noLs (as ++ bs) = (noLs as && noLs bs) := by
  induction as with
  | nil => rfl
  | cons a as ih => show (noL a && noLs (as ++ bs)) = ((noL a && noLs as) && noLs bs); rw [ih, Bool.and_assoc]
omit ev in
theorem noLs_reverse (ds : List D) : noLs ds.reverse = noLs ds := by
  induction ds with
  | nil => rfl
  | cons a as ih => rw [List.reverse_cons, noLs_append, ih]; show (noLs as && (noL a && true)) = (noL a && noLs as); rw [Bool.and_true, Bool.and_comm]
theorem sE_trev {a : Expr} {ca : E} {p p2 pos pos2 : Pos} (h1 : c.bis.contains "tuple" = true) (hg1 : isGl sc "tuple" = true) (h2 : c.bis.contains "reversed" = true) (hg2 : isGl sc "reversed" = true) (hs : isStar a = false) (ha : PE X a (tE X.K g W xa ca)) :
    PE X (.Call (.Name "tuple" p) [.Call (.Name "reversed" p2) [a] [] pos2] [] pos) (tE X.K g W xa (.trev ca)) := by
  refine PE.imp (RT.pe_tupRev ev.calm (ev.gl_of hg1) (ev.bi _ h1) (ev.gl_of hg2) (ev.bi _ h2) ha (star_step hs _ _) rfl) fun σ H Q h => ?_
  obtain ⟨F, ps, τ, r, h⟩ := h
  unfold evE at h
  refine one r h fun x v H1 pa r1 hz => ?_
  obtain ⟨d, L⟩ := x
  cases d with
  | list ds =>
    obtain ⟨b, vs, rfl, h1, h2⟩ := pa.el
    refine ⟨b, vs, rfl, h1.sq, fun p hp => hz _ _ ?_⟩
    have e : lk (PyData.tuple ds) (lkE ca L) = lk (PyData.tuple ds.reverse) (lkE ca L) := by
      have := noLs_reverse ds
      cases hL : lkE ca L with
      | nil => rfl
      | cons i M => rw [lk_cons, lk_cons]; show (if noLs ds then _ else _) = (if noLs ds.reverse then _ else _); rw [this]
    rw [e]
    exact EPost.of_res (f := true) (fun i z => by cases z) (fun _ => rfl) pa.same (same_upd hp) (fun a q => r.there q) (.tup hp h2.reverse)
  | _ => exact hz.elim
omit ev in
theorem noSuper_base {o : Expr} {m : Str} {env : Env} (h : noSuper o = true) : attributeBase o m env (eval o env) = eval o env := by
  unfold attributeBase
  split
  · rename_i id p pos; simp [noSuper] at h
  · rfl
omit ev in
theorem sE_bits {a : Expr} {ca : E} {apos pos : Pos} (hn : noSuper a = true) (hl : (apos.endLine == pos.line) = true) (ha : PE X a (tE X.K g W xa ca)) :
    PE X (.Call (.Attribute a "bit_length" apos) [] [] pos) (tE X.K g W xa (.bi .bitlen (.cons ca .nil))) := by
  refine PE.imp (pe_bits ha (noSuper_base hn) hl) fun σ H Q h => ?_
  obtain ⟨F, ps, τ, r, h⟩ := h
  unfold evE at h
  simp only [evEs] at h
  rw [Sat.bind] at h
  refine one r h fun x v H1 pa r1 hz => ?_
  simp only [R.bind_ok] at hz
  have hz : Sat (match biD .bitlen [x.1] with | some z => R.ok (z, lk z (lkE ca (x.2 ++ []))) | none => R.st) _ _ := hz
  obtain ⟨d, L⟩ := x
  cases d with
  | int i =>
    have := pa.dn
    cases this
    have hz : Sat (R.ok (PyData.int (Builtin.Int.intBits i : Nat), lk (PyData.int (Builtin.Int.intBits i : Nat)) (lkE ca (L ++ [])))) _ _ := hz
    rw [lk_flat rfl] at hz
    exact ⟨i, rfl, hz _ _ (EPost.scal (fun i z => by cases z) pa.same (fun _ => .int _) rfl)⟩
  | _ => exact hz.elim
/-! ### an attribute -/
theorem sE_fld {x l f : Str} {i : Nat} {fl : List Str} {pl pos : Pos} (hc : c.cls = some (x, fl)) (hf : f ∈ fl) (hv : PE X (.Name l pl) (tVar i)) : PE X (.Attribute (.Name l pl) f pos) (tE X.K g W xa (.fld x i f)) := by
  refine PE.imp (pe_fld hv (noSuper_base rfl)) fun σ H Q h => ?_
  obtain ⟨F, ps, τ, r, h⟩ := h
  unfold evE at h
  cases ho : own? τ i with
  | none => rw [ho] at h; exact h.elim
  | some d0 =>
    rw [ho] at h
    unfold fldO at h
    split at h
    case h_2 => exact h.elim
    rename_i _ c' fs hd
    cases hd
    split at h
    case isFalse => exact h.elim
    rename_i hx
    subst hx
    split at h
    case h_2 => exact h.elim
    rename_i d hd2
    obtain ⟨p, q1, q2, C, dx, fvs, z1, z2, z3⟩ := r.own i _ (own?_some ho)
    obtain ⟨k1, k2⟩ := ev.cls _ _ hc C z2
    obtain ⟨v, w1, w2⟩ := z3.get hd2
    refine ⟨.ref p, q2, p, C, dx, fvs, v, rfl, z1, k1, k2 f hf, w1, ?_⟩
    have nv : ∀ j, E.fld c' i f ≠ .v j := fun j z => by cases z
    rcases w2 with ⟨w2, w3⟩ | ⟨q, vs, ds, w2, rfl, rfl, w4, w5⟩
    · rw [w2] at h
      have den : Dn X.K (wo (PP F.P0 (dr [] ps)) H) v d := by rw [dr_nil]; exact w3
      exact h v H ⟨Same.refl _, den, by rw [lkE_nv nv]; exact Dn.elcl wo_all den, fun z => by cases z⟩
    · have den : Dn X.K (wo (PP F.P0 (dr [i] ps)) H) (.ref q) (.list ds) := .lst (.inl (.inl (wo_some.mpr ⟨fun z => (by
        rcases z with z | ⟨j, b, z⟩
        · exact r.out _ _ _ w2 z
        · obtain ⟨y1, y2⟩ := dr_some.mp z
          exact y1 (by simp [(r.inj _ _ _ _ _ y2 w2).1])), w4⟩))) (w5.sub PP_dr0)
      exact h (.ref q) H ⟨Same.refl _, den, by rw [lkE_nv nv]; exact Dn.elcl wo_all den, fun z => by cases z⟩
end
end Mp

/-! MiniPy, part Z: zip and enumerate over lists, tuples and texts alike. -/
namespace Mp
open PySem PySem.Spec PyProof.Rows L2

/-- what is walked: a list, a tuple, a text -/
inductive Kd where
  | L (a : Addr) | T (a : Addr) | S (z : Str) (t : Tok)
def Kd.v : Kd → Value
  | .L a => .ref a
  | .T a => .ref a
  | .S z t => .str z t
def chars (z : Str) : List V := z.cps.toList.map fun c => .str ⟨#[c]⟩
def Kd.rd (K : PySem.W.Frag) (H : Hp) : Kd → List V → Prop
  | .L a, xs => SqL K H a xs
  | .T a, xs => SqT K H a xs
  | .S z _, xs => xs = chars z
def Kd.obj : Kd → Obj
  | .L a => { cls := .type "list_iterator", data := .fields #[.ref a, .int 0 0] }
  | .T a => { cls := .type "tuple_iterator", data := .fields #[.ref a, .int 0 0] }
  | .S z t => { cls := .type (strIterType z), data := .fields #[.str z t, .int 0 0] }
def Kd.at_ (h : Heap) (it : Addr) (i : Nat) : Kd → Prop
  | .L a => h.IsListIter it a i
  | .T a => h.IsTupleIter it a i
  | .S z t => h.IsStrIter it (strIterType z) z t i
def Kd.base : Kd → List Addr
  | .L a => [a]
  | .T a => [a]
  | .S _ _ => []
theorem Kd.at_obj {k : Kd} {h : Heap} {it : Addr} {i : Nat} (st : k.at_ h it i) : ∃ o, h.get? it = some o ∧ ∀ v, o.data ≠ .cell v := by
  cases k <;> (obtain ⟨o, e, _, d⟩ := st; exact ⟨o, e, fun v q => by rw [d] at q; cases q⟩)
theorem Kd.at_keep {k : Kd} {h h' : Heap} {it : Addr} {i : Nat} (st : k.at_ h it i) (e : ∀ o, h.get? it = some o → h'.get? it = some o) : k.at_ h' it i := by
  cases k <;> (obtain ⟨o, e1, r⟩ := st; exact ⟨o, e o e1, r⟩)
theorem Kd.at_new {k : Kd} {h : Heap} {it : Addr} (e : h.get? it = some k.obj) : k.at_ h it 0 := by
  cases k <;> exact ⟨_, e, rfl, rfl⟩
theorem char_get {z : Str} {i c : Nat} (h : z.cps[i]? = some c) : (chars z)[i]? = some (.str ⟨#[c]⟩) := by
  unfold chars
  rw [List.getElem?_map, Array.getElem?_toList, h]; rfl
theorem vals_get : ∀ {xs : List V} {us : List Value} {i : Nat} {u : Value}, Vals xs us → us[i]? = some u → ∃ x, xs[i]? = some x ∧ RelV x u
  | _, _, _, _, .nil, e => by simp at e
  | _, _, 0, _, .cons r _, e => by simp at e; subst e; exact ⟨_, rfl, r⟩
  | _, _, i + 1, _, .cons _ rr, e => by
    have := vals_get (i := i) rr (by simpa using e)
    simpa using this
/-- what is drawn now -/
theorem Kd.draws {X : Cx} {pins : List (Addr × Obj)} {σ : L2.St} {H : Hp} {s : Shared} {k : Kd} {it : Addr} {i : Nat} {xs : List V} (hc : X.calm = true) (I : Inv X pins σ H s) (hr : k.rd X.K H xs) (st : k.at_ s.heap it i) (hne : it ∉ k.base) :
    ∃ (fp : List Addr) (P : Nat → Value → Prop) (St : Nat → Heap → Prop), Draws X.prog X.w X.A.in1 it fp xs.length P St ∧ St i s.heap ∧ (∀ j v, P j v → ∃ x, xs[j]? = some x ∧ RelV x v) ∧ (∀ j h, St j h → k.at_ h it j) ∧ fp = it :: k.base := by
  have hh : X.A.in1.handled = none := I.ok.hd hc
  cases k with
  | L a =>
    obtain ⟨its, rv, p, _⟩ := I.list hr
    have hl : its.toArray.size = xs.length := by rw [List.size_toArray, rv.length]
    refine ⟨_, _, _, hl ▸ Draws.list hh it a (fun z => hne (by simp [Kd.base, z])) its.toArray, ⟨st, p.isList⟩, fun j v hv => ?_, fun j h q => q.1, rfl⟩
    have hv : its[j]? = some v := by simpa using hv
    exact vals_get rv hv
  | T a =>
    obtain ⟨its, rv, p, _⟩ := I.tuple hr
    have hl : its.toArray.size = xs.length := by rw [List.size_toArray, rv.length]
    refine ⟨_, _, _, hl ▸ Draws.tuple hh it a (fun z => hne (by simp [Kd.base, z])) its.toArray, ⟨st, p⟩, fun j v hv => ?_, fun j h q => q.1, rfl⟩
    have hv : its[j]? = some v := by simpa using hv
    exact vals_get rv hv
  | S z t =>
    have hr : xs = chars z := hr
    have hl : z.cps.size = xs.length := by rw [hr]; simp [chars]
    refine ⟨_, _, _, hl ▸ Draws.text hh it z t, st, fun j v hv => ?_, fun j h q => q, rfl⟩
    obtain ⟨c, u, h1, rfl⟩ := hv
    exact ⟨.str ⟨#[c]⟩, by rw [hr]; exact char_get h1, u, rfl⟩
theorem Kd.begins {X : Cx} {pins : List (Addr × Obj)} {σ : L2.St} {H : Hp} {s : Shared} {k : Kd} {xs : List V} (I : Inv X pins σ H s) (hr : k.rd X.K H xs) : ∃ HH : Heap → Prop, Begins k.v k.obj HH ∧ HH s.heap ∧ ∀ b ∈ k.base, b < s.heap.objs.size := by
  cases k with
  | L a =>
    obtain ⟨its, rv, p, _⟩ := I.list hr
    exact ⟨_, begins_list a its.toArray, p.isList, fun b hb => by simp [Kd.base] at hb; rw [hb]; exact p.lt⟩
  | T a =>
    obtain ⟨its, rv, p, _⟩ := I.tuple hr
    obtain ⟨o, ho, _⟩ := id p
    exact ⟨_, begins_tuple a its.toArray, p, fun b hb => by simp [Kd.base] at hb; rw [hb]; exact Heap.lt_size ho⟩
  | S z t => exact ⟨_, begins_text z t, trivial, fun b hb => by simp [Kd.base] at hb⟩
theorem Kd.inj {X : Cx} {pins : List (Addr × Obj)} {σ : L2.St} {H : Hp} {s : Shared} {k : Kd} {xs ys : List V} (I : Inv X pins σ H s) (h1 : k.rd X.K H xs) (h2 : k.rd X.K H ys) : xs = ys := by
  cases k with
  | L a => exact I.list_inj h1 h2
  | T a => exact I.tuple_inj h1 h2
  | S z t => exact (show xs = chars z from h1).trans (show ys = chars z from h2).symm
/-- zip of two, the items in new pairs -/
def ItG (K : PySem.W.Frag) (k1 k2 : Kd) : It :=
  ⟨fun i H => ∃ (xs ys : List V) (x y : V), k1.rd K H xs ∧ k2.rd K H ys ∧ xs[i]? = some x ∧ ys[i]? = some y,
    fun i H v H' => ∃ T x y, v = .ref T ∧ H T = none ∧ H' = upd H T (.tup [x, y]) ∧ (∀ xs, k1.rd K H xs → xs[i]? = some x) ∧ ∀ ys, k2.rd K H ys → ys[i]? = some y,
    fun i H => ∃ xs ys : List V, k1.rd K H xs ∧ k2.rd K H ys ∧ i ≤ xs.length ∧ i ≤ ys.length ∧ (i = xs.length ∨ i = ys.length)⟩
theorem turn_zipG {P : Program} {w : World} {K : PySem.W.Frag} {elts : List Expr} {kk : Nat} {tpos : Pos} {k1 k2 : Kd} {z TI TO i1 i2 : Addr} (D : ZipSep2 z TI TO i1 i2 (i1 :: k1.base) (i2 :: k2.base)) (n1 : i1 ∉ k1.base) (n2 : i2 ∉ k2.base) :
    Turn P w K (.Tuple elts kk tpos) (ItG K k1 k2) [z, TI, TO, i1, i2] z (fun i h => IsZip h z TI TO .none ∧ IsTupOf2 h TI (.ref i1) (.ref i2) ∧ (∃ x y, IsTupOf2 h TO x y) ∧ k1.at_ h i1 i ∧ k2.at_ h i2 i) where
  mem := by simp
  obj := fun i h st c hc => by
    obtain ⟨hz, hTI, ⟨x, y, hTO⟩, h1, h2⟩ := st
    have e' : c = z ∨ c = TI ∨ c = TO ∨ c = i1 ∨ c = i2 := by simpa using hc
    rcases e' with q | q | q | q | q
    · rw [q]; exact ⟨_, hz, fun v q => nomatch q⟩
    · rw [q]; exact ⟨_, hTI, fun v q => nomatch q⟩
    · rw [q]; exact ⟨_, hTO, fun v q => nomatch q⟩
    · rw [q]; exact Kd.at_obj h1
    · rw [q]; exact Kd.at_obj h2
  keep := fun i h h' st k => by
    obtain ⟨hz, hTI, ⟨x, y, hTO⟩, h1, h2⟩ := st
    exact ⟨k z (by simp) _ hz, k TI (by simp) _ hTI, ⟨x, y, k TO (by simp) _ hTO⟩, Kd.at_keep h1 fun o q => k i1 (by simp) o q, Kd.at_keep h2 fun o q => k i2 (by simp) o q⟩
  item := by
    intro X hP hw hK hc i pins s σ H E I hf st hg
    subst hP hw hK
    obtain ⟨hz, hTI, ⟨x0, y0, hTO⟩, h1, h2⟩ := st
    obtain ⟨xs, ys, x, y, hqx, hqy, hx, hy⟩ := hg
    obtain ⟨fp1, P1, S1, D1, st1, r1, b1, rfl⟩ := Kd.draws hc I hqx h1 n1
    obtain ⟨fp2, P2, S2, D2, st2, r2, b2, rfl⟩ := Kd.draws hc I hqy h2 n2
    have hzl : z < s.heap.objs.size := Heap.lt_size hz
    refine wpAny_pyNext_zipD2_item D D1 D2 hz hTI hTO st1 st2 (List.getElem?_eq_some_iff.mp hx).1 (List.getElem?_eq_some_iff.mp hy).1 fun u u2 h' tk p1 p2 z' TO' h1' h2' hT hsz hk => ?_
    refine ⟨_, rfl, wpAny_letOwnedTupleGo_zip (s := { s with heap := h', toks := tk }) z' fun h'' z'' sb => ?_⟩
    obtain ⟨x', q1, ru⟩ := r1 _ _ p1
    obtain ⟨y', q2, ru2⟩ := r2 _ _ p2
    have hT2 : h''.get? s.heap.objs.size = some { cls := .type "tuple", data := .seq #[u, u2] } := (sb.2 _ (Nat.ne_of_gt hzl)).trans hT
    have new : ObjOk X.prog X.w (upd H s.heap.objs.size (.tup [x', y'])) h'' s.heap.objs.size (.tup [x', y']) :=
      ⟨by show 2 ≤ sizeLine; decide, [u, u2], .cons ru (.cons ru2 .nil), ⟨_, hT2, rfl, _, rfl⟩⟩
    have I1 : Inv X pins σ (upd H s.heap.objs.size (.tup [x', y'])) { s with heap := h'', toks := tk } :=
      I.turnedNew (t' := tk) (ch := [z, TI, TO, i1, i2]) (fun c o hb q => (sb.2 c (fun q' => hb (by simp [q']))).trans (hk c o (fun q' => hb (by simp [q'])) (fun q' => hb (by simp [q'])) (fun q' => hb (by simp [q'])) (fun q' => hb (by simp [q'])) q)) hf (Nat.le_refl _) new
    refine ⟨.ref s.heap.objs.size, _, I1, rfl, ⟨_, x', y', rfl, I.hok.fresh (Nat.le_refl _), rfl, fun l hl => by rw [Kd.inj I hl hqx]; exact q1, fun l hl => by rw [Kd.inj I hl hqy]; exact q2⟩, ⟨z'', ?_, ⟨u, u2, ?_⟩, ?_, ?_⟩, fun c hcm => ?_⟩
    · exact (sb.2 _ D.TIz).trans (hk _ _ D.TIz D.TITO D.TIi1 D.TIi2 hTI)
    · exact (sb.2 _ D.TOz).trans TO'
    · exact Kd.at_keep (b1 _ _ h1') fun o q => (sb.2 _ (Ne.symm D.zi1)).trans q
    · exact Kd.at_keep (b2 _ _ h2') fun o q => (sb.2 _ (Ne.symm D.zi2)).trans q
    · have hlt : c < s.heap.objs.size := by
        have e' : c = z ∨ c = TI ∨ c = TO ∨ c = i1 ∨ c = i2 := by simpa using hcm
        rcases e' with q | q | q | q | q
        · rw [q]; exact hzl
        · rw [q]; exact Heap.lt_size hTI
        · rw [q]; exact Heap.lt_size hTO
        · rw [q]; obtain ⟨_, e1, _⟩ := Kd.at_obj h1; exact Heap.lt_size e1
        · rw [q]; obtain ⟨_, e2, _⟩ := Kd.at_obj h2; exact Heap.lt_size e2
      rw [upd_ne (Nat.ne_of_lt hlt)]
      exact (hf c hcm).1
  done := by
    intro X hP hw hK hc i pins s σ H E I hf st hg
    subst hP hw hK
    obtain ⟨hz, hTI, ⟨x0, y0, hTO⟩, h1, h2⟩ := st
    obtain ⟨xs, ys, hqx, hqy, l1, l2, hend⟩ := hg
    obtain ⟨fp1, P1, S1, D1, st1, r1, b1, rfl⟩ := Kd.draws hc I hqx h1 n1
    obtain ⟨fp2, P2, S2, D2, st2, r2, b2, rfl⟩ := Kd.draws hc I hqy h2 n2
    exact wpAny_pyNext_zipD2_end D D1 D2 hz hTI hTO st1 st2 l1 l2 hend fun h' tk hk => ⟨rfl, I.turnedL (t' := tk) (ch := [z, TI, TO, i1, i2]) (fun c o hb q =>
      hk c o (fun q' => hb (by simp [q'])) (fun q' => hb (by simp [q'])) (fun q' => hb (by simp [q'])) (fun q' => hb (by simp [q'])) q) hf⟩
  self := fun A i s Q E st h => wpAny_pyIter_zip st.1 h
/-- the kind of a value that is walked -/
def KdOf (K : PySem.W.Frag) (H : Hp) (v : V) (k : Kd) : Prop := RelV v k.v ∧ ∃ xs, k.rd K H xs
def iZipG (K : PySem.W.Frag) (ta : TA) : TI := fun σ H R => ta σ H fun vs H1 => ∃ v1 v2, vs = [v1, v2] ∧
  ∀ u1 u2, RelV v1 u1 → RelV v2 u2 → ∃ k1 k2 xs ys, k1.v = u1 ∧ k2.v = u2 ∧ k1.rd K H1 xs ∧ k2.rd K H1 ys ∧ R (ItG K k1 k2) H1
theorem pi_zipG {X : Cx} {e e2 : Expr} {ta : TA} {p pos tpos : Pos} {elts : List Expr} {kk : Nat} (hg : Gl X "zip") (hm : X.mg "zip" = none) (ha : PA X [e, e2] ta)
    (hs : starEach [e, e2] X.env = (false, eval e X.env) :: starEach [e2] X.env := by rfl) (hpl : (backTo pos (starEach [e2] X.env)).any (·.1) = false := by rfl) :
    PI X (.Tuple elts kk tpos) (.Call (.Name "zip" p) [e, e2] [] pos) (iZipG X.K ta) := by
  refine ⟨fun pins s σ H R I h => ?_⟩
  refine Call_ (ld_blt I hg hm PyProof.Rows.boot_zip (PyProof.Rows.callWith_type1 (thn (ha.run pos pins s σ H _ I h) fun us s1 ⟨vs, H1, I1, r1, q1⟩ => ?_) hs hpl))
  obtain ⟨v1, v2, ex, q1⟩ := q1
  subst ex
  cases r1 with
  | cons r rr =>
    cases rr with
    | cons r' rr =>
      cases rr
      obtain ⟨k1, k2, xs, ys, rfl, rfl, hqx, hqy, q⟩ := q1 _ _ r r'
      obtain ⟨HH1, B1, g1, lt1⟩ := Kd.begins I1 hqx
      obtain ⟨HH2, B2, g2, lt2⟩ := Kd.begins I1 hqy
      refine zip_begins2 B1 B2 g1 g2 fun h' hz hTI hTO h1 h2 hsz hk => wpAny_pyIter_zip hz ?_
      have I2 : Inv X pins σ H1 { s1 with heap := h' } := I1.kept (t' := s1.toks) hk
      refine ⟨s1.heap.objs.size + 4, [s1.heap.objs.size + 4, s1.heap.objs.size + 2, s1.heap.objs.size + 3, s1.heap.objs.size, s1.heap.objs.size + 1], _, _, H1, rfl, I2,
        turn_zipG (zip_sep2 lt1 lt2) (fun z => Nat.lt_irrefl _ (lt1 _ z)) (fun z => absurd (lt2 _ z) (Nat.not_lt.mpr (Nat.le_succ _))), ⟨hz, hTI, ⟨_, _, hTO⟩, Kd.at_new h1, Kd.at_new h2⟩, fun c hcm => ?_, q⟩
      have e' : c = s1.heap.objs.size + 4 ∨ c = s1.heap.objs.size + 2 ∨ c = s1.heap.objs.size + 3 ∨ c = s1.heap.objs.size ∨ c = s1.heap.objs.size + 1 := by simpa using hcm
      have hle : s1.heap.objs.size ≤ c := by
        rcases e' with z | z | z | z | z
        · rw [z]; exact Nat.le_add_right _ _
        · rw [z]; exact Nat.le_add_right _ _
        · rw [z]; exact Nat.le_add_right _ _
        · rw [z]; exact Nat.le_refl _
        · rw [z]; exact Nat.le_add_right _ _
      exact I1.fpOk hle (I1.hok.fresh hle)
/-! ### enumerate -/
def ItE (K : PySem.W.Frag) (k : Kd) : It :=
  ⟨fun i H => ∃ (xs : List V) (x : V), k.rd K H xs ∧ xs[i]? = some x, fun i H v H' => ∃ T x, v = .ref T ∧ H T = none ∧ H' = upd H T (.tup [.int (i : Nat), x]) ∧ ∀ xs, k.rd K H xs → xs[i]? = some x, fun i H => ∃ xs : List V, k.rd K H xs ∧ i = xs.length⟩
theorem turn_enumG {P : Program} {w : World} {K : PySem.W.Frag} {elts : List Expr} {kk : Nat} {tpos : Pos} {k : Kd} (e it : Addr) (hb : it ∉ k.base) (hb2 : e ∉ k.base) :
    Turn P w K (.Tuple elts kk tpos) (ItE K k) [e, it] e (fun i h => (∃ old, IsEnum h e it ((i : Nat) : Int) old) ∧ k.at_ h it i ∧ e ≠ it) where
  mem := by simp
  obj := fun i h st b hb => by
    obtain ⟨⟨old, he⟩, hi, _⟩ := st
    have e' : b = e ∨ b = it := by simpa using hb
    rcases e' with z | z
    · rw [z]; exact ⟨_, he, fun v q => nomatch q⟩
    · rw [z]; exact Kd.at_obj hi
  keep := fun i h h' st k => let ⟨⟨old, he⟩, hi, hne⟩ := st; ⟨⟨old, k e (by simp) _ he⟩, Kd.at_keep hi fun o q => k it (by simp) o q, hne⟩
  item := by
    intro X hP hw hK hc i pins s σ H E I hf st hg
    subst hP hw hK
    obtain ⟨⟨old, he⟩, hit, hne⟩ := st
    obtain ⟨xs, x, hq, hx⟩ := hg
    obtain ⟨fp, P1, S1, D1, st1, r1, b1, rfl⟩ := Kd.draws hc I hq hit hb
    have hel : e < s.heap.objs.size := Heap.lt_size he
    have hil : it < s.heap.objs.size := by obtain ⟨_, q, _⟩ := Kd.at_obj hit; exact Heap.lt_size q
    refine wpAny_pyNext_enum_itemD D1 he st1 (List.getElem?_eq_some_iff.mp hx).1 hne (fun z => by rcases List.mem_cons.mp z with z | z; exact hne z; exact hb2 z) fun u h' tk p1 ho hit' hT hsz hk => ?_
    obtain ⟨x', q1, ru⟩ := r1 _ _ p1
    refine ⟨_, rfl, wpAny_letOwnedTupleGo_enum (s := { s with heap := h', toks := tk + 1 }) ho fun h'' he' sb => ?_⟩
    have hT2 : h''.get? s.heap.objs.size = some { cls := .type "tuple", data := .seq #[.int i tk, u] } := (sb.2 _ (Nat.ne_of_gt hel)).trans hT
    have new : ObjOk X.prog X.w (upd H s.heap.objs.size (.tup [.int (i : Nat), x'])) h'' s.heap.objs.size (.tup [.int (i : Nat), x']) :=
      ⟨by show 2 ≤ sizeLine; decide, [.int i tk, u], .cons ⟨_, rfl⟩ (.cons ru .nil), ⟨_, hT2, rfl, _, rfl⟩⟩
    have I1 : Inv X pins σ (upd H s.heap.objs.size (.tup [.int (i : Nat), x'])) { s with heap := h'', toks := tk + 1 } :=
      I.turnedNew (ch := [e, it]) (fun b ob hb q => (sb.2 b (fun z => hb (by simp [z]))).trans (hk b ob (fun z => hb (by simp [z])) (fun z => hb (by simp [z])) q)) hf (Nat.le_refl _) new
    refine ⟨.ref s.heap.objs.size, _, I1, rfl, ⟨_, x', rfl, I.hok.fresh (Nat.le_refl _), rfl, fun ys hy => by rw [Kd.inj I hy hq]; exact q1⟩, ⟨⟨u, ?_⟩, Kd.at_keep (b1 _ _ hit') fun o q => (sb.2 it (Ne.symm hne)).trans q, hne⟩, fun b hb => ?_⟩
    · have e1 : ((i + 1 : Nat) : Int) = (i : Int) + 1 := by omega
      rw [e1]; exact he'
    · have hb' : b < s.heap.objs.size := by
        have e' : b = e ∨ b = it := by simpa using hb
        rcases e' with z | z
        · rw [z]; exact hel
        · rw [z]; exact hil
      rw [upd_ne (Nat.ne_of_lt hb')]
      exact (hf b hb).1
  done := by
    intro X hP hw hK hc i pins s σ H E I hf st hg
    subst hP hw hK
    obtain ⟨⟨old, he⟩, hit, hne⟩ := st
    obtain ⟨xs, hq, hx⟩ := hg
    obtain ⟨fp, P1, S1, D1, st1, r1, b1, rfl⟩ := Kd.draws hc I hq hit hb
    obtain ⟨f0, f1, f2, f3, f4, f5⟩ := hf it (by simp)
    subst hx
    exact wpAny_pyNext_enum_endD D1 he st1 fun h' eb => ⟨rfl, I.turned (t' := s.toks) (fun b o hb q => eb b o hb q) f0 f1 f3 f4 f5⟩
  self := fun A i s Q E st h => let ⟨⟨_, he⟩, _⟩ := st; wpAny_pyIter_enum he h
set_option maxHeartbeats 1000000 in
theorem meets_enum1 {v : Value} {o : Obj} {H : Heap → Prop} (B : Begins v o H) :
    Meets (Builtin.«enumerate.__new__» ⟨[.type "enumerate", v], []⟩) (fun _ R s => H s.heap ∧
      R (.ok (.ret (.ref (s.heap.push o).objs.size))) { s with heap := (s.heap.push o).push { cls := .type "enumerate", data := .fields #[.none, .bool false, .ref s.heap.objs.size, rawInt 0, .none, .none] } }) :=
  .of_wp fun prog w A R s h => by
    obtain ⟨hp, g, d, tk, os⟩ := s; obtain ⟨h1, h⟩ := h
    have hsub := sub_enumerate
    have q1 : ∀ {A' : Around} {E : Value → Shared → Prop} {Q : Value → Shared → Prop}, Q (.ref hp.objs.size) ⟨hp.push o, g, d, tk, os⟩ → wpAny (model prog w) A' (pyIter v) Q E ⟨hp, g, d, tk, os⟩ :=
      fun q => B.iter prog w _ _ ⟨hp, g, d, tk, os⟩ _ h1 q
    wp_walk using q1
    refine wpAny_stack_any fun st => wpAny_pure ?_
    split
    · rename_i c _ _ _ _ _
      cases (c == Value.type "enumerate")
      · wp_walk using q1
        exact ⟨_, rfl, h⟩
      · wp_walk using q1
        exact ⟨_, rfl, h⟩
    · wp_walk using q1
      exact ⟨_, rfl, h⟩
theorem enum_begins1 {prog : Program} {w : World} {A : Around} {E : Value → Shared → Prop} {s : Shared} {v : Value} {o : Obj} {H : Heap → Prop} {Q : Value → Shared → Prop} (B : Begins v o H) (h1 : H s.heap)
    (h : ∀ h', IsEnum h' (s.heap.objs.size + 1) s.heap.objs.size 0 .none → h'.get? s.heap.objs.size = some o → h'.objs.size = s.heap.objs.size + 2 →
      (∀ b o, s.heap.get? b = some o → h'.get? b = some o) → Q (.ref (s.heap.objs.size + 1)) { s with heap := h' }) :
    wpAny (model prog w) A (call (.type "enumerate") [v]) Q E s := by
  refine callType_new F.called_enumerate (by decide) (F.typeCall_enumerate_1 _) (F.newCall_enumerate_1 _) (fun obj => F.args_object_init_2 obj _) F.entry_enumerate_new
    (meets_enum1 B) ⟨h1, ?_⟩
  have hz : (s.heap.push o).objs.size = s.heap.objs.size + 1 := Heap.size_push ..
  show _ ∧ _
  rw [hz]
  have he : IsEnum ((s.heap.push o).push { cls := .type "enumerate", data := .fields #[.none, .bool false, .ref s.heap.objs.size, rawInt 0, .none, .none] }) (s.heap.objs.size + 1) s.heap.objs.size 0 .none := by
    have := Heap.get?_push_size (s.heap.push o) (o := { cls := .type "enumerate", data := .fields #[.none, .bool false, .ref s.heap.objs.size, rawInt 0, .none, .none] }) rfl
    rw [hz] at this; exact this
  refine ⟨⟨_, he, rfl⟩, h _ he (Heap.get?_push_of_some _ (Heap.get?_push_size _ B.free)) (by rw [Heap.size_push, hz]) fun b o x => Heap.get?_push_of_some _ (Heap.get?_push_of_some _ x)⟩
def iEnumG (K : PySem.W.Frag) (ta : TA) : TI := fun σ H R => ta σ H fun vs H1 => ∃ v1, vs = [v1] ∧ ∀ u1, RelV v1 u1 → ∃ k xs, k.v = u1 ∧ Kd.rd K H1 k xs ∧ R (ItE K k) H1
theorem pi_enumG {X : Cx} {e : Expr} {ta : TA} {p pos tpos : Pos} {elts : List Expr} {kk : Nat} (hg : Gl X "enumerate") (hm : X.mg "enumerate" = none) (ha : PA X [e] ta) (hs : starEach [e] X.env = [(false, eval e X.env)] := by rfl) :
    PI X (.Tuple elts kk tpos) (.Call (.Name "enumerate" p) [e] [] pos) (iEnumG X.K ta) := by
  refine ⟨fun pins s σ H R I h => ?_⟩
  refine Call_ (ld_blt I hg hm boot_enumerate (PyProof.Rows.callWith_type1 (thn (ha.run pos pins s σ H _ I h) fun us s1 ⟨vs, H1, I1, r1, q1⟩ => ?_) hs rfl))
  obtain ⟨v1, ex, q1⟩ := q1
  subst ex
  cases r1 with
  | cons r rr =>
    cases rr
    obtain ⟨k, xs, rfl, hq, q⟩ := q1 _ r
    obtain ⟨HH1, B1, g1, lt1⟩ := Kd.begins I1 hq
    refine enum_begins1 B1 g1 fun h' he hit hsz hk => wpAny_pyIter_enum he ?_
    have I2 : Inv X pins σ H1 { s1 with heap := h' } := I1.kept (t' := s1.toks) hk
    refine ⟨s1.heap.objs.size + 1, [s1.heap.objs.size + 1, s1.heap.objs.size], _, _, H1, rfl, I2, turn_enumG (s1.heap.objs.size + 1) s1.heap.objs.size (fun z => Nat.lt_irrefl _ (lt1 _ z)) (fun z => absurd (lt1 _ z) (Nat.not_lt.mpr (Nat.le_succ _))), ⟨⟨.none, he⟩, Kd.at_new hit, Nat.succ_ne_self _⟩, fun b hb => ?_, q⟩
    have e' : b = s1.heap.objs.size + 1 ∨ b = s1.heap.objs.size := by simpa using hb
    have hle : s1.heap.objs.size ≤ b := by
      rcases e' with z | z
      · rw [z]; exact Nat.le_add_right _ _
      · rw [z]; exact Nat.le_refl _
    exact I1.fpOk hle (I1.hok.fresh hle)
end Mp

/-! MiniPy, part H: what is walked, targets, comprehensions. -/
namespace Mp
open PySem PySem.Spec PyProof.Rows L2
/-! ### what is walked -/
/-- an iterator's turns: C holds what it walks, G its items -/
structure ItOk (K : PySem.W.Frag) (J : It) (ds : List D) (C G : Hp) : Prop where
  go : ∀ i H, Same C H → i < ds.length → J.go i H
  stop : ∀ i H, Same C H → i = ds.length → J.stop i H
  yld : ∀ i H x H' d (P : Addr → Prop), Same C H → Same G (wo P H) → (∀ a, P a → ∃ o, H a = some o) → J.yld i H x H' → ds[i]? = some d → Same H H' ∧ Dn K (wo P H') x d
section
variable {K : PySem.W.Frag} {C G C' G' : Hp} {ds : List D} {J : It}
theorem ItOk.mono (h : ItOk K J ds C G) (e : Same C C') (e' : Same G G') : ItOk K J ds C' G' :=
  ⟨fun i H q => h.go i H (e.trans q), fun i H q => h.stop i H (e.trans q), fun i H x H' d P q1 q2 => h.yld i H x H' d P (e.trans q1) (e'.trans q2)⟩
theorem get_lt {α : Type} {l : List α} {i : Nat} (h : i < l.length) : ∃ x, l[i]? = some x := ⟨l[i], by simp [h]⟩
theorem itl_ok {a : Addr} {vs : List V} (h1 : LsR K C a vs) (h2 : DnAll K G vs ds) : ItOk K (Itl K a) ds C G := by
  refine ⟨fun i H e hi => ?_, fun i H e hi => ⟨vs, (Same.ls e h1).sq, by rw [h2.length]; omega⟩, fun i H x H' d P e1 e2 _ y hd => ?_⟩
  · obtain ⟨x, hx⟩ := get_lt (l := vs) (by rw [h2.length]; exact hi)
    exact ⟨vs, x, (Same.ls e h1).sq, hx⟩
  · obtain ⟨e, y⟩ := y
    subst e
    obtain ⟨d', q1, q2⟩ := h2.get' (y vs ((Same.ls e1 h1).sq))
    rw [hd] at q1; cases q1
    exact ⟨Same.refl _, Dn.mono e2 _ q2⟩
theorem itt_ok {a : Addr} {vs : List V} (h1 : SqT K C a vs) (h2 : DnAll K G vs ds) : ItOk K (Itt K a) ds C G := by
  refine ⟨fun i H e hi => ?_, fun i H e hi => ⟨vs, Same.seqT e h1, by rw [h2.length]; omega⟩, fun i H x H' d P e1 e2 _ y hd => ?_⟩
  · obtain ⟨x, hx⟩ := get_lt (l := vs) (by rw [h2.length]; exact hi)
    exact ⟨vs, x, Same.seqT e h1, hx⟩
  · obtain ⟨e, y⟩ := y
    subst e
    obtain ⟨d', q1, q2⟩ := h2.get' (y vs (Same.seqT e1 h1))
    rw [hd] at q1; cases q1
    exact ⟨Same.refl _, Dn.mono e2 _ q2⟩
theorem its_ok {s : Str} : ItOk K (Its s) (strL s) C G := by
  have hl : (strL s).length = s.cps.size := by simp [strL]
  refine ⟨fun i H e hi => by rw [hl] at hi; exact hi, fun i H e hi => by rw [hl] at hi; exact Nat.le_of_eq hi.symm, fun i H x H' d P e1 e2 _ y hd => ?_⟩
  obtain ⟨e, c, h1, h2⟩ := y
  subst e h2
  refine ⟨Same.refl _, ?_⟩
  unfold strL at hd
  rw [List.getElem?_map] at hd
  obtain ⟨c', q1, q2⟩ := Option.map_eq_some_iff.mp hd
  have : c' = c := by
    rw [Array.getElem?_toList] at q1
    rw [h1] at q1; exact (Option.some.inj q1).symm
  subst this q2
  exact .str _
theorem itr_ok {lo : Int} {n : Nat} : ItOk K (Itr lo n) (rngL lo n) C G := by
  have hl : (rngL lo n).length = n := by simp [rngL]
  refine ⟨fun i H e hi => by rw [hl] at hi; exact hi, fun i H e hi => by rw [hl] at hi; exact Nat.le_of_eq hi.symm, fun i H x H' d P e1 e2 _ y hd => ?_⟩
  obtain ⟨e, h2⟩ := y
  subst e h2
  refine ⟨Same.refl _, ?_⟩
  unfold rngL at hd
  rw [List.getElem?_map] at hd
  obtain ⟨k, q1, q2⟩ := Option.map_eq_some_iff.mp hd
  have : k = i := by
    have := List.getElem?_eq_some_iff.mp q1
    obtain ⟨h, e⟩ := this
    rw [List.getElem_range] at e; exact e.symm
  subst this q2
  exact .int _
theorem itcr_ok {lo : Int} {n : Nat} : ItOk K (Itc (lo + (n : Nat) - 1) (-1) n) (rngL lo n).reverse C G := by
  have hl : (rngL lo n).reverse.length = n := by simp [rngL]
  refine ⟨fun i H e hi => by rw [hl] at hi; exact hi, fun i H e hi => by rw [hl] at hi; exact Nat.le_of_eq hi.symm, fun i H x H' d P e1 e2 _ y hd => ?_⟩
  obtain ⟨e, h2⟩ := y
  subst e h2
  refine ⟨Same.refl _, ?_⟩
  have hi := (List.getElem?_eq_some_iff.mp hd).1
  rw [hl] at hi
  rw [List.getElem?_reverse (by simp [rngL]; exact hi)] at hd
  unfold rngL at hd
  rw [List.getElem?_map] at hd
  obtain ⟨k, q1, q2⟩ := Option.map_eq_some_iff.mp hd
  have : k = n - 1 - i := by
    have := List.getElem?_eq_some_iff.mp q1
    obtain ⟨h, e⟩ := this
    rw [List.getElem_range] at e
    simp at e
    exact e.symm
  subst this q2
  rw [show lo + ((n : Nat) : Int) - 1 + ((i : Nat) : Int) * (-1) = lo + ((n - 1 - i : Nat) : Int) by omega]
  exact .int _
theorem rev_get {α : Type} {l : List α} {i : Nat} (h : i < l.length) : l.reverse[i]? = l[l.length - 1 - i]? := by
  rw [List.getElem?_reverse h]
theorem itv_ok {a : Addr} {vs : List V} (h1 : LsR K C a vs) (h2 : DnAll K G vs ds) : ItOk K (Itv K a vs.length) ds.reverse C G := by
  have hl := h2.length
  refine ⟨fun i H e hi => ?_, fun i H e hi => ?_, fun i H x H' d P e1 e2 _ y hd => ?_⟩
  · rw [List.length_reverse] at hi
    obtain ⟨x, hx⟩ := get_lt (l := vs) (i := vs.length - 1 - i) (by omega)
    exact ⟨by omega, vs, x, (Same.ls e h1).sq, hx⟩
  · rw [List.length_reverse] at hi; show vs.length ≤ i; omega
  · obtain ⟨e, y⟩ := y
    subst e
    have hi : i < ds.reverse.length := (List.getElem?_eq_some_iff.mp hd).1
    rw [List.length_reverse] at hi
    rw [rev_get hi] at hd
    obtain ⟨d', q1, q2⟩ := h2.get' (y vs ((Same.ls e1 h1).sq))
    rw [hl, hd] at q1; cases q1
    exact ⟨Same.refl _, Dn.mono e2 _ q2⟩
theorem itvT_ok {a : Addr} {vs : List V} (h1 : SqT K C a vs) (h2 : DnAll K G vs ds) : ItOk K (RT.ItvT K a vs.length) ds.reverse C G := by
  have hl := h2.length
  refine ⟨fun i H e hi => ?_, fun i H e hi => ?_, fun i H x H' d P e1 e2 _ y hd => ?_⟩
  · rw [List.length_reverse] at hi
    obtain ⟨x, hx⟩ := get_lt (l := vs) (i := vs.length - 1 - i) (by omega)
    exact ⟨by omega, vs, x, Same.seqT e h1, hx⟩
  · rw [List.length_reverse] at hi; show vs.length ≤ i; omega
  · obtain ⟨e, y⟩ := y
    subst e
    have hi : i < ds.reverse.length := (List.getElem?_eq_some_iff.mp hd).1
    rw [List.length_reverse] at hi
    rw [rev_get hi] at hd
    obtain ⟨d', q1, q2⟩ := h2.get' (y vs (Same.seqT e1 h1))
    rw [hl, hd] at q1; cases q1
    exact ⟨Same.refl _, Dn.mono e2 _ q2⟩
theorem enumL_get : ∀ {ds : List D} {k : Int} {i : Nat} {d : D}, (enumL k ds)[i]? = some d → ∃ x, ds[i]? = some x ∧ d = .tuple [.int (k + i), x]
  | [], _, _, _, h => by simp [enumL] at h
  | x :: ds, k, 0, d, h => by
    have h : some (PyData.tuple [.int k, x]) = some d := h
    cases h
    exact ⟨x, rfl, by simp⟩
  | x :: ds, k, i + 1, d, h => by
    have h : (enumL (k + 1) ds)[i]? = some d := h
    obtain ⟨y, h1, h2⟩ := enumL_get h
    refine ⟨y, h1, ?_⟩
    rw [h2]
    have : k + 1 + (i : Int) = k + ((i + 1 : Nat) : Int) := by omega
    rw [this]
theorem enumL_length : ∀ (ds : List D) (k : Int), (enumL k ds).length = ds.length
  | [], _ => rfl
  | x :: ds, k => by show (enumL (k + 1) ds).length + 1 = ds.length + 1; rw [enumL_length ds]
theorem fresh_not {P : Addr → Prop} {H : Hp} {T : Addr} (hT : H T = none) (hP : ∀ a, P a → ∃ o, H a = some o) : ¬ P T := fun z => by
  obtain ⟨o, q⟩ := hP T z
  rw [hT] at q; cases q
theorem ite_ok {a : Addr} {vs : List V} (h1 : LsR K C a vs) (h2 : DnAll K G vs ds) : ItOk K (Ite K a) (enumL 0 ds) C G := by
  have hl := enumL_length ds 0
  refine ⟨fun i H e hi => ?_, fun i H e hi => ⟨vs, (Same.ls e h1).sq, by rw [h2.length, ← hl]; omega⟩, fun i H v H' d P e1 e2 hP y hd => ?_⟩
  · rw [hl] at hi
    obtain ⟨x, hx⟩ := get_lt (l := vs) (by rw [h2.length]; exact hi)
    exact ⟨vs, x, (Same.ls e h1).sq, hx⟩
  · obtain ⟨T, x, rfl, hT, rfl, y⟩ := y
    obtain ⟨d', q1, rfl⟩ := enumL_get hd
    obtain ⟨d'', q3, q4⟩ := h2.get' (y vs ((Same.ls e1 h1).sq))
    rw [q1] at q3; cases q3
    have sm := same_upd (o := .tup [.int (i : Nat), x]) hT
    refine ⟨sm, .tup (.inl (.inl (wo_some.mpr ⟨fresh_not hT hP, upd_same⟩))) (.cons ?_ (.cons (Dn.mono (e2.trans (wo_same sm)) _ q4) .nil))⟩
    have : (0 : Int) + (i : Int) = ((i : Nat) : Int) := by omega
    rw [this]
    exact .int _
theorem zipL_get : ∀ {xs ys : List D} {i : Nat} {d : D}, (zipL xs ys)[i]? = some d → ∃ x y, xs[i]? = some x ∧ ys[i]? = some y ∧ d = .tuple [x, y]
  | [], _, _, _, h => by simp [zipL] at h
  | _ :: _, [], _, _, h => by simp [zipL] at h
  | x :: xs, y :: ys, 0, d, h => by
    have h : some (PyData.tuple [x, y]) = some d := h
    cases h
    exact ⟨x, y, rfl, rfl, rfl⟩
  | x :: xs, y :: ys, i + 1, d, h => zipL_get (xs := xs) (ys := ys) (show (zipL xs ys)[i]? = some d from h)
theorem zipL_length : ∀ (xs ys : List D), (zipL xs ys).length = min xs.length ys.length
  | [], _ => by simp [zipL]
  | _ :: _, [] => by simp [zipL]
  | x :: xs, y :: ys => by show (zipL xs ys).length + 1 = _; rw [zipL_length xs ys]; simp only [List.length_cons]; omega
/-- what stands where it is walked -/
def SrcOk (K : PySem.W.Frag) (C G : Hp) (k : Kd) (ds : List D) : Prop := ∃ vs, (∀ H, Same C H → k.rd K H vs) ∧ DnAll K G vs ds
theorem SrcOk.mono {k : Kd} {ds : List D} (h : SrcOk K C G k ds) (e : Same C C') (e' : Same G G') : SrcOk K C' G' k ds := let ⟨vs, h1, h2⟩ := h; ⟨vs, fun H q => h1 H (e.trans q), DnAll.mono e' _ h2⟩
theorem dnAll_chars {z : Str} : DnAll K G (chars z) (strL z) := by
  unfold chars strL
  induction z.cps.toList with
  | nil => exact .nil
  | cons c l ih => exact .cons (.str _) ih
theorem dn_src {v : V} {d : D} (h : Dn K G v d) (hi : iter1 d = some ds) (u : Value) (r : RelV v u) : ∃ k, k.v = u ∧ SrcOk K G G k ds := by
  cases d with
  | str z =>
    obtain rfl := dn_str h
    obtain ⟨t, rfl⟩ := r
    cases hi
    exact ⟨.S _ t, rfl, _, fun _ _ => rfl, dnAll_chars⟩
  | list es =>
    cases hi
    cases h with
    | @lst a vs _ h1 h2 =>
      cases r
      exact ⟨.L a, rfl, vs, fun H e => (Same.ls e h1).sq, h2⟩
  | tuple es =>
    cases hi
    cases h with
    | @tup a vs _ h1 h2 =>
      cases r
      exact ⟨.T a, rfl, vs, fun H e => Same.seqT e h1, h2⟩
  | _ => cases hi
theorem itG_ok {k1 k2 : Kd} {es : List D} (h1 : SrcOk K C G k1 ds) (h2 : SrcOk K C G k2 es) : ItOk K (ItG K k1 k2) (zipL ds es) C G := by
  have hl := zipL_length ds es
  obtain ⟨vs, r1, d1⟩ := h1
  obtain ⟨ws, r2, d2⟩ := h2
  have l1 := d1.length
  have l2 := d2.length
  refine ⟨fun i H e hi => ?_, fun i H e hi => ⟨vs, ws, r1 H e, r2 H e, by omega, by omega, by omega⟩, fun i H v H' d P e1 e2 hP y hd => ?_⟩
  · obtain ⟨x, hx⟩ := get_lt (l := vs) (i := i) (by omega)
    obtain ⟨y, hy⟩ := get_lt (l := ws) (i := i) (by omega)
    exact ⟨vs, ws, x, y, r1 H e, r2 H e, hx, hy⟩
  · obtain ⟨T, x, y', rfl, hT, rfl, y1, y2⟩ := y
    obtain ⟨dx, dy, q1, q2, rfl⟩ := zipL_get hd
    obtain ⟨d1', q3, q4⟩ := d1.get' (y1 vs (r1 H e1))
    obtain ⟨d2', q5, q6⟩ := d2.get' (y2 ws (r2 H e1))
    rw [q1] at q3; cases q3
    rw [q2] at q5; cases q5
    have sm := same_upd (o := .tup [x, y']) hT
    exact ⟨sm, .tup (.inl (.inl (wo_some.mpr ⟨fresh_not hT hP, upd_same⟩))) (.cons (Dn.mono (e2.trans (wo_same sm)) _ q4) (.cons (Dn.mono (e2.trans (wo_same sm)) _ q6) .nil))⟩
theorem itE_ok {k : Kd} (h : SrcOk K C G k ds) : ItOk K (ItE K k) (enumL 0 ds) C G := by
  have hl := enumL_length ds 0
  obtain ⟨vs, r1, h2⟩ := h
  have l1 := h2.length
  refine ⟨fun i H e hi => ?_, fun i H e hi => ⟨vs, r1 H e, by omega⟩, fun i H v H' d P e1 e2 hP y hd => ?_⟩
  · obtain ⟨x, hx⟩ := get_lt (l := vs) (i := i) (by omega)
    exact ⟨vs, x, r1 H e, hx⟩
  · obtain ⟨T, x, rfl, hT, rfl, y⟩ := y
    obtain ⟨d', q1, rfl⟩ := enumL_get hd
    obtain ⟨d'', q3, q4⟩ := h2.get' (y vs (r1 H e1))
    rw [q1] at q3; cases q3
    have sm := same_upd (o := .tup [.int (i : Nat), x]) hT
    refine ⟨sm, .tup (.inl (.inl (wo_some.mpr ⟨fresh_not hT hP, upd_same⟩))) (.cons ?_ (.cons (Dn.mono (e2.trans (wo_same sm)) _ q4) .nil))⟩
    have : (0 : Int) + (i : Int) = ((i : Nat) : Int) := by omega
    rw [this]
    exact .int _
end
/-- the reading of what is walked -/
def tI (K : PySem.W.Frag) (g : G) (W : WX) (xa : XA) (it : I) : TI := fun σ H R => ∃ F ps τ, Rel K F ps H σ τ ∧ Sat (evI g it τ) (fun x => ∀ J H', Same H H' →
  ItOk K J x.1 (wo (PP F.P0 (dr x.2 ps)) H') (wo (PP F.P0 (dr x.2 ps)) H') → ItOk K J x.1 H' (wo (PP F.P0 (dr (lkI it x.2) ps)) H') → R J H') (XO W xa σ H)
theorem PI.imp {X : Cx} {tg e : Expr} {t t' : TI} (h : PI X tg e t) (i : ∀ σ H R, t' σ H R → t σ H R) : PI X tg e t' := ⟨fun pins s σ H R I q => h.run pins s σ H R I (i σ H R q)⟩
section
variable {X : Cx} {c : Cfg} {sc : Scope} {g : G} {k : Nat} {W : WX} {xa : XA} (ev : Envr X c sc g k W xa)
/-- one that is walked, whichever it is -/
theorem pi_any {tg l : Expr} {tl : TE} (hl : PE X l tl) : PI X tg l (fun σ H R => tl σ H fun x H1 => (∃ a, x = .ref a ∧ (∃ xs, SqL X.K H1 a xs) ∧ R (Itl X.K a) H1) ∨ (∃ a, x = .ref a ∧ (∃ xs, SqT X.K H1 a xs) ∧ R (Itt X.K a) H1) ∨ ∃ s, x = .str s ∧ R (Its s) H1) := by
  refine ⟨fun pins s σ H R I h => ?_⟩
  refine thn (hl.run pins s σ H _ I h) fun v s1 ⟨x, H1, I1, r1, q1⟩ => ?_
  rcases q1 with ⟨a, e, ⟨xs, hq⟩, q⟩ | ⟨a, e, ⟨xs, hq⟩, q⟩ | ⟨z, e, q⟩
  · subst e
    cases r1
    obtain ⟨its, rv, p, hz⟩ := I1.list hq
    refine wpAny_pyIter_list p.isList ?_
    refine ⟨s1.heap.objs.size, [s1.heap.objs.size], _, _, H1, rfl, I1.kept (t' := s1.toks) fun b o e => Heap.get?_push_of_some _ e, turn_list a _, ⟨_, Heap.get?_push_size _ rfl, rfl, rfl⟩, fun b hb => ?_, q⟩
    have e : b = s1.heap.objs.size := by simpa using hb
    subst e
    exact I1.fpOk (Nat.le_refl _) (I1.hok.fresh (Nat.le_refl _))
  · subst e
    cases r1
    obtain ⟨its, rv, p, hz⟩ := I1.tuple hq
    refine wpAny_pyIter_tuple (show s1.heap.IsTuple a its.toArray from p) ?_
    refine ⟨s1.heap.objs.size, [s1.heap.objs.size], _, _, H1, rfl, I1.kept (t' := s1.toks) fun b o e => Heap.get?_push_of_some _ e, turn_tuple a _, ⟨_, Heap.get?_push_size _ rfl, rfl, rfl⟩, fun b hb => ?_, q⟩
    have e : b = s1.heap.objs.size := by simpa using hb
    subst e
    exact I1.fpOk (Nat.le_refl _) (I1.hok.fresh (Nat.le_refl _))
  · -- a text: by the layer's own rule, the value already there
    subst e
    obtain ⟨t, rfl⟩ := r1
    cases ha : z.cps.all (· < 128)
    · exact wpAny_pyIter_wide ha (pi_one (tk := s1.toks) I1 _ (turn_str _ z t "str_iterator" (.inr rfl)) ⟨_, Heap.get?_push_size _ rfl, rfl, rfl⟩ q)
    · exact wpAny_pyIter_ascii ha (pi_one (tk := s1.toks) I1 _ (turn_str _ z t "str_ascii_iterator" (.inl rfl)) ⟨_, Heap.get?_push_size _ rfl, rfl, rfl⟩ q)
theorem sI_it {tg e : Expr} {ce : E} (he : PE X e (tE X.K g W xa ce)) : PI X tg e (tI X.K g W xa (.it ce)) := by
  refine PI.imp (pi_any he) fun σ H R h => ?_
  obtain ⟨F, ps, τ, r, h⟩ := h
  unfold evI at h
  refine one r h fun x v H1 pa r1 hz => ?_
  obtain ⟨d, L⟩ := x
  cases d with
  | list ds =>
    obtain ⟨a, vs, rfl, h1, h2⟩ := pa.el
    refine .inl ⟨a, rfl, ⟨vs, h1.sq⟩, hz _ _ pa.same ?_ (itl_ok h1 h2)⟩
    have hd := pa.den
    cases hd with | lst q1 q2 => exact itl_ok q1 q2
  | tuple ds =>
    obtain ⟨a, vs, rfl, h1, h2⟩ := dn_tup (show Dn X.K _ v (.tuple ds) from pa.el)
    refine .inr (.inl ⟨a, rfl, ⟨vs, Same.seqT wo_all h1⟩, hz _ _ pa.same ?_ (itt_ok (Same.seqT wo_all h1) h2)⟩)
    have hd := pa.den
    cases hd with | tup q1 q2 => exact itt_ok q1 q2
  | str s =>
    obtain rfl := dn_str pa.dn
    exact .inr (.inr ⟨s, rfl, hz _ _ pa.same its_ok its_ok⟩)
  | _ => exact hz.elim
include ev
theorem sI_r1 {tg a : Expr} {ca : E} {p pos : Pos} (hb : c.bis.contains "range" = true) (hg : isGl sc "range" = true) (hs : isStar a = false) (ha : PE X a (tE X.K g W xa ca)) : PI X tg (.Call (.Name "range" p) [a] [] pos) (tI X.K g W xa (.r1 ca)) := by
  refine PI.imp (pi_range1 (ev.gl_of hg) (ev.bi _ hb) (pa_cons ha pa_nil (star_step hs _ _)) (star_step hs _ _)) fun σ H R h => ?_
  obtain ⟨F, ps, τ, r, h⟩ := h
  unfold evI at h
  refine one r h fun x v H1 pa r1 hz => ?_
  obtain ⟨d, L⟩ := x
  cases d with
  | int j =>
    obtain rfl := dn_int pa.dn
    dsimp only at hz
    unfold rngR1 at hz
    split at hz
    · rename_i q
      have q := small62_iff q
      exact ⟨j, rfl, q.1, q.2, hz _ _ pa.same itr_ok itr_ok⟩
    · exact hz.elim
  | _ => exact hz.elim
theorem sI_r2 {tg a b : Expr} {ca cb : E} {p pos : Pos} (hb : c.bis.contains "range" = true) (hg : isGl sc "range" = true) (hs : isStar a = false) (hs' : isStar b = false) (ha : PE X a (tE X.K g W xa ca)) (hb' : PE X b (tE X.K g W xa cb)) :
    PI X tg (.Call (.Name "range" p) [a, b] [] pos) (tI X.K g W xa (.r2 ca cb)) := by
  have e2 : starEach [b] X.env = [(false, eval b X.env)] := star_step hs' _ _
  refine PI.imp (pi_range2 (ev.gl_of hg) (ev.bi _ hb) (pa_cons ha (pa_cons hb' pa_nil (star_step hs' _ _)) (star_step hs _ _)) ((star_step hs _ _).trans (by rw [e2])) e2) fun σ H R h => ?_
  obtain ⟨F, ps, τ, r, h⟩ := h
  unfold evI at h
  refine two r h fun x y v u H1 H2 pa pb r2 hz => ?_
  obtain ⟨d, L⟩ := x
  obtain ⟨d', L'⟩ := y
  cases d with
  | int i =>
    cases d' with
    | int j =>
      obtain rfl := dn_int pa.dn
      obtain rfl := dn_int pb.dn
      dsimp only at hz
      unfold rngR at hz
      split at hz
      · rename_i q
        simp only [Bool.and_eq_true] at q
        have q1 := small62_iff q.1
        have q2 := small62_iff q.2
        exact ⟨i, j, rfl, ⟨q1.1, q1.2, q2.1, q2.2⟩, hz _ _ (pa.same.trans pb.same) itr_ok itr_ok⟩
      · exact hz.elim
    | _ => exact hz.elim
  | _ => exact hz.elim
theorem sI_rev {tg a : Expr} {ca : E} {p pos : Pos} (hb : c.bis.contains "reversed" = true) (hg : isGl sc "reversed" = true) (hs : isStar a = false) (ha : PE X a (tE X.K g W xa ca)) : PI X tg (.Call (.Name "reversed" p) [a] [] pos) (tI X.K g W xa (.rev ca)) := by
  refine PI.imp (RT.pi_revA (ev.gl_of hg) (ev.bi _ hb) ha (star_step hs _ _)) fun σ H R h => ?_
  obtain ⟨F, ps, τ, r, h⟩ := h
  unfold evI at h
  refine one r h fun x v H1 pa r1 hz => ?_
  obtain ⟨d, L⟩ := x
  have hd := pa.den
  cases d with
  | list ds =>
    cases hd with
    | @lst a vs _ q1 q2 =>
      have e := itv_ok q1 q2
      exact ⟨a, vs, rfl, .inl ⟨(Same.ls wo_all q1).sq, hz _ _ pa.same e (e.mono wo_all (Same.refl _))⟩⟩
  | tuple ds =>
    cases hd with
    | @tup a vs _ q1 q2 =>
      have e := itvT_ok q1 q2
      exact ⟨a, vs, rfl, .inr ⟨Same.seqT wo_all q1, hz _ _ pa.same e (e.mono wo_all (Same.refl _))⟩⟩
  | _ => exact hz.elim
theorem sI_rr1 {tg a : Expr} {ca : E} {p p2 pos pos2 : Pos} (hb : c.bis.contains "reversed" = true) (hg : isGl sc "reversed" = true) (hb2 : c.bis.contains "range" = true) (hg2 : isGl sc "range" = true) (hs : isStar a = false) (ha : PE X a (tE X.K g W xa ca)) : PI X tg (.Call (.Name "reversed" p) [.Call (.Name "range" p2) [a] [] pos2] [] pos) (tI X.K g W xa (.rr1 ca)) := by
  refine PI.imp (pi_revR (ev.gl_of hg) (ev.bi _ hb) (prg_1 (ev.gl_of hg2) (ev.bi _ hb2) ha (star_step hs _ _))) fun σ H R h => ?_
  obtain ⟨F, ps, τ, r, h⟩ := h
  unfold evI at h
  refine one r h fun x v H1 pa r1 hz => ?_
  obtain ⟨d, L⟩ := x
  cases d with
  | int j =>
    obtain rfl := dn_int pa.dn
    dsimp only at hz
    unfold rngR1 at hz
    split at hz
    · rename_i q
      have q := small62_iff q
      refine ⟨j, rfl, by decide, by decide, q.1, q.2, ?_⟩
      rw [show (j - 0).toNat = j.toNat by rw [Int.sub_zero]]
      exact hz _ _ pa.same itcr_ok itcr_ok
    · exact hz.elim
  | _ => exact hz.elim
theorem sI_rr2 {tg a b : Expr} {ca cb : E} {p p2 pos pos2 : Pos} (hb : c.bis.contains "reversed" = true) (hg : isGl sc "reversed" = true) (hb2 : c.bis.contains "range" = true) (hg2 : isGl sc "range" = true) (hs : isStar a = false) (hs' : isStar b = false) (ha : PE X a (tE X.K g W xa ca)) (hb' : PE X b (tE X.K g W xa cb)) :
    PI X tg (.Call (.Name "reversed" p) [.Call (.Name "range" p2) [a, b] [] pos2] [] pos) (tI X.K g W xa (.rr2 ca cb)) := by
  have e2 : starEach [b] X.env = [(false, eval b X.env)] := star_step hs' _ _
  refine PI.imp (pi_revR (ev.gl_of hg) (ev.bi _ hb) (prg_2 (ev.gl_of hg2) (ev.bi _ hb2) ha hb' ((star_step hs _ _).trans (by rw [e2])) e2 (by rw [e2]; rfl))) fun σ H R h => ?_
  obtain ⟨F, ps, τ, r, h⟩ := h
  unfold evI at h
  refine two r h fun x y v u H1 H2 pa pb r2 hz => ?_
  obtain ⟨d, L⟩ := x
  obtain ⟨d', L'⟩ := y
  cases d with
  | int i =>
    cases d' with
    | int j =>
      obtain rfl := dn_int pa.dn
      obtain rfl := dn_int pb.dn
      dsimp only at hz
      unfold rngR at hz
      split at hz
      · rename_i q
        simp only [Bool.and_eq_true] at q
        have q1 := small62_iff q.1
        have q2 := small62_iff q.2
        exact ⟨i, j, rfl, rfl, q1.1, q1.2, q2.1, q2.2, hz _ _ (pa.same.trans pb.same) itcr_ok itcr_ok⟩
      · exact hz.elim
    | _ => exact hz.elim
  | _ => exact hz.elim
theorem sI_enum {a : Expr} {ca : E} {p pos tpos : Pos} {elts : List Expr} {kk : Nat} (hb : c.bis.contains "enumerate" = true) (hg : isGl sc "enumerate" = true) (hs : isStar a = false) (ha : PE X a (tE X.K g W xa ca)) :
    PI X (.Tuple elts kk tpos) (.Call (.Name "enumerate" p) [a] [] pos) (tI X.K g W xa (.enum ca)) := by
  refine PI.imp (pi_enumG (ev.gl_of hg) (ev.bi _ hb) (pa_cons ha pa_nil (star_step hs _ _)) (star_step hs _ _)) fun σ H R h => ?_
  obtain ⟨F, ps, τ, r, h⟩ := h
  unfold evI at h
  refine one r h fun x v H1 pa r1 hz => ?_
  obtain ⟨d, L⟩ := x
  have hd := pa.den
  split at hz
  · rename_i ds hi
    refine ⟨v, rfl, fun u ru => ?_⟩
    obtain ⟨k, hk, so⟩ := dn_src hd hi u ru
    obtain ⟨vs, q1, q2⟩ := id so
    have e := itE_ok so
    exact ⟨k, vs, hk, q1 _ wo_all, hz _ _ pa.same e (e.mono wo_all (Same.refl _))⟩
  · exact hz.elim
theorem sI_zip {a b : Expr} {ca cb : E} {p pos tpos : Pos} {elts : List Expr} {kk : Nat} (hb : c.bis.contains "zip" = true) (hg : isGl sc "zip" = true) (hs : isStar a = false) (hs' : isStar b = false) (ha : PE X a (tE X.K g W xa ca)) (hb' : PE X b (tE X.K g W xa cb)) :
    PI X (.Tuple elts kk tpos) (.Call (.Name "zip" p) [a, b] [] pos) (tI X.K g W xa (.zip ca cb)) := by
  refine PI.imp (pi_zipG (ev.gl_of hg) (ev.bi _ hb) (pa_cons ha (pa_cons hb' pa_nil (star_step hs' _ _)) (star_step hs _ _)) (star_step hs _ _) (star_all (es := [b]) (by simp [hs']))) fun σ H R h => ?_
  obtain ⟨F, ps, τ, r, h⟩ := h
  unfold evI at h
  refine two r h fun x y v u H1 H2 pa pb r2 hz => ?_
  obtain ⟨d, L⟩ := x
  obtain ⟨d', L'⟩ := y
  have hd := Dn.mono (wo_same pb.same) _ pa.den
  have hd' := pb.den
  have hd := hd.sub (PP_dr (L := L) (M := L ++ L') (P0 := F.P0) (ps := ps) fun i hi => List.mem_append_left _ hi)
  have hd' := hd'.sub (PP_dr (L := L') (M := L ++ L') (P0 := F.P0) (ps := ps) fun i hi => List.mem_append_right _ hi)
  split at hz
  · rename_i ds es hi hi'
    refine ⟨v, u, rfl, fun u1 u2 r1 r2' => ?_⟩
    obtain ⟨k1, hk1, so1⟩ := dn_src hd hi u1 r1
    obtain ⟨k2, hk2, so2⟩ := dn_src hd' hi' u2 r2'
    obtain ⟨vs, q1, _⟩ := id so1
    obtain ⟨ws, q3, _⟩ := id so2
    have e := itG_ok so1 so2
    exact ⟨k1, k2, vs, ws, hk1, hk2, q1 _ wo_all, q3 _ wo_all, hz _ _ (pa.same.trans pb.same) e (e.mono wo_all (Same.refl _))⟩
  · exact hz.elim
omit ev
/-! ### targets -/
def tSlots : T → List Nat
  | .n i => [i]
  | .tup is => is
/-- a target takes a datum that is not owned -/
def tG (K : PySem.W.Frag) (t : T) : TG := fun v σ H Q => ∃ F ps τ d, Rel K F ps H σ τ ∧ Dn K (wo (PP F.P0 ps) H) v d ∧ match asg F.iol false t d τ with
  | some τ' => ∀ σ' ps', Rel K F ps' H σ' τ' → (∀ j, j ∉ tSlots t → ps' j = ps j) → (∀ j, ps' j = noP ∨ ps' j = ps j) → σ'.length = σ.length → (∀ j, j ∉ tSlots t → σ'[j]? = σ[j]?) → Q σ' H
  | none => False
/-- the names that may be stored here -/
def OwnN (X : Cx) (osc : Scope) : Prop := ∀ x, isOwn osc x = true → Loc X.env.scope x ∧ (X.fn x = true ∨ X.env.scope.names.lookup x = some .local)
theorem PG.imp {X : Cx} {e : Expr} {t t' : TG} (h : PG X e t) (i : ∀ v σ H Q, t' v σ H Q → t v σ H Q) : PG X e t' := ⟨fun pins s σ H v u Q I r q => h.run pins s σ H v u Q I r (i v σ H Q q)⟩
theorem Rel.set' {K : PySem.W.Frag} {F : Fx} {ps : Ps} {H : Hp} {σ : L2.St} {τ : Tau} (r : Rel K F ps H σ τ) {i : Nat} {v : V} {d : D} (h : Dn K (wo (PP F.P0 ps) H) v d) :
    ∃ ps', Rel K F ps' H (σ.set i (some v)) (τ.set i (some (false, d))) ∧ (∀ j, j ≠ i → ps' j = ps j) ∧ (∀ j, ps' j = noP ∨ ps' j = ps j) :=
  ⟨_, r.set h, fun j hj => funext fun b => dr1_no hj, fun j => by
    by_cases hj : j = i
    · exact .inl (funext fun b => if_pos hj)
    · exact .inr (funext fun b => dr1_no hj)⟩
theorem sG_n {x : Str} {i : Nat} {osc : Scope} {pos : Pos} (ho : OwnN X osc) (hN : X.N.Nodup) (hx : isOwn osc x = true) (hi : X.N[i]? = some x) : PG X (.Name x pos) (tG X.K (.n i)) := by
  obtain ⟨h1, h2⟩ := ho x hx
  refine PG.imp (pg_name hN hi h1 h2) fun v σ H Q h => ?_
  obtain ⟨F, ps, τ, d, r, hd, h⟩ := h
  unfold asg at h
  dsimp only at h
  split at h
  · rename_i τ' e
    split at e
    · cases e
    · cases e
      obtain ⟨ps', r', e1, e2⟩ := r.set' (i := i) hd
      exact h _ ps' r' (fun j hj => e1 j (by simpa [tSlots] using hj)) e2 (by simp) fun j hj => by
        rw [List.getElem?_set_ne (fun z => hj (by simp [tSlots, z]))]
  · exact h.elim
/-- several names -/
def tGs (K : PySem.W.Frag) (is : List Nat) : TGs := fun vs σ H Q => ∃ F ps τ ds, Rel K F ps H σ τ ∧ DnAll K (wo (PP F.P0 ps) H) vs ds ∧ match asgs F.iol is ds τ with
  | some τ' => ∀ σ' ps', Rel K F ps' H σ' τ' → (∀ j, j ∉ is → ps' j = ps j) → (∀ j, ps' j = noP ∨ ps' j = ps j) → σ'.length = σ.length → (∀ j, j ∉ is → σ'[j]? = σ[j]?) → Q σ' H
  | none => False
theorem PP_le {P0 : Addr → Prop} {ps ps' : Ps} (e : ∀ j, ps' j = noP ∨ ps' j = ps j) : ∀ a, PP P0 ps' a → PP P0 ps a := fun a z => by
  rcases z with z | ⟨j, b, z⟩
  · exact .inl z
  · rcases e j with q | q
    · rw [q] at z; cases z
    · exact .inr ⟨j, b, by rw [← q]; exact z⟩
theorem sGs {osc : Scope} (ho : OwnN X osc) (hN : X.N.Nodup) : ∀ {es : List Expr} {is : List Nat}, namesIx X.N osc es = some is → PGs X es (tGs X.K is) ∧ (assignEach es X.env).length = es.length ∧ (assignEach es X.env).findIdx? (·.1) = none ∧ is.length = es.length
  | [], is, h => by
    cases h
    refine ⟨⟨fun pins s σ H vs us Q I r h => pgs_nil.run pins s σ H vs us Q I r ?_⟩, rfl, rfl, rfl⟩
    obtain ⟨F, ps, τ, ds, rl, hd, h⟩ := h
    cases hd with
    | nil =>
      have h : ∀ σ' ps', Rel X.K F ps' H σ' τ → (∀ j, j ∉ ([] : List Nat) → ps' j = ps j) → (∀ j, ps' j = noP ∨ ps' j = ps j) → σ'.length = σ.length → (∀ j, j ∉ ([] : List Nat) → σ'[j]? = σ[j]?) → Q σ' H := h
      exact ⟨rfl, h σ ps rl (fun _ _ => rfl) (fun _ => .inr rfl) rfl fun _ _ => rfl⟩
    | cons _ _ => exact h.elim
  | e :: es, is, h => by
    cases e with
    | Name x pos =>
      simp only [namesIx] at h
      split at h
      · rename_i hx
        split at h
        · rename_i i hi
          obtain ⟨js, h1, rfl⟩ := Option.map_eq_some_iff.mp h
          obtain ⟨p1, p2, p3, p4⟩ := sGs ho hN h1
          obtain ⟨l1, l2⟩ := ho x hx
          have base := pgs_cons (pg_name (pos := pos) hN (ixOf_get hi) l1 l2) p1 rfl
          refine ⟨⟨fun pins s σ H vs us Q I r h => base.run pins s σ H vs us Q I r ?_⟩, by show (assignEach es X.env).length + 1 = es.length + 1; rw [p2], ?_, by simp [p4]⟩
          · obtain ⟨F, ps, τ, ds, rl, hd, h⟩ := h
            cases hd with
            | nil => exact h.elim
            | cons d1 d2 =>
              rename_i v vs d ds
              have h : match (if i ∈ F.iol then none else asgs F.iol js ds (τ.set i (some (false, d)))) with
                | some τ' => ∀ σ' ps', Rel X.K F ps' H σ' τ' → (∀ j, j ∉ i :: js → ps' j = ps j) → (∀ j, ps' j = noP ∨ ps' j = ps j) → σ'.length = σ.length → (∀ j, j ∉ i :: js → σ'[j]? = σ[j]?) → Q σ' H
                | none => False := h
              split at h
              · rename_i τ' e
                split at e
                · cases e
                · obtain ⟨ps1, r1, e1, e2⟩ := rl.set' (i := i) d1
                  refine ⟨v, vs, rfl, F, ps1, _, ds, r1, d2.sub (PP_le e2), ?_⟩
                  rw [e]
                  refine fun σ' ps' r' q1 q2 q3 q4 => h σ' ps' r' (fun j hj => ?_) (fun j => ?_) (by simpa using q3) fun j hj => ?_
                  · rw [q1 j (fun z => hj (List.mem_cons_of_mem _ z)), e1 j (fun z => hj (by simp [z]))]
                  · rcases q2 j with q | q
                    · exact .inl q
                    · rw [q]; exact e2 j
                  · rw [q4 j (fun z => hj (List.mem_cons_of_mem _ z)), List.getElem?_set_ne (fun z => hj (by simp [z]))]
              · exact h.elim
          · show List.findIdx? _ ((false, assign (.Name x pos) X.env) :: assignEach es X.env) = none
            rw [List.findIdx?_cons]
            simp [p3]
        · cases h
      · cases h
    | _ => simp [namesIx] at h
theorem sG_tup {es : List Expr} {is : List Nat} {osc : Scope} {n : Nat} {pos : Pos} (hc : X.calm = true) (ho : OwnN X osc) (hN : X.N.Nodup) (h : namesIx X.N osc es = some is) : PG X (.Tuple es n pos) (tG X.K (.tup is)) := by
  obtain ⟨p1, p2, p3, p4⟩ := sGs ho hN h
  have hl : ∀ {iol is : List Nat} {ds : List D} {τ : Tau}, asgs iol is ds τ ≠ none → is.length = ds.length := by
    intro iol is
    induction is with
    | nil => intro ds τ q; cases ds with | nil => rfl | cons _ _ => exact absurd rfl q
    | cons i is ih =>
      intro ds τ q
      cases ds with
      | nil => exact absurd rfl q
      | cons d ds =>
        have q : (if i ∈ iol then none else asgs iol is ds (τ.set i (some (false, d)))) ≠ none := q
        by_cases hi : i ∈ iol
        · rw [if_pos hi] at q; exact absurd rfl q
        · rw [if_neg hi] at q; simp [ih q]
  refine ⟨fun pins s σ H v u Q I rv h => ?_⟩
  obtain ⟨F, ps, τ, d, r, hd, h⟩ := h
  cases d with
  | tuple ds =>
    obtain ⟨a, vs, rfl, h1, h2⟩ := dn_tup hd
    have h : match asgs F.iol is ds τ with
      | some τ' => ∀ σ' ps', Rel X.K F ps' H σ' τ' → (∀ j, j ∉ is → ps' j = ps j) → (∀ j, ps' j = noP ∨ ps' j = ps j) → σ'.length = σ.length → (∀ j, j ∉ is → σ'[j]? = σ[j]?) → Q σ' H
      | none => False := h
    refine (pg_tup hc p1 p2 p3).run pins s σ H _ u Q I rv ⟨a, vs, rfl, Same.seqT wo_all h1, ?_, F, ps, τ, ds, r, h2, h⟩
    rw [h2.length, ← p4]
    refine (hl (iol := F.iol) (τ := τ) fun z => ?_).symm
    rw [z] at h
    exact h
  | list ds =>
    obtain ⟨a, vs, rfl, h1, h2⟩ : ∃ a vs, v = .ref a ∧ LsR X.K (wo (PP F.P0 ps) H) a vs ∧ DnAll X.K (wo (PP F.P0 ps) H) vs ds := by cases hd with | lst z1 z2 => exact ⟨_, _, rfl, z1, z2⟩
    have h : match asgs F.iol is ds τ with
      | some τ' => ∀ σ' ps', Rel X.K F ps' H σ' τ' → (∀ j, j ∉ is → ps' j = ps j) → (∀ j, ps' j = noP ∨ ps' j = ps j) → σ'.length = σ.length → (∀ j, j ∉ is → σ'[j]? = σ[j]?) → Q σ' H
      | none => False := h
    refine (pg_unl hc p1 p2 p3).run pins s σ H _ u Q I rv ⟨a, vs, rfl, (Same.ls wo_all h1).sq, ?_, F, ps, τ, ds, r, h2, h⟩
    rw [h2.length, ← p4]
    refine (hl (iol := F.iol) (τ := τ) fun z => ?_).symm
    rw [z] at h
    exact h
  | _ => exact h.elim
theorem sG {tg : Expr} {t : T} {osc : Scope} (hc : X.calm = true) (ho : OwnN X osc) (hN : X.N.Nodup) (h : cT X.N osc tg = some t) : PG X tg (tG X.K t) := by
  cases tg with
  | Name x pos =>
    simp only [cT] at h
    split at h
    · rename_i hx
      obtain ⟨i, h1, rfl⟩ := Option.map_eq_some_iff.mp h
      exact sG_n ho hN hx (ixOf_get h1)
    · cases h
  | Tuple es n pos =>
    obtain ⟨is, h1, rfl⟩ := Option.map_eq_some_iff.mp (show (namesIx X.N osc es).map T.tup = some t from h)
    exact sG_tup hc ho hN h1
  | _ => simp [cT] at h
end
end Mp

/-! MiniPy, part I: comprehensions. -/
namespace Mp
open PySem PySem.Spec PyProof.Rows L2
theorem wipe_get {σ : L2.St} : ∀ {vs : List Nat} {j : Nat}, j ∉ vs → (wipe σ vs)[j]? = σ[j]?
  | [], _, _ => rfl
  | v :: vs, j, h => by
    have h1 : j ≠ v := fun z => h (by simp [z])
    show ((wipe σ vs).set v none)[j]? = σ[j]?
    rw [List.getElem?_set_ne (fun z => h1 z.symm)]
    exact wipe_get fun z => h (List.mem_cons_of_mem _ z)
theorem wipe_in {σ : L2.St} : ∀ {vs : List Nat} {j : Nat}, j ∈ vs → j < σ.length → (wipe σ vs)[j]? = some none
  | [], _, h, _ => nomatch h
  | v :: vs, j, h, hl => by
    show ((wipe σ vs).set v none)[j]? = some none
    by_cases e : v = j
    · subst e
      rw [List.getElem?_set_self (by rw [wipe_length]; exact hl)]
    · rw [List.getElem?_set_ne e]
      exact wipe_in ((List.mem_cons.mp h).resolve_left fun z => e z.symm) hl
theorem wipe_eq {σ σ' : L2.St} {vs : List Nat} (hl : σ'.length = σ.length) (h : ∀ j, j ∉ vs → σ'[j]? = σ[j]?) : wipe σ' vs = wipe σ vs := by
  apply List.ext_getElem?
  intro j
  by_cases hj : j ∈ vs
  · by_cases hlt : j < σ.length
    · rw [wipe_in hj hlt, wipe_in hj (by rw [hl]; exact hlt)]
    · rw [List.getElem?_eq_none (by rw [wipe_length, hl]; omega), List.getElem?_eq_none (by rw [wipe_length]; omega)]
  · rw [wipe_get hj, wipe_get hj, h j hj]
theorem wipeT_get {σ : Tau} : ∀ {vs : List Nat} {j : Nat}, j ∉ vs → (wipeT σ vs)[j]? = σ[j]?
  | [], _, _ => rfl
  | v :: vs, j, h => by
    have h1 : j ≠ v := fun z => h (by simp [z])
    show ((wipeT σ vs).set v none)[j]? = σ[j]?
    rw [List.getElem?_set_ne (fun z => h1 z.symm)]
    exact wipeT_get fun z => h (List.mem_cons_of_mem _ z)
theorem wipeT_in {σ : Tau} : ∀ {vs : List Nat} {j : Nat}, j ∈ vs → j < σ.length → (wipeT σ vs)[j]? = some none
  | [], _, h, _ => nomatch h
  | v :: vs, j, h, hl => by
    show ((wipeT σ vs).set v none)[j]? = some none
    by_cases e : v = j
    · subst e
      rw [List.getElem?_set_self (by rw [wipeT_length]; exact hl)]
    · rw [List.getElem?_set_ne e]
      exact wipeT_in ((List.mem_cons.mp h).resolve_left fun z => e z.symm) hl
theorem wipeT_some {τ : Tau} {vs : List Nat} {j : Nat} {x : Bool × D} (h : (wipeT τ vs)[j]? = some (some x)) : j ∉ vs ∧ τ[j]? = some (some x) := by
  by_cases hj : j ∈ vs
  · by_cases hlt : j < τ.length
    · rw [wipeT_in hj hlt] at h; cases h
    · rw [List.getElem?_eq_none (by rw [wipeT_length]; omega)] at h; cases h
  · rw [wipeT_get hj] at h; exact ⟨hj, h⟩
section
variable {K : PySem.W.Frag} {F : Fx} {ps : Ps} {H H' : Hp} {σ : L2.St} {τ : Tau}
/-- slots are forgotten -/
theorem Rel.forget (r : Rel K F ps H σ τ) (vs : List Nat) : Rel K F (dr vs ps) H σ (wipeT τ vs) := by
  refine ⟨by rw [wipeT_length, r.ls], fun i d h => ?_, fun i d h => ?_, fun i b p h => ?_, fun i j b c p h1 h2 => r.inj i j b c p (dr_some.mp h1).2 (dr_some.mp h2).2, fun i b p h => r.out i b p (dr_some.mp h).2, r.keep, fun i b p h => r.new i b p (dr_some.mp h).2, r.p0, fun i hi => dr_pin (r.pin i hi), fun i b p h hi => r.nw.1 i b p (dr_some.mp h).2 hi, r.nw.2⟩
  · obtain ⟨h1, h2⟩ := wipeT_some h
    obtain ⟨p, q1, q2, q3⟩ := r.own i d h2
    exact ⟨p, dr_some.mpr ⟨h1, q1⟩, q2, by rw [dr_no h1]; exact q3.mono (fun _ q => q) (fun _ _ _ q => q) (wo_sub PP_dr0)⟩
  · obtain ⟨h1, h2⟩ := wipeT_some h
    obtain ⟨v, q1, q2⟩ := r.cln i d h2
    exact ⟨v, q1, q2.sub PP_dr0⟩
  · obtain ⟨h1, h2⟩ := dr_some.mp h
    obtain ⟨d, q⟩ := r.pown i b p h2
    exact ⟨d, by rw [wipeT_get h1]; exact q⟩
/-- within a comprehension's block -/
def Fx.blk (F : Fx) (ps : Ps) (own : List Nat) (D0 : Addr) : Fx := ⟨F.H0, F.io, fun a => F.P0 a ∨ a = D0 ∨ ∃ j b, j ∈ own ∧ ps j b = some a, [], fun _ _ => none, fun _ => True⟩
theorem blk_PP {own : List Nat} {D0 : Addr} {a : Addr} : PP (F.blk ps own D0).P0 (dr own ps) a ↔ (a = D0 ∨ PP F.P0 ps a) := by
  constructor
  · rintro ((h | h | ⟨j, b, _, h⟩) | ⟨j, b, h⟩)
    · exact .inr (.inl h)
    · exact .inl h
    · exact .inr (.inr ⟨j, b, h⟩)
    · exact .inr (.inr ⟨j, b, (dr_some.mp h).2⟩)
  · rintro (h | h | ⟨j, b, h⟩)
    · exact .inl (.inr (.inl h))
    · exact .inl (.inl h)
    · by_cases hj : j ∈ own
      · exact .inl (.inr (.inr ⟨j, b, hj, h⟩))
      · exact .inr ⟨j, b, dr_some.mpr ⟨hj, h⟩⟩
theorem Rel.blk (r : Rel K F ps H σ τ) {own : List Nat} {D0 : Addr} {vs : List V} (e : Same H H') (hD : H D0 = none) (hD' : H' D0 = some (.lst vs)) : Rel K (F.blk ps own D0) (dr own ps) H' (wipe σ own) (wipeT τ own) := by
  have key : Same (wo (PP F.P0 ps) H) (wo (PP (F.blk ps own D0).P0 (dr own ps)) H') := wo_gen fun a o h1 h2 => ⟨fun q => by
    rcases blk_PP.mp q with q | q
    · rw [q, hD] at h2; cases h2
    · exact h1 q, e _ _ h2⟩
  refine ⟨by rw [wipe_length, wipeT_length, r.ls], fun i d h => ?_, fun i d h => ?_, fun i b p h => ?_, fun i j b c p h1 h2 => ?_, fun i b p h => ?_, fun a o h1 h2 => e _ _ (r.keep a o h1 h2), fun i b p h => ?_, fun a h => ?_, fun i h => (nomatch h), fun _ _ _ _ _ => trivial, fun _ _ => trivial⟩
  · obtain ⟨h1, h2⟩ := wipeT_some h
    obtain ⟨p, q1, q2, q3⟩ := r.own i d h2
    exact ⟨p, dr_some.mpr ⟨h1, q1⟩, by rw [wipe_get h1]; exact q2, by rw [dr_no h1]; exact q3.mono (fun o q => e _ _ q) (fun _ _ _ q => e _ _ q) key⟩
  · obtain ⟨h1, h2⟩ := wipeT_some h
    obtain ⟨v, q1, q2⟩ := r.cln i d h2
    exact ⟨v, by rw [wipe_get h1]; exact q1, Dn.mono key _ q2⟩
  · obtain ⟨h1, h2⟩ := dr_some.mp h
    obtain ⟨d, q⟩ := r.pown i b p h2
    exact ⟨d, by rw [wipeT_get h1]; exact q⟩
  · exact r.inj i j b c p (dr_some.mp h1).2 (dr_some.mp h2).2
  · obtain ⟨h1, h2⟩ := dr_some.mp h
    rintro (q | q | ⟨j, c, q1, q2⟩)
    · exact r.out i b p h2 q
    · obtain ⟨o, q3, _⟩ := r.there (.inr ⟨i, b, h2⟩)
      rw [q, hD] at q3; cases q3
    · exact h1 (by rw [(r.inj i j b c p h2 q2).1]; exact q1)
  · exact r.new i b p (dr_some.mp h).2
  · rcases h with q | q | ⟨j, b, _, q2⟩
    · obtain ⟨o, q1, q2⟩ := r.p0 a q
      exact ⟨o, e _ _ q1, q2⟩
    · exact ⟨.lst vs, by rw [q]; exact hD', trivial⟩
    · obtain ⟨o, q3, q4⟩ := r.there (.inr ⟨j, b, q2⟩)
      exact ⟨o, e _ _ q3, q4⟩
end
def W0 : WX := fun _ _ _ _ => False
def tC (K : PySem.W.Frag) (g : G) (xa : XA) : O → TT
  | .no => tYes
  | .yes e => tT K g W0 xa e
theorem compL_noex {elt : Tau → R (D × List Nat)} {cond : Tau → R Bool} {t : T} {own : List Nat} {τw : Tau} {x : Exc} : ∀ {ds : List D}, compL elt cond t own τw ds ≠ .ex x
  | [], h => by cases h
  | d :: ds, h => by
    unfold compL at h
    split at h
    · cases h
    · split at h
      · split at h
        · split at h
          · cases h
          · cases h
        · cases h
      · exact compL_noex h
      · cases h
section
variable {X : Cx} {c : Cfg} {sc : Scope} {g : G} {k : Nat} {W : WX} {xa : XA} (ev : Envr X c sc g k W xa)
theorem tIn_sub {t : T} {own : List Nat} (h : tIn t own = true) : ∀ j, j ∈ tSlots t → j ∈ own := fun j hj => by
  cases t with
  | n i => simp only [tSlots, List.mem_singleton] at hj; subst hj; simpa [tIn] using h
  | tup is =>
    simp only [tIn, List.all_eq_true] at h
    simpa using h j hj
structure CInv (K : PySem.W.Frag) (P : Addr → Prop) (H1 : Hp) (D0 : Addr) (cl : List D → R (List D × List Nat)) (ds : List D) (y : List D × List Nat) (i : Nat) (H2 : Hp) : Prop where
  le : i ≤ ds.length
  same : Same H1 H2
  ex : ∃ accv accd xs M, H2 D0 = some (.lst accv) ∧ DnAll K (wo (fun a => a = D0 ∨ P a) H2) accv accd ∧ accd.length ≤ i ∧ cl (ds.drop i) = .ok (xs, M) ∧ y.1 = accd ++ xs ∧ ∀ j, j ∈ M → j ∈ y.2
theorem rd_comp {ce : E} {t : T} {ci : I} {cc : O} {own : List Nat} (hin : tIn t own = true) {σ : L2.St} {H : Hp} {Q : VK} (h : tE X.K g W xa (.comp ce t ci cc own) σ H Q) :
    tLc (tI X.K g W xa ci) (tG X.K t) (tC X.K g xa cc) (tE X.K g W0 xa ce) own σ H Q := by
  obtain ⟨F, ps, τ, r, h⟩ := h
  unfold evE at h
  refine ⟨F, ps, τ, r, (Sat.bind.mp h).imp (fun x hx J H1 e1 _ ok D0 hD => ?_) fun _ z => z⟩
  split at hx
  case isFalse => exact hx.elim
  rename_i hlen
  cases hcl : compL (evE g ce) (evC g cc) t own (wipeT (frz (lkI ci x.2) τ) own) x.1 with
  | ex z => exact absurd hcl compL_noex
  | st => rw [hcl] at hx; exact hx.elim
  | ok y =>
  rw [hcl] at hx
  have hx : ∀ v H', EPost X.K F.P0 ps H H' (.comp ce t ci cc own) (.list y.1, lkI ci x.2 ++ y.2) v → Q v H' := hx
  have r1 : Rel X.K F (dr (lkI ci x.2) ps) H1 σ (frz (lkI ci x.2) τ) := (r.mono e1).frz _
  have there1 : ∀ a, PP F.P0 ps a → ∃ o, H1 a = some o ∧ IsCo o := fun a z => (r.mono e1).there z
  refine ⟨fun i m H2 => m = x.1.length - i ∧ CInv X.K (PP F.P0 (dr (lkI ci x.2 ++ y.2) ps)) H1 D0 (compL (evE g ce) (evC g cc) t own (wipeT (frz (lkI ci x.2) τ) own)) x.1 y i H2,
    ⟨x.1.length, by simp, Nat.zero_le _, same_upd hD, [], [], y.1, y.2, upd_same, .nil, Nat.le_refl _, hcl, rfl, fun _ q => q⟩, ?_⟩
  rintro i m H2 ⟨rfl, hi, s12, accv, accd, xs, M, hH2, hacc, hal, hc, hy, hM⟩
  by_cases hlt : i < x.1.length
  · -- one more turn
    obtain ⟨d, hd⟩ := get_lt hlt
    have hdrop : x.1.drop i = d :: x.1.drop (i + 1) := by
      have := List.drop_eq_getElem_cons hlt
      rw [this]
      have e : x.1[i] = d := by
        have := (List.getElem?_eq_some_iff.mp hd).2
        exact this
      rw [e]
    rw [hdrop] at hc
    unfold compL at hc
    refine .inr ⟨ok.go i H2 s12 hlt, CInv X.K (PP F.P0 (dr (lkI ci x.2 ++ y.2) ps)) H1 D0 (compL (evE g ce) (evC g cc) t own (wipeT (frz (lkI ci x.2) τ) own)) x.1 y (i + 1), fun H' h => ⟨x.1.length - (i + 1), by omega, rfl, h⟩, fun x0 H3 hyld => ?_⟩
    split at hc
    · cases hc
    rename_i τ' hasg
    have rb2 : Rel X.K (F.blk (dr (lkI ci x.2) ps) own D0) (dr own (dr (lkI ci x.2) ps)) H2 (wipe σ own) (wipeT (frz (lkI ci x.2) τ) own) := r1.blk s12 hD hH2
    have hG : Same (wo (PP F.P0 (dr (lkI ci x.2) ps)) H1) (wo (PP (F.blk (dr (lkI ci x.2) ps) own D0).P0 (dr own (dr (lkI ci x.2) ps))) H2) := wo_gen fun a o h1 h2 => ⟨fun q => by
      rcases blk_PP.mp q with q | q
      · rw [q, hD] at h2; cases h2
      · exact h1 q, s12 _ _ h2⟩
    obtain ⟨s23, hx0⟩ := ok.yld i H2 x0 H3 d _ s12 hG (fun a q => let ⟨o, q1, _⟩ := rb2.there q; ⟨o, q1⟩) hyld hd
    refine ⟨_, _, _, d, rb2.mono s23, hx0, ?_⟩
    have hasg' : asg (F.blk (dr (lkI ci x.2) ps) own D0).iol false t d (wipeT (frz (lkI ci x.2) τ) own) = some τ' := hasg
    rw [hasg']
    intro σ' ps'' r3 q1 q2 q3 q4
    refine ⟨?_, ?_⟩
    · have e1 : wipe σ' own = wipe (wipe σ own) own := wipe_eq q3 fun j hj => q4 j fun z => hj (tIn_sub hin j z)
      rw [e1]
      exact wipe_eq (wipe_length _ _) fun j hj => wipe_get hj
    -- the test
    have step : ∀ (b : Bool) (H4 : Hp), Same H3 H4 → evC g cc τ' = .ok b → (if b = true then tE X.K g W0 xa ce σ' H4 fun v H5 => ∃ acc, H5 D0 = some (.lst acc) ∧ acc.length < sizeLine ∧ CInv X.K (PP F.P0 (dr (lkI ci x.2 ++ y.2) ps)) H1 D0 (compL (evE g ce) (evC g cc) t own (wipeT (frz (lkI ci x.2) τ) own)) x.1 y (i + 1) (upd H5 D0 (.lst (acc ++ [v])))
      else CInv X.K (PP F.P0 (dr (lkI ci x.2 ++ y.2) ps)) H1 D0 (compL (evE g ce) (evC g cc) t own (wipeT (frz (lkI ci x.2) τ) own)) x.1 y (i + 1) H4) := fun b H4 s34 hb => by
      rw [hb] at hc
      cases b with
      | false =>
        rw [if_neg (by decide)]
        have s24 := s23.trans s34
        exact ⟨hlt, s12.trans s24, accv, accd, xs, M, s24 _ _ hH2, DnAll.mono (wo_same s24) _ hacc, Nat.le_succ_of_le hal, hc, hy, hM⟩
      | true =>
        rw [if_pos rfl]
        dsimp only at hc
        split at hc
        case h_2 => cases hc
        rename_i z L he
        split at hc
        case h_2 => cases hc
        rename_i zs N hcs
        cases hc
        refine ⟨_, _, _, r3.mono s34, ?_⟩
        rw [he]
        intro v H5 pe
        have s25 := (s23.trans s34).trans pe.same
        have hD5 : H5 D0 = some (.lst accv) := s25 _ _ hH2
        refine ⟨accv, hD5, by rw [hacc.length]; omega, hlt, fun a o q => ?_, accv ++ [v], accd ++ [z], zs, N, upd_same, ?_, by rw [List.length_append]; simp; omega, hcs, by rw [hy, List.append_assoc]; rfl, fun j hj => hM j (List.mem_append_right _ hj)⟩
        · rw [upd_ne (fun e => by rw [e, hD] at q; cases q)]
          exact (s12.trans s25) _ _ q
        · refine DnAll.append (DnAll.mono (wo_gen fun a o h1 h2 => ⟨h1, ?_⟩) _ hacc) (.cons (Dn.mono (wo_gen fun a o h1 h2 => ⟨?_, ?_⟩) _ pe.den) .nil)
          · rw [upd_ne fun e => h1 (.inl e)]; exact s25 _ _ h2
          · rintro (q | q)
            · exact h1 (.inl (.inr (.inl q)))
            · rcases q with q | ⟨j, b, q⟩
              · exact h1 (.inl (.inl q))
              · obtain ⟨n1, n2⟩ := dr_some.mp q
                have nl : j ∉ lkI ci x.2 := fun z => n1 (List.mem_append_left _ z)
                have p1 : dr (lkI ci x.2) ps j b = some a := dr_some.mpr ⟨nl, n2⟩
                by_cases ho : j ∈ own
                · exact h1 (.inl (.inr (.inr ⟨j, b, ho, p1⟩)))
                · refine h1 (.inr ⟨j, b, dr_some.mpr ⟨fun z => n1 (List.mem_append_right _ (hM j (List.mem_append_left _ z))), ?_⟩⟩)
                  rw [q1 j (fun z => ho (tIn_sub hin j z))]
                  exact dr_some.mpr ⟨ho, p1⟩
          · have : a ≠ D0 := fun e => h1 (.inl (.inr (.inl e)))
            rw [upd_ne this]; exact h2
    cases cc with
    | no => exact step true H3 (Same.refl _) rfl
    | yes q =>
      refine ⟨_, _, _, r3, ?_⟩
      have hb : evC g (.yes q) τ' = evT g q τ' := rfl
      cases hq : evT g q τ' with
      | ok b => exact fun H4 s34 => step b H4 s34 (hb.trans hq)
      | ex z =>
        rw [hb, hq] at hc; cases hc
      | st =>
        rw [hb, hq] at hc; cases hc
  · -- the end
    have hie : i = x.1.length := by omega
    rw [hie, List.drop_length] at hc
    cases hc
    rw [List.append_nil] at hy
    refine .inl ⟨ok.stop i H2 s12 (by omega), hx _ _ ?_⟩
    have npD : ¬ PP F.P0 (dr (lkI ci x.2 ++ y.2) ps) D0 := fun q => by
      obtain ⟨o, q1, _⟩ := there1 D0 (PP_dr0 _ q)
      rw [hD] at q1; cases q1
    rw [hy]
    have den : Dn X.K (wo (PP F.P0 (dr (lkI ci x.2 ++ y.2) ps)) H2) (.ref D0) (.list accd) := .lst (.inl (.inl (wo_some.mpr ⟨npD, hH2⟩))) (hacc.sub fun a q => .inr q)
    rw [← hy]
    refine ⟨e1.trans s12, by rw [hy] at *; exact den, by rw [hy] at *; exact Dn.elcl wo_all den, fun _ _ => ⟨D0, rfl, e1.free hD, rfl, accv, hH2, by rw [hy]; exact hacc⟩⟩
end
end Mp

/-! MiniPy, part J: every expression of the text. -/
namespace Mp
open PySem PySem.Spec PyProof.Rows L2
section
variable {X : Cx} {c : Cfg} {sc : Scope} {g : G} {k : Nat} {W : WX} {xa : XA} (ev : Envr X c sc g k W xa)
theorem nstar {a : Expr} (h : (!isStar a) = true) : isStar a = false := by simpa using h
include ev
theorem s_mkI {f : Expr → E} {tg iter : Expr} (hf : ∀ e, PE X e (tE X.K g W xa (f e))) : PI X tg iter (tI X.K g W xa (mkI c sc f tg iter)) := by
  have dflt : PI X tg iter (tI X.K g W xa (.it (f iter))) := sI_it (hf iter)
  have bad : PI X tg iter (tI X.K g W xa (.it .bad)) := sI_it sE_bad
  unfold mkI
  split
  · rename_i x p a pos
    split
    · rename_i hc
      simp only [Bool.and_eq_true] at hc
      have hs := nstar hc.2
      split
      · rename_i hx; subst hx
        split
        · rename_i hb
          exact sI_r1 ev hb hc.1.1 hs (hf a)
        · exact bad
      · split
        · rename_i hx; subst hx
          split
          · rename_i hb
            unfold mkRev
            split
            · rename_i y p2 b2 pos2
              split
              · rename_i hh
                obtain ⟨rfl, h2, h3, h4⟩ := hh
                split
                · rename_i hb2
                  exact sI_rr1 ev hb hc.1.1 hb2 h2 h4 (hf b2)
                · exact bad
              · exact sI_rev ev hb hc.1.1 hs (hf _)
            · rename_i y p2 b2 d2 pos2
              split
              · rename_i hh
                obtain ⟨rfl, h2, h3, h4, h5⟩ := hh
                split
                · rename_i hb2
                  exact sI_rr2 ev hb hc.1.1 hb2 h2 h4 h5 (hf b2) (hf d2)
                · exact bad
              · exact sI_rev ev hb hc.1.1 hs (hf _)
            · exact sI_rev ev hb hc.1.1 hs (hf a)
          · exact bad
        · split
          · rename_i hx; subst hx
            split
            · rename_i hb
              simp only [Bool.and_eq_true] at hb
              cases tg with
              | Tuple elts kk tpos => exact sI_enum ev hb.1 hc.1.1 hs (hf a)
              | _ => simp [isTup] at hb
            · exact bad
          · exact dflt
    · exact dflt
  · rename_i x p a b pos
    split
    · rename_i hc
      simp only [Bool.and_eq_true] at hc
      have hs := nstar hc.1.2
      have hs' := nstar hc.2
      split
      · rename_i hx; subst hx
        split
        · rename_i hb
          exact sI_r2 ev hb hc.1.1.1 hs hs' (hf a) (hf b)
        · exact bad
      · split
        · rename_i hx; subst hx
          split
          · rename_i hb
            simp only [Bool.and_eq_true] at hb
            cases tg with
            | Tuple elts kk tpos => exact sI_zip ev hb.1 hc.1.1.1 hs hs' (hf a) (hf b)
            | _ => simp [isTup] at hb
          · exact bad
        · exact dflt
    · exact dflt
  · exact dflt
omit ev in
theorem sT_st {e : Expr} {ce : E} (h : ∀ τ, evT g ce τ = .st) : PT X e (tT X.K g W xa ce) := ⟨fun _ _ _ _ _ _ q => by
  obtain ⟨_, _, τ, _, q⟩ := q
  rw [h τ] at q; exact q.elim⟩
omit ev in
theorem sW_bad {e : Expr} : PW X e (tT X.K g W xa .bad) := ⟨fun _ _ _ _ _ _ _ h => by obtain ⟨_, _, _, _, h⟩ := h; exact h.elim⟩
omit ev in
/-- a value's truth -/
theorem sT_of {e : Expr} {ce : E} (h : PE X e (tE X.K g W xa ce)) (ht : ∀ τ, evT g ce τ = (evE g ce τ).bind fun x => R.of (truD x.1))
    (he : ∀ whole, isTrue e X.env whole = (do let v ← whole; standAt e.pos; holding [v] (truthy v))) : PT X e (tT X.K g W xa ce) := by
  refine PT.imp (pt_truthD h he) fun σ H Q q => ?_
  obtain ⟨F, ps, τ, r, q⟩ := q
  rw [ht τ] at q
  refine one r q fun x v H1 pa r1 hz => ?_
  cases e' : truD x.1 with
  | none => rw [e'] at hz; exact hz.elim
  | some z => rw [e'] at hz; exact ⟨x.1, z, pa.dn, e', hz _ pa.same⟩
omit ev in
theorem evT_bi {f : Bi} {es : Es} (τ : Tau) : evT g (.bi f es) τ = (evE g (.bi f es) τ).bind fun x => R.of (truD x.1) := by
  unfold evT evE
  cases evEs g es τ with
  | ok x =>
    simp only [R.bind_ok]
    cases biD f x.1 with
    | some z => rfl
    | none => rfl
  | ex x => rfl
  | st => rfl
omit ev in
theorem evT_st (τ : Tau) {ce : E} (h : evT g ce τ = .st) : evT g ce τ = .st := h
/-- the three readings of an expression -/
structure All (X : Cx) (g : G) (W : WX) (xa : XA) (e : Expr) (ce : E) : Prop where
  pe : PE X e (tE X.K g W xa ce)
  pt : PT X e (tT X.K g W xa ce)
  pw : (∃ op vs pos, e = .BoolOp op vs pos) → PW X e (tT X.K g W xa ce)
  pv : ∀ i, ce = .v i → PE X e (tVar i)
omit ev in
theorem All.bad {e : Expr} : All X g W xa e .bad := ⟨sE_bad, sT_bad, fun _ => sW_bad, fun _ z => by cases z⟩
omit ev in
theorem All.of {e : Expr} {ce : E} (h1 : PE X e (tE X.K g W xa ce)) (h2 : PT X e (tT X.K g W xa ce)) (h3 : ∀ op vs pos, e ≠ .BoolOp op vs pos) (h4 : ∀ i, ce = .v i → PE X e (tVar i) := by intro _ z; cases z) : All X g W xa e ce := ⟨h1, h2, fun ⟨_, _, _, z⟩ => (h3 _ _ _ z).elim, h4⟩
omit ev in
theorem toEs_one {f : Expr → E} {a : Expr} : toEs ([a].map f) = .cons (f a) .nil := rfl
theorem s_mkB {f : Expr → E} {x : Str} {args : List Expr} {p pos : Pos} (hf : ∀ e, PE X e (tE X.K g W xa (f e))) (hg : isGl sc x = true) (hs : args.any isStar = false) : All X g W xa (.Call (.Name x p) args [] pos) (mkB c sc f x args) := by
  have nb : ∀ op vs q, Expr.Call (.Name x p) args [] pos ≠ .BoolOp op vs q := fun _ _ _ z => by cases z
  unfold mkB
  split
  · rename_i hb
    have one : ∀ (a : Expr), [a].any isStar = false → All X g W xa (.Call (.Name x p) [a] [] pos) (match biOf1 x with | some k => .bi k (.cons (f a) .nil) | none => .bad) := fun a hs => by
      split
      · rename_i k hk
        exact .of (sE_bi1 ev hk hg hb hs (hf a)) (sT_bi1 ev hk hg hb hs (hf a)) (fun _ _ _ z => by cases z)
      · exact .bad
    split
    · rename_i a
      split
      · rename_i y p2 b pos2
        split
        · rename_i hc
          obtain ⟨rfl, rfl, h3, h4, h5⟩ := hc
          exact .of (sE_trev ev hb hg h4 h3 h5 (hf b)) (sT_st fun _ => by unfold evT; rfl) (fun _ _ _ z => by cases z)
        · exact one _ hs
      · exact one _ hs
    · rename_i a b
      split
      · rename_i hx; subst hx
        split
        · rename_i t p2
          split
          · rename_i hc
            simp only [Bool.and_eq_true] at hc
            split
            · rename_i n hn
              simp only [List.any_cons, Bool.or_eq_false_iff] at hs
              exact .of (sE_isi ev hb hg hn hc.1.1 hc.1.2 hs.1 (hf a)) (sT_isi ev hb hg hn hc.1.1 hc.1.2 hs.1 (hf a)) (fun _ _ _ z => by cases z)
            · exact .bad
          · exact .bad
        · exact .bad
      · split
        · rename_i k hk
          have he := sE_bi2 (pos := pos) (p := p) ev hk hg hb hs (hf a) (hf b)
          exact .of he (sT_of he evT_bi fun _ => rfl) (fun _ _ _ z => by cases z)
        · exact .bad
    · exact .bad
  · exact .bad
omit ev in
theorem isSet_no {iter : Expr} (h : isSet iter = false) (env : Env) (x : Value) : foldedSetIterable iter env x = pure x := by
  unfold foldedSetIterable
  cases iter <;> first | rfl | (simp [isSet] at h)
omit ev in
theorem behind_no {op : CmpOp} {b : Expr} (h : isSet b = false) : behindInMarks op b = false := by
  unfold behindInMarks
  cases b <;> first | (simp [isSet] at h; done) | (cases op <;> rfl)
end
section
variable {c : Cfg} {g : G} {k : Nat} {xa : XA}
/-- a block's context is one of those -/
theorem Envr.blk {X : Cx} {sc : Scope} {W : WX} (ev : Envr X c sc g k W xa) (s : Shared) (H : Hp) (scope : Scope) (C : Addr) (cl : List (Str × Addr)) (fp : List Addr) :
    Envr (X.blk s H scope (compEnvC scope cl C X.env) fp) c (relS scope sc) g k W0 xa :=
  ⟨ev.N, ev.nd, by rw [← ev.sc]; rfl, ev.calm, ev.room, takes0, ev.fn, ev.bi, ev.gl, ev.gd, ev.xr, ev.pyl, fun x q f h => ⟨(ev.xc x q f h).ex⟩, ev.cls, ev.mkc, ev.mt⟩
theorem isOwn_blk {X : Cx} {sc : Scope} (hsc : X.env.scope = sc) (s : Shared) (H : Hp) (scope : Scope) (C : Addr) (cl : List (Str × Addr)) (fp : List Addr) :
    OwnN (X.blk s H scope (compEnvC scope cl C X.env) fp) scope := fun x hx => by
  unfold isOwn at hx
  split at hx
  · rename_i e
    have e2 : (X.blk s H scope (compEnvC scope cl C X.env) fp).env.scope.names.lookup x = some .local := lookup_relS_keep (by decide) e
    exact ⟨.inl e2, .inr e2⟩
  · rename_i e
    have e2 : (X.blk s H scope (compEnvC scope cl C X.env) fp).env.scope.names.lookup x = some .cell := lookup_relS_keep (by decide) e
    exact ⟨.inr e2, .inl (by show (scope.names.lookup x == some .cell) = true; rw [e]; rfl)⟩
  · cases hx
theorem s_all : ∀ (n : Nat) {X : Cx} {sc : Scope} {W : WX} (ev : Envr X c sc g k W xa) (e : Expr), All X g W xa e (cE c n sc e)
  | 0, X, sc, W, ev, e => by unfold cE; exact .bad
  | n + 1, X, sc, W, ev, e => by
    have ih : ∀ e, All X g W xa e (cE c n sc e) := s_all n ev
    unfold cE
    split
    · -- a name
      rename_i x pos
      split
      · rename_i ho
        split
        · rename_i hv
          split
          · rename_i i hi
            obtain ⟨o1, o2, _⟩ := ok_names ho
            exact .of (sE_v ev ho hv hi) (sT_v ev ho hv hi) (fun _ _ _ z => by cases z) (fun j z => by cases z; exact pe_var (ev.at_ hi) (ev.vis_of hv) o1 o2)
          · exact .bad
        · split
          · rename_i hv
            split
            · rename_i i hi
              exact .of (sE_g ev ho hv hi) (sT_st fun _ => by unfold evT; rfl) (fun _ _ _ z => by cases z)
            · exact .bad
          · exact .bad
      · exact .bad
    · exact .of (sE_k pe_int (fun _ => .int _) rfl) (sT_st fun _ => by unfold evT; rfl) (fun _ _ _ z => by cases z)
    · exact .of (sE_k pe_bl (fun _ => .bl _) rfl) (sT_st fun _ => by unfold evT; rfl) (fun _ _ _ z => by cases z)
    · exact .of (sE_k pe_non (fun _ => .non) rfl) (sT_st fun _ => by unfold evT; rfl) (fun _ _ _ z => by cases z)
    · exact .of (sE_k pe_str (fun _ => .str _) rfl) (sT_st fun _ => by unfold evT; rfl) (fun _ _ _ z => by cases z)
    · exact .of (sE_bin ev (ih _).pe (ih _).pe) (sT_st fun _ => by unfold evT; rfl) (fun _ _ _ z => by cases z)
    · exact .of (sE_not (ih _).pe) (sT_not (ih _).pt) (fun _ _ _ z => by cases z)
    · exact .of (sE_neg (ih _).pe) (sT_st fun _ => by unfold evT; rfl) (fun _ _ _ z => by cases z)
    · -- and
      rename_i a b r p
      split
      · have w := sW_and (pos := p) (ih a).pt (pw_and1 (ih b).pt)
        exact ⟨sE_and (ih a).pe (pe_one (ih b).pe), w.pt, fun _ => w, fun _ z => by cases z⟩
      · have w := sW_and (ih a).pt ((ih (.BoolOp .And (b :: r) p)).pw ⟨_, _, _, rfl⟩)
        exact ⟨sE_and (ih a).pe (ih (.BoolOp .And (b :: r) p)).pe, w.pt, fun _ => w, fun _ z => by cases z⟩
    · -- or
      rename_i a b r p
      split
      · have w := sW_or (pos := p) (ih a).pt (pw_or1 (ih b).pt)
        exact ⟨sE_or (ih a).pe (pe_one (ih b).pe), w.pt, fun _ => w, fun _ z => by cases z⟩
      · have w := sW_or (ih a).pt ((ih (.BoolOp .Or (b :: r) p)).pw ⟨_, _, _, rfl⟩)
        exact ⟨sE_or (ih a).pe (ih (.BoolOp .Or (b :: r) p)).pe, w.pt, fun _ => w, fun _ z => by cases z⟩
    · -- one comparison
      split
      · exact .bad
      · rename_i h
        have h := fun op => behind_no (op := op) (Bool.eq_false_iff.mpr h)
        split
        · rename_i i hi
          split
          · rename_i ho; subst ho
            exact .of (sE_gin ev (ih _).pe hi (h _)) (sT_gin ev (ih _).pe hi (h _)) (fun _ _ _ z => by cases z)
          · split
            · rename_i ho; subst ho
              exact .of (sE_gnin ev (ih _).pe hi (h _)) (sT_gnin ev (ih _).pe hi (h _)) (fun _ _ _ z => by cases z)
            · exact .bad
        exact .of (sE_cmp ev (ih _).pe (ih _).pe (h _)) (sT_cmp ev (ih _).pe (ih _).pe (h _)) (fun _ _ _ z => by cases z)
    · -- two
      rename_i a op op' b b' pos
      split
      · exact .bad
      · rename_i h
        have h2 : behindInMarks op' b' = false := nobehind _ (fun z => h (.inr (.inr (.inl z)))) (fun z => h (.inr (.inr (.inr z))))
        exact .of (sE_chain ev (ih _).pe (ih _).pe (ih _).pe h2) (sT_chain ev (ih _).pe (ih _).pe (ih _).pe h2) (fun _ _ _ z => by cases z)
    · exact .of (sE_ite (ih _).pt (ih _).pe (ih _).pe) (sT_st fun _ => by unfold evT; rfl) (fun _ _ _ z => by cases z)
    · -- a tuple
      split
      · exact .bad
      · rename_i h
        exact .of (sE_tup (sEs (fun e _ => (ih e).pe) (Bool.eq_false_iff.mpr h))) (sT_st fun _ => by unfold evT; rfl) (fun _ _ _ z => by cases z)
    · split
      · exact .bad
      · rename_i h
        exact .of (sE_lst (sEs (fun e _ => (ih e).pe) (Bool.eq_false_iff.mpr h))) (sT_st fun _ => by unfold evT; rfl) (fun _ _ _ z => by cases z)
    · exact .of sE_dct0 (sT_st fun _ => by unfold evT; rfl) (fun _ _ _ z => by cases z)
    · -- a written display
      rename_i ks vs pos hne
      split
      · rename_i hl
        split
        · rename_i kds hk
          refine .of (sE_dctK hk (fun z => ?_) hl) (sT_st fun _ => by unfold evT; rfl) (fun _ _ _ z => by cases z)
          subst z
          cases vs with
          | nil => exact hne rfl rfl
          | cons v vs => cases hk
        · exact .bad
      · exact .bad
    · -- a slice
      rename_i a lo hi p2 pos
      refine .of (sE_sli (ih _).pe ?_ ?_) (sT_st fun _ => by unfold evT; rfl) (fun _ _ _ z => by cases z)
      · cases lo with
        | none => exact sO_no
        | some e => exact sO_yes (ih e).pe
      · cases hi with
        | none => exact sO_no
        | some e => exact sO_yes (ih e).pe
    · exact .of (sE_rev (ih _).pe) (sT_st fun _ => by unfold evT; rfl) (fun _ _ _ z => by cases z)
    · -- an index
      rename_i a i pos _ _
      split
      · rename_i h
        have hs : PlainIx i := by
          cases i <;> first | (simp [plainIx] at h; done) | exact fun _ _ => rfl
        split
        · rename_i k hk
          exact .of (sE_gix ev hk (ih _).pe hs) (sT_st fun _ => by unfold evT; rfl) (fun _ _ _ z => by cases z)
        exact .of (sE_sub ev (ih _).pe (ih _).pe hs) (sT_sub ev (ih _).pe (ih _).pe hs) (fun _ _ _ z => by cases z)
      · exact .bad
    · -- a call
      rename_i x p args pos
      split
      · rename_i h
        simp only [Bool.and_eq_true, Bool.not_eq_true'] at h
        obtain ⟨⟨ho, hg⟩, hs⟩ := h
        split
        · rename_i f hf
          have ha := sEs (f := cE c n sc) (fun e _ => (ih e).pe) hs
          have hn : args = [] → toEs (args.map (cE c n sc)) = .nil := fun z => by rw [z]; rfl
          exact .of (sE_call ev ho hg hf hs hn ha) (sT_call ev ho hg hf hs hn ha) (fun _ _ _ z => by cases z)
        · exact s_mkB ev (fun e => (ih e).pe) hg hs
      · exact .bad
    · -- bit_length
      split
      · rename_i h
        simp only [Bool.and_eq_true] at h
        obtain ⟨⟨h1, h2⟩, h3⟩ := h
        have h1 := of_decide_eq_true h1
        subst h1
        have he := sE_bits h3 h2 (ih _).pe
        exact .of he (sT_of he evT_bi fun _ => rfl) (fun _ _ _ z => by cases z)
      · exact .bad
    · -- an attribute
      rename_i l pl f pos
      split
      · rename_i x fl hc
        split
        · rename_i h
          simp only [Bool.and_eq_true] at h
          split
          · rename_i j hj
            obtain ⟨o1, o2, _⟩ := ok_names h.1.1
            exact .of (sE_fld ev hc (by simpa using h.2) (pe_var (ev.at_ hj) (ev.vis_of h.1.2) o1 o2)) (sT_st fun τ => by unfold evT; rfl) (fun _ _ _ z => by cases z)
          · exact .bad
        · exact .bad
      · exact .bad
    · -- a list comprehension
      rename_i elt tg iter ifs scope pos
      split
      · rename_i h
        simp only [Bool.and_eq_true, Bool.not_eq_true'] at h
        split
        · rename_i t ht
          split
          · rename_i hin
            have okb : BlkOk X.N X.env.scope scope (ownOf c.N scope) := by rw [ev.N, ev.sc]; exact blkOk_by h.1
            have hG : ∀ (s : Shared) (H : Hp) (C : Addr) (cl : List (Str × Addr)) (fp : List Addr), PG (X.blk s H scope (compEnvC scope cl C X.env) fp) tg (tG X.K t) := fun s H C cl fp =>
              sG (X := X.blk s H scope (compEnvC scope cl C X.env) fp) (osc := scope) ev.calm (isOwn_blk ev.sc s H scope C cl fp) ev.nd (by show cT X.N scope tg = some t; rw [ev.N]; exact ht)
            have hI : PI X tg iter (tI X.K g W xa (mkI c sc (cE c n sc) tg iter)) := s_mkI ev fun e => (ih e).pe
            have hE : ∀ e (s : Shared) (H : Hp) (C : Addr) (cl : List (Str × Addr)) (fp : List Addr), All (X.blk s H scope (compEnvC scope cl C X.env) fp) g W0 xa e (cE c n (relS scope sc) e) := fun e s H C cl fp => s_all n (ev.blk s H scope C cl fp) e
            have fin : ∀ {qs : List Expr} {cc : O}, (∀ (s : Shared) (H : Hp) (C : Addr) (cl : List (Str × Addr)) (fp : List Addr), PTs (X.blk s H scope (compEnvC scope cl C X.env) fp) qs (tC X.K g xa cc)) →
                All X g W xa (.ListComp elt [⟨tg, iter, qs, 0⟩] scope pos) (.comp (cE c n (relS scope sc) elt) t (mkI c sc (cE c n sc) tg iter) cc ((ownOf c.N scope).map (·.2))) := fun hT =>
              .of (PE.imp (pe_lc ev.calm ev.nd hI okb hG hT (fun s H C cl fp => (hE elt s H C cl fp).pe) (isSet_no h.2 _)) fun σ H Q q => rd_comp hin q) (sT_st fun _ => by unfold evT; rfl) (fun _ _ _ z => by cases z)
            split
            · exact fin fun s H C cl fp => pts_nil
            · rename_i q
              exact fin fun s H C cl fp => pts_one (hE q s H C cl fp).pt
            · exact .bad
          · exact .bad
        · exact .bad
      · exact .bad
    · exact .bad
end
end Mp

/-! MiniPy, part K: statements. -/
namespace Mp
open PySem PySem.Spec PyProof.Rows L2
/-! ### from the text -/
def isComp : Expr → Bool
  | .ListComp .. => true
  | .SetComp .. => true
  | .DictComp .. => true
  | _ => false
def ssOf (f : Stmt → S) : List Stmt → Ss
  | [] => .nil
  | s :: ss => .cons (f s) (ssOf f ss)
def eF : Nat := 40
/-- a slot that is read -/
def visIx (c : Cfg) (sc : Scope) (x : Str) : Option Nat := if okName x && isVis sc x then ixOf x c.N else none
def ownIx (c : Cfg) (sc : Scope) (x : Str) : Option Nat := if isOwn sc x then ixOf x c.N else none
def isLoc (sc : Scope) (x : Str) : Bool := match sc.names.lookup x with
  | some .local => true
  | _ => false
/-- a call of the text's own -/
def fnIx (c : Cfg) (sc : Scope) (f : Str) (args : List Expr) : Option Nat := if okName f && isGl sc f && !(args.any isStar) then noOf f c.fns else none
/-- arguments of which the last one is a call that changes an argument -/
def ioLast (c : Cfg) (sc : Scope) : List Expr → Option (List Expr × List Expr × Nat)
  | [] => none
  | [.Call (.Name f _) args [] _] => match fnIx c sc f args with
    | some k => if (c.io k).isEmpty then none else some ([], args, k)
    | none => none
  | e :: es => match ioLast c sc es with
    | some q => some (e :: q.1, q.2)
    | none => none
/-- an instance that is made -/
def newIx (c : Cfg) (sc : Scope) (f : Str) (args : List Expr) : Option (Str × Str × Str × Expr) := match c.mkc, args with
  | some (x, f1, f2), [a] => if decide (f = x) && isGl sc x && okName x && !isStar a then some (x, f1, f2, a) else none
  | _, _ => none
/-- an attribute of the class -/
def atIx (c : Cfg) (sc : Scope) (l f : Str) : Option (Str × Nat) := match c.cls with
  | some (x, fl) => if fl.contains f then (match visIx c sc l with
      | some j => some (x, j)
      | none => none) else none
  | none => none
/-- name = e -/
def cSet (c : Cfg) (sc : Scope) (x : Str) (py : Pos) (i : Nat) (e : Expr) : S :=
  match e with
  | .ListComp elt gs scope p => .set (.n i) (cE c eF sc e)
  | .Call (.Attribute (.Name l pl) m apos) [] [] cpos => if m = "pop" then
      if apos.endLine == cpos.line then match visIx c sc l with
        | some j => .pop (some i) j
        | none => .bad
      else .bad
    else .set (.n i) (cE c eF sc e)
  | .Call (.Attribute (.Name l pl) m apos) [.Constant (.int z) _ _] [] cpos => if m = "pop" then
      if z = 0 ∧ apos.endLine == cpos.line then match visIx c sc l with
        | some j => .popF (some i) j
        | none => .bad
      else .bad
    else .set (.n i) (cE c eF sc e)
  | .Call (.Name f p) args [] cpos => match fnIx c sc f args with
    | some k => if (c.io k).isEmpty then (if c.fr k then .callF i k (toEs (args.map (cE c eF sc))) else match ioLast c sc args with
        | some q => .ioC i k (toEs (q.1.map (cE c eF sc))) q.2.2 (toEs (q.2.1.map (cE c eF sc)))
        | none => .set (.n i) (cE c eF sc e)) else .io (some i) k (toEs (args.map (cE c eF sc)))
    | none => match newIx c sc f args with
      | some q => .new q.1 q.2.1 q.2.2.1 i (cE c eF sc q.2.2.2)
      | none => .set (.n i) (cE c eF sc e)
  | _ => if isComp e then .bad else .set (.n i) (cE c eF sc e)
def parOk (sc : Scope) : List Expr → List Expr → Bool
  | [.Name x px, .Name y py], [a, b] => isLoc sc x && isLoc sc y && (py.line == px.line) && (x != y) && !([a, b].any isStar) && !([a, b].all (foldedForSure 8)) && !([a, b].all (constantsAlone 8))
  | [.Name x px, .Name y py, .Name z pz], [a, b, d] => isLoc sc x && isLoc sc y && isLoc sc z && (py.line == px.line) && (pz.line == px.line) && (x != y) && (x != z) && (y != z) && !([a, b, d].any isStar) && !([a, b, d].all (foldedForSure 8)) && !([a, b, d].all (constantsAlone 8))
  | _, _ => false
/-- the values are made a tuple that is unpacked -/
def noSw (ts es : List Expr) : Bool := !(ts.length == 2 || ts.length == 3) || es.all (foldedForSure 8)
def cS (c : Cfg) : Nat → Scope → Stmt → S
  | 0, _, _ => .bad
  | n + 1, sc, st => match st with
    | .Assign [.Name x py] e _ => match ownIx c sc x with
      | some i => cSet c sc x py i e
      | none => .bad
    | .Assign [.Tuple ts k tp] e _ => match namesIx c.N sc ts with
      | some is => match e with
        | .Tuple es _ _ => if parOk sc ts es then .par is (toEs (es.map (cE c eF sc))) else if noSw ts es then .set (.tup is) (cE c eF sc e) else .bad
        | _ => .set (.tup is) (cE c eF sc e)
      | none => .bad
    | .Assign [.Subscript (.Name l pl) i sp] e _ => if plainIx i then match visIx c sc l with
        | some j => .setIx j (cE c eF sc i) (cE c eF sc e)
        | none => .bad
      else .bad
    | .Assign [.Attribute (.Name l _) f _] e _ => match atIx c sc l f with
      | some q => .fset q.1 q.2 f (cE c eF sc e)
      | none => .bad
    | .Expr (.Call (.Attribute (.Attribute (.Name l _) f _) m apos) [a] [] cpos) _ => if decide (m = "append") && (apos.endLine == cpos.line) && !isStar a then match atIx c sc l f with
        | some q => .fapp q.1 q.2 f (cE c eF sc a)
        | none => .bad
      else .bad
    | .Expr (.Call (.Attribute (.Name l pl) m apos) args [] cpos) _ => if apos.endLine == cpos.line then match visIx c sc l with
        | some j => match args with
          | [] => if m = "pop" then .pop none j else .bad
          | [a] => if isStar a then .bad else if m = "append" then .app j (cE c eF sc a) else if m = "extend" then .ext j (cE c eF sc a) else .bad
          | [a, b] => if isStar a || isStar b then .bad else if m = "pop" then .dpop j (cE c eF sc a) (cE c eF sc b) else .bad
          | _ => .bad
        | none => .bad
      else .bad
    | .Expr (.Call (.Name f p) args [] cpos) _ => match fnIx c sc f args with
      | some k => if (c.io k).isEmpty then .ex (cE c eF sc (.Call (.Name f p) args [] cpos)) else .io none k (toEs (args.map (cE c eF sc)))
      | none => .bad
    | .If t a b _ => .ifS (cE c eF sc t) (ssOf (cS c n sc) a) (ssOf (cS c n sc) b)
    | .While t b [] _ => .wh [] (cE c eF sc t) (ssOf (cS c n sc) b)
    | .For tg iter b [] _ => if isSet iter then .bad else match cT c.N sc tg with
      | some t => .forS [] t (mkI c sc (cE c eF sc) tg iter) (ssOf (cS c n sc) b)
      | none => .bad
    | .Return (some (.Call (.Name f p) args [] cpos)) _ => match fnIx c sc f args with
      | some k => if (c.io k).isEmpty then .ret (cE c eF sc (.Call (.Name f p) args [] cpos)) else .ioR k (toEs (args.map (cE c eF sc)))
      | none => .ret (cE c eF sc (.Call (.Name f p) args [] cpos))
    | .Return (some e) _ => .ret (cE c eF sc e)
    | .Return none _ => .retN
    | .Break _ => .brk
    | .Continue _ => .ct
    | .Pass _ => .pass
    | .Raise (some (.Call (.Name x _) [a] [] _)) none _ => match xcOf x c.xcs with
      | some q => if isStar a || !isGl sc x || !okName x then .bad else .raise q.1 q.2 (cE c eF sc a)
      | none => .bad
    | _ => .bad

/-! ### the readings -/
def Post (K : PySem.W.Frag) (F : Fx) (W : WX) (xa : XA) (D : Ends) : Out → Prop
  | .nx τ => ∀ ps σ H, Rel K F ps H σ τ → D.nx σ H
  | .brk τ => ∀ ps σ H, Rel K F ps H σ τ → D.bk σ H
  | .ct τ => ∀ ps σ H, Rel K F ps H σ τ → D.ct σ H
  | .ret τ d => ∀ ps σ H v, Rel K F ps H σ τ → Dn K (wo (PP F.P0 ps) H) v d → (F.iol.contains mkN = true → isC d = true → ∃ p, v = .ref p ∧ F.nw p ∧ OwnAt K H (fun a => a = p ∨ PP F.P0 ps a) p none d) → D.rt v H
  | .ex x τ => ∀ ps σ H cls dd, Rel K F ps H σ τ → xa x cls dd H → W cls dd σ H
  | .st => False
def tS (K : PySem.W.Frag) (g : G) (W : WX) (xa : XA) (io : List Nat) (s : S) : TS := fun D σ H => ∃ F ps τ, Rel K F ps H σ τ ∧ F.iol = io ∧ Post K F W xa D (evS g io s τ)
def tSs (K : PySem.W.Frag) (g : G) (W : WX) (xa : XA) (io : List Nat) (s : Ss) : TS := fun D σ H => ∃ F ps τ, Rel K F ps H σ τ ∧ F.iol = io ∧ Post K F W xa D (evSs g io s τ)
theorem PS.imp {X : Cx} {e : Stmt} {t t' : TS} (h : PS X e t) (i : ∀ D σ H, t' D σ H → t D σ H) : PS X e t' := ⟨fun pins s σ H D I q => h.run pins s σ H D I (i D σ H q)⟩
theorem PSs.imp {X : Cx} {e : List Stmt} {t t' : TS} (h : PSs X e t) (i : ∀ D σ H, t' D σ H → t D σ H) : PSs X e t' := ⟨fun pins s σ H D I q => h.run pins s σ H D I (i D σ H q)⟩
theorem oneS {K : PySem.W.Frag} {F : Fx} {W : WX} {xa : XA} {D : Ends} {α : Type} {r : R α} {τ : Tau} {f : α → Out} {ps : Ps} {H : Hp} {σ : L2.St} (h : Post K F W xa D (.ofR r τ f)) (rl : Rel K F ps H σ τ) : Sat r (fun a => Post K F W xa D (f a)) (XO W xa σ H) := by
  cases r with
  | ok a => exact h
  | ex x => exact fun cls dd H' e q => h ps σ H' cls dd (rl.mono e) q
  | st => exact h
structure EnvS (X : Cx) (c : Cfg) (sco : Scope) (g : G) (k : Nat) (W : WX) (xa : XA) : Prop extends Envr X c sco g k W xa where
  own : OwnN X sco
  hp : PassesOwn (model X.prog X.w) X.A X.env X.xe
  kind : X.env.scope.kind = .function
  io : c.io = g.io
  fr : c.fr = g.fr
section
variable {K : PySem.W.Frag} {F : Fx} {ps : Ps} {H H1 : Hp} {σ : L2.St} {τ τ' : Tau} {i : Nat} {v : V} {d : D} {L : List Nat} {e : E}
/-- a slot takes what an expression has made -/
theorem asg_n (r : Rel K F ps H σ τ) (pa : EPost K F.P0 ps H H1 e (d, L) v) (h : asg F.iol e.fresh (.n i) d (frz L τ) = some τ') : ∃ ps', Rel K F ps' H1 (σ.set i (some v)) τ' := by
  unfold asg at h
  dsimp only at h
  split at h
  · cases h
  rename_i hi
  cases h
  have r1 := (r.mono pa.same).frz L
  by_cases hf : (e.fresh && isC d) = true
  · rw [hf]
    simp only [Bool.and_eq_true] at hf
    obtain ⟨p, rfl, h1, h2⟩ := pa.fr hf.1 hf.2
    by_cases hlt : i < τ.length
    · exact ⟨_, (r.frz L).setNew pa.same hi (by rw [frz_length]; exact hlt) h1 h2⟩
    · rw [List.set_eq_of_length_le (show σ.length ≤ i by rw [r.ls]; omega), List.set_eq_of_length_le (show (frz L τ).length ≤ i by rw [frz_length]; omega)]
      exact ⟨_, r1⟩
  · rw [Bool.eq_false_iff.mpr hf]
    exact ⟨_, r1.set pa.den⟩
end
section
variable {X : Cx} {c : Cfg} {sc : Scope} {g : G} {k : Nat} {W : WX} {xa : XA} (ev : EnvS X c sc g k W xa) {io : List Nat}
theorem s_bad {st : Stmt} : PS X st (tS X.K g W xa io .bad) := ⟨fun _ _ _ _ _ _ h => by obtain ⟨_, _, _, _, _, h⟩ := h; exact h.elim⟩
theorem s_nil : PSs X [] (tSs X.K g W xa io .nil) := PSs.imp pss_nil fun D σ H h => by
  obtain ⟨F, ps, τ, r, _, h⟩ := h
  exact h ps σ H r
theorem s_cons {st : Stmt} {rest : List Stmt} {s : S} {ss : Ss} (h1 : PS X st (tS X.K g W xa io s)) (h2 : PSs X rest (tSs X.K g W xa io ss)) : PSs X (st :: rest) (tSs X.K g W xa io (.cons s ss)) := by
  refine PSs.imp (pss_cons h1 h2) fun D σ H h => ?_
  obtain ⟨F, ps, τ, r, hio, h⟩ := h
  refine ⟨F, ps, τ, r, hio, ?_⟩
  unfold evSs at h
  cases hs : evS g io s τ with
  | nx τ2 => rw [hs] at h; exact fun ps' σ' H' r' => ⟨F, ps', τ2, r', hio, h⟩
  | ret τ2 d => rw [hs] at h; exact h
  | brk τ2 => rw [hs] at h; exact h
  | ct τ2 => rw [hs] at h; exact h
  | ex x τ2 => rw [hs] at h; exact h
  | st => rw [hs] at h; exact h
theorem s_ssOfX {f : Stmt → S} : ∀ {ss : List Stmt} {cs : Ss}, (∀ s cc, cc.strip = f s → PS X s (tS X.K g W xa io cc)) → cs.strip = ssOf f ss → PSs X ss (tSs X.K g W xa io cs)
  | [], .nil, _, _ => s_nil
  | [], .cons _ _, _, h => by unfold Ss.strip at h; cases h
  | s :: ss, .nil, _, h => by unfold Ss.strip at h; cases h
  | s :: ss, .cons c cs, H, h => by
    unfold Ss.strip at h
    have h : Ss.cons c.strip cs.strip = .cons (f s) (ssOf f ss) := h
    injection h with h1 h2
    exact s_cons (H s c h1) (s_ssOfX (ss := ss) H h2)
theorem s_ssOf {f : Stmt → S} : ∀ {ss : List Stmt}, (∀ s, PS X s (tS X.K g W xa io (f s))) → PSs X ss (tSs X.K g W xa io (ssOf f ss))
  | [], _ => s_nil
  | _ :: _, h => s_cons (h _) (s_ssOf h)
theorem s_if {t : Expr} {a b : List Stmt} {pos : Pos} {ct : E} {ca cb : Ss} (ht : PT X t (tT X.K g W xa ct)) (ha : PSs X a (tSs X.K g W xa io ca)) (hb : PSs X b (tSs X.K g W xa io cb)) : PS X (.If t a b pos) (tS X.K g W xa io (.ifS ct ca cb)) := by
  refine PS.imp (ps_if ht ha hb) fun D σ H h => ?_
  obtain ⟨F, ps, τ, r, hio, h⟩ := h
  unfold evS at h
  refine ⟨F, ps, τ, r, (oneS h r).imp (fun b hb H' e => ?_) fun _ z => z⟩
  cases b with
  | true => rw [if_pos rfl]; exact ⟨F, ps, τ, r.mono e, hio, hb⟩
  | false => rw [if_neg (by decide)]; exact ⟨F, ps, τ, r.mono e, hio, hb⟩
theorem own_get0 {τ : Tau} {i : Nat} {d : D} (h : own? τ i = some d) : τ[i]? = some (some (true, d)) := by
  unfold own? at h
  split at h
  · rename_i e; cases h; exact e
  · cases h
theorem s_ret {e : Expr} {ce : E} {pos : Pos} (he : PE X e (tE X.K g W xa ce)) (hv : ∀ i, ce = .v i → PE X e (tVar i)) : PS X (.Return (some e) pos) (tS X.K g W xa io (.ret ce)) := by
  refine ⟨fun pins s σ H D I h => ?_⟩
  obtain ⟨F, ps, τ, r, hio, h⟩ := h
  unfold evS at h
  by_cases hm : io.contains mkN = true ∧ ∃ i, ce = .v i ∧ ∃ d, own? τ i = some d ∧ isC d = true ∧ isOb d = false
  · obtain ⟨hc, i, rfl, d, hd, hic, nb⟩ := hm
    have hg := own_get0 hd
    obtain ⟨p, q1, q2, q3⟩ := r.own i d hg
    have q0 : ps i true = none := by
      cases d with
      | list ds => exact q3.1
      | dict ds => exact (q3.dct nb).1
      | _ => exact q3.elim
    rw [q0] at q3
    have hev : evE g (.v i) τ = .ok (d, [i]) := by
      unfold evE; rw [hg]
      show vO true d i = _
      unfold vO
      dsimp only
      rw [nb]
    rw [hev] at h
    have h : Post X.K F W xa D (retO io (.v i) (d, [i]) τ) := h
    unfold retO at h
    rw [hc] at h
    dsimp only at h
    rw [hic] at h
    have h : Post X.K F W xa D (match own? τ i with | some d => (match isOb d with | true => Out.st | false => if i ∈ io then Out.st else .ret (frz1 τ i) d) | none => .st) := h
    rw [hd] at h
    dsimp only at h
    rw [nb] at h
    dsimp only at h
    split at h
    · exact h.elim
    rename_i hi
    refine (ps_ret (hv i rfl)).run pins s σ H D I ⟨.ref p, q2, ?_⟩
    have r2 := r.frz1 i
    refine h (dr [i] ps) σ H (.ref p) r2 ?_ fun _ _ => ⟨p, rfl, r.nw.1 i false p q1 (by rw [hio]; exact hi), q3.mono (fun _ z => z) (fun _ _ _ z => z) (wo_sub fun a z => ?_)⟩
    · refine q3.dn nb (fun q => ?_) PP_dr0
      rcases q with q | ⟨j, b, q⟩
      · exact r.out _ _ _ q1 q
      · obtain ⟨z1, z2⟩ := dr_some.mp q
        exact z1 (by simp [(r.inj _ _ _ _ _ z2 q1).1])
    · rcases z with rfl | z
      · exact .inr ⟨i, false, q1⟩
      · exact PP_dr0 a z
  · refine (ps_ret he).run pins s σ H D I ⟨F, ps, τ, r, ?_⟩
    cases hev : evE g ce τ with
    | ex x => rw [hev] at h; exact fun cls dd H' e q => h ps σ H' cls dd (r.mono e) q
    | st => rw [hev] at h; exact h
    | ok x =>
      rw [hev] at h
      have h : Post X.K F W xa D (retO io ce x τ) := h
      intro v H1 pa
      have r2 := (r.mono pa.same).frz x.2
      unfold retO at h
      split at h
      · rename_i hc
        exact h (dr x.2 ps) σ H1 v r2 pa.den fun z => by rw [hio, hc] at z; cases z
      · rename_i hc
        split at h
        · rename_i hc2
          exact h (dr x.2 ps) σ H1 v r2 pa.den fun _ z => by rw [hc2] at z; cases z
        · rename_i hc2
          split at h
          · rename_i hf
            obtain ⟨p, e1, e2, e3⟩ := pa.fr hf hc2
            exact h (dr x.2 ps) σ H1 v r2 pa.den fun _ _ => ⟨p, e1, r.nw.2 p e2, e3⟩
          · split at h
            case h_2 => exact h.elim
            rename_i i _ _
            split at h
            case h_2 => exact h.elim
            rename_i d hd
            split at h
            · exact h.elim
            rename_i nb
            have hg := own_get0 hd
            have hev2 : evE g (.v i) τ = .ok (d, [i]) := by
              unfold evE; rw [hg]
              show vO true d i = _
              unfold vO
              dsimp only
              rw [nb]
            rw [hev2] at hev
            cases hev
            exact absurd ⟨hc, i, rfl, d, hd, hc2, nb⟩ hm
theorem s_retN {pos : Pos} : PS X (.Return none pos) (tS X.K g W xa io .retN) := PS.imp ps_retN fun D σ H h => by
  obtain ⟨F, ps, τ, r, hio, h⟩ := h
  exact h ps σ H .non r .non fun _ z => by cases z
theorem s_brk {pos : Pos} : PS X (.Break pos) (tS X.K g W xa io .brk) := PS.imp ps_break fun D σ H h => by
  obtain ⟨F, ps, τ, r, hio, h⟩ := h
  exact h ps σ H r
theorem s_ct {pos : Pos} : PS X (.Continue pos) (tS X.K g W xa io .ct) := PS.imp ps_continue fun D σ H h => by
  obtain ⟨F, ps, τ, r, hio, h⟩ := h
  exact h ps σ H r
theorem s_pass {pos : Pos} : PS X (.Pass pos) (tS X.K g W xa io .pass) := PS.imp ps_pass fun D σ H h => by
  obtain ⟨F, ps, τ, r, hio, h⟩ := h
  exact h ps σ H r
theorem rd_set {i : Nat} {ce : E} {D : Ends} {σ : L2.St} {H : Hp} (h : tS X.K g W xa io (.set (.n i) ce) D σ H) : tAsg (tE X.K g W xa ce) (gName i) D σ H := by
  obtain ⟨F, ps, τ, r, hio, h⟩ := h
  unfold evS at h
  refine ⟨F, ps, τ, r, (oneS h r).imp (fun x hx v H1 pa => ?_) fun _ z => z⟩
  show D.nx (σ.set i (some v)) H1
  cases ha : asg io ce.fresh (.n i) x.1 (frz x.2 τ) with
  | none => rw [ha] at hx; exact hx.elim
  | some τ' =>
    rw [ha] at hx
    obtain ⟨ps', r'⟩ := asg_n (L := x.2) r pa (by rw [hio]; exact ha)
    exact hx ps' _ _ r'
theorem sw_no {e : Expr} (h : isComp e = false) (t : Option Expr) (l : Nat) (env : Env) : swapsWith e t l env = pure false := by
  unfold swapsWith
  cases e <;> first | rfl | (simp [isComp] at h)
theorem sw_tg {e tg : Expr} (h : ∀ x p, tg ≠ .Name x p) (h2 : isComp e = true → True) (l : Nat) (env : Env) : swapsWith e (some tg) l env = pure false := by
  unfold swapsWith
  cases e <;> first | rfl | (cases tg <;> first | rfl | exact absurd rfl (h _ _))
include ev
theorem ownIx_ok {x : Str} {i : Nat} (h : ownIx c sc x = some i) : X.N[i]? = some x ∧ Loc X.env.scope x ∧ (X.fn x = true ∨ X.env.scope.names.lookup x = some .local) := by
  unfold ownIx at h
  split at h
  · rename_i ho
    exact ⟨ev.at_ h, ev.own x ho⟩
  · cases h
theorem visIx_ok {x : Str} {i : Nat} {pos : Pos} (h : visIx c sc x = some i) : PE X (.Name x pos) (tVar i) ∧ PE X (.Name x pos) (tE X.K g W xa (.v i)) := by
  unfold visIx at h
  split at h
  · rename_i ho
    simp only [Bool.and_eq_true] at ho
    obtain ⟨o1, o2, _⟩ := ok_names ho.1
    exact ⟨pe_var (ev.at_ h) (ev.vis_of ho.2) o1 o2, sE_v ev.toEnvr ho.1 ho.2 h⟩
  · cases h
theorem s_set {x : Str} {py pos : Pos} {i : Nat} {e : Expr} {ce : E} (hx : ownIx c sc x = some i) (hc : isComp e = false) (he : PE X e (tE X.K g W xa ce)) : PS X (.Assign [.Name x py] e pos) (tS X.K g W xa io (.set (.n i) ce)) := by
  obtain ⟨h1, h2, h3⟩ := ownIx_ok ev hx
  exact PS.imp (ps_set ev.nd h1 h2 he (sw_no hc _ _ _) h3) fun D σ H h => rd_set h

end
end Mp

/-! MiniPy, part K2: the statements that change lists and dicts. -/
namespace Mp
open PySem PySem.Spec PyProof.Rows L2
theorem wo_upd {P : Addr → Prop} {H : Hp} {p : Addr} {o : HO} (h : P p) : Same (wo P H) (wo P (upd H p o)) := wo_gen fun a u h1 h2 => ⟨h1, by
  rw [upd_ne (fun z => h1 (by rw [z]; exact h))]; exact h2⟩
/-- keys that are put, dropped -/
theorem DnKV.append {K : PySem.W.Frag} {H : Hp} {kvs kws : List (Key × V)} {kds kes : List (D × D)} (h : DnKV K H kvs kds) (h' : DnKV K H kws kes) : DnKV K H (kvs ++ kws) (kds ++ kes) := by
  induction kds generalizing kvs with
  | nil => cases h; exact h'
  | cons x kds ih =>
    cases h with
    | int h1 h2 => exact .int h1 (ih h2)
    | str h1 h2 => exact .str h1 (ih h2)
theorem DnKV.anyK {K : PySem.W.Frag} {H : Hp} {k : D} (f : isKey k = true) : ∀ {kds : List (D × D)} {kvs : List (Key × V)}, DnKV K H kvs kds → (kvs.any fun kv => decide (kv.1 = keyOf k)) = kds.any fun p => keyEq p.1 k
  | [], _, h => by cases h; rfl
  | (x, d) :: kds, _, h => by
    cases h with
    | int h1 h2 =>
      rw [List.any_cons, List.any_cons, DnKV.anyK f h2, keyEq_iff f rfl]; rfl
    | str h1 h2 =>
      rw [List.any_cons, List.any_cons, DnKV.anyK f h2, keyEq_iff f rfl]; rfl
theorem DnKV.mapK {K : PySem.W.Frag} {H : Hp} {k : D} {v : V} {d : D} (f : isKey k = true) (hv : Dn K H v d) : ∀ {kds : List (D × D)} {kvs : List (Key × V)}, DnKV K H kvs kds → DnKV K H (kvs.map fun kv => if kv.1 = keyOf k then (kv.1, v) else kv) (kds.map fun p => if keyEq p.1 k then (p.1, d) else p)
  | [], _, h => by cases h; exact .nil
  | (x, d') :: kds, _, h => by
    cases h with
    | int h1 h2 =>
      rename_i i w kvs
      have ih := DnKV.mapK f hv h2
      have e := keyEq_iff f (x := .int i) rfl
      rw [List.map_cons, List.map_cons]
      by_cases q : (Sum.inl i : Key) = keyOf k
      · rw [if_pos q, if_pos (by rw [e]; exact decide_eq_true q)]; exact .int hv ih
      · rw [if_neg q, if_neg (by rw [e]; exact fun z => q (of_decide_eq_true z))]; exact .int h1 ih
    | str h1 h2 =>
      rename_i i w kvs
      have ih := DnKV.mapK f hv h2
      have e := keyEq_iff f (x := .str i) rfl
      rw [List.map_cons, List.map_cons]
      by_cases q : (Sum.inr i : Key) = keyOf k
      · rw [if_pos q, if_pos (by rw [e]; exact decide_eq_true q)]; exact .str hv ih
      · rw [if_neg q, if_neg (by rw [e]; exact fun z => q (of_decide_eq_true z))]; exact .str h1 ih
theorem DnKV.one {K : PySem.W.Frag} {H : Hp} {k : D} {v : V} {d : D} (f : isKey k = true) (hv : Dn K H v d) : DnKV K H [(keyOf k, v)] [(k, d)] := by
  cases k <;> first | exact .int hv .nil | exact .str hv .nil | (simp [isKey] at f)
theorem DnKV.put {K : PySem.W.Frag} {H : Hp} {k : D} {v : V} {d : D} (f : isKey k = true) (hv : Dn K H v d) {kds : List (D × D)} {kvs : List (Key × V)} (h : DnKV K H kvs kds) : DnKV K H (putK kvs (keyOf k) v) (dPut k d kds) := by
  unfold putK dPut
  rw [DnKV.anyK f h]
  split
  · exact DnKV.mapK f hv h
  · exact h.append (DnKV.one f hv)
theorem DnKV.drop {K : PySem.W.Frag} {H : Hp} {k : D} (f : isKey k = true) : ∀ {kds : List (D × D)} {kvs : List (Key × V)}, DnKV K H kvs kds → DnKV K H (dropK kvs (keyOf k)) (dDrop k kds)
  | [], _, h => by cases h; exact .nil
  | (x, d') :: kds, _, h => by
    unfold dropK dDrop
    cases h with
    | int h1 h2 =>
      rename_i i w kvs
      have ih : DnKV K H (kvs.filter fun kv => decide (kv.1 ≠ keyOf k)) (kds.filter fun p => !keyEq p.1 k) := DnKV.drop f h2
      have e := keyEq_iff f (x := .int i) rfl
      rw [List.filter_cons, List.filter_cons, e]
      by_cases q : (Sum.inl i : Key) = keyOf k
      · rw [if_neg (by simpa using q), if_neg (by rw [Bool.not_eq_true', decide_eq_false_iff_not]; exact fun z => z q)]; exact ih
      · rw [if_pos (by simpa using q), if_pos (by rw [Bool.not_eq_true', decide_eq_false_iff_not]; exact q)]; exact .int h1 ih
    | str h1 h2 =>
      rename_i i w kvs
      have ih : DnKV K H (kvs.filter fun kv => decide (kv.1 ≠ keyOf k)) (kds.filter fun p => !keyEq p.1 k) := DnKV.drop f h2
      have e := keyEq_iff f (x := .str i) rfl
      rw [List.filter_cons, List.filter_cons, e]
      by_cases q : (Sum.inr i : Key) = keyOf k
      · rw [if_neg (by simpa using q), if_neg (by rw [Bool.not_eq_true', decide_eq_false_iff_not]; exact fun z => z q)]; exact ih
      · rw [if_pos (by simpa using q), if_pos (by rw [Bool.not_eq_true', decide_eq_false_iff_not]; exact q)]; exact .str h1 ih
theorem key_dn' {K : PySem.W.Frag} {G : Hp} {x : V} {d : D} (h : Dn K G x d) (f : isKey d = true) : x = kV (keyOf d) := by
  cases h with
  | int i => rfl
  | str s => rfl
  | _ => simp [isKey] at f
theorem drop_none {k : D} : ∀ {kds : List (D × D)}, dGet k kds = none → dDrop k kds = kds
  | [], _ => rfl
  | (x, d) :: kds, h => by
    unfold dGet at h
    split at h
    · cases h
    · rename_i e
      unfold dDrop
      rw [List.filter_cons, if_pos (by simpa using e)]
      have := drop_none h
      unfold dDrop at this
      rw [this]

theorem set_own_self {τ : Tau} {i : Nat} {d : D} (h : own? τ i = some d) : τ.set i (some (true, d)) = τ := by
  have h := own?_some h
  apply List.ext_getElem?
  intro j
  by_cases e : i = j
  · subst e
    rw [List.getElem?_set_self (List.getElem?_eq_some_iff.mp h).1, h]
  · rw [List.getElem?_set_ne e]
theorem Rel.get {K : PySem.W.Frag} {F : Fx} {ps : Ps} {H : Hp} {σ : L2.St} {τ : Tau} (r : Rel K F ps H σ τ) {i : Nat} {d : D} (h : own? τ i = some d) : ∃ p, ps i false = some p ∧ σ[i]? = some (some (.ref p)) ∧ OwnAt K H (PP F.P0 ps) p (ps i true) d := r.own i d (own?_some h)
/-- an owned list, written -/
theorem Rel.putL {K : PySem.W.Frag} {F : Fx} {ps : Ps} {H : Hp} {σ : L2.St} {τ : Tau} (r : Rel K F ps H σ τ) {i : Nat} {p : Addr} {vs : List V} {ds : List D} (hp : ps i false = some p) (h0 : ps i true = none) (h : DnAll K (wo (PP F.P0 ps) H) vs ds) : Rel K F ps (upd H p (.lst vs)) σ (τ.set i (some (true, .list ds))) :=
  r.write hp ⟨h0, vs, upd_same, DnAll.mono (wo_upd (.inr ⟨i, false, hp⟩)) _ h⟩
theorem Rel.putD {K : PySem.W.Frag} {F : Fx} {ps : Ps} {H : Hp} {σ : L2.St} {τ : Tau} (r : Rel K F ps H σ τ) {i : Nat} {p : Addr} {vs : List (Key × V)} {ds : List (D × D)} (hp : ps i false = some p) (h0 : ps i true = none) (h : DnKV K (wo (PP F.P0 ps) H) vs ds) : Rel K F ps (upd H p (.dK vs)) σ (τ.set i (some (true, .dict ds))) :=
  r.write hp (by rw [h0]; exact DctAt.plain upd_same (DnKV.mono (wo_upd (.inr ⟨i, false, hp⟩)) _ h))
section
variable {X : Cx} {c : Cfg} {sc : Scope} {g : G} {k : Nat} {W : WX} {xa : XA} {io : List Nat}
/-! ### o[i] = v -/
def rSetDk : TSet := fun o i v H Q => ∃ a H', o = .ref a ∧ DPut H a i v H' ∧ Q H'
def rSetA : TSet := fun o i v H Q => rSetL o i v H Q ∨ rSetDk o i v H Q
theorem set_any (hu : X.A.units + 1 < cLine) : PSet X rSetA := by
  intro pins s σ H o i v ov iv u Q I ro ri rv h
  rcases h with h | h
  · exact set_list pins s σ H o i v ov iv u Q I ro ri rv h
  · obtain ⟨a, H', eo, g, q⟩ := h
    subst eo
    cases (show ov = Value.ref a from ro)
    exact d_setItem hu I g ri rv fun s' I' => ⟨H', I', q⟩
theorem s_setIx {l : Str} {pl sp pos : Pos} {j : Nat} {i e : Expr} {ci ce : E} (hv : PE X (.Name l pl) (tVar j)) (hr : Room k X.A) (hi : PE X i (tE X.K g W xa ci)) (hp : plainIx i = true) (he : PE X e (tE X.K g W xa ce)) :
    PS X (.Assign [.Subscript (.Name l pl) i sp] e pos) (tS X.K g W xa io (.setIx j ci ce)) := by
  have ha : ∀ v, assign (.Subscript (.Name l pl) i sp) X.env v = (do
      let ov ← holding [v] (eval (.Name l pl) X.env)
      let iv ← holding [v, ov] (eval i X.env)
      standAt sp
      holding [v, ov, iv] (setItem ov iv v)
      release [v, ov, iv] []) := by
    cases i <;> first | (simp [plainIx] at hp; done) | exact fun _ => rfl
  refine PS.imp (ps_asg he (pg_sub hv hi (set_any (hu_of hr)) ha) (sw_tg (tg := .Subscript (.Name l pl) i sp) (fun _ _ z => by cases z) (fun _ => trivial) pos.line X.env) rfl rfl) fun D σ H h => ?_
  obtain ⟨F, ps, τ, r, hio, h⟩ := h
  unfold evS at h
  split at h
  · exact h.elim
  rename_i c0 hc0
  obtain ⟨p, hp1, hp2, _⟩ := r.get hc0
  refine ⟨F, ps, τ, r, (oneS h r).imp (fun x hx v H1 pa => ?_) fun _ z => z⟩
  have r1 := r.mono pa.same
  refine ⟨_, hp2, F, ps, τ, r1, (oneS hx r1).imp (fun y hy u H2 pb => ?_) fun _ z => z⟩
  have r2 := (r1.mono pb.same).frz x.2
  have hd := Dn.mono (wo_same pb.same) _ pa.den
  split at hy
  case h_2 => exact hy.elim
  rename_i cd hc
  split at hy
  case h_2 => exact hy.elim
  rename_i c' hs
  obtain ⟨p', q1, q2, q3⟩ := r2.get hc
  rw [hp2] at q2; cases q2
  have hk := pb.dn
  unfold setIxD at hs
  split at hs
  · rename_i ds i' heq
    obtain ⟨m, hm, rfl⟩ := Option.map_eq_some_iff.mp hs
    rw [heq] at hk
    cases dn_int hk
    obtain ⟨q0, vs, z1, z2⟩ := q3
    refine .inl ⟨p, vs, i', m, rfl, rfl, z1, by rw [z2.length]; exact hm, ?_⟩
    exact hy _ _ _ (r2.putL q1 q0 (z2.set hd m))
  · rename_i kds dk heq
    split at hs
    · rename_i hkk
      simp only [Bool.and_eq_true, decide_eq_true_eq, Bool.not_eq_true'] at hkk
      cases hs
      obtain ⟨q0, kvs, z1, z2⟩ := q3.dct hkk.1.2
      have e := key_dn' hk hkk.1.1
      rw [e]
      refine .inr ⟨p, _, rfl, DPut.k z1 (by rw [z2.length]; exact hkk.2), ?_⟩
      exact hy _ _ _ (r2.putD q1 q0 (DnKV.put hkk.1.1 hd z2))
    · cases hs
  · cases hs
/-! ### methods of lists -/
theorem few_of {e : Expr} {es : List Expr} {cpos : Pos} (h : (e :: es).any isStar = false) (hl : (e :: es).length < 30) : ((backTo cpos (starEach (e :: es) X.env)).all (fun x => !x.1) && (backToKw cpos (keywordEach [] X.env)).all (fun x => x.1.isSome)
      && decide ((e :: es).length + ([] : List Keyword).length + (if ([] : List Keyword).isEmpty then 0 else 1) < 30)) = true := by
  have h1 : (backTo cpos (starEach (e :: es) X.env)).all (fun x => !x.1) = true := by
    have := star_all (pos := cpos) (env := X.env) h
    rw [List.all_eq_true]
    rw [List.any_eq_false] at this
    exact fun x hx => by simpa using this x hx
  have h2 : (backToKw cpos (keywordEach [] X.env)).all (fun x => x.1.isSome) = true := rfl
  rw [h1, h2]
  simpa using hl
theorem tyL {K : PySem.W.Frag} {H : Hp} {p : Addr} {vs : List V} (h : H p = some (.lst vs)) : tyV K "list" (.ref p) H := .inl ⟨rfl, vs, SqL.of h⟩
theorem s_app {l m : Str} {pl apos cpos pos : Pos} {j : Nat} {e : Expr} {ce : E} (hm : m = "append") (hv : PE X (.Name l pl) (tVar j)) (hs : isStar e = false) (hl : (apos.endLine == cpos.line) = true) (he : PE X e (tE X.K g W xa ce)) :
    PS X (.Expr (.Call (.Attribute (.Name l pl) m apos) [e] [] cpos) pos) (tS X.K g W xa io (.app j ce)) := by
  subst hm
  have hs' : [e].any isStar = false := by simp [hs]
  refine PS.imp (ps_expr (pe_bm PySem.F.plainAttrs_list F.slot_list_append F.type_list_append mt_append hv (pa_cons he pa_nil (star_step hs _ _)) rfl (few_of hs' (by simp)) hl (star_step hs _ _) rfl)) fun D σ H h => ?_
  obtain ⟨F, ps, τ, r, hio, h⟩ := h
  unfold evS at h
  split at h
  case h_2 => exact h.elim
  rename_i c0 hc0
  obtain ⟨p, hp1, hp2, _, vs0, hp3, _⟩ := r.get hc0
  refine ⟨.ref p, hp2, tyL hp3, F, ps, τ, r, (oneS h r).imp (fun x hx v H1 pa => ?_) fun _ z => z⟩
  split at hx
  · rename_i ds hc
    split at hx
    · rename_i hlen
      obtain ⟨p', q1, q2, q0, vs, z1, z2⟩ := ((r.mono pa.same).frz x.2).get hc
      rw [hp2] at q2; cases q2
      exact ⟨p, vs, v, rfl, rfl, z1, by rw [z2.length]; exact hlen, hx _ _ _ (((r.mono pa.same).frz x.2).putL q1 q0 (z2.append (.cons pa.den .nil)))⟩
    · exact hx.elim
  · exact hx.elim
/-- extend by a list that is read -/
def rExtR (K : PySem.W.Frag) : V → List V → Hp → VK → Prop := fun x vs H Q => ∃ l b xs zs, x = .ref l ∧ vs = [.ref b] ∧ H l = some (.lst xs) ∧ LsR K H b zs ∧ xs.length + zs.length ≤ sizeLine ∧ Q .non (upd H l (.lst (xs ++ zs)))
theorem mt_extR : MtM X "list.extend" (rExtR X.K) := by
  intro pins s σ H x vs v us Q I rx rv h
  obtain ⟨l, b, xs, zs, rfl, rfl, hH, hB, hz, q⟩ := h
  cases rx
  obtain ⟨u, rfl, ru⟩ := rv.one
  cases ru
  obtain ⟨z, its, n, r, hl, e⟩ := I.lstM hH
  obtain ⟨z2, its2, n2, r2, hl2, e2⟩ := lstR I hB
  have hsz : its.toArray.size + its2.toArray.size ≤ sizeLine := by rw [List.size_toArray, List.size_toArray]; omega
  have hlong : ¬ (!its.toArray.isEmpty && Builtin.List.listTooLong (its.toArray.size + its2.toArray.size)) = true := by
    rw [notLongL hsz, Bool.and_false]
    exact Bool.false_ne_true
  refine call_meets F.slot_list_extend ⟨_, e, rfl⟩ F.entry_list_extend (F.args_list_extend_2 _ _)
    (AutoSeq1.list_extend_list_list_0 l its.toArray n b its2.toArray n2 hlong (by rw [List.size_toArray]; omega) (by omega)) ⟨e, e2, ?_⟩
  refine ⟨.non, _, I.lset (its' := its ++ its2) hH e (by simp) (r.append r2) ?_, rfl, q⟩
  rw [List.length_append]
  omega
theorem s_ext {l m : Str} {pl apos cpos pos : Pos} {j : Nat} {e : Expr} {ce : E} (hm : m = "extend") (hv : PE X (.Name l pl) (tVar j)) (hs : isStar e = false) (hl : (apos.endLine == cpos.line) = true) (he : PE X e (tE X.K g W xa ce)) :
    PS X (.Expr (.Call (.Attribute (.Name l pl) m apos) [e] [] cpos) pos) (tS X.K g W xa io (.ext j ce)) := by
  subst hm
  have hs' : [e].any isStar = false := by simp [hs]
  refine PS.imp (ps_expr (pe_bm PySem.F.plainAttrs_list F.slot_list_extend F.type_list_extend mt_extR hv (pa_cons he pa_nil (star_step hs _ _)) rfl (few_of hs' (by simp)) hl (star_step hs _ _) rfl)) fun D σ H h => ?_
  obtain ⟨F, ps, τ, r, hio, h⟩ := h
  unfold evS at h
  split at h
  case h_2 => exact h.elim
  rename_i c0 hc0
  obtain ⟨p, hp1, hp2, _, vs0, hp3, _⟩ := r.get hc0
  refine ⟨.ref p, hp2, tyL hp3, F, ps, τ, r, (oneS h r).imp (fun x hx v H1 pa => ?_) fun _ z => z⟩
  obtain ⟨d, L⟩ := x
  cases d with
  | list es =>
    obtain ⟨b, ws, rfl, w1, w2⟩ := pa.el
    dsimp only at hx
    split at hx
    · rename_i ds hc
      split at hx
      · rename_i hlen
        have r1 := (r.mono pa.same).frz (lkE ce L)
        obtain ⟨p', q1, q2, q0, vs, z1, z2⟩ := r1.get hc
        rw [hp2] at q2; cases q2
        exact ⟨p, b, vs, ws, rfl, rfl, z1, w1, by rw [z2.length, w2.length]; exact hlen, hx _ _ _ (r1.putL q1 q0 (z2.append w2))⟩
      · exact hx.elim
    · exact hx.elim
  | _ => exact hx.elim
theorem s_pop0 {l m : Str} {pl apos cpos pos : Pos} {j : Nat} (hm : m = "pop") (hv : PE X (.Name l pl) (tVar j)) (hl : (apos.endLine == cpos.line) = true) :
    PS X (.Expr (.Call (.Attribute (.Name l pl) m apos) [] [] cpos) pos) (tS X.K g W xa io (.pop none j)) := by
  subst hm
  refine PS.imp (ps_expr (pe_bm0 PySem.F.plainAttrs_list F.slot_list_pop F.type_list_pop mt_pop hv rfl hl)) fun D σ H h => ?_
  obtain ⟨F, ps, τ, r, hio, h⟩ := h
  unfold evS at h
  split at h
  case h_2 => exact h.elim
  rename_i ds hc
  obtain ⟨p, q1, q2, q0, vs, z1, z2⟩ := r.get hc
  split at h
  case h_2 => exact h.elim
  rename_i d hd
  obtain ⟨v, hv1, hv2⟩ := z2.get hd
  exact ⟨.ref p, q2, tyL z1, p, vs, v, rfl, rfl, z1, by rw [z2.length]; exact hv1, h _ _ _ (r.putL q1 q0 z2.dropLast)⟩
theorem s_pop1 {x l m : Str} {py pl apos cpos pos : Pos} {i j : Nat} (hN : X.N.Nodup) (hi : X.N[i]? = some x) (hx : Loc X.env.scope x) (hf : X.fn x = true ∨ X.env.scope.names.lookup x = some .local) (hm : m = "pop") (hv : PE X (.Name l pl) (tVar j)) (hl : (apos.endLine == cpos.line) = true) :
    PS X (.Assign [.Name x py] (.Call (.Attribute (.Name l pl) m apos) [] [] cpos) pos) (tS X.K g W xa io (.pop (some i) j)) := by
  subst hm
  refine PS.imp (ps_set hN hi hx (pe_bm0 PySem.F.plainAttrs_list F.slot_list_pop F.type_list_pop mt_pop hv rfl hl) (sw_no rfl _ _ _) hf) fun D σ H h => ?_
  obtain ⟨F, ps, τ, r, hio, h⟩ := h
  unfold evS at h
  split at h
  case h_2 => exact h.elim
  rename_i ds hc
  obtain ⟨p, q1, q2, q0, vs, z1, z2⟩ := r.get hc
  split at h
  case h_2 => exact h.elim
  rename_i d hd
  obtain ⟨v, hv1, hv2⟩ := z2.get hd
  dsimp only at h
  split at h
  · exact h.elim
  · have r1 := r.putL q1 q0 z2.dropLast
    exact ⟨.ref p, q2, tyL z1, p, vs, v, rfl, rfl, z1, by rw [z2.length]; exact hv1, h _ _ _ (r1.set (Dn.mono (wo_upd (.inr ⟨j, false, q1⟩)) _ hv2))⟩
theorem s_dpop {l m : Str} {pl apos cpos pos : Pos} {j : Nat} {a b : Expr} {ca cb : E} (hm : m = "pop") (hv : PE X (.Name l pl) (tVar j)) (hs : isStar a = false) (hs' : isStar b = false) (hl : (apos.endLine == cpos.line) = true) (ha : PE X a (tE X.K g W xa ca)) (hb : PE X b (tE X.K g W xa cb)) :
    PS X (.Expr (.Call (.Attribute (.Name l pl) m apos) [a, b] [] cpos) pos) (tS X.K g W xa io (.dpop j ca cb)) := by
  subst hm
  have hst : [a, b].any isStar = false := by simp [hs, hs']
  have m2 : M2 X (.Name l pl) "pop" apos a b cpos := ⟨rfl, few_of hst (by simp), hl, by rw [star_step hs, star_step hs']; rfl⟩
  refine PS.imp (ps_expr (pe_dpop2 hv ha hb m2)) fun D σ H h => ?_
  obtain ⟨F, ps, τ, r, hio, h⟩ := h
  unfold evS at h
  split at h
  case h_2 => exact h.elim
  rename_i kds hc
  split at h
  · exact h.elim
  rename_i nb
  have nb := Bool.eq_false_iff.mpr nb
  obtain ⟨p, q1, q2, qq⟩ := r.get hc
  obtain ⟨_, kvs0, z0, z0'⟩ := qq.dct nb
  refine ⟨.ref p, q2, p, rfl, .inl ⟨kvs0, .inl z0⟩, F, ps, τ, r, (oneS h r).imp (fun x hx v H1 pa => ?_) fun _ z => z⟩
  have r1 := r.mono pa.same
  refine ⟨F, ps, τ, r1, (oneS hx r1).imp (fun y hy u H2 pb => ?_) fun _ z => z⟩
  have r2 := r1.mono pb.same
  split at hy
  case isFalse => exact hy.elim
  rename_i hk
  obtain ⟨p', w1, w2, ww⟩ := r2.get hc
  obtain ⟨w0, kvs, z1, z2⟩ := ww.dct nb
  rw [q1] at w1; cases w1
  refine ⟨kvs, keyOf x.1, z1, key_dn' pa.dn hk, fun w hw => hy _ _ _ (r2.putD q1 w0 (z2.drop hk)), fun hw => ?_⟩
  have hn : dGet x.1 kds = none := by
    have := valV_dn hk z2
    split at this
    · obtain ⟨w, w1, _⟩ := this
      rw [hw] at w1; cases w1
    · assumption
  rw [drop_none hn, set_own_self hc] at hy
  exact hy _ _ _ r2
/-! ### a value that is dropped; several names -/
theorem s_ex {x : Str} {p cpos pos : Pos} {args : List Expr} {ce : E} (he : PE X (.Call (.Name x p) args [] cpos) (tE X.K g W xa ce)) : PS X (.Expr (.Call (.Name x p) args [] cpos) pos) (tS X.K g W xa io (.ex ce)) := by
  refine PS.imp (ps_expr he) fun D σ H h => ?_
  obtain ⟨F, ps, τ, r, hio, h⟩ := h
  unfold evS at h
  exact ⟨F, ps, τ, r, (oneS h r).imp (fun x hx v H1 pa => hx _ _ _ (r.mono pa.same)) fun _ z => z⟩
theorem swn_of {es : List Expr} {n : Nat} {tp : Pos} {e : Expr} {env : Env} (ht : ∀ us k q, e ≠ .Tuple us k q) : swappedStores [.Tuple es n tp] e env = pure none := by
  unfold swappedStores
  cases e <;> first | rfl | exact absurd rfl (ht _ _ _)
theorem swn_k {ts es : List Expr} {n k : Nat} {tp q : Pos} {env : Env} (h : noSw ts es = true) : swappedStores [.Tuple ts n tp] (.Tuple es k q) env = pure none := by
  unfold noSw at h
  unfold swappedStores
  dsimp only
  repeat' split
  all_goals first | rfl | (simp_all; done)
theorem s_setT {es : List Expr} {n : Nat} {tp pos : Pos} {is : List Nat} {e : Expr} {ce : E} {osc : Scope} (hc : X.calm = true) (ho : OwnN X osc) (hN : X.N.Nodup) (hi : namesIx X.N osc es = some is) (hw : swappedStores [.Tuple es n tp] e X.env = pure none) (he : PE X e (tE X.K g W xa ce)) :
    PS X (.Assign [.Tuple es n tp] e pos) (tS X.K g W xa io (.set (.tup is) ce)) := by
  refine PS.imp (ps_asg he (sG_tup hc ho hN hi) (sw_tg (tg := .Tuple es n tp) (fun _ _ z => by cases z) (fun _ => trivial) pos.line X.env) hw rfl) fun D σ H h => ?_
  obtain ⟨F, ps, τ, r, hio, h⟩ := h
  unfold evS at h
  refine ⟨F, ps, τ, r, (oneS h r).imp (fun x hx v H1 pa => ?_) fun _ z => z⟩
  refine ⟨F, _, _, x.1, (r.mono pa.same).frz x.2, pa.den, ?_⟩
  cases hq : asg io ce.fresh (.tup is) x.1 (frz x.2 τ) with
  | none => rw [hq] at hx; exact hx.elim
  | some τ' =>
    rw [hq] at hx
    rw [hio]
    have : asg io false (.tup is) x.1 (frz x.2 τ) = some τ' := hq
    rw [this]
    exact fun σ' ps' r' _ _ _ _ => hx _ _ _ r'
end
end Mp

/-! MiniPy, part K3: pairs, calls that change an argument, loops. -/
namespace Mp
open PySem PySem.Spec PyProof.Rows L2
section
variable {X : Cx} {c : Cfg} {sc : Scope} {g : G} {k : Nat} {W : WX} {xa : XA} {io : List Nat}
/-! ### a, b = x, y -/
theorem isLoc_of {sc : Scope} {x : Str} (h : isLoc sc x = true) : sc.names.lookup x = some .local := by
  unfold isLoc at h
  split at h
  · assumption
  · cases h
theorem nst : ∀ {e : Expr}, isStar e = false → ¬ (match e with | .Starred .. => true | _ => false) = true := by
  intro e h
  cases e <;> first | (simp [isStar] at h; done) | simp
theorem sw_par2 {env : Env} {x y : Str} {px py pt p2 : Pos} {kt k2 : Nat} {a b : Expr} (hk : env.scope.kind = .function) (hx : env.scope.names.lookup x = some .local) (hy : env.scope.names.lookup y = some .local) (hl : (py.line == px.line) = true) (hxy : (x != y) = true)
    (hs : [a, b].any isStar = false) (h1 : [a, b].all (foldedForSure 8) = false) (h2 : [a, b].all (constantsAlone 8) = false) :
    swappedStores [.Tuple [.Name x px, .Name y py] kt pt] (.Tuple [a, b] k2 p2) env = pure (some [x, y]) := by
  have hb : env.blockKind = .function := by unfold Env.blockKind; rw [hk]; rfl
  have kx : env.kindOf x = some .local := hx
  have ky : env.kindOf y = some .local := hy
  simp only [List.any_cons, List.any_nil, Bool.or_false, Bool.or_eq_false_iff] at hs
  have sa := nst hs.1
  have sb := nst hs.2
  have hxy' : ¬ y = x := fun z => by simp [z] at hxy
  unfold swappedStores
  simp only [hb, h1, h2, kx, ky, Expr.pos, List.length_cons, List.length_nil, List.filterMap_cons, List.filterMap_nil, List.head?_cons, Option.map_some, Option.getD_some, hl, beq_self_eq_true, Bool.and_true, Bool.true_and, if_true]
  simp [List.eraseDups_cons, hxy', Ne.symm hxy']
  exact fun z => (z.elim sa sb).elim
theorem sw_par3 {env : Env} {x y z : Str} {px py pz pt p2 : Pos} {kt k2 : Nat} {a b d : Expr} (hk : env.scope.kind = .function) (hx : env.scope.names.lookup x = some .local) (hy : env.scope.names.lookup y = some .local) (hz : env.scope.names.lookup z = some .local) (hl : (py.line == px.line) = true) (hl' : (pz.line == px.line) = true)
    (hxy : (x != y) = true) (hxz : (x != z) = true) (hyz : (y != z) = true)
    (hs : [a, b, d].any isStar = false) (h1 : [a, b, d].all (foldedForSure 8) = false) (h2 : [a, b, d].all (constantsAlone 8) = false) :
    swappedStores [.Tuple [.Name x px, .Name y py, .Name z pz] kt pt] (.Tuple [a, b, d] k2 p2) env = pure (some [x, y, z]) := by
  have hb : env.blockKind = .function := by unfold Env.blockKind; rw [hk]; rfl
  have kx : env.kindOf x = some .local := hx
  have ky : env.kindOf y = some .local := hy
  have kz : env.kindOf z = some .local := hz
  simp only [List.any_cons, List.any_nil, Bool.or_false, Bool.or_eq_false_iff] at hs
  have sa := nst hs.1
  have sb := nst hs.2.1
  have sd := nst hs.2.2
  have hxy' : ¬ y = x := fun z => by simp [z] at hxy
  have hxz' : ¬ z = x := fun q => by simp [q] at hxz
  have hyz' : ¬ z = y := fun q => by simp [q] at hyz
  unfold swappedStores
  simp only [hb, h1, h2, kx, ky, kz, Expr.pos, List.length_cons, List.length_nil, List.filterMap_cons, List.filterMap_nil, List.head?_cons, Option.map_some, Option.getD_some, hl, hl', beq_self_eq_true, Bool.and_true, Bool.true_and, if_true]
  simp [List.eraseDups_cons, hxy', Ne.symm hxy', hxz', Ne.symm hxz', hyz', Ne.symm hyz']
  exact fun z => (z.elim sa fun q => q.elim sb sd).elim
theorem ix_ne {N : List Str} {i j : Nat} {x y : Str} (hi : N[i]? = some x) (hj : N[j]? = some y) (h : (x != y) = true) : i ≠ j := fun e => by
  subst e
  rw [hi] at hj
  have := Option.some.inj hj
  simp [this] at h
/-- what a list of expressions has made, put into names -/
theorem asgs_rel {K : PySem.W.Frag} {F : Fx} {H : Hp} : ∀ {is : List Nat} {vs : List V} {ds : List D} {σ : L2.St} {τ τ' : Tau} {ps : Ps}, Rel K F ps H σ τ → DnAll K (wo (PP F.P0 ps) H) vs ds → asgs F.iol is ds τ = some τ' → ∃ ps', Rel K F ps' H ((is.zip vs).foldl (fun σ p => σ.set p.1 (some p.2)) σ) τ' ∧ is.length = vs.length
  | [], _, _, _, _, _, ps, r, h, e => by
    cases h with
    | nil => cases e; exact ⟨ps, r, rfl⟩
    | cons _ _ => cases e
  | i :: is, _, _, σ, τ, τ', ps, r, h, e => by
    cases h with
    | nil => cases e
    | cons h1 h2 =>
      rename_i v vs d ds
      have e : (if i ∈ F.iol then none else asgs F.iol is ds (τ.set i (some (false, d)))) = some τ' := e
      split at e
      · cases e
      · obtain ⟨ps1, r1, _, e2⟩ := r.set' (i := i) h1
        obtain ⟨ps', r', hl⟩ := asgs_rel r1 (h2.sub (PP_le e2)) e
        exact ⟨ps', r', by simp [hl]⟩
theorem s_par {ts es : List Expr} {kt k2 : Nat} {pt p2 pos : Pos} {is : List Nat} {f : Expr → E} (hc : X.calm = true) (hN : X.N.Nodup) (hk : X.env.scope.kind = .function) (hsc : X.env.scope = sc) (hi : namesIx X.N sc ts = some is) (hp : parOk sc ts es = true) (he : ∀ e ∈ es, PE X e (tE X.K g W xa (f e))) :
    PS X (.Assign [.Tuple ts kt pt] (.Tuple es k2 p2) pos) (tS X.K g W xa io (.par is (toEs (es.map f)))) := by
  subst hsc
  -- what is read
  have rd : ∀ {Q : List V → Hp → Prop} {D : Ends} {σ : L2.St} {H : Hp}, tS X.K g W xa io (.par is (toEs (es.map f))) D σ H →
      (∀ vs H1, is.length = vs.length → D.nx ((is.zip vs).foldl (fun σ p => σ.set p.1 (some p.2)) σ) H1 → Q vs H1) → tA X.K g W xa (toEs (es.map f)) σ H Q := fun {Q D σ H} h q => by
    obtain ⟨F, ps, τ, r, hio, h⟩ := h
    unfold evS at h
    refine ⟨F, ps, τ, r, (oneS h r).imp (fun x hx vs H1 pa => ?_) fun _ z => z⟩
    cases hq : asgs io is x.1 (frz x.2 τ) with
    | none => rw [hq] at hx; exact hx.elim
    | some τ' =>
      rw [hq] at hx
      obtain ⟨ps', r', hl⟩ := asgs_rel ((r.mono pa.same).frz x.2) pa.den (by rw [hio]; exact hq)
      exact q vs H1 hl (hx _ _ _ r')
  unfold parOk at hp
  split at hp
  · rename_i x px y py a b
    simp only [Bool.and_eq_true, Bool.not_eq_true'] at hp
    obtain ⟨⟨⟨⟨⟨⟨h1, h2⟩, h3⟩, h4⟩, h5⟩, h6⟩, h7⟩ := hp
    have l1 := isLoc_of h1
    have l2 := isLoc_of h2
    simp only [namesIx] at hi
    have o1 : isOwn X.env.scope x = true := by unfold isOwn; rw [l1]
    have o2 : isOwn X.env.scope y = true := by unfold isOwn; rw [l2]
    rw [if_pos o1, if_pos o2] at hi
    cases hx : ixOf x X.N with
    | none => rw [hx] at hi; cases hi
    | some i =>
      cases hy : ixOf y X.N with
      | none => rw [hx, hy] at hi; cases hi
      | some j =>
        rw [hx, hy] at hi; cases hi
        refine PS.imp (ps_par hc hN (ixOf_get hx) (ixOf_get hy) (ix_ne (ixOf_get hx) (ixOf_get hy) h4) l1 l2 (sEs he h5) (sw_par2 hk l1 l2 h3 h4 h5 h6 h7)) fun D σ H h => ?_
        refine rd h fun vs H1 hl q => ?_
        match vs, hl, q with
        | [v, w], _, q => exact ⟨v, w, rfl, q⟩
  · rename_i x px y py z pz a b d
    simp only [Bool.and_eq_true, Bool.not_eq_true'] at hp
    obtain ⟨⟨⟨⟨⟨⟨⟨⟨⟨⟨h1, h2⟩, h3⟩, h4⟩, h5⟩, h6⟩, h7⟩, h8⟩, h9⟩, h10⟩, h11⟩ := hp
    have l1 := isLoc_of h1
    have l2 := isLoc_of h2
    have l3 := isLoc_of h3
    simp only [namesIx] at hi
    have o1 : isOwn X.env.scope x = true := by unfold isOwn; rw [l1]
    have o2 : isOwn X.env.scope y = true := by unfold isOwn; rw [l2]
    have o3 : isOwn X.env.scope z = true := by unfold isOwn; rw [l3]
    rw [if_pos o1, if_pos o2, if_pos o3] at hi
    cases hx : ixOf x X.N with
    | none => rw [hx] at hi; cases hi
    | some i =>
      cases hy : ixOf y X.N with
      | none => rw [hx, hy] at hi; cases hi
      | some j =>
        cases hz : ixOf z X.N with
        | none => rw [hx, hy, hz] at hi; cases hi
        | some m =>
          rw [hx, hy, hz] at hi; cases hi
          refine PS.imp (ps_par3 hc hN (ixOf_get hx) (ixOf_get hy) (ixOf_get hz) (ix_ne (ixOf_get hx) (ixOf_get hy) h6) (ix_ne (ixOf_get hx) (ixOf_get hz) h7) (ix_ne (ixOf_get hy) (ixOf_get hz) h8) l1 l2 l3 (sEs he h9) (sw_par3 hk l1 l2 l3 h4 h5 h6 h7 h8 h9 h10 h11)) fun D σ H h => ?_
          refine rd h fun vs H1 hl q => ?_
          match vs, hl, q with
          | [u, v, w], _, q => exact ⟨u, v, w, rfl, q⟩
  · cases hp
/-! ### a call that changes an argument -/
theorem mark_get {io : List Nat} : ∀ {ds : List D} {p m : Nat}, (mark io p ds)[m]? = (ds[m]?).map fun d => some (io.contains (p + m) && isC d, d)
  | [], _, _ => by simp [mark]
  | d :: ds, p, 0 => by simp [mark]
  | d :: ds, p, m + 1 => by
    have := mark_get (io := io) (ds := ds) (p := p + 1) (m := m)
    have e : p + 1 + m = p + (m + 1) := by omega
    rw [e] at this
    simpa [mark] using this
theorem mark_length {io : List Nat} : ∀ {ds : List D} {p : Nat}, (mark io p ds).length = ds.length
  | [], _ => rfl
  | d :: ds, p => by simp [mark, mark_length (ds := ds)]
structure IoPost (K : PySem.W.Frag) (P0 : Addr → Prop) (ps : Ps) (τ : Tau) (j : Nat) (H H' : Hp) (x : List D × List Nat × Nat) (vs : List V) : Prop where
  same : Same H H'
  own : ∃ a d, ps x.2.2 false = some a ∧ vs[j]? = some (.ref a) ∧ x.1[j]? = some d ∧ own? τ x.2.2 = some d
  len : vs.length = x.1.length
  cln : ∀ (m : Nat) (v : V) (d : D), m ≠ j → vs[m]? = some v → x.1[m]? = some d → Dn K (wo (PP P0 (dr x.2.1 ps)) H') v d
def tAio (K : PySem.W.Frag) (g : G) (W : WX) (xa : XA) (j : Nat) (cs : Es) : TA := fun σ H Q => ∃ F ps τ, Rel K F ps H σ τ ∧ Sat (evIo g j cs τ) (fun x => ∀ vs H', IoPost K F.P0 ps τ j H H' x vs → Q vs H') (XO W xa σ H)
theorem sEsIo {f : Expr → E} : ∀ {es : List Expr} {j : Nat}, (∀ e ∈ es, PE X e (tE X.K g W xa (f e))) → (∀ e ∈ es, ∀ i, f e = .v i → PE X e (tVar i)) → es.any isStar = false → PA X es (tAio X.K g W xa j (toEs (es.map f)))
  | [], j, _, _, _ => PA.imp pa_nil fun σ H Q h => by
    obtain ⟨F, ps, τ, r, h⟩ := h
    have e : evIo g j .nil τ = .st := by cases j <;> (unfold evIo; rfl)
    have h : Sat (evIo g j .nil τ) _ _ := h
    rw [e] at h; exact h.elim
  | e :: es, 0, he, hv, hs => by
    simp only [List.any_cons, Bool.or_eq_false_iff] at hs
    have rest := sEs (X := X) (g := g) (W := W) (xa := xa) (f := f) (es := es) (fun e' q => he e' (List.mem_cons_of_mem _ q)) hs.2
    cases hf : f e with
    | v i =>
      refine PA.imp (pa_cons (hv e (by simp) i hf) rest (star_step hs.1 _ _)) fun σ H Q h => ?_
      obtain ⟨F, ps, τ, r, h⟩ := h
      have h : Sat (evIo g 0 (.cons (f e) (toEs (es.map f))) τ) _ _ := h
      rw [hf] at h
      unfold evIo at h
      dsimp only at h
      split at h
      case h_2 => exact h.elim
      rename_i d hd
      obtain ⟨a, q1, q2, q3⟩ := r.get hd
      refine ⟨.ref a, q2, F, ps, τ, r, (Sat.bind.mp h).imp (fun y hy vs H2 pb => ?_) fun _ z => z⟩
      refine hy (.ref a :: vs) H2 ⟨pb.same, ⟨a, d, q1, rfl, rfl, hd⟩, by simp [pb.den.length], fun m v d' hm h1 h2 => ?_⟩
      cases m with
      | zero => exact absurd rfl hm
      | succ m =>
        obtain ⟨d2, z1, z2⟩ := pb.den.get' (i := m) (v := v) h1
        have h2 : y.1[m]? = some d' := h2
        rw [h2] at z1; cases z1
        exact z2
    | _ =>
      refine PA.imp (pa_cons (he e (by simp)) rest (star_step hs.1 _ _)) fun σ H Q h => ?_
      obtain ⟨F, ps, τ, r, h⟩ := h
      have h : Sat (evIo g 0 (.cons (f e) (toEs (es.map f))) τ) _ _ := h
      rw [hf] at h
      unfold evIo at h
      exact h.elim
  | e :: es, j + 1, he, hv, hs => by
    simp only [List.any_cons, Bool.or_eq_false_iff] at hs
    refine PA.imp (pa_cons (he e (by simp)) (sEsIo (es := es) (j := j) (fun e' q => he e' (List.mem_cons_of_mem _ q)) (fun e' q => hv e' (List.mem_cons_of_mem _ q)) hs.2) (star_step hs.1 _ _)) fun σ H Q h => ?_
    obtain ⟨F, ps, τ, r, h⟩ := h
    have h : Sat (evIo g (j + 1) (.cons (f e) (toEs (es.map f))) τ) _ _ := h
    unfold evIo at h
    refine one r h fun x v H1 pa r1 hz => ⟨F, ps, τ, r1, (Sat.bind.mp hz).imp (fun y hy vs H2 pb => ?_) fun _ z => XO.mono z pa.same⟩
    obtain ⟨a, d, q1, q2, q3, q4⟩ := pb.own
    refine hy (v :: vs) H2 ⟨pa.same.trans pb.same, ⟨a, d, q1, q2, q3, q4⟩, by simp [pb.len], fun m w d' hm h1 h2 => ?_⟩
    cases m with
    | zero =>
      cases h1
      have h2 : some x.1 = some d' := h2
      cases h2
      exact Dn.mono (wo_same pb.same) _ (pa.den.sub (PP_dr fun i hi => List.mem_append_left _ hi))
    | succ m => exact (pb.cln m w d' (fun z => hm (by rw [z])) h1 h2).sub (PP_dr fun i hi => List.mem_append_right _ hi)
/-- the reading of a call that changes its argument j -/
theorem io_rd {f j : Nat} {cs : Es} (hio : g.io f = [j]) {F : Fx} {ps : Ps} {H : Hp} {σ : L2.St} {τ : Tau} (r : Rel X.K F ps H σ τ) {x : List D × List Nat × Nat} {rd d : D} {Q : VK}
    (h1 : evIo g j cs τ = .ok x) (h2 : x.2.2 ∉ x.2.1) (h3 : g.cf f x.1 = .ok (rd, [d]))
    (hq : ∀ v H', (∀ b o, ¬ PP F.P0 (dr x.2.1 ps) b → H b = some o → H' b = some o) → Dn X.K (wo (PP F.P0 (dr x.2.1 ps)) H') v rd → Rel X.K F (dr x.2.1 ps) H' σ ((frz x.2.1 τ).set x.2.2 (some (true, d))) → Q v H') : tCallS (spD X.K (g.cf f) (g.io f) (g.fr f) xa) (WE W) (tAio X.K g W xa j cs) σ H Q := by
  refine ⟨F, ps, τ, r, ?_⟩
  rw [h1, hio]
  intro vs H1 ip
  obtain ⟨a, d0, q1, q2, q3, q4⟩ := ip.own
  have r0 := r.mono ip.same
  have r1 := r0.frz x.2.1
  obtain ⟨a', w1, w2, w3⟩ := r0.get q4
  rw [q1] at w1; cases w1
  have hdr : ∀ b, dr x.2.1 ps x.2.2 b = ps x.2.2 b := fun b => dr_no h2
  have hpa : dr x.2.1 ps x.2.2 false = some a := by rw [hdr]; exact q1
  -- the callee's heap
  let psc : Ps := fun m b => if m = j then ps x.2.2 b else none
  let P0c : Addr → Prop := fun b => PP F.P0 (dr x.2.1 ps) b ∧ ∀ c, ps x.2.2 c ≠ some b
  have psc_some : ∀ {m c p}, psc m c = some p → m = j ∧ ps x.2.2 c = some p := fun {m c p} z => by
    by_cases hm : m = j
    · simp only [psc, hm, if_true] at z; exact ⟨hm, z⟩
    · simp only [psc, hm, if_false] at z; cases z
  have psc_j : ∀ b, psc j b = ps x.2.2 b := fun b => by simp [psc]
  have hPP : ∀ b, PP P0c psc b ↔ PP F.P0 (dr x.2.1 ps) b := fun b => by
    constructor
    · rintro (z | ⟨m, c, z⟩)
      · exact z.1
      · exact .inr ⟨_, c, by rw [hdr]; exact (psc_some z).2⟩
    · intro z
      by_cases e : ∃ c, ps x.2.2 c = some b
      · obtain ⟨c, e⟩ := e
        exact .inr ⟨j, c, by rw [psc_j]; exact e⟩
      · exact .inl ⟨z, fun c q => e ⟨c, q⟩⟩
  have hC : isC d0 = true := w3.isC
  refine ⟨⟨H1, fun b => ∃ i c, psc i c = some b, P0c, ioM [j] (g.fr f), psc, fun b => H1 b = none⟩, psc, x.1, ⟨?_, fun m e he => ?_, fun m e he => ?_, fun m b p hp => ?_, fun m n b c p z1 z2 => ?_, fun m b p hp z => ?_, fun _ _ z _ => z, fun m b p hp => .inl ⟨m, b, hp⟩, fun b z => ?_, fun _ _ => .inr rfl, fun m b p hp hm => absurd (mem_ioM (by rw [(psc_some hp).1]; simp)) hm, fun _ z => z⟩, rfl, rfl, rfl, rfl, rfl, ?_⟩
  · rw [mark_length, List.length_map, ip.len]
  · rw [mark_get] at he
    obtain ⟨d', e1, e2⟩ := Option.map_eq_some_iff.mp he
    simp only [Nat.zero_add, Option.some.injEq, Prod.mk.injEq, Bool.and_eq_true] at e2
    obtain ⟨⟨e3, e4⟩, rfl⟩ := e2
    have hm : m = j := by simpa using e3
    subst hm
    rw [q3] at e1; cases e1
    exact ⟨a, by rw [psc_j]; exact q1, by rw [List.getElem?_map, q2]; rfl, by rw [psc_j]; exact w3.mono (fun _ z => z) (fun _ _ _ z => z) (wo_sub fun b z => PP_dr0 b ((hPP b).mp z))⟩
  · rw [mark_get] at he
    obtain ⟨d', e1, e2⟩ := Option.map_eq_some_iff.mp he
    simp only [Nat.zero_add, Option.some.injEq, Prod.mk.injEq] at e2
    obtain ⟨e3, rfl⟩ := e2
    have hm : m ≠ j := fun z => by
      subst z
      rw [q3] at e1; cases e1
      rw [hC] at e3
      simp at e3
    obtain ⟨v, hv⟩ := get_lt (l := vs) (i := m) (by rw [ip.len]; exact (List.getElem?_eq_some_iff.mp e1).1)
    exact ⟨v, by rw [List.getElem?_map, hv]; rfl, (ip.cln m v _ hm hv e1).sub fun b z => (hPP b).mp z⟩
  · obtain ⟨rfl, _⟩ := psc_some hp
    exact ⟨d0, by rw [mark_get, q3]; simp [hC]⟩
  · have h3 := (psc_some z1)
    have h4 := (psc_some z2)
    exact ⟨by rw [h3.1, h4.1], (r0.inj _ _ _ _ _ h3.2 h4.2).2⟩
  · exact z.2 _ (psc_some hp).2
  · obtain ⟨o, z1, z2⟩ := r1.there z.1
    exact ⟨o, z1, z2⟩
  · rw [h3]
    intro v H2 cp
    obtain ⟨p, d', z1, z2, z3⟩ := cp.outs 0 j rfl
    rw [psc_j] at z1 z3
    rw [q1] at z1; cases z1
    have z2 : some d = some d' := z2
    cases z2
    refine hq v H2 (fun b o hn hb => cp.keep b o (ip.same b o hb) fun ⟨m, c, hm⟩ => hn (.inr ⟨_, c, by rw [hdr]; exact (psc_some hm).2⟩)) (cp.den.sub fun b z => (hPP b).mpr z) (r1.writeG hpa (fun b o hb ne ne2 => cp.keep b o hb fun ⟨m, c, hm⟩ => ?_) ?_)
    · have hm := (psc_some hm).2
      cases c with
      | false => rw [q1] at hm; cases hm; exact ne rfl
      | true => exact ne2 (by rw [hdr]; exact hm)
    · rw [hdr]
      exact z3.mono (fun _ z => z) (fun _ _ _ z => z) (wo_sub fun b z => (hPP b).mpr z)
theorem sE_callIo (ev : Envr X c sc g k W xa) {x : Str} {args : List Expr} {f j : Nat} {fe : Expr → E} {p pos : Pos} (hf : fnIx c sc x args = some f) (he : ∀ e ∈ args, PE X e (tE X.K g W xa (fe e))) (hv : ∀ e ∈ args, ∀ i, fe e = .v i → PE X e (tVar i)) :
    PE X (.Call (.Name x p) args [] pos) (tCallS (spD X.K (g.cf f) (g.io f) (g.fr f) xa) (WE W) (tAio X.K g W xa j (toEs (args.map fe)))) := by
  unfold fnIx at hf
  split at hf
  case isFalse => cases hf
  rename_i hc
  simp only [Bool.and_eq_true, Bool.not_eq_true'] at hc
  obtain ⟨⟨ho, hg⟩, hs⟩ := hc
  obtain ⟨a, fd, qs, h1, h2, h3, h4⟩ := ev.fn f x hf
  obtain ⟨o1, _, _⟩ := ok_names ho
  have ha := sEsIo (X := X) (g := g) (W := W) (xa := xa) (f := fe) (es := args) (j := j) he hv hs
  cases args with
  | nil =>
    refine ⟨fun pins s σ H Q I h => ?_⟩
    obtain ⟨F, ps, τ, r, h⟩ := h
    have e : evIo g j .nil τ = .st := by cases j <;> (unfold evIo; rfl)
    have h : Sat (evIo g j .nil τ) _ _ := h
    rw [e] at h; exact h.elim
  | cons e es =>
    simp only [List.any_cons, Bool.or_eq_false_iff] at hs
    exact pe_callS h4 ev.room (ev.gl_of hg) h1 h2 h3 (fun σ => passAt ev.tk σ) ha o1 (star_step hs.1 _ _) (star_all hs.2)
theorem s_io0 (ev : Envr X c sc g k W xa) {x : Str} {args : List Expr} {f : Nat} {fe : Expr → E} {p cpos pos : Pos} (hf : fnIx c sc x args = some f) (he : ∀ e ∈ args, PE X e (tE X.K g W xa (fe e))) (hv : ∀ e ∈ args, ∀ i, fe e = .v i → PE X e (tVar i)) :
    PS X (.Expr (.Call (.Name x p) args [] cpos) pos) (tS X.K g W xa io (.io none f (toEs (args.map fe)))) := by
  cases hio : g.io f with
  | nil => exact ⟨fun _ _ _ _ _ _ h => by obtain ⟨_, _, _, _, _, h⟩ := h; unfold evS at h; rw [hio] at h; exact h.elim⟩
  | cons j js =>
    cases js with
    | cons _ _ => exact ⟨fun _ _ _ _ _ _ h => by obtain ⟨_, _, _, _, _, h⟩ := h; unfold evS at h; rw [hio] at h; exact h.elim⟩
    | nil =>
      refine PS.imp (ps_expr (sE_callIo (j := j) ev hf he hv)) fun D σ H h => ?_
      obtain ⟨F, ps, τ, r, hiol, h⟩ := h
      unfold evS at h
      rw [hio] at h
      dsimp only at h
      split at h
      case h_2 => exact h.elim
      rename_i y hy
      split at h
      · exact h.elim
      rename_i hn
      split at h
      case h_2 => exact h.elim
      rename_i rd d hcf
      split at h
      case isFalse => exact h.elim
      exact io_rd hio r hy (by simpa using hn) hcf fun v H' _ _ r' => h _ _ _ r'
theorem s_io1 (ev : EnvS X c sc g k W xa) {x z : Str} {args : List Expr} {f i : Nat} {fe : Expr → E} {py p cpos pos : Pos} (hx : ownIx c sc z = some i) (hf : fnIx c sc x args = some f) (he : ∀ e ∈ args, PE X e (tE X.K g W xa (fe e))) (hv : ∀ e ∈ args, ∀ i, fe e = .v i → PE X e (tVar i)) :
    PS X (.Assign [.Name z py] (.Call (.Name x p) args [] cpos) pos) (tS X.K g W xa io (.io (some i) f (toEs (args.map fe)))) := by
  obtain ⟨l1, l2, l3⟩ := ownIx_ok ev hx
  cases hio : g.io f with
  | nil => exact ⟨fun _ _ _ _ _ _ h => by obtain ⟨_, _, _, _, _, h⟩ := h; unfold evS at h; rw [hio] at h; exact h.elim⟩
  | cons j js =>
    cases js with
    | cons _ _ => exact ⟨fun _ _ _ _ _ _ h => by obtain ⟨_, _, _, _, _, h⟩ := h; unfold evS at h; rw [hio] at h; exact h.elim⟩
    | nil =>
      refine PS.imp (ps_set ev.nd l1 l2 (sE_callIo (j := j) ev.toEnvr hf he hv) (sw_no rfl _ _ _) l3) fun D σ H h => ?_
      obtain ⟨F, ps, τ, r, hiol, h⟩ := h
      unfold evS at h
      rw [hio] at h
      dsimp only at h
      split at h
      case h_2 => exact h.elim
      rename_i y hy
      split at h
      · exact h.elim
      rename_i hn
      split at h
      case h_2 => exact h.elim
      rename_i rd d hcf
      split at h
      case isFalse => exact h.elim
      split at h
      · exact h.elim
      exact io_rd hio r hy (by simpa using hn) hcf fun v H' _ dn r' => h _ _ _ (r'.set dn)
theorem s_callF (ev : EnvS X c sc g k W xa) {x z : Str} {args : List Expr} {f i : Nat} {fe : Expr → E} {py p cpos pos : Pos} (hx : ownIx c sc z = some i) (hf : fnIx c sc x args = some f) (he : ∀ e ∈ args, PE X e (tE X.K g W xa (fe e))) :
    PS X (.Assign [.Name z py] (.Call (.Name x p) args [] cpos) pos) (tS X.K g W xa io (.callF i f (toEs (args.map fe)))) := by
  obtain ⟨l1, l2, l3⟩ := ownIx_ok ev hx
  unfold fnIx at hf
  split at hf
  case isFalse => cases hf
  rename_i hc
  simp only [Bool.and_eq_true, Bool.not_eq_true'] at hc
  obtain ⟨⟨ho, hg⟩, hs⟩ := hc
  have main := sE_callMain ev.toEnvr (p := p) (pos := cpos) ho hg hf hs (cs := toEs (args.map fe)) (fun z => by rw [z]; rfl) (sEs he hs)
  refine PS.imp (ps_set ev.nd l1 l2 main (sw_no rfl _ _ _) l3) fun D σ H h => ?_
  obtain ⟨F, ps, τ, r, hiol, h⟩ := h
  unfold evS at h
  split at h
  case h_2 => exact h.elim
  rename_i hio
  have h1 := oneS h r
  have key : Sat ((evEs g (toEs (args.map fe)) τ).bind fun x => (g.cf f x.1).bind fun q => R.ok (q, x)) (fun y => Post X.K F W xa D (if g.fr f then (match y.1.2 with | [] => if i ∈ io then Out.st else .nx ((frz y.2.2 τ).set i (some (isC y.1.1, y.1.1))) | _ => .st) else .st)) (XO W xa σ H) := by
    refine Sat.bind.mpr (h1.imp (fun x hx => ?_) fun _ z => z)
    by_cases hfr : g.fr f = true
    · rw [if_pos hfr] at hx
      refine Sat.bind.mpr ((oneS hx r).imp (fun q hq => ?_) fun _ z => z)
      show Post X.K F W xa D (if g.fr f then _ else _)
      rw [if_pos hfr]
      exact hq
    · rw [if_neg hfr] at hx; exact hx.elim
  refine call_rd ev.toEnvr hio r key fun q x v H' h0 e den fr hz => ?_
  have hz : Post X.K F W xa D (if g.fr f then (match q.2 with | [] => if i ∈ io then Out.st else .nx ((frz x.2 τ).set i (some (isC q.1, q.1))) | _ => .st) else .st) := hz
  split at hz
  case isFalse => exact hz.elim
  rename_i hfr
  rw [h0] at hz
  dsimp only at hz
  split at hz
  · exact hz.elim
  rename_i hi
  have r1 := (r.mono e).frz x.2
  by_cases hq : isC q.1 = true
  · obtain ⟨a, rfl, e2, e3⟩ := fr hfr hq
    rw [hq] at hz
    by_cases hlt : i < τ.length
    · exact hz _ _ _ ((r.frz x.2).setNew e (by rw [hiol]; exact hi) (by rw [frz_length]; exact hlt) e2 e3)
    · have hz2 : (frz x.2 τ).set i (some (true, q.1)) = frz x.2 τ := List.set_eq_of_length_le (show (frz x.2 τ).length ≤ i by rw [frz_length]; omega)
      rw [hz2] at hz
      show D.nx (σ.set i (some (.ref a))) H'
      rw [List.set_eq_of_length_le (show σ.length ≤ i by rw [r.ls]; omega)]
      exact hz _ _ _ r1
  · rw [Bool.eq_false_iff.mpr hq] at hz
    exact hz _ _ _ (r1.set den)
end
end Mp

/-! MiniPy, part K4: loops; every statement. -/
namespace Mp
open PySem PySem.Spec PyProof.Rows L2
section
variable {X : Cx} {c : Cfg} {sc : Scope} {g : G} {k : Nat} {W : WX} {xa : XA} {io : List Nat}
theorem s_wh {dead : List Nat} {t : Expr} {b : List Stmt} {pos : Pos} {ct : E} {cb : Ss} (hp : PassesOwn (model X.prog X.w) X.A X.env X.xe) (ht : PT X t (tT X.K g W xa ct)) (hb : PSs X b (tSs X.K g W xa io cb)) : PS X (.While t b [] pos) (tS X.K g W xa io (.wh dead ct cb)) := by
  refine PS.imp (ps_while hp ht hb) fun D σ H h => ?_
  obtain ⟨F, ps, τ, r, hio, h⟩ := h
  unfold evS at h
  refine ⟨fun m σ H => ∃ ps τ, Rel X.K F ps H σ τ ∧ Post X.K F W xa D (whL dead (evT g ct) (evSs g io cb) m τ), ⟨g.wN, _, _, r.forget dead, h⟩, ?_⟩
  rintro m σ H ⟨ps, τ, r, h⟩
  cases m with
  | zero => exact h.elim
  | succ n =>
    unfold whL at h
    refine ⟨F, ps, τ, r, ?_⟩
    cases hev : evT g ct τ with
    | st => rw [hev] at h; exact h.elim
    | ex x => rw [hev] at h; exact fun cls dd H' e q => h ps σ H' cls dd (r.mono e) q
    | ok b =>
      rw [hev] at h
      intro H1 e
      cases b with
      | false => rw [if_neg (by decide)]; exact h _ _ _ (r.mono e)
      | true =>
        rw [if_pos rfl]
        refine ⟨fun σ H => ∃ ps τ, Rel X.K F ps H σ τ ∧ Post X.K F W xa D (whL dead (evT g ct) (evSs g io cb) n τ), fun σ' H' q => ⟨n, Nat.lt_succ_self _, q⟩, F, ps, τ, r.mono e, hio, ?_⟩
        dsimp only at h
        cases hs : evSs g io cb τ with
        | nx τ2 => rw [hs] at h; exact fun ps' σ' H' r' => ⟨_, _, r'.forget dead, h⟩
        | ct τ2 => rw [hs] at h; exact fun ps' σ' H' r' => ⟨_, _, r'.forget dead, h⟩
        | brk τ2 => rw [hs] at h; exact fun ps' σ' H' r' => h _ _ _ (r'.forget dead)
        | ret τ2 d => rw [hs] at h; exact h
        | ex x τ2 => rw [hs] at h; exact h
        | st => rw [hs] at h; exact h
/-- a loop's own ground -/
def Fx.loop (F : Fx) (ps : Ps) (H : Hp) : Fx := ⟨H, fun a => ∃ i b, ps i b = some a, F.P0, F.iol, ps, F.nw⟩
theorem Rel.toLoop {K : PySem.W.Frag} {F : Fx} {ps : Ps} {H : Hp} {σ : L2.St} {τ : Tau} (r : Rel K F ps H σ τ) : Rel K (F.loop ps H) ps H σ τ :=
  ⟨r.ls, r.own, r.cln, r.pown, r.inj, r.out, fun _ _ z _ => z, fun i b p h => .inl ⟨i, b, h⟩, r.p0, fun _ _ => .inr rfl, r.nw⟩
theorem Rel.ofLoop {K : PySem.W.Frag} {F : Fx} {ps ps' : Ps} {H H' : Hp} {σ σ' : L2.St} {τ τ' : Tau} (r : Rel K F ps H σ τ) (r' : Rel K (F.loop ps H) ps' H' σ' τ') : Rel K F ps' H' σ' τ' := by
  have hio : ∀ {j : Nat} {b : Bool} {p : Addr}, ps j b = some p → F.io p ∨ F.H0 p = none := fun {j b p} z => r.new j b p z
  refine ⟨r'.ls, r'.own, r'.cln, r'.pown, r'.inj, r'.out, fun a o h1 h2 => ?_, fun i b p h => ?_, r'.p0, fun i hi => (by
    rcases r'.pin i hi with z | z
    · exact .inl z
    · have z : ps' i = ps i := z
      rw [z]; exact r.pin i hi), r'.nw⟩
  · refine r'.keep a o (r.keep a o h1 h2) fun ⟨j, b, z⟩ => ?_
    rcases hio z with q | q
    · exact h2 q
    · rw [q] at h1; cases h1
  · rcases r'.new i b p h with ⟨j, c, z⟩ | z
    · exact hio z
    · by_cases q : F.io p
      · exact .inl q
      · right
        cases h0 : F.H0 p with
        | none => rfl
        | some o =>
          have z : H p = none := z
          have := r.keep p o h0 q
          rw [z] at this; cases this
theorem Post.loop {K : PySem.W.Frag} {F : Fx} {ps : Ps} {H : Hp} {σ : L2.St} {τ : Tau} {D : Ends} {o : Out} (r : Rel K F ps H σ τ) (h : Post K F W xa D o) : Post K (F.loop ps H) W xa D o := by
  cases o with
  | nx τ' => exact fun ps' σ' H' r' => h ps' σ' H' (r.ofLoop r')
  | brk τ' => exact fun ps' σ' H' r' => h ps' σ' H' (r.ofLoop r')
  | ct τ' => exact fun ps' σ' H' r' => h ps' σ' H' (r.ofLoop r')
  | ret τ' d => exact fun ps' σ' H' v r' hd hf => h ps' σ' H' v (r.ofLoop r') hd hf
  | ex x τ' => exact fun ps' σ' H' cls dd r' q => h ps' σ' H' cls dd (r.ofLoop r') q
  | st => exact h
theorem s_for {dead : List Nat} {tg iter : Expr} {b : List Stmt} {pos : Pos} {t : T} {ci : I} {cb : Ss} (hp : PassesOwn (model X.prog X.w) X.A X.env X.xe) (hc : X.calm = true) (hi : PI X tg iter (tI X.K g W xa ci)) (hg : PG X tg (tG X.K t)) (hb : PSs X b (tSs X.K g W xa io cb)) (hs : isSet iter = false) :
    PS X (.For tg iter b [] pos) (tS X.K g W xa io (.forS dead t ci cb)) := by
  refine PS.imp (ps_for hp hc hi hg hb (isSet_no hs _)) fun D σ H h => ?_
  obtain ⟨F, ps, τ, r, hio, h⟩ := h
  unfold evS at h
  refine ⟨F, ps, τ, r, (oneS h r).imp (fun x hx J H1 e1 ok _ => ?_) fun _ z => z⟩
  have r1 := ((r.mono e1).frz x.2).forget dead
  have hle : ∀ a, PP F.P0 (dr dead (dr x.2 ps)) a → PP F.P0 (dr x.2 ps) a := PP_dr0
  refine ⟨fun i m σ H => m = x.1.length - i ∧ i ≤ x.1.length ∧ ∃ ps' τ', Rel X.K (F.loop (dr dead (dr x.2 ps)) H1) ps' H σ τ' ∧ Post X.K (F.loop (dr dead (dr x.2 ps)) H1) W xa D (forL io dead t (evSs g io cb) (x.1.drop i) τ'),
    ⟨x.1.length, by simp, Nat.zero_le _, dr dead (dr x.2 ps), _, r1.toLoop, Post.loop r1 hx⟩, ?_⟩
  rintro i m σ' H2 ⟨rfl, hi, ps', τ', r', h'⟩
  have hC : Same (wo (PP F.P0 (dr x.2 ps)) H1) H2 := fun a o z => by
    obtain ⟨z1, z2⟩ := wo_some.mp z
    exact r'.keep a o z2 fun ⟨j, b, q⟩ => z1 (.inr ⟨j, b, (dr_some.mp q).2⟩)
  have hC' : ∀ a o, ¬ PP F.P0 (dr x.2 ps) a → H1 a = some o → H2 a = some o := fun a o z1 z2 => r'.keep a o z2 fun ⟨j, b, q⟩ => z1 (.inr ⟨j, b, (dr_some.mp q).2⟩)
  have hG : Same (wo (PP F.P0 (dr x.2 ps)) H1) (wo (PP (F.loop (dr dead (dr x.2 ps)) H1).P0 ps') H2) := wo_gen fun a o z1 z2 => ⟨fun q => (by
    rcases q with q | ⟨j, b, q⟩
    · exact z1 (.inl q)
    · rcases r'.new j b a q with ⟨j', b', w⟩ | w
      · exact z1 (.inr ⟨j', b', (dr_some.mp w).2⟩)
      · have w : H1 a = none := w
        rw [w] at z2; cases z2), hC' a o z1 z2⟩
  by_cases hlt : i < x.1.length
  · obtain ⟨d, hd⟩ := get_lt hlt
    have hdrop : x.1.drop i = d :: x.1.drop (i + 1) := by
      rw [List.drop_eq_getElem_cons hlt, (List.getElem?_eq_some_iff.mp hd).2]
    rw [hdrop] at h'
    unfold forL at h'
    refine .inr ⟨ok.go i H2 hC hlt, fun σ H => ∃ ps' τ', Rel X.K (F.loop (dr dead (dr x.2 ps)) H1) ps' H σ τ' ∧ Post X.K (F.loop (dr dead (dr x.2 ps)) H1) W xa D (forL io dead t (evSs g io cb) (x.1.drop (i + 1)) τ'), fun σ3 H3 q => ⟨x.1.length - (i + 1), by omega, rfl, by omega, q⟩, fun v H3 hy => ?_⟩
    obtain ⟨s23, hv⟩ := ok.yld i H2 v H3 d _ hC hG (fun a q => let ⟨o, q1, _⟩ := r'.there q; ⟨o, q1⟩) hy hd
    refine ⟨F.loop (dr dead (dr x.2 ps)) H1, ps', τ', d, r'.mono s23, hv, ?_⟩
    have hil : (F.loop (dr dead (dr x.2 ps)) H1).iol = io := hio
    rw [hil]
    split at h'
    · exact h'.elim
    rename_i τ1 ha
    rw [ha]
    intro σ4 ps4 r4 _ _ _ _
    refine ⟨F.loop (dr dead (dr x.2 ps)) H1, ps4, τ1, r4, hio, ?_⟩
    cases hs : evSs g io cb τ1 with
    | nx τ2 => rw [hs] at h'; exact fun ps' σ' H' r' => ⟨_, _, r'.forget dead, h'⟩
    | ct τ2 => rw [hs] at h'; exact fun ps' σ' H' r' => ⟨_, _, r'.forget dead, h'⟩
    | brk τ2 => rw [hs] at h'; exact fun ps' σ' H' r' => h' _ _ _ (r'.forget dead)
    | ret τ2 d => rw [hs] at h'; exact h'
    | ex x τ2 => rw [hs] at h'; exact h'
    | st => rw [hs] at h'; exact h'
  · have hie : i = x.1.length := by omega
    rw [hie, List.drop_length] at h'
    exact .inl ⟨ok.stop i H2 hC (by omega), h' ps' σ' H2 r'⟩
/-! ### a comprehension put into a name -/
theorem s_setLc (ev : EnvS X c sc g k W xa) {n : Nat} {x : Str} {py p pos : Pos} {i : Nat} {elt : Expr} {gs : List Comprehension} {scope : Scope} (hx : ownIx c sc x = some i) (hl : isLoc sc x = true) (hp : (py.line == p.line) = true)
    (ha : (scope.names.any fun (n, k) => n == x && (k == .local || k == .cell)) = false) : PS X (.Assign [.Name x py] (.ListComp elt gs scope p) pos) (tS X.K g W xa io (.set (.n i) (cE c (n + 1) sc (.ListComp elt gs scope p)))) := by
  obtain ⟨h1, _, _⟩ := ownIx_ok ev hx
  have hloc : X.env.scope.names.lookup x = some .local := by rw [ev.sc]; exact isLoc_of hl
  have hsw := fun l => sw_true (elt := elt) (gs := gs) (pos := p) (l := l) ev.kind hloc hp ha
  have bad : PS X (.Assign [.Name x py] (.ListComp elt gs scope p) pos) (tS X.K g W xa io (.set (.n i) .bad)) := ⟨fun _ _ _ _ _ _ h => by obtain ⟨_, _, _, _, _, h⟩ := h; exact h.elim⟩
  unfold cE
  split <;> first
    | exact bad
    | (rename_i z; cases z; done)
    | skip
  rename_i elt' tg iter ifs scope' p' z
  cases z
  split
  case isFalse => exact bad
  rename_i h
  simp only [Bool.and_eq_true, Bool.not_eq_true'] at h
  split
  case h_2 => exact bad
  rename_i t ht
  split
  case isFalse => exact bad
  rename_i hin
  have okb : BlkOk X.N X.env.scope scope (ownOf c.N scope) := by rw [ev.N, ev.sc]; exact blkOk_by h.1
  have hG : ∀ (s : Shared) (H : Hp) (C : Addr) (cl : List (Str × Addr)) (fp : List Addr), PG (X.blk s H scope (compEnvC scope cl C X.env) fp) tg (tG X.K t) := fun s H C cl fp =>
    sG (X := X.blk s H scope (compEnvC scope cl C X.env) fp) (osc := scope) ev.calm (isOwn_blk ev.sc s H scope C cl fp) ev.nd (by show cT X.N scope tg = some t; rw [ev.N]; exact ht)
  have hI : PI X tg iter (tI X.K g W xa (mkI c sc (cE c n sc) tg iter)) := s_mkI ev.toEnvr fun e => (s_all n ev.toEnvr e).pe
  have hE : ∀ e (s : Shared) (H : Hp) (C : Addr) (cl : List (Str × Addr)) (fp : List Addr), All (X.blk s H scope (compEnvC scope cl C X.env) fp) g W0 xa e (cE c n (relS scope sc) e) := fun e s H C cl fp => s_all n (ev.toEnvr.blk s H scope C cl fp) e
  have fin : ∀ {qs : List Expr} {cc : O}, (∀ (s : Shared) (H : Hp) (C : Addr) (cl : List (Str × Addr)) (fp : List Addr), PTs (X.blk s H scope (compEnvC scope cl C X.env) fp) qs (tC X.K g xa cc)) →
      (swapsWith (.ListComp elt [⟨tg, iter, qs, 0⟩] scope p) (some (.Name x py)) pos.line X.env = pure true) →
      PS X (.Assign [.Name x py] (.ListComp elt [⟨tg, iter, qs, 0⟩] scope p) pos) (tS X.K g W xa io (.set (.n i) (.comp (cE c n (relS scope sc) elt) t (mkI c sc (cE c n sc) tg iter) cc ((ownOf c.N scope).map (·.2))))) := fun hT hw =>
    PS.imp (ps_setLc ev.calm ev.nd h1 hloc hw hI okb hG hT (fun s H C cl fp => (hE elt s H C cl fp).pe) (isSet_no h.2 _)) fun D σ H q => rd_comp hin (rd_set q)
  split
  · exact fin (fun s H C cl fp => pts_nil) (hsw _)
  · rename_i q
    exact fin (fun s H C cl fp => pts_one (hE q s H C cl fp).pt) (hsw _)
  · exact bad
end
end Mp

/-! MiniPy, part K7: pop(0), calls that change an argument and are returned or handed to another call. -/
namespace Mp
open PySem PySem.Spec PyProof.Rows L2
section
variable {X : Cx} {c : Cfg} {sc : Scope} {g : G} {k : Nat} {W : WX} {xa : XA} {io : List Nat}
theorem s_popF {x l m : Str} {py pl p0 apos cpos pos : Pos} {i j t0 : Nat} {z : Int} (hN : X.N.Nodup) (hi : X.N[i]? = some x) (hx : Loc X.env.scope x) (hf : X.fn x = true ∨ X.env.scope.names.lookup x = some .local) (hm : m = "pop") (hz : z = 0) (hv : PE X (.Name l pl) (tVar j)) (hl : (apos.endLine == cpos.line) = true) :
    PS X (.Assign [.Name x py] (.Call (.Attribute (.Name l pl) m apos) [.Constant (.int z) t0 p0] [] cpos) pos) (tS X.K g W xa io (.popF (some i) j)) := by
  subst hm hz
  have hs : isStar (.Constant (.int 0) t0 p0) = false := rfl
  have hs' : [Expr.Constant (.int 0) t0 p0].any isStar = false := rfl
  refine PS.imp (ps_set hN hi hx (pe_bm PySem.F.plainAttrs_list F.slot_list_pop F.type_list_pop mt_popAt hv (pa_cons pe_int pa_nil (star_step hs _ _)) rfl (few_of hs' (by simp)) hl (star_step hs _ _) rfl) (sw_no rfl _ _ _) hf) fun D σ H h => ?_
  obtain ⟨F, ps, τ, r, hio, h⟩ := h
  unfold evS at h
  split at h
  case h_2 => exact h.elim
  rename_i d ds hc
  obtain ⟨p, q1, q2, q0, vs, z1, z2⟩ := r.get hc
  dsimp only at h
  split at h
  · exact h.elim
  · cases z2 with
    | cons hv2 z2 =>
      rename_i v vs
      have r1 := r.putL q1 q0 z2
      refine ⟨.ref p, q2, tyL z1, p, v :: vs, 0, 0, v, rfl, rfl, z1, by decide, by decide, ?_, rfl, h _ _ _ (r1.set (Dn.mono (wo_upd (.inr ⟨j, false, q1⟩)) _ hv2))⟩
      unfold seqIndex?
      simp
theorem s_ioR (ev : Envr X c sc g k W xa) {x : Str} {args : List Expr} {f : Nat} {fe : Expr → E} {p cpos pos : Pos} (hf : fnIx c sc x args = some f) (he : ∀ e ∈ args, PE X e (tE X.K g W xa (fe e))) (hv : ∀ e ∈ args, ∀ i, fe e = .v i → PE X e (tVar i)) :
    PS X (.Return (some (.Call (.Name x p) args [] cpos)) pos) (tS X.K g W xa io (.ioR f (toEs (args.map fe)))) := by
  cases hio : g.io f with
  | nil => exact ⟨fun _ _ _ _ _ _ h => by obtain ⟨_, _, _, _, _, h⟩ := h; unfold evS at h; rw [hio] at h; exact h.elim⟩
  | cons j js =>
    cases js with
    | cons _ _ => exact ⟨fun _ _ _ _ _ _ h => by obtain ⟨_, _, _, _, _, h⟩ := h; unfold evS at h; rw [hio] at h; exact h.elim⟩
    | nil =>
      refine PS.imp (ps_ret (sE_callIo (j := j) ev hf he hv)) fun D σ H h => ?_
      obtain ⟨F, ps, τ, r, hiol, h⟩ := h
      unfold evS at h
      rw [hio] at h
      dsimp only at h
      split at h
      case h_2 => exact h.elim
      rename_i y hy
      split at h
      · exact h.elim
      rename_i hn
      split at h
      case h_2 => exact h.elim
      rename_i rd d hcf
      split at h
      case isFalse => exact h.elim
      rename_i hc
      simp only [Bool.and_eq_true, Bool.not_eq_true'] at hc
      exact io_rd hio r hy (by simpa using hn) hcf fun v H' _ dn r' => h _ _ _ _ r' dn fun _ z => by rw [hc.2] at z; cases z
/-- the reading of arguments of which the last one is a call that changes its argument -/
def tAC (K : PySem.W.Frag) (g : G) (as : Es) (f j : Nat) (cs : Es) : TA := fun σ H Q => ∃ F ps τ, Rel K F ps H σ τ ∧ g.io f = [j] ∧ ∃ ds x rd d, evEs g as τ = .ok (ds, []) ∧ evIo g j cs τ = .ok x ∧ x.2.2 ∉ x.2.1 ∧ g.cf f x.1 = .ok (rd, [d]) ∧
  ∀ vs v H', (∀ b o, ¬ PP F.P0 (dr x.2.1 ps) b → H b = some o → H' b = some o) → DnAll K (wo (PP F.P0 (dr x.2.1 ps)) H') vs ds → Dn K (wo (PP F.P0 (dr x.2.1 ps)) H') v rd → Rel K F (dr x.2.1 ps) H' σ ((frz x.2.1 τ).set x.2.2 (some (true, d))) → Q (vs ++ [v]) H'
theorem ok_nil {α β : Type} {r : R (α × List β)} {q : R (List α × List β)} {ds : List α} (h : (r.bind fun x => q.bind fun y => R.ok (x.1 :: y.1, x.2 ++ y.2)) = .ok (ds, [])) : ∃ d0 ds', r = .ok (d0, []) ∧ q = .ok (ds', []) ∧ ds = d0 :: ds' := by
  cases r with
  | ex _ => cases h
  | st => cases h
  | ok x =>
    cases q with
    | ex _ => cases h
    | st => cases h
    | ok y =>
      obtain ⟨x1, x2⟩ := x
      obtain ⟨y1, y2⟩ := y
      have h : R.ok (x1 :: y1, x2 ++ y2) = .ok (ds, []) := h
      injection h with h
      injection h with h1 h2
      obtain ⟨rfl, rfl⟩ := List.append_eq_nil_iff.mp h2
      exact ⟨x1, y1, rfl, rfl, h1.symm⟩
theorem sEsIoC (ev : Envr X c sc g k W xa) {x : Str} {args : List Expr} {f j : Nat} {fe : Expr → E} {p cpos : Pos} (hf : fnIx c sc x args = some f) (he : ∀ e ∈ args, PE X e (tE X.K g W xa (fe e))) (hv : ∀ e ∈ args, ∀ i, fe e = .v i → PE X e (tVar i)) :
    ∀ {as : List Expr}, (∀ e ∈ as, PE X e (tE X.K g W xa (fe e))) → as.any isStar = false → PA X (as ++ [.Call (.Name x p) args [] cpos]) (tAC X.K g (toEs (as.map fe)) f j (toEs (args.map fe)))
  | [], _, _ => PA.imp (pa_cons (sE_callIo (j := j) ev hf he hv) pa_nil rfl) fun σ H Q h => by
    obtain ⟨F, ps, τ, r, hio, ds, y, rd, d, h1, h2, h3, h4, h5⟩ := h
    have h1 : R.ok (([] : List D), ([] : List Nat)) = .ok (ds, []) := h1
    injection h1 with h1
    injection h1 with h1 _
    subst h1
    exact io_rd hio r h2 h3 h4 fun v H' kp dn r' => h5 [] v H' kp .nil dn r'
  | e :: es, ha, hs => by
    simp only [List.any_cons, Bool.or_eq_false_iff] at hs
    refine PA.imp (pa_cons (ha e (by simp)) (sEsIoC (j := j) ev hf he hv (as := es) (fun e' q => ha e' (List.mem_cons_of_mem _ q)) hs.2) (star_step hs.1 _ _)) fun σ H Q h => ?_
    obtain ⟨F, ps, τ, r, hio, ds, y, rd, d, h1, h2, h3, h4, h5⟩ := h
    have h1 : ((evE g (fe e) τ).bind fun x => (evEs g (toEs (es.map fe)) τ).bind fun y => R.ok (x.1 :: y.1, x.2 ++ y.2)) = .ok (ds, []) := h1
    obtain ⟨d0, ds', e1, e2, rfl⟩ := ok_nil h1
    refine ⟨F, ps, τ, r, ?_⟩
    rw [e1]
    intro v H1 pa
    refine ⟨F, ps, τ, r.mono pa.same, hio, ds', y, rd, d, e2, h2, h3, h4, fun vs w H' kp dvs dw r' => ?_⟩
    refine h5 (v :: vs) w H' (fun b o n z => kp b o n (pa.same _ _ z)) (.cons (Dn.mono (wo_gen fun a u z1 z2 => ⟨fun q => z1 ?_, kp a u (fun q => z1 ?_) z2⟩) _ pa.den) dvs) dw r'
    · exact PP_dr (L := []) (fun i hi => nomatch hi) a q
    · exact PP_dr (L := []) (fun i hi => nomatch hi) a q
theorem sE_callG (ev : Envr X c sc g k W xa) {x : Str} {args : List Expr} {f : Nat} {ta : TA} {p pos : Pos} (hf : fnIx c sc x args = some f) (hn : args ≠ []) (ha : PA X args ta) :
    PE X (.Call (.Name x p) args [] pos) (tCallS (spD X.K (g.cf f) (g.io f) (g.fr f) xa) (WE W) ta) := by
  unfold fnIx at hf
  split at hf
  case isFalse => cases hf
  rename_i hc
  simp only [Bool.and_eq_true, Bool.not_eq_true'] at hc
  obtain ⟨⟨ho, hg⟩, hs⟩ := hc
  obtain ⟨a, fd, qs, h1, h2, h3, h4⟩ := ev.fn f x hf
  obtain ⟨o1, _, _⟩ := ok_names ho
  cases args with
  | nil => exact absurd rfl hn
  | cons e es =>
    simp only [List.any_cons, Bool.or_eq_false_iff] at hs
    exact pe_callS h4 ev.room (ev.gl_of hg) h1 h2 h3 (fun σ => passAt ev.tk σ) ha o1 (star_step hs.1 _ _) (star_all hs.2)
theorem ioLast_eq : ∀ {args as bs : List Expr} {f : Nat}, ioLast c sc args = some (as, bs, f) → ∃ x p cpos, args = as ++ [.Call (.Name x p) bs [] cpos] ∧ fnIx c sc x bs = some f
  | [], _, _, _, h => by cases h
  | e :: es, as, bs, f, h => by
    unfold ioLast at h
    split at h
    · cases h
    · rename_i x p args cpos hh
      split at h
      · rename_i k hk
        split at h
        · cases h
        · cases h
          injection hh with h1 h2
          subst h1 h2
          exact ⟨_, _, _, rfl, hk⟩
      · cases h
    · rename_i e' es' hh hh2
      injection hh2 with h1 h2
      subst h1 h2
      split at h
      · rename_i q hq
        obtain ⟨q1, q2, q3⟩ := q
        injection h with h
        injection h with h1 h2
        injection h2 with h2 h3
        subst h1 h2 h3
        obtain ⟨x, p, cpos, z1, z2⟩ := ioLast_eq hq
        exact ⟨x, p, cpos, by rw [z1]; rfl, z2⟩
      · cases h
theorem s_ioC (ev : EnvS X c sc g k W xa) {x z y : Str} {as args : List Expr} {h f i : Nat} {fe : Expr → E} {py p p2 cpos cpos2 pos : Pos} (hx : ownIx c sc z = some i) (hh : fnIx c sc y (as ++ [.Call (.Name x p2) args [] cpos2]) = some h) (hf : fnIx c sc x args = some f)
    (ha : ∀ e ∈ as, PE X e (tE X.K g W xa (fe e))) (he : ∀ e ∈ args, PE X e (tE X.K g W xa (fe e))) (hv : ∀ e ∈ args, ∀ i, fe e = .v i → PE X e (tVar i)) :
    PS X (.Assign [.Name z py] (.Call (.Name y p) (as ++ [.Call (.Name x p2) args [] cpos2]) [] cpos) pos) (tS X.K g W xa io (.ioC i h (toEs (as.map fe)) f (toEs (args.map fe)))) := by
  obtain ⟨l1, l2, l3⟩ := ownIx_ok ev hx
  have hs : as.any isStar = false := by
    unfold fnIx at hh
    split at hh
    case isFalse => cases hh
    rename_i hc
    simp only [Bool.and_eq_true, Bool.not_eq_true'] at hc
    have := hc.2
    rw [List.any_append, Bool.or_eq_false_iff] at this
    exact this.1
  cases hih : g.io h with
  | cons _ _ => exact ⟨fun _ _ _ _ _ _ q => by obtain ⟨_, _, _, _, _, q⟩ := q; unfold evS at q; rw [hih] at q; exact q.elim⟩
  | nil =>
  cases hio : g.io f with
  | nil => exact ⟨fun _ _ _ _ _ _ q => by obtain ⟨_, _, _, _, _, q⟩ := q; unfold evS at q; rw [hih, hio] at q; exact q.elim⟩
  | cons j js =>
    cases js with
    | cons _ _ => exact ⟨fun _ _ _ _ _ _ q => by obtain ⟨_, _, _, _, _, q⟩ := q; unfold evS at q; rw [hih, hio] at q; exact q.elim⟩
    | nil =>
      refine PS.imp (ps_set ev.nd l1 l2 (sE_callG ev.toEnvr hh (by simp) (sEsIoC (j := j) ev.toEnvr hf he hv ha hs)) (sw_no rfl _ _ _) l3) fun D σ H q => ?_
      obtain ⟨F, ps, τ, r, hiol, q⟩ := q
      unfold evS at q
      rw [hih, hio] at q
      dsimp only at q
      split at q
      case h_2 => exact q.elim
      rename_i ds hds
      split at q
      case h_2 => exact q.elim
      rename_i u hu
      split at q
      · exact q.elim
      rename_i hn
      split at q
      case h_2 => exact q.elim
      rename_i rd d hcf
      split at q
      case isFalse => exact q.elim
      split at q
      case h_2 => exact q.elim
      rename_i zz hz
      split at q
      · exact q.elim
      refine ⟨F, ps, τ, r, hio, ds, u, rd, d, hds, hu, by simpa using hn, hcf, fun vs v H' _ dvs dv r' => ?_⟩
      rw [hih]
      refine spD_pure (P := PP F.P0 (dr u.2.1 ps)) (dvs.append (.cons dv .nil)) (fun a z => r'.there z) ?_
      rw [hz]
      exact fun _ v' H'' e den => q _ _ _ ((r'.mono e).set den)
end
end Mp

/-! MiniPy, part O: statements that change an instance. -/
namespace Mp
open PySem PySem.Spec PyProof.Rows L2
theorem FldsAt.len {K : PySem.W.Frag} {H : Hp} {P : Addr → Prop} {r : Option Addr} {fvs : List (Str × V)} {fs : List (D × D)} (h : FldsAt K H P r fvs fs) : fvs.length = fs.length := by
  induction h with
  | nil => rfl
  | dat _ _ _ ih => simp [ih]
  | lst _ _ _ ih => simp [ih]
section
variable {X : Cx} {c : Cfg} {sc : Scope} {g : G} {k : Nat} {W : WX} {xa : XA} {io : List Nat}
theorem s_fset (ev : Envr X c sc g k W xa) {x l f : Str} {i : Nat} {fl : List Str} {pl p2 pos : Pos} {e : Expr} {ce : E} (hc : c.cls = some (x, fl)) (hf : f ∈ fl) (hv : PE X (.Name l pl) (tVar i)) (he : PE X e (tE X.K g W xa ce)) :
    PS X (.Assign [.Attribute (.Name l pl) f p2] e pos) (tS X.K g W xa io (.fset x i f ce)) := by
  refine PS.imp (ps_fld hv he (sw_tg (tg := .Attribute (.Name l pl) f p2) (fun _ _ z => by cases z) (fun _ => trivial) pos.line X.env)) fun D σ H h => ?_
  obtain ⟨F, ps, τ, r, hio, h⟩ := h
  unfold evS at h
  split at h
  case h_2 => exact h.elim
  rename_i c' fs ho
  split at h
  case isFalse => exact h.elim
  rename_i hx
  obtain ⟨rfl, hlen⟩ := hx
  refine ⟨F, ps, τ, r, (oneS h r).imp (fun v hz y H1 pa => ?_) fun _ z => z⟩
  split at hz
  case h_2 => exact hz.elim
  rename_i d L hcd hL
  split at hz
  case h_2 => exact hz.elim
  rename_i fs' hfs
  have r1 := r.mono pa.same
  obtain ⟨p, q1, q2, C, dx, fvs, z1, z2, z3⟩ := r1.own i _ (own?_some ho)
  obtain ⟨k1, k2⟩ := ev.cls _ _ hc C z2
  have hlf := z3.len
  have hle : fs.length ≤ 900 := Nat.ble_eq.mp hlen
  refine ⟨.ref p, q2, p, C, dx, fvs, rfl, z1, k1, k2 f hf, by omega, ?_⟩
  have den := pa.den
  rw [hL, dr_nil] at den
  have sm : Same (wo (PP F.P0 ps) H1) (wo (PP F.P0 ps) (upd H1 p (.ins C dx (putF f y fvs)))) := wo_upd (.inr ⟨i, false, q1⟩)
  refine hz _ _ _ (r1.write q1 (show OwnAt X.K (upd H1 p (.ins C dx (putF f y fvs))) (PP F.P0 ps) p (ps i true) (.dict ((.none, .str c') :: fs')) from ⟨C, dx, putF f y fvs, upd_same, z2, fsetD_at sm z3 hfs hcd (Dn.mono sm _ den) fun q o hq ho => ?_⟩))
  rw [upd_ne fun z => by
    rw [z] at hq
    have := (r1.inj _ _ _ _ _ hq q1).2
    cases this]
  exact ho
theorem s_fapp (ev : Envr X c sc g k W xa) {x l f m : Str} {i : Nat} {fl : List Str} {pl p2 apos cpos pos : Pos} {e : Expr} {ce : E} (hm : m = "append") (hc : c.cls = some (x, fl)) (hf : f ∈ fl) (hv : PE X (.Name l pl) (tVar i)) (hs : isStar e = false) (hl : (apos.endLine == cpos.line) = true) (he : PE X e (tE X.K g W xa ce)) :
    PS X (.Expr (.Call (.Attribute (.Attribute (.Name l pl) f p2) m apos) [e] [] cpos) pos) (tS X.K g W xa io (.fapp x i f ce)) := by
  subst hm
  have hs' : [e].any isStar = false := by simp [hs]
  refine PS.imp (ps_expr (pe_bm PySem.F.plainAttrs_list F.slot_list_append F.type_list_append mt_append (pe_fld hv (noSuper_base rfl)) (pa_cons he pa_nil (star_step hs _ _)) rfl (few_of hs' (by simp)) hl (star_step hs _ _) rfl)) fun D σ H h => ?_
  obtain ⟨F, ps, τ, r, hio, h⟩ := h
  unfold evS at h
  split at h
  case h_2 => exact h.elim
  rename_i c' fs ho
  split at h
  case isFalse => exact h.elim
  rename_i hx
  subst hx
  split at h
  case h_2 => exact h.elim
  rename_i ds hg
  split at h
  case isFalse => exact h.elim
  rename_i hlen
  obtain ⟨p, q1, q2, C, dx, fvs, z1, z2, z3⟩ := r.own i _ (own?_some ho)
  obtain ⟨k1, k2⟩ := ev.cls _ _ hc C z2
  obtain ⟨v, w1, w2⟩ := z3.get hg
  rcases w2 with ⟨w2, _⟩ | ⟨q, vs, ds', w2, rfl, w3, w4, w5⟩
  · cases w2
  cases w3
  refine ⟨.ref p, q2, p, C, dx, fvs, .ref q, rfl, z1, k1, k2 f hf, w1, tyL w4, F, ps, τ, r, (oneS h r).imp (fun u hz y H1 pa => ?_) fun _ z => z⟩
  split at hz
  case h_2 => exact hz.elim
  rename_i hL
  split at hz
  case h_2 => exact hz.elim
  rename_i fs' hfs
  have r1 := r.mono pa.same
  obtain ⟨p', y1, y2, C', dx', fvs', u1, u2, u3⟩ := r1.own i _ (own?_some ho)
  rw [q1] at y1; cases y1
  have hq1 := pa.same _ _ w4
  rw [pa.same _ _ z1] at u1; cases u1
  have den := pa.den
  rw [hL, dr_nil] at den
  refine ⟨q, vs, y, rfl, rfl, hq1, by rw [w5.length]; exact hlen, ?_⟩
  have sm : Same (wo (PP F.P0 ps) H1) (wo (PP F.P0 ps) (upd H1 q (.lst (vs ++ [y])))) := wo_upd (.inr ⟨i, true, w2⟩)
  have npq : p ≠ q := fun z => by
    rw [← z] at w2
    have := (r1.inj _ _ _ _ _ w2 q1).2
    cases this
  refine hz _ _ _ (r1.writeG q1 (fun a o ha _ hn => by rw [upd_ne fun z => hn (by rw [z]; exact w2)]; exact ha) (show OwnAt X.K (upd H1 q (.lst (vs ++ [y]))) (PP F.P0 ps) p (ps i true) (.dict ((.none, .str c') :: fs')) from ⟨C, dx, fvs, by rw [upd_ne npq]; exact pa.same _ _ z1, z2, ?_⟩))
  rw [w2] at u3 ⊢
  exact fappD_at sm u3 hfs hg hq1 (Dn.mono sm _ den) upd_same
theorem s_new (ev : EnvS X c sc g k W xa) (hxr : g.xr = true → 2 ≤ k) {x y f1 f2 : Str} {i : Nat} {py p pos pos' : Pos} {e : Expr} {ce : E} (hy : ownIx c sc y = some i) (hm : c.mkc = some (x, f1, f2)) (hg : isGl sc x = true) (hx : okName x = true) (hs : isStar e = false) (he : PE X e (tE X.K g W xa ce)) :
    PS X (.Assign [.Name y py] (.Call (.Name x p) [e] [] pos) pos') (tS X.K g W xa io (.new x f1 f2 i ce)) := by
  obtain ⟨l1, l2, l3⟩ := ownIx_ok ev hy
  obtain ⟨o1, _, _⟩ := ok_names hx
  obtain ⟨hne, C, fI, fd, qs, hmg, hcl, k1, n1, n2, M, hb, F1⟩ := ev.mkc _ _ _ hm
  by_cases hr : g.xr = true
  case neg =>
    refine ⟨fun pins s σ H D I h => ?_⟩
    obtain ⟨F, ps, τ, r, hi, h⟩ := h
    unfold evS at h
    rw [if_neg hr] at h
    exact h.elim
  have room : Room (1 + 1) X.A := ev.room.mono (hxr hr)
  have hpass : Passes (L2.CX X.prog X.w) X (fun _ _ _ => False) := fun pins σ H s e s' I c => passAt (W := W0) takes0 σ pins H s e s' I c
  have mk := pe_make (p := p) (pos := pos) M F1 room (ev.gl_of hg) hmg hb .nil hpass (pa_cons he pa_nil (star_step hs _ _)) o1 (star_step hs _ _) rfl
  refine PS.imp (ps_set ev.nd l1 l2 mk (sw_no rfl _ _ _) l3) fun D σ H h => ?_
  obtain ⟨F, ps, τ, r, hio, h⟩ := h
  unfold evS at h
  rw [if_pos hr] at h
  refine ⟨F, ps, τ, r, (oneS h r).imp (fun v hz y1 H1 pa => ?_) fun _ z => z⟩
  split at hz
  case h_2 => exact hz.elim
  rename_i d L hcd hL
  split at hz
  · exact hz.elim
  rename_i hcond
  have hcond : ¬ i ∈ io ∧ i < τ.length ∧ ¬ f2 = f1 := ⟨fun z => hcond (.inl z), by
    by_cases z : i < τ.length
    · exact z
    · exact absurd (.inr (.inl z)) hcond, fun z => hcond (.inr (.inr z))⟩
  have r1 := r.mono pa.same
  have den := pa.den
  rw [hL, dr_nil] at den
  intro a dx ha hdx hne2
  refine ⟨a, C, dx, y1, rfl, upd_same, k1, n1, n2, fun q hq => ⟨rfl, ?_⟩⟩
  have qa : q ≠ a := fun z => by rw [z, upd_same] at hq; cases hq
  rw [upd_ne qa] at hq
  have qd : q ≠ dx := fun z => by rw [z, upd_same] at hq; cases hq
  rw [upd_ne qd] at hq
  have sm : Same H1 (upd (upd (upd (upd H1 dx (.own a)) a (.ins C dx [])) q (.lst [])) a (.ins C dx [(f1, .ref q), (f2, y1)])) := fun b o z => by
    rw [upd_ne (fun w => by rw [w, ha] at z; cases z), upd_ne (fun w => by rw [w, hq] at z; cases z), upd_ne (fun w => by rw [w, ha] at z; cases z), upd_ne (fun w => by rw [w, hdx] at z; cases z)]
    exact z
  refine hz _ _ _ (r1.setNewO (q := some q) sm (by rw [hio]; exact hcond.1) hcond.2.1 ha (fun b z => by cases z; exact ⟨hq, qa⟩) ⟨C, dx, [(f1, .ref q), (f2, y1)], upd_same, hcl, .lst (by rw [upd_ne qa, upd_same]) .nil (.dat hcd (Dn.mono (wo_gen fun b o w1 w2 => ⟨?_, sm _ _ w2⟩) _ den) .nil)⟩)
  rintro (z | z | z)
  · rw [z, ha] at w2; cases w2
  · cases z; rw [hq] at w2; cases w2
  · exact w1 z
end
end Mp

/-! MiniPy, part Q: expressions with calls inside that change an instance. -/
namespace Mp
open PySem PySem.Spec PyProof.Rows L2
theorem DnAll.of_get {K : PySem.W.Frag} {H : Hp} : ∀ {vs : List V} {ds : List D}, vs.length = ds.length → (∀ (m : Nat) (v : V) (d : D), vs[m]? = some v → ds[m]? = some d → Dn K H v d) → DnAll K H vs ds
  | [], [], _, _ => .nil
  | [], _ :: _, h, _ => by simp at h
  | _ :: _, [], h, _ => by simp at h
  | v :: vs, d :: ds, h, q => .cons (q 0 v d rfl rfl) (DnAll.of_get (by simpa using h) fun m v d h1 h2 => q (m + 1) v d h1 h2)
/-- behind such an expression -/
structure XPost (K : PySem.W.Frag) (F : Fx) (ps : Ps) (H H' : Hp) (σ : L2.St) (τ' : Tau) (d : D) (v : V) : Prop where
  keep : ∀ b o, ¬ PP F.P0 ps b → H b = some o → H' b = some o
  rel : Rel K F ps H' σ τ'
  den : Dn K (wo (PP F.P0 ps) H') v d
def tX (K : PySem.W.Frag) (g : G) (x : Xp) : TE := fun σ H Q => ∃ F ps τ, Rel K F ps H σ τ ∧ ∃ d τ', evXp g x τ = .ok (d, τ') ∧ ∀ v H', XPost K F ps H H' σ τ' d v → Q v H'
/-- behind arguments: at place j stands the instance of slot i -/
structure XsPost (K : PySem.W.Frag) (F : Fx) (ps : Ps) (H H' : Hp) (σ : L2.St) (τ' : Tau) (ds : List D) (o : Option (Nat × Nat)) (vs : List V) : Prop where
  keep : ∀ b o, ¬ PP F.P0 ps b → H b = some o → H' b = some o
  rel : Rel K F ps H' σ τ'
  len : vs.length = ds.length
  cln : ∀ (m : Nat) (v : V) (d : D), (∀ q, o = some q → m ≠ q.1) → vs[m]? = some v → ds[m]? = some d → Dn K (wo (PP F.P0 ps) H') v d
  ob : ∀ j i, o = some (j, i) → j < ds.length ∧ ∃ a, ps i false = some a ∧ vs[j]? = some (.ref a)
def tXs (K : PySem.W.Frag) (g : G) (as : Xps) : TA := fun σ H Q => ∃ F ps τ, Rel K F ps H σ τ ∧ ∃ ds o τ', evXps g as τ = .ok (ds, o, τ') ∧ ∀ vs H', XsPost K F ps H H' σ τ' ds o vs → Q vs H'
theorem keep_same {P : Addr → Prop} {H H' : Hp} (k : ∀ b o, ¬ P b → H b = some o → H' b = some o) : Same (wo P H) (wo P H') := wo_gen fun a u h1 h2 => ⟨h1, k a u h1 h2⟩
section
variable {K : PySem.W.Frag} {F : Fx} {ps : Ps} {H H1 H2 : Hp} {σ : L2.St} {τ τ' : Tau} {d z : D} {v : V}
theorem XPost.res {f : Bool} (kp : ∀ b o, ¬ PP F.P0 ps b → H b = some o → H1 b = some o) (r : Rel K F ps H1 σ τ') (rs : Res K f (wo (PP F.P0 ps) H1) H1 z v H2) : XPost K F ps H H2 σ τ' z v := by
  have sm := rs.same'
  refine ⟨fun b o h1 h2 => sm _ _ (kp b o h1 h2), r.mono sm, ?_⟩
  have := (EPost.of_res (K := K) (P0 := F.P0) (ps := ps) (H := H1) (c := .bad) (f := f) (L := []) (fun i z => by cases z) (fun z => by cases z) (Same.refl _) sm (fun a q => r.there q) (by rw [dr_nil]; exact rs)).den
  have e : lk z [] = [] := rfl
  rw [e, dr_nil] at this
  exact this
/-- the reading of a call that changes the instance in slot s, its argument j -/
theorem obj_rd {cf : List D → R (D × List D)} {fl : Bool} {xa : XA} {E : XK} {j s : Nat} (r : Rel K F ps H1 σ τ) {ds : List D} {vs : List V} {d0 rd d : D} {Q : VK} {a : Addr} (hs : own? τ s = some d0) (ha : ps s false = some a) (hl : vs.length = ds.length) (hj : ds[j]? = some d0) (hv : vs[j]? = some (.ref a))
    (cln : ∀ (m : Nat) (v : V) (d : D), m ≠ j → vs[m]? = some v → ds[m]? = some d → Dn K (wo (PP F.P0 ps) H1) v d) (h3 : cf ds = .ok (rd, [d]))
    (hq : ∀ v H', XPost K F ps H1 H' σ (τ.set s (some (true, d))) rd v → Q v H') : spD K cf [j] fl xa vs H1 Q E := by
  obtain ⟨a', w1, w2, w3⟩ := r.get hs
  rw [ha] at w1; cases w1
  let psc : Ps := fun m b => if m = j then ps s b else none
  let P0c : Addr → Prop := fun b => PP F.P0 ps b ∧ ∀ c, ps s c ≠ some b
  have psc_some : ∀ {m c p}, psc m c = some p → m = j ∧ ps s c = some p := fun {m c p} z => by
    by_cases hm : m = j
    · simp only [psc, hm, if_true] at z; exact ⟨hm, z⟩
    · simp only [psc, hm, if_false] at z; cases z
  have psc_j : ∀ b, psc j b = ps s b := fun b => by simp [psc]
  have hPP : ∀ b, PP P0c psc b ↔ PP F.P0 ps b := fun b => by
    constructor
    · rintro (z | ⟨m, c, z⟩)
      · exact z.1
      · exact .inr ⟨_, c, (psc_some z).2⟩
    · intro z
      by_cases e : ∃ c, ps s c = some b
      · obtain ⟨c, e⟩ := e
        exact .inr ⟨j, c, by rw [psc_j]; exact e⟩
      · exact .inl ⟨z, fun c q => e ⟨c, q⟩⟩
  have hC : isC d0 = true := w3.isC
  refine ⟨⟨H1, fun b => ∃ i c, psc i c = some b, P0c, ioM [j] fl, psc, fun b => H1 b = none⟩, psc, ds, ⟨?_, fun m e he => ?_, fun m e he => ?_, fun m b p hp => ?_, fun m n b c p z1 z2 => ?_, fun m b p hp z => ?_, fun _ _ z _ => z, fun m b p hp => .inl ⟨m, b, hp⟩, fun b z => ?_, fun _ _ => .inr rfl, fun m b p hp hm => absurd (mem_ioM (by rw [(psc_some hp).1]; simp)) hm, fun _ z => z⟩, rfl, rfl, rfl, rfl, rfl, ?_⟩
  · rw [mark_length, List.length_map, hl]
  · rw [mark_get] at he
    obtain ⟨d', e1, e2⟩ := Option.map_eq_some_iff.mp he
    simp only [Nat.zero_add, Option.some.injEq, Prod.mk.injEq, Bool.and_eq_true] at e2
    obtain ⟨⟨e3, e4⟩, rfl⟩ := e2
    have hm : m = j := by simpa using e3
    subst hm
    rw [hj] at e1; cases e1
    exact ⟨a, by rw [psc_j]; exact ha, by rw [List.getElem?_map, hv]; rfl, by rw [psc_j]; exact w3.mono (fun _ z => z) (fun _ _ _ z => z) (wo_sub fun b z => (hPP b).mp z)⟩
  · rw [mark_get] at he
    obtain ⟨d', e1, e2⟩ := Option.map_eq_some_iff.mp he
    simp only [Nat.zero_add, Option.some.injEq, Prod.mk.injEq] at e2
    obtain ⟨e3, rfl⟩ := e2
    have hm : m ≠ j := fun z => by
      subst z
      rw [hj] at e1; cases e1
      rw [hC] at e3
      simp at e3
    obtain ⟨v, hv⟩ := get_lt (l := vs) (i := m) (by rw [hl]; exact (List.getElem?_eq_some_iff.mp e1).1)
    exact ⟨v, by rw [List.getElem?_map, hv]; rfl, (cln m v _ hm hv e1).sub fun b z => (hPP b).mp z⟩
  · obtain ⟨rfl, _⟩ := psc_some hp
    exact ⟨d0, by rw [mark_get, hj]; simp [hC]⟩
  · have h3 := (psc_some z1)
    have h4 := (psc_some z2)
    exact ⟨by rw [h3.1, h4.1], (r.inj _ _ _ _ _ h3.2 h4.2).2⟩
  · exact z.2 _ (psc_some hp).2
  · obtain ⟨o, z1, z2⟩ := r.there z.1
    exact ⟨o, z1, z2⟩
  · rw [h3]
    intro v H2 cp
    obtain ⟨p, d', z1, z2, z3⟩ := cp.outs 0 j rfl
    rw [psc_j] at z1 z3
    rw [ha] at z1; cases z1
    have z2 : some d = some d' := z2
    cases z2
    refine hq v H2 ⟨fun b o hn hb => cp.keep b o hb fun ⟨m, c, hm⟩ => hn (.inr ⟨_, c, (psc_some hm).2⟩), r.writeG ha (fun b o hb ne ne2 => cp.keep b o hb fun ⟨m, c, hm⟩ => ?_) ?_, cp.den.sub fun b z => (hPP b).mpr z⟩
    · have hm := (psc_some hm).2
      cases c with
      | false => rw [ha] at hm; cases hm; exact ne rfl
      | true => exact ne2 hm
    · exact z3.mono (fun _ z => z) (fun _ _ _ z => z) (wo_sub fun b z => (hPP b).mpr z)
end
section
variable {X : Cx} {c : Cfg} {sc : Scope} {g : G} {k : Nat} {W : WX} {xa : XA}
theorem sX_p {e : Expr} {ce : E} (he : PE X e (tE X.K g W xa ce)) : PE X e (tX X.K g (.p ce)) := PE.imp he fun σ H Q h => by
  obtain ⟨F, ps, τ, r, d, τ', h1, h2⟩ := h
  unfold evXp at h1
  split at h1
  case h_2 => cases h1
  rename_i d' he
  cases h1
  refine ⟨F, ps, τ, r, ?_⟩
  rw [he]
  intro v H' pa
  have den := pa.den
  rw [dr_nil] at den
  exact h2 v H' ⟨fun b o _ z => pa.same _ _ z, r.mono pa.same, den⟩
theorem sXs_nil : PA X [] (tXs X.K g .nil) := PA.imp pa_nil fun σ H Q h => by
  obtain ⟨F, ps, τ, r, ds, o, τ', h1, h2⟩ := h
  unfold evXps at h1
  cases h1
  exact h2 [] H ⟨fun _ _ _ z => z, r, rfl, fun m v d _ h => by simp at h, fun j i z => by cases z⟩
theorem sXs_cons {e : Expr} {es : List Expr} {x : Xp} {as : Xps} (he : PE X e (tX X.K g x)) (hes : PA X es (tXs X.K g as)) (hs : isStar e = false) : PA X (e :: es) (tXs X.K g (.cons x as)) :=
  PA.imp (pa_cons he hes (star_step hs _ _)) fun σ H Q h => by
    obtain ⟨F, ps, τ, r, ds, o, τ', h1, h2⟩ := h
    unfold evXps at h1
    split at h1
    case h_2 => cases h1
    rename_i d τ1 hx
    split at h1
    case h_2 => cases h1
    rename_i ds' o' τ2 hxs
    cases h1
    refine ⟨F, ps, τ, r, d, τ1, hx, fun v H1 pa => ⟨F, ps, τ1, pa.rel, ds', o', τ', hxs, fun vs H2 pb => h2 (v :: vs) H2 ⟨fun b o hn z => pb.keep b o hn (pa.keep b o hn z), pb.rel, by simp [pb.len], fun m w d' hm w1 w2 => ?_, fun j i z => ?_⟩⟩⟩
    · cases m with
      | zero => cases w1; cases w2; exact Dn.mono (keep_same pb.keep) _ pa.den
      | succ m =>
        refine pb.cln m w d' (fun q hq => ?_) w1 w2
        have := hm (q.1 + 1, q.2) (by rw [hq]; rfl)
        intro e; exact this (by rw [e])
    · obtain ⟨q, hq, e⟩ := Option.map_eq_some_iff.mp z
      cases e
      obtain ⟨z1, a, z2, z3⟩ := pb.ob q.1 q.2 hq
      exact ⟨by simp; omega, a, z2, z3⟩
theorem sXs_ob {l : Str} {pl : Pos} {es : List Expr} {i : Nat} {as : Xps} (hv : PE X (.Name l pl) (tVar i)) (hes : PA X es (tXs X.K g as)) : PA X (.Name l pl :: es) (tXs X.K g (.ob i as)) :=
  PA.imp (pa_cons hv hes rfl) fun σ H Q h => by
    obtain ⟨F, ps, τ, r, ds, o, τ', h1, h2⟩ := h
    unfold evXps obX at h1
    split at h1
    case h_2 => cases h1
    rename_i d0 hd
    split at h1
    case h_2 => cases h1
    rename_i ds' τ1 hxs
    cases h1
    obtain ⟨a, q1, q2, q3⟩ := r.get hd
    refine ⟨.ref a, q2, F, ps, τ, r, ds', none, τ', hxs, fun vs H2 pb => h2 (.ref a :: vs) H2 ⟨pb.keep, pb.rel, by simp [pb.len], fun m w d' hm w1 w2 => ?_, fun j i z => ?_⟩⟩
    · cases m with
      | zero => exact absurd rfl (hm (0, i) rfl)
      | succ m => exact pb.cln m w d' (fun q z => by cases z) w1 w2
    · cases z
      exact ⟨by simp, a, q1, rfl⟩
/-- a call, from its arguments -/
theorem callX_rd {f : Nat} {as : Xps} {σ : L2.St} {H : Hp} {Q : VK} {E : L2.St → XK} (h : ∃ F ps τ, Rel X.K F ps H σ τ ∧ ∃ d τ', callX g f (evXps g as τ) = .ok (d, τ') ∧ ∀ v H', XPost X.K F ps H H' σ τ' d v → Q v H') :
    tCallS (spD X.K (g.cf f) (g.io f) (g.fr f) xa) E (tXs X.K g as) σ H Q := by
  obtain ⟨F, ps, τ, r, d, τ', h1, h2⟩ := h
  unfold callX at h1
  split at h1
  · rename_i ds j i τ1 hxs
    split at h1
    case h_2 => cases h1
    rename_i j' hio
    split at h1
    case isFalse => cases h1
    rename_i hj
    subst hj
    split at h1
    case h_2 => cases h1
    rename_i ob hob
    split at h1
    case h_2 => cases h1
    rename_i rd d' hcf
    split at h1
    case isFalse => cases h1
    cases h1
    refine ⟨F, ps, τ, r, ds, some (j, i), τ1, hxs, fun vs H1 pb => ?_⟩
    rw [hio]
    obtain ⟨z1, a, z2, z3⟩ := pb.ob j i rfl
    refine obj_rd pb.rel hob z2 (by rw [List.length_set]; exact pb.len) (by rw [List.getElem?_set_self z1]) z3 (fun m v e hm w1 w2 => pb.cln m v e (fun q hq => by cases hq; exact hm) w1 (by rw [List.getElem?_set_ne (fun z => hm z.symm)] at w2; exact w2)) hcf fun v H' px => ?_
    exact h2 v H' ⟨fun b o hn z => px.keep b o hn (pb.keep b o hn z), px.rel, px.den⟩
  · rename_i ds τ1 hxs
    split at h1
    case h_2 => cases h1
    rename_i hio
    split at h1
    case h_2 => cases h1
    rename_i rd hcf
    cases h1
    refine ⟨F, ps, τ, r, ds, none, τ', hxs, fun vs H1 pb => ?_⟩
    rw [hio]
    refine spD_pure (P := PP F.P0 ps) (DnAll.of_get pb.len fun m v e w1 w2 => pb.cln m v e (fun q z => by cases z) w1 w2) (fun a z => pb.rel.there z) ?_
    rw [hcf]
    exact fun _ v' H'' e den => h2 v' H'' ⟨fun b o hn z => e _ _ (pb.keep b o hn z), pb.rel.mono e, den⟩
  · cases h1
theorem sX_call (ev : Envr X c sc g k W xa) {x : Str} {args : List Expr} {f : Nat} {as : Xps} {p pos : Pos} (hf : fnIx c sc x args = some f) (hn : args ≠ []) (ha : PA X args (tXs X.K g as)) : PE X (.Call (.Name x p) args [] pos) (tX X.K g (.call f as)) := by
  refine PE.imp (sE_callG ev hf hn ha) fun σ H Q h => callX_rd ?_
  obtain ⟨F, ps, τ, r, d, τ', h1, h2⟩ := h
  unfold evXp at h1
  exact ⟨F, ps, τ, r, d, τ', h1, h2⟩
theorem sX_tup {es : List Expr} {as : Xps} {n : Nat} {pos : Pos} (ha : PA X es (tXs X.K g as)) : PE X (.Tuple es n pos) (tX X.K g (.tup as)) := by
  refine PE.imp (pe_tup ha) fun σ H Q h => ?_
  obtain ⟨F, ps, τ, r, d, τ', h1, h2⟩ := h
  unfold evXp at h1
  split at h1
  case h_2 => cases h1
  rename_i ds τ1 hxs
  split at h1
  case isFalse => cases h1
  rename_i hz
  cases h1
  refine ⟨F, ps, τ, r, ds, none, τ', hxs, fun vs H1 pb => ⟨by rw [pb.len]; exact hz, fun p hp => h2 _ _ (XPost.res (f := true) pb.keep pb.rel (.tup hp (DnAll.of_get pb.len fun m v e w1 w2 => pb.cln m v e (fun q z => by cases z) w1 w2)))⟩⟩
theorem sX_bin (hpl : Pyl X) {a b : Expr} {xa' xb : Xp} {op : Operator} {pos : Pos} (ha : PE X a (tX X.K g xa')) (hb : PE X b (tX X.K g xb)) : PE X (.BinOp a op b pos) (tX X.K g (.bin op xa' xb)) := by
  refine PE.imp (pe_op (op_bin hpl op) ha hb) fun σ H Q h => ?_
  obtain ⟨F, ps, τ, r, d, τ', h1, h2⟩ := h
  unfold evXp at h1
  split at h1
  case h_2 => cases h1
  rename_i x τ1 hx
  split at h1
  case h_2 => cases h1
  rename_i y τ2 hy
  split at h1
  case h_2 => cases h1
  rename_i z hz
  cases h1
  refine ⟨F, ps, τ, r, x, τ1, hx, fun v H1 pa => ⟨F, ps, τ1, pa.rel, y, τ', hy, fun u H2 pb => ⟨wo (PP F.P0 ps) H2, x, y, d, wo_all, Dn.elcl wo_all (Dn.mono (keep_same pb.keep) _ pa.den), Dn.elcl wo_all pb.den, hz, fun v' H' rs => h2 v' H' (XPost.res (fun b o hn z => pb.keep b o hn (pa.keep b o hn z)) pb.rel rs)⟩⟩⟩
end
end Mp

/-! MiniPy, part R: methods. -/
namespace Mp
open PySem PySem.Spec PyProof.Rows L2
theorem meth_late {M : Model} {A : Around} {E : Value → Shared → Prop} {s : Shared} {env : Env} {o : Expr} {name : Str} {apos pos : Pos} {args : List Expr} {Q : Value → Shared → Prop}
    (hbase : attributeBase o name env (eval o env) = eval o env)
    (hfew : ((backTo pos (starEach args env)).all (fun x => !x.1) && (backToKw pos (keywordEach [] env)).all (fun x => x.1.isSome)
      && decide (args.length + ([] : List Keyword).length + (if ([] : List Keyword).isEmpty then 0 else 1) < 30)) = true)
    (hline : (apos.endLine == pos.line) = true)
    (h : wpAny M A (eval o env) (fun ov s₁ => ∀ pl, wpAny M A (getMethod ov name pl) (fun fx s₂ => wpAny M A (callWith pos fx.1 fx.2 (backTo pos (starEach args env)) (backToKw pos (keywordEach [] env))) Q E s₂) E s₁) E s) :
    wpAny M A (eval (.Call (.Attribute o name apos) args [] pos) env) Q E s := by
  rw [arm_eval_Call, hbase]
  refine wpAny_bind (wpAny_mono h (fun ov s₁ h₁ => ?_) fun _ _ e => e)
  refine wpAny_bind (wpAny_standAt ?_)
  have hform : methodCallForm (args.length + ([] : List Keyword).length) (backTo pos (starEach args env)) (backToKw pos (keywordEach [] env)) = true := hfew
  have hpos : methodCallPos true o env apos pos = pure pos := by unfold methodCallPos; simp [hline]
  unfold methodCall
  rw [hform]
  refine wpAny_bind (wpAny_holding (wpAny_mono (h₁ _) (fun fx s2 h2 => ?_) fun _ _ e => e))
  exact wpAny_bind (wpAny_of_eq hpos h2)
theorem FldsAt.noF {K : PySem.W.Frag} {H : Hp} {P : Addr → Prop} {r : Option Addr} {f : Str} {fvs : List (Str × V)} {fs : List (D × D)} (h : FldsAt K H P r fvs fs) (e : fget f fs = none) : fvs.lookup f = none := by
  induction h with
  | nil => rfl
  | dat _ _ _ ih =>
    rename_i r' g v d' fvs fs _ _ _
    unfold fget at e
    rw [List.lookup_cons]
    cases hb : f == g with
    | true => rw [hb] at e; cases e
    | false => rw [hb] at e; exact ih e
  | lst _ _ _ ih =>
    rename_i q g vs ds fvs fs _ _ _
    unfold fget at e
    rw [List.lookup_cons]
    cases hb : f == g with
    | true => rw [hb] at e; cases e
    | false => rw [hb] at e; exact ih e
def tMethX (K : PySem.W.Frag) (m : Str) (f : Addr) (sp : Sp) (E : L2.St → XK) (ta : TE) (t : TA) : TE := fun σ H Q => ta σ H fun x H1 => ∃ a C dx fs, x = .ref a ∧ H1 a = some (.ins C dx fs) ∧ Cls K C ∧ Meth K C m f ∧ fs.lookup m = none ∧ t σ H1 fun vs H2 => sp (.ref a :: vs) H2 Q (E σ)
theorem pe_methX {X : Cx} {CX : CXT} {k : Nat} {f : Addr} {fd : FuncData} {qs : List Str} {sp : Sp} {E : L2.St → XK} {o e : Expr} {m : Str} {apos pos : Pos} {es : List Expr} {ta : TE} {t : TA} (he : PE X o ta) (F : FnOk X.prog X.w X.K X.mg X.base CX k f fd qs sp) (hr : Room k X.A) (hb : Binds X.K fd qs []) (hx : ∀ σ, PassesAt CX X σ (E σ)) (ha : PA X (e :: es) t) (hs : (e :: es).any isStar = false) (hl : (e :: es).length < 30)
    (hbase : attributeBase o m X.env (eval o X.env) = eval o X.env) (hline : (apos.endLine == pos.line) = true) : PE X (.Call (.Attribute o m apos) (e :: es) [] pos) (tMethX X.K m f sp E ta t) := by
  refine ⟨fun pins s σ H Q I h => ?_⟩
  refine meth_late hbase (few_of hs hl) hline (thn (he.run pins s σ H _ I h) fun u s1 ⟨x, H1, I1, rx, a, C, dx, fs, ex, ea, c, hm, l, q⟩ pl => ?_)
  subst ex
  obtain rfl : u = Value.ref a := rx
  refine getmeth_ok I1 ea c hm l ?_
  simp only [List.any_cons, Bool.or_eq_false_iff] at hs
  refine PySem.W.callWith_K (first := [.ref a]) (h₀ := X.base) I.ok.mod.kin hm.kp (thn (ha.run pos pins s1 σ H1 _ I1 q) fun us s2 ⟨vs, H2, I2, r, q2⟩ => ⟨I2.kIn, ?_⟩) (star_step hs.1 _ _) (star_all hs.2)
  exact run_fnS (us := .ref a :: us) (vs := .ref a :: vs) F hr hb (hx σ) I2 (.cons rfl r) q2
theorem pe_methX0 {X : Cx} {CX : CXT} {k : Nat} {f : Addr} {fd : FuncData} {qs : List Str} {sp : Sp} {E : L2.St → XK} {o : Expr} {m : Str} {apos pos : Pos} {ta : TE} (he : PE X o ta) (F : FnOk X.prog X.w X.K X.mg X.base CX k f fd qs sp) (hr : Room k X.A) (hb : Binds X.K fd qs []) (hx : ∀ σ, PassesAt CX X σ (E σ))
    (hbase : attributeBase o m X.env (eval o X.env) = eval o X.env) (hline : (apos.endLine == pos.line) = true) : PE X (.Call (.Attribute o m apos) [] [] pos) (tMethX X.K m f sp E ta tNil) := by
  refine ⟨fun pins s σ H Q I h => ?_⟩
  refine meth_late hbase rfl hline (thn (he.run pins s σ H _ I h) fun u s1 ⟨x, H1, I1, rx, a, C, dx, fs, ex, ea, c, hm, l, q⟩ pl => ?_)
  subst ex
  obtain rfl : u = Value.ref a := rx
  refine getmeth_ok I1 ea c hm l ?_
  exact PySem.W.callWith_K0 (first := [.ref a]) I1.kIn hm.kp (run_fnS (us := [.ref a]) (vs := [.ref a]) F hr hb (hx σ) I1 (.cons rfl .nil) q)
section
variable {X : Cx} {c : Cfg} {sc : Scope} {g : G} {k : Nat} {W : WX} {xa : XA}
/-- the reading of a method's call, from the arguments behind the instance -/
theorem methX_rd {m x : Str} {fl : List Str} {f i : Nat} {fa : Addr} {as : Xps} {t : TA} {σ : L2.St} {H : Hp} {Q : VK} {E : L2.St → XK} (hc : c.cls = some (x, fl)) (hcl : ∀ C, ClsOf X.K x C → Cls X.K C) (hm : ∀ C, ClsOf X.K x C → Meth X.K C m fa)
    (ht : ∀ {F ps H Q}, (∃ τ, Rel X.K F ps H σ τ ∧ ∃ ds o τ', evXps g as τ = .ok (ds, o, τ') ∧ ∀ vs H', XsPost X.K F ps H H' σ τ' ds o vs → Q vs H') → t σ H Q)
    (h : ∃ F ps τ, Rel X.K F ps H σ τ ∧ ∃ d τ', evXp g (.meth x m i f as) τ = .ok (d, τ') ∧ ∀ v H', XPost X.K F ps H H' σ τ' d v → Q v H') :
    tMethX X.K m fa (spD X.K (g.cf f) (g.io f) (g.fr f) xa) E (tVar i) t σ H Q := by
  obtain ⟨F, ps, τ, r, d, τ', h1, h2⟩ := h
  unfold evXp at h1
  cases ho : own? τ i with
  | none => rw [ho] at h1; cases h1
  | some d0 =>
  rw [ho] at h1
  unfold methX at h1
  split at h1
  case h_2 => cases h1
  rename_i _ c' fs hfs
  cases hfs
  split at h1
  case isFalse => cases h1
  rename_i hx
  subst hx
  split at h1
  case h_2 => cases h1
  rename_i hno
  obtain ⟨a, q1, q2, C, dx, fvs, z1, z2, z3⟩ := r.own i _ (own?_some ho)
  unfold obX at h1
  rw [ho] at h1
  dsimp only at h1
  cases hxs : evXps g as τ with
  | ex y => rw [hxs] at h1; cases h1
  | st => rw [hxs] at h1; cases h1
  | ok y =>
    rw [hxs] at h1
    obtain ⟨ds, o, τ1⟩ := y
    cases o with
    | some _ => cases h1
    | none =>
      dsimp only at h1
      unfold callX at h1
      dsimp only at h1
      split at h1
      case h_2 => cases h1
      rename_i j' hio
      split at h1
      case isFalse => cases h1
      rename_i hj
      subst hj
      split at h1
      case h_2 => cases h1
      rename_i ob hob
      split at h1
      case h_2 => cases h1
      rename_i rd d' hcf
      split at h1
      case isFalse => cases h1
      cases h1
      refine ⟨.ref a, q2, a, C, dx, fvs, rfl, z1, hcl C z2, hm C z2, z3.noF hno, ht ⟨τ, r, ds, none, τ1, hxs, fun vs H1 pb => ?_⟩⟩
      rw [hio]
      refine obj_rd pb.rel hob q1 (by simp [pb.len]) rfl rfl (fun m v e hm w1 w2 => ?_) hcf fun v H' px => h2 v H' ⟨fun b o hn z => px.keep b o hn (pb.keep b o hn z), px.rel, px.den⟩
      cases m with
      | zero => exact absurd rfl hm
      | succ m => exact pb.cln m v e (fun q z => by cases z) w1 w2
theorem sX_meth (ev : Envr X c sc g k W xa) {x l m : Str} {fl : List Str} {i f : Nat} {e : Expr} {es : List Expr} {as : Xps} {pl apos pos : Pos} (hc : c.cls = some (x, fl)) (hm : noOf m c.mts = some f) (hv : PE X (.Name l pl) (tVar i)) (ha : PA X (e :: es) (tXs X.K g as)) (hs : (e :: es).any isStar = false) (hl : (e :: es).length < 30) (hline : (apos.endLine == pos.line) = true) :
    PE X (.Call (.Attribute (.Name l pl) m apos) (e :: es) [] pos) (tX X.K g (.meth x m i f as)) := by
  obtain ⟨x', fl', hc', a, fd, qs, hM, hB, hF⟩ := ev.mt f m hm
  rw [hc] at hc'; cases hc'
  refine PE.imp (pe_methX hv hF ev.room hB (fun σ => passAt ev.tk σ) ha hs hl (noSuper_base rfl) hline) fun σ H Q h => ?_
  obtain ⟨F, ps, τ, r, d, τ', h1, h2⟩ := h
  exact methX_rd hc (fun C z => (ev.cls x fl hc C z).1) hM (fun ⟨τ, r, q⟩ => ⟨_, _, τ, r, q⟩) ⟨F, ps, τ, r, d, τ', h1, h2⟩
theorem sX_meth0 (ev : Envr X c sc g k W xa) {x l m : Str} {fl : List Str} {i f : Nat} {pl apos pos : Pos} (hc : c.cls = some (x, fl)) (hm : noOf m c.mts = some f) (hv : PE X (.Name l pl) (tVar i)) (hline : (apos.endLine == pos.line) = true) :
    PE X (.Call (.Attribute (.Name l pl) m apos) [] [] pos) (tX X.K g (.meth x m i f .nil)) := by
  obtain ⟨x', fl', hc', a, fd, qs, hM, hB, hF⟩ := ev.mt f m hm
  rw [hc] at hc'; cases hc'
  refine PE.imp (pe_methX0 hv hF ev.room hB (fun σ => passAt ev.tk σ) (noSuper_base rfl) hline) fun σ H Q h => ?_
  obtain ⟨F, ps, τ, r, d, τ', h1, h2⟩ := h
  refine methX_rd (as := .nil) hc (fun C z => (ev.cls x fl hc C z).1) hM (fun {F ps H Q} ⟨τ, r, ds, o, τ', q1, q2⟩ => ?_) ⟨F, ps, τ, r, d, τ', h1, h2⟩
  unfold evXps at q1
  cases q1
  exact q2 [] H ⟨fun _ _ _ z => z, r, rfl, fun m v d _ h => by simp at h, fun j i z => by cases z⟩
theorem sX_tupOf (ev : Envr X c sc g k W xa) {a : Expr} {x : Xp} {p pos : Pos} (hg : isGl sc "tuple" = true) (hm : c.bis.contains "tuple" = true) (hs : [a].any isStar = false) (ha : PE X a (tX X.K g x)) : PE X (.Call (.Name "tuple" p) [a] [] pos) (tX X.K g (.tupOf x)) := by
  obtain ⟨b1, b2, b3, b4⟩ := boot1 (x := "tuple") (f := .tuple) rfl
  have hs0 := hs
  simp only [List.any_cons, Bool.or_eq_false_iff] at hs
  refine PE.imp (pe_bi ev b1 b4 b2 b3 hg hm hs0 (pa_cons ha pa_nil (star_step hs.1 _ _))) fun σ H Q h => ?_
  obtain ⟨F, ps, τ, r, d, τ', h1, h2⟩ := h
  unfold evXp at h1
  split at h1
  case h_2 => cases h1
  rename_i y τ1 hy
  split at h1
  case h_2 => cases h1
  rename_i z hz
  cases h1
  refine ⟨F, ps, τ, r, y, τ', hy, fun v H1 pa => ⟨wo (PP F.P0 ps) H1, [y], d, wo_all, rfl, fun i w e q1 q2 => ?_, hz, fun v' H' rs => h2 v' H' (XPost.res pa.keep pa.rel rs)⟩⟩
  cases i with
  | zero => cases q1; cases q2; exact Dn.elcl wo_all pa.den
  | succ i => simp at q1
theorem sX_sli {a : Expr} {lo hi : Option Expr} {x : Xp} {cl ch : O} {p2 pos : Pos} (ha : PE X a (tX X.K g x)) (hl : PO X lo (tO X.K g W xa cl)) (hh : PO X hi (tO X.K g W xa ch)) :
    PE X (.Subscript a (.Slice lo hi none p2) pos) (tX X.K g (.sli x cl ch)) := by
  refine PE.imp (pe_slice sl_D ha hl hh) fun σ H Q h => ?_
  obtain ⟨F, ps, τ, r, d, τ', h1, h2⟩ := h
  unfold evXp at h1
  split at h1
  case h_2 => cases h1
  rename_i y τ1 hy
  split at h1
  case h_2 => cases h1
  rename_i l hl
  split at h1
  case h_2 => cases h1
  rename_i u hu
  split at h1
  case h_2 => cases h1
  rename_i z hz
  cases h1
  refine ⟨F, ps, τ, r, y, τ', hy, fun v H1 pa => ⟨F, ps, τ', pa.rel, ?_⟩⟩
  rw [hl]
  intro H2 e2
  refine ⟨F, ps, τ', pa.rel.mono e2, ?_⟩
  rw [hu]
  intro H3 e3
  have sm := e2.trans e3
  exact ⟨wo (PP F.P0 ps) H3, y, d, wo_all, Dn.elcl wo_all (Dn.mono (wo_same sm) _ pa.den), hz, fun v' H' rs => h2 v' H' (XPost.res (fun b o hn z => sm _ _ (pa.keep b o hn z)) (pa.rel.mono sm) rs)⟩
/-! ### statements -/
variable {io : List Nat}
theorem s_retX {e : Expr} {x : Xp} {pos : Pos} (he : PE X e (tX X.K g x)) : PS X (.Return (some e) pos) (tS X.K g W xa io (.retX x)) := by
  refine PS.imp (ps_ret he) fun D σ H h => ?_
  obtain ⟨F, ps, τ, r, hio, h⟩ := h
  unfold evS at h
  split at h
  case h_2 => exact h.elim
  rename_i d τ1 hx
  split at h
  case h_2 => exact h.elim
  rename_i hc
  exact ⟨F, ps, τ, r, d, τ1, hx, fun v H1 pa => h ps σ H1 v pa.rel pa.den fun _ z => by rw [hc] at z; cases z⟩
theorem s_setX (ev : EnvS X c sc g k W xa) {y : Str} {py pos : Pos} {i : Nat} {e : Expr} {x : Xp} (hy : ownIx c sc y = some i) (hn : isComp e = false) (he : PE X e (tX X.K g x)) : PS X (.Assign [.Name y py] e pos) (tS X.K g W xa io (.setX (.n i) x)) := by
  obtain ⟨l1, l2, l3⟩ := ownIx_ok ev hy
  refine PS.imp (ps_set ev.nd l1 l2 he (sw_no hn _ _ _) l3) fun D σ H h => ?_
  obtain ⟨F, ps, τ, r, hio, h⟩ := h
  unfold evS at h
  split at h
  case h_2 => exact h.elim
  rename_i d τ1 hx
  refine ⟨F, ps, τ, r, d, τ1, hx, fun v H1 pa => ?_⟩
  unfold asg at h
  dsimp only at h
  split at h
  case isTrue => exact h.elim
  exact h _ _ _ (pa.rel.set pa.den)
theorem s_setXT {es : List Expr} {n : Nat} {tp pos : Pos} {is : List Nat} {e : Expr} {x : Xp} {osc : Scope} (hc : X.calm = true) (ho : OwnN X osc) (hN : X.N.Nodup) (hi : namesIx X.N osc es = some is) (ht : ∀ us k q, e ≠ .Tuple us k q) (he : PE X e (tX X.K g x)) :
    PS X (.Assign [.Tuple es n tp] e pos) (tS X.K g W xa io (.setX (.tup is) x)) := by
  have hw : swappedStores [.Tuple es n tp] e X.env = pure none := by
    unfold swappedStores
    cases e <;> first | rfl | exact absurd rfl (ht _ _ _)
  refine PS.imp (ps_asg he (sG_tup hc ho hN hi) (sw_tg (tg := .Tuple es n tp) (fun _ _ z => by cases z) (fun _ => trivial) pos.line X.env) hw rfl) fun D σ H h => ?_
  obtain ⟨F, ps, τ, r, hio, h⟩ := h
  unfold evS at h
  split at h
  case h_2 => exact h.elim
  rename_i d τ1 hx
  refine ⟨F, ps, τ, r, d, τ1, hx, fun v H1 pa => ⟨F, ps, τ1, d, pa.rel, pa.den, ?_⟩⟩
  rw [hio]
  split
  · rename_i τ' hq
    rw [hq] at h
    exact fun σ' ps' r' _ _ _ _ => h ps' σ' H1 r'
  · rename_i hq
    rw [hq] at h
    exact h.elim
theorem s_setIxX (ev : Envr X c sc g k W xa) {l : Str} {pl sp pos : Pos} {j : Nat} {i e : Expr} {ci : E} {x : Xp} (hv : PE X (.Name l pl) (tVar j)) (hi : PE X i (tE X.K g W xa ci)) (hp : plainIx i = true) (he : PE X e (tX X.K g x)) :
    PS X (.Assign [.Subscript (.Name l pl) i sp] e pos) (tS X.K g W xa io (.setIxX j ci x)) := by
  have ha : ∀ v, assign (.Subscript (.Name l pl) i sp) X.env v = (do
      let ov ← holding [v] (eval (.Name l pl) X.env)
      let iv ← holding [v, ov] (eval i X.env)
      standAt sp
      holding [v, ov, iv] (setItem ov iv v)
      release [v, ov, iv] []) := by
    cases i <;> first | (simp [plainIx] at hp; done) | exact fun _ => rfl
  refine PS.imp (ps_asg he (pg_sub hv hi (set_any (hu_of ev.room)) ha) (sw_tg (tg := .Subscript (.Name l pl) i sp) (fun _ _ z => by cases z) (fun _ => trivial) pos.line X.env) rfl rfl) fun D σ H h => ?_
  obtain ⟨F, ps, τ, r, hio, h⟩ := h
  unfold evS at h
  split at h
  case h_2 => exact h.elim
  rename_i d τ1 hx
  split at h
  case h_2 => exact h.elim
  rename_i cd hc
  split at h
  case h_2 => exact h.elim
  rename_i nd hn
  split at h
  case h_2 => exact h.elim
  rename_i c' hs
  refine ⟨F, ps, τ, r, d, τ1, hx, fun v H1 pa => ?_⟩
  obtain ⟨p, q1, q2, q3⟩ := pa.rel.get hc
  refine ⟨_, q2, F, ps, τ1, pa.rel, ?_⟩
  rw [hn]
  intro u H2 pb
  have r2 := pa.rel.mono pb.same
  obtain ⟨p', w1, w2, w3⟩ := r2.get hc
  rw [q1] at w1; cases w1
  have hd := Dn.mono (wo_same pb.same) _ pa.den
  have hk := pb.dn
  unfold setIxD at hs
  split at hs
  · rename_i ds i' heq
    obtain ⟨m, hm, rfl⟩ := Option.map_eq_some_iff.mp hs
    cases dn_int hk
    obtain ⟨q0, vs, z1, z2⟩ := w3
    exact .inl ⟨p, vs, _, m, rfl, rfl, z1, by rw [z2.length]; exact hm, h _ _ _ (r2.putL q1 q0 (z2.set hd m))⟩
  · rename_i kds dk heq
    split at hs
    · rename_i hkk
      simp only [Bool.and_eq_true, decide_eq_true_eq, Bool.not_eq_true'] at hkk
      cases hs
      obtain ⟨q0, kvs, z1, z2⟩ := w3.dct hkk.1.2
      have e := key_dn' hk hkk.1.1
      rw [e]
      exact .inr ⟨p, _, rfl, DPut.k z1 (by rw [z2.length]; exact hkk.2), h _ _ _ (r2.putD q1 q0 (DnKV.put hkk.1.1 hd z2))⟩
    · cases hs
  · cases hs
end
end Mp

/-! MiniPy, part K5: every statement. -/
namespace Mp
open PySem PySem.Spec PyProof.Rows L2
section
variable {X : Cx} {c : Cfg} {sc : Scope} {g : G} {k : Nat} {W : WX} {xa : XA} {io : List Nat}
theorem sw_off {elt : Expr} {gs : List Comprehension} {scope : Scope} {pos py : Pos} {y : Str} {l : Nat} {env : Env} (hk : env.scope.kind = .function)
    (h : (isLoc env.scope y && (py.line == pos.line) && !(scope.names.any fun (n, k) => n == y && (k == .local || k == .cell))) = false) : swapsWith (.ListComp elt gs scope pos) (some (.Name y py)) l env = pure false := by
  have hb : env.blockKind = .function := by unfold Env.blockKind; rw [hk]; rfl
  have hl : (env.kindOf y == some NameKind.local) = isLoc env.scope y := by
    show (env.scope.names.lookup y == some NameKind.local) = _
    unfold isLoc
    cases env.scope.names.lookup y with
    | none => rfl
    | some k => cases k <;> rfl
  unfold swapsWith
  simp only [hb, hl, Expr.pos]
  show pure ((ScopeKind.function == ScopeKind.function) && isLoc env.scope y && (py.line == pos.line) && !(scope.names.any fun (n, k) => n == y && (k == .local || k == .cell))) = pure false
  have e : (ScopeKind.function == ScopeKind.function) = true := rfl
  rw [e, Bool.true_and, h]
theorem newIx_ok {f : Str} {args : List Expr} {q : Str × Str × Str × Expr} (h : newIx c sc f args = some q) : c.mkc = some (q.1, q.2.1, q.2.2.1) ∧ args = [q.2.2.2] ∧ f = q.1 ∧ isGl sc q.1 = true ∧ okName q.1 = true ∧ isStar q.2.2.2 = false := by
  unfold newIx at h
  split at h
  · rename_i x f1 f2 a hm
    split at h
    · rename_i hh
      simp only [Bool.and_eq_true, decide_eq_true_eq, Bool.not_eq_true'] at hh
      cases h
      exact ⟨hm, rfl, hh.1.1.1, hh.1.1.2, hh.1.2, hh.2⟩
    · cases h
  · cases h
theorem s_cSet (ev : EnvS X c sc g k W xa) {x : Str} {py pos : Pos} {i : Nat} {e : Expr} (hx : ownIx c sc x = some i) : PS X (.Assign [.Name x py] e pos) (tS X.K g W xa io (cSet c sc x py i e)) := by
  have ih := fun e => s_all (c := c) (g := g) (k := k) (xa := xa) eF ev.toEnvr e
  obtain ⟨l1, l2, l3⟩ := ownIx_ok ev hx
  unfold cSet
  split
  · rename_i elt gs scope p
    by_cases h : (isLoc sc x && (py.line == p.line) && !(scope.names.any fun (n, k) => n == x && (k == .local || k == .cell))) = true
    · simp only [Bool.and_eq_true, Bool.not_eq_true'] at h
      exact s_setLc ev (n := 39) hx h.1.1 h.1.2 h.2
    · refine PS.imp (ps_set ev.nd l1 l2 (ih _).pe (sw_off ev.kind ?_) l3) fun D σ H h => rd_set h
      rw [ev.sc]
      exact Bool.eq_false_iff.mpr h
  · rename_i l pl m apos cpos
    split
    · rename_i hm
      split
      · rename_i hl
        split
        · rename_i j hj
          exact s_pop1 ev.nd l1 l2 l3 hm (visIx_ok ev hj).1 hl
        · exact s_bad
      · exact s_bad
    · exact s_set ev hx rfl (ih _).pe
  · rename_i l pl m apos z t0 p0 cpos
    split
    · rename_i hm
      split
      · rename_i hl
        split
        · rename_i j hj
          exact s_popF ev.nd l1 l2 l3 hm hl.1 (visIx_ok ev hj).1 hl.2
        · exact s_bad
      · exact s_bad
    · exact s_set ev hx rfl (ih _).pe
  · rename_i f p args cpos _
    split
    · rename_i q hq
      split
      · split
        · exact s_callF ev hx hq (fun e _ => (ih e).pe)
        · split
          · rename_i u hu
            obtain ⟨as, bs, f2⟩ := u
            obtain ⟨y, p2, cpos2, rfl, h2⟩ := ioLast_eq hu
            exact s_ioC ev hx hq h2 (fun e _ => (ih e).pe) (fun e _ => (ih e).pe) (fun e _ => (ih e).pv)
          · exact s_set ev hx rfl (ih _).pe
      · exact s_io1 ev hx hq (fun e _ => (ih e).pe) (fun e _ => (ih e).pv)
    · split
      · rename_i u hu
        obtain ⟨h1, rfl, rfl, h4, h5, h6⟩ := newIx_ok hu
        exact s_new ev ev.xr hx h1 h4 h5 h6 (ih _).pe
      · exact s_set ev hx rfl (ih _).pe
  · split
    · exact s_bad
    · rename_i h
      exact s_set ev hx (Bool.eq_false_iff.mpr h) (ih _).pe
theorem atIx_ok {l f : Str} {q : Str × Nat} (h : atIx c sc l f = some q) : ∃ fl, c.cls = some (q.1, fl) ∧ f ∈ fl ∧ visIx c sc l = some q.2 := by
  unfold atIx at h
  split at h
  case h_2 => cases h
  rename_i x fl hc
  split at h
  case isFalse => cases h
  rename_i hf
  split at h
  case h_2 => cases h
  rename_i j hj
  cases h
  exact ⟨fl, hc, by simpa using hf, hj⟩
/-- what is not a block of statements stands as it is -/
def flatS : S → Bool
  | .ifS .. => false
  | .wh .. => false
  | .forS .. => false
  | _ => true
theorem strip_flat {s s' : S} (h : s.strip = s') (f : flatS s' = true) : s = s' := by
  cases s <;> first
    | (unfold S.strip at h; exact h)
    | (unfold S.strip at h; subst h; cases f)
theorem PS.st {st : Stmt} {s s' : S} (h : s.strip = s') (f : flatS s' = true) (p : PS X st (tS X.K g W xa io s')) : PS X st (tS X.K g W xa io s) := by rw [strip_flat h f]; exact p
theorem cSet_flat {x : Str} {py : Pos} {i : Nat} {e : Expr} : flatS (cSet c sc x py i e) = true := by
  unfold cSet
  repeat' split
  all_goals rfl
theorem s_raise (ev : Envr X c sc g k W xa) {x : Str} {q : Nat × Str} {a : Expr} {p p2 p3 : Pos} (hq : xcOf x c.xcs = some q) (hs : (isStar a || !isGl sc x || !okName x) = false) (he : PE X a (tE X.K g W xa (cE c eF sc a))) :
    PS X (.Raise (some (.Call (.Name x p) [a] [] p2)) none p3) (tS X.K g W xa io (.raise q.1 q.2 (cE c eF sc a))) := by
  simp only [Bool.or_eq_false_iff, Bool.not_eq_false'] at hs
  obtain ⟨⟨hs1, hs2⟩, hs3⟩ := hs
  by_cases hr : g.xr = true
  case neg =>
    refine ⟨fun pins s σ H D I h => ?_⟩
    obtain ⟨F, ps, τ, r, hi, h⟩ := h
    unfold evS at h
    rw [if_neg hr] at h
    exact h.elim
  obtain ⟨C, fI, slf, part, fd, hm, sup, iC, tI, S, hb, hxa⟩ := (ev.xc x q.1 q.2 hq).ex
  obtain ⟨n, hn⟩ := Nat.exists_eq_add_of_le' (ev.xr hr)
  have m := ps_raiseC (n := n) (p := p) (pos := p2) (pos2 := p3) S sup iC tI hb (by rw [← hn]; exact ev.room) ev.calm ev.tk (ev.gl_of hs2) hm he (fun σ H Q Q' i h => by
    obtain ⟨F, ps, τ, r, h⟩ := h
    exact ⟨F, ps, τ, r, h.imp (fun x q v H' e => i _ _ (q v H' e)) fun _ z => z⟩) (ok_names hs3).1 (fun es => star_step hs1 es X.env)
  refine PS.imp m fun D σ H h => ?_
  obtain ⟨F, ps, τ, r, hi, h⟩ := h
  unfold evS at h
  rw [if_pos hr] at h
  refine ⟨F, ps, τ, r, (oneS h r).imp (fun x h v H' e dx hn => ?_) fun _ z => z⟩
  split at h
  · rename_i ha
    have sm : Same H' (upd H' dx (.xd [(q.2, v)])) := fun b o z => by rw [upd_ne (fun zz => by rw [zz, hn] at z; cases z)]; exact z
    exact h ps σ _ (.ref C) (some dx) (r.mono (e.same.trans sm)) (hxa dx _ v x.1 ha (Dn.mono sm _ (Dn.full e.den)) upd_same)
  · exact h.elim
theorem s_stmt (ev : EnvS X c sc g k W xa) : ∀ (n : Nat) (st : Stmt) (s : S), s.strip = cS c n sc st → PS X st (tS X.K g W xa io s)
  | 0, st, s, hst => by unfold cS at hst; exact PS.st hst rfl s_bad
  | n + 1, st, s, hst => by
    have ih := fun e => s_all (c := c) (g := g) (k := k) (xa := xa) eF ev.toEnvr e
    have is : ∀ ss (cs : Ss), cs.strip = ssOf (cS c n sc) ss → PSs X ss (tSs X.K g W xa io cs) := fun ss cs h => s_ssOfX (fun s cc hc => s_stmt ev n s cc hc) h
    unfold cS at hst
    split at hst
    · rename_i x py e pos
      split at hst
      · rename_i i hi
        exact PS.st hst cSet_flat (s_cSet ev hi)
      · exact PS.st hst rfl s_bad
    · rename_i ts k2 tp e pos
      split at hst
      · rename_i is' hi
        have hi' : namesIx X.N sc ts = some is' := by rw [ev.N]; exact hi
        split at hst
        · rename_i es k3 p3
          split at hst
          · rename_i hp
            exact PS.st hst rfl (s_par ev.calm ev.nd ev.kind ev.sc hi' hp fun e _ => (ih e).pe)
          · split at hst
            · rename_i hq
              exact PS.st hst rfl (s_setT ev.calm ev.own ev.nd hi' (swn_k hq) (ih _).pe)
            · exact PS.st hst rfl s_bad
        · rename_i hn
          exact PS.st hst rfl (s_setT ev.calm ev.own ev.nd hi' (swn_of fun us q p z => hn us q p z) (ih _).pe)
      · exact PS.st hst rfl s_bad
    · rename_i l pl i sp e pos
      split at hst
      · rename_i hp
        split at hst
        · rename_i j hj
          exact PS.st hst rfl (s_setIx (visIx_ok ev hj).1 ev.room (ih _).pe hp (ih _).pe)
        · exact PS.st hst rfl s_bad
      · exact PS.st hst rfl s_bad
    · rename_i l pl f p2 e pos
      split at hst
      · rename_i q hq
        obtain ⟨fl, h1, h2, h3⟩ := atIx_ok hq
        exact PS.st hst rfl (s_fset ev.toEnvr h1 h2 (visIx_ok ev h3).1 (ih _).pe)
      · exact PS.st hst rfl s_bad
    · rename_i l pl f p2 m apos a cpos pos
      split at hst
      · rename_i hh
        simp only [Bool.and_eq_true, decide_eq_true_eq, Bool.not_eq_true'] at hh
        split at hst
        · rename_i q hq
          obtain ⟨fl, h1, h2, h3⟩ := atIx_ok hq
          exact PS.st hst rfl (s_fapp ev.toEnvr hh.1.1 h1 h2 (visIx_ok ev h3).1 hh.2 hh.1.2 (ih _).pe)
        · exact PS.st hst rfl s_bad
      · exact PS.st hst rfl s_bad
    · rename_i l pl m apos args cpos pos
      split at hst
      · rename_i hl
        split at hst
        · rename_i j hj
          have hv := fun p => (visIx_ok (pos := p) ev hj).1
          split at hst
          · split at hst
            · rename_i hm; exact PS.st hst rfl (s_pop0 hm (hv _) hl)
            · exact PS.st hst rfl s_bad
          · rename_i a
            split at hst
            · exact PS.st hst rfl s_bad
            · rename_i hs
              have hs := Bool.eq_false_iff.mpr hs
              split at hst
              · rename_i hm; exact PS.st hst rfl (s_app hm (hv _) hs hl (ih _).pe)
              · split at hst
                · rename_i hm; exact PS.st hst rfl (s_ext hm (hv _) hs hl (ih _).pe)
                · exact PS.st hst rfl s_bad
          · rename_i a b
            split at hst
            · exact PS.st hst rfl s_bad
            · rename_i hs
              have hs := Bool.eq_false_iff.mpr hs
              simp only [Bool.or_eq_false_iff] at hs
              split at hst
              · rename_i hm; exact PS.st hst rfl (s_dpop hm (hv _) hs.1 hs.2 hl (ih _).pe (ih _).pe)
              · exact PS.st hst rfl s_bad
          · exact PS.st hst rfl s_bad
        · exact PS.st hst rfl s_bad
      · exact PS.st hst rfl s_bad
    · rename_i f p args cpos pos
      split at hst
      · rename_i q hq
        split at hst
        · exact PS.st hst rfl (s_ex (ih _).pe)
        · exact PS.st hst rfl (s_io0 ev.toEnvr hq (fun e _ => (ih e).pe) (fun e _ => (ih e).pv))
      · exact PS.st hst rfl s_bad
    · cases s <;> first | (unfold S.strip at hst; cases hst; done) | skip
      unfold S.strip at hst
      injection hst with h1 h2 h3
      subst h1
      exact s_if (ih _).pt (is _ _ h2) (is _ _ h3)
    · cases s <;> first | (unfold S.strip at hst; cases hst; done) | skip
      unfold S.strip at hst
      injection hst with h1 h2 h3
      subst h2
      exact s_wh ev.hp (ih _).pt (is _ _ h3)
    · rename_i tg iter b pos
      split at hst
      · exact PS.st hst rfl s_bad
      · rename_i hs
        split at hst
        · rename_i t ht
          cases s <;> first | (unfold S.strip at hst; cases hst; done) | skip
          unfold S.strip at hst
          injection hst with h0 h1 h2 h3
          subst h1 h2
          exact s_for ev.hp ev.calm (s_mkI ev.toEnvr fun e => (ih e).pe) (sG ev.calm ev.own ev.nd (by rw [ev.N]; exact ht)) (is _ _ h3) (Bool.eq_false_iff.mpr hs)
        · exact PS.st hst rfl s_bad
    · rename_i f p args cpos pos
      split at hst
      · rename_i q hq
        split at hst
        · exact PS.st hst rfl (s_ret (ih _).pe (ih _).pv)
        · exact PS.st hst rfl (s_ioR ev.toEnvr hq (fun e _ => (ih e).pe) (fun e _ => (ih e).pv))
      · exact PS.st hst rfl (s_ret (ih _).pe (ih _).pv)
    · exact PS.st hst rfl (s_ret (ih _).pe (ih _).pv)
    · exact PS.st hst rfl (s_retN)
    · exact PS.st hst rfl (s_brk)
    · exact PS.st hst rfl (s_ct)
    · exact PS.st hst rfl (s_pass)
    · rename_i x p a p2 p3
      split at hst
      · rename_i q hq
        split at hst
        · exact PS.st hst rfl s_bad
        · rename_i hs
          exact PS.st hst rfl (s_raise ev.toEnvr hq (Bool.eq_false_iff.mpr hs) (ih _).pe)
      · exact PS.st hst rfl s_bad
    · exact PS.st hst rfl s_bad
theorem s_body (ev : EnvS X c sc g k W xa) (n : Nat) (ss : List Stmt) (cs : Ss) (h : cs.strip = ssOf (cS c n sc) ss) : PSs X ss (tSs X.K g W xa io cs) := s_ssOfX (fun s cc hc => s_stmt ev n s cc hc) h
end
end Mp

/-! MiniPy, part K6: a def whose body is a try statement with one clause 'except C as e', and more. -/
namespace Mp
open PySem PySem.Spec PyProof.Rows L2
section
variable {X : Cx} {c : Cfg} {sc : Scope} {g : G} {k : Nat} {W : WX} {xa : XA}
theorem EnvS.tr (ev : EnvS X c sc g k W xa) {W' : WX} {pn : List (Addr × Obj)} {xe : Value → Shared → Prop} (tk : Takes (X.tr pn xe) W') (hp : PassesOwn (model X.prog X.w) X.A X.env xe) : EnvS (X.tr pn xe) c sc g k W' xa :=
  ⟨⟨ev.N, ev.nd, ev.sc, ev.calm, ev.room, tk, ev.fn, ev.bi, ev.gl, ev.gd, ev.xr, ev.pyl, fun x q f h => ⟨(ev.xc x q f h).ex⟩, ev.cls, ev.mkc, ev.mt⟩, ev.own, hp, ev.kind, ev.io, ev.fr⟩
/-- a clause's meaning is right: what its suite wishes follows from what hd tells -/
structure HdAt (X : Cx) (g : G) (W : WX) (xa : XA) (x : Str) (i : Nat) (suite : List Stmt) (hd : Exc → Tau → Out) : Prop where
  ex : ∃ (cv : Value) (ts : Addr → Value → Option Addr → TS), Names X x cv ∧ (∀ (a : Addr) (oe : Obj) (cls : Value) (d : Option Addr) (pn : List (Addr × Obj)), Zc cls d oe → (∃ vs, oe.data = .fields vs) → PSs (X.suite a ((a, oe) :: pn)) suite (ts a cls d)) ∧
    ∀ (F : Fx) (ps : Ps) (τ : Tau) (σ : L2.St) (H : Hp) (e : Exc) (cls : Value) (d : Option Addr) (D : Ends), Rel X.K F ps H σ τ → F.iol = [] → xa e cls d H → Post X.K F W xa D (hd e τ) → wAs X.K cv i ts W D cls d σ H
def tTry (K : PySem.W.Frag) (g : G) (W : WX) (xa : XA) (b : Ss) (hd : Exc → Tau → Out) : TS := fun D σ H => ∃ F ps τ, Rel K F ps H σ τ ∧ F.iol = [] ∧ Post K F W xa D ((evSs g [] b τ).hand hd)
theorem s_try (ev : EnvS X c sc g k W xa) (hs : X.stack = X.env :: X.outer) (hf : X.env.frame = some X.env.locals) {x n : Str} {i : Nat} {body suite : List Stmt} {b₀ : Stmt} {np pos pos' : Pos} {b : Ss} {hd : Exc → Tau → Out} (hi : X.N[i]? = some n) (hln : X.env.kindOf n = some .local)
    (hb : b.strip = ssOf (cS c eF sc) body) (hh : HdAt X g W xa x i (b₀ :: suite) hd) :
    PS X (.Try body [.ExceptHandler (some (.Name x np)) (some n) (b₀ :: suite) pos'] [] [] pos) (tTry X.K g W xa b hd) := by
  obtain ⟨cv, ts, hN, hsu, hw⟩ := hh.ex
  refine PS.imp (ps_try_as (tb := fun W' => tSs X.K g W' xa [] b) hs hf ev.nd hi hln hN ev.tk (fun W' pn xe tk hp => s_body (ev.tr tk hp) eF body b hb) hsu) fun D σ H h => ?_
  obtain ⟨F, ps, τ, r, hio, h⟩ := h
  refine ⟨F, ps, τ, r, hio, ?_⟩
  cases ho : evSs g [] b τ with
  | nx τ2 => rw [ho] at h; exact h
  | ret τ2 d => rw [ho] at h; exact h
  | brk τ2 => rw [ho] at h; exact h
  | ct τ2 => rw [ho] at h; exact h
  | st => rw [ho] at h; exact h
  | ex e τ2 =>
    rw [ho] at h
    exact fun ps' σ' H' cls d r' q => hw F ps' τ2 σ' H' e cls d D r' hio q h
theorem s_tryThen {st : Stmt} {b : Ss} {hd : Exc → Tau → Out} (h1 : PS X st (tTry X.K g W xa b hd)) {rest : List Stmt} {ss : Ss} (h2 : PSs X rest (tSs X.K g W xa [] ss)) :
    PSs X (st :: rest) (fun D σ H => ∃ F ps τ, Rel X.K F ps H σ τ ∧ F.iol = [] ∧ Post X.K F W xa D (((evSs g [] b τ).hand hd).seq (evSs g [] ss))) := by
  refine PSs.imp (pss_cons h1 h2) fun D σ H h => ?_
  obtain ⟨F, ps, τ, r, hio, h⟩ := h
  refine ⟨F, ps, τ, r, hio, ?_⟩
  cases hs : (evSs g [] b τ).hand hd with
  | nx τ2 => rw [hs] at h; exact fun ps' σ' H' r' => ⟨F, ps', τ2, r', hio, h⟩
  | ret τ2 d => rw [hs] at h; exact h
  | brk τ2 => rw [hs] at h; exact h
  | ct τ2 => rw [hs] at h; exact h
  | ex x τ2 => rw [hs] at h; exact h
  | st => rw [hs] at h; exact h
end
/-! the parts of a try statement that is a def's first -/
def tryBody : List Stmt → List Stmt
  | .Try tb _ _ _ _ :: _ => tb
  | _ => []
def trySuite : List Stmt → List Stmt
  | .Try _ [.ExceptHandler _ _ (_ :: s) _] _ _ _ :: _ => s
  | _ => []
def tryS0 : List Stmt → Stmt
  | .Try _ [.ExceptHandler _ _ (b :: _) _] _ _ _ :: _ => b
  | _ => .Pass ⟨0, 0, 0, 0⟩
def tryP1 : List Stmt → Pos
  | .Try _ [.ExceptHandler (some (.Name _ p)) _ _ _] _ _ _ :: _ => p
  | _ => ⟨0, 0, 0, 0⟩
def tryP2 : List Stmt → Pos
  | .Try _ _ _ _ p :: _ => p
  | _ => ⟨0, 0, 0, 0⟩
def tryP3 : List Stmt → Pos
  | .Try _ [.ExceptHandler _ _ _ p] _ _ _ :: _ => p
  | _ => ⟨0, 0, 0, 0⟩
end Mp

/-! MiniPy, part P: an __init__ that is self.f1 = []; self.f2 = its argument. -/
namespace Mp
open PySem PySem.Spec PyProof.Rows L2
def initBody (slf p2 f1 f2 : Str) : List Stmt → Bool
  | [.Assign [.Attribute (.Name a _) g1 _] (.List [] _) _, .Assign [.Attribute (.Name b _) g2 _] (.Name q _) _] => decide (a = slf) && decide (g1 = f1) && decide (b = slf) && decide (g2 = f2) && decide (q = p2)
  | _ => false
section
variable {P : Program} {w : World} {K : PySem.W.Frag} {mg : Str → Option Value} {base : Heap}
theorem init_fn {x qual : Str} {st : Stmt} {f : Addr} {fd : FuncData} {slf p2 f1 f2 : Str} (F : Fun K x qual st f fd) (S : FnScope [slf, p2] [slf, p2] (defScope st)) (hb : initBody slf p2 f1 f2 (defBody st) = true) (hne : f2 ≠ f1) (ho : okName slf = true) (ho2 : okName p2 = true) :
    FnOk P w K mg base (L2.CX P w) 1 f fd [slf, p2] (spInit K f1 f2) := by
  obtain ⟨o1, o2, _⟩ := ok_names ho
  obtain ⟨u1, u2, _⟩ := ok_names ho2
  unfold initBody at hb
  split at hb
  case h_2 => cases hb
  rename_i a pa g1 pb pc pd b pe g2 pf q pg ph hbd
  simp only [Bool.and_eq_true, decide_eq_true_eq] at hb
  obtain ⟨⟨⟨⟨rfl, rfl⟩, rfl⟩, rfl⟩, rfl⟩ := hb
  refine F.okX S (fun vs H Q E h => by obtain ⟨_, _, _, _, rfl, _⟩ := h; rfl) fun cdv A outer s H vs Q E hr h => ?_
  rw [hbd]
  have v1 : Vis (defScope st) b := (S.par b (by simp)).elim (fun z => .inl z) (fun z => .inr (.inl z))
  have v2 : Vis (defScope st) q := (S.par q (by simp)).elim (fun z => .inl z) (fun z => .inr (.inl z))
  refine ⟨_, pss_cons (ps_fld (pe_var (i := 0) rfl v1 o1 o2) (pe_lst pa_nil) (sw_tg (fun _ _ z => by cases z) (fun _ => trivial) _ _)) (pss_one (ps_fld (pe_var (i := 0) rfl v1 o1 o2) (pe_var (i := 1) rfl v2 u1 u2) (sw_tg (fun _ _ z => by cases z) (fun _ => trivial) _ _))), ?_⟩
  obtain ⟨a, C, dx, y, rfl, ha, k1, n1, n2, hq⟩ := h
  refine ⟨Nat.zero_le _, fun p hp => ?_⟩
  have pa' : a ≠ p := fun z => by rw [z, hp] at ha; cases ha
  refine ⟨.ref a, rfl, a, C, dx, [], rfl, by rw [upd_ne pa']; exact ha, k1, n1, by simp, ?_⟩
  refine ⟨y, rfl, .ref a, rfl, a, C, dx, [(g1, .ref p)], rfl, upd_same, k1, n2, by simp, ?_⟩
  have e : putF g2 y [(g1, V.ref p)] = [(g1, .ref p), (g2, y)] := by
    unfold putF
    rw [if_neg fun z => hne z.symm]
    rfl
  rw [e, upd_upd]
  exact hq p hp
end
/-- what the written part says of a class that is made so -/
def MkK (K : PySem.W.Frag) (x f1 f2 : Str) : Prop := f2 ≠ f1 ∧ ∃ (C fI : Addr) (slf p2 nm q : Str) (st : Stmt) (oc : Value) (od : Option Addr) (kV doc pm : Value) (an : Option Addr) (cdv ct : Value) (osl : Array (Option Value)),
  ClsOf K x C ∧ Cls K C ∧ NoAttr K C f1 ∧ NoAttr K C f2 ∧ Mk K C fI ∧ K.lookup fI = some ⟨oc, od, .func (PySem.W.fnOf nm q (defArgs st) (defBody st) (defScope st) .none kV doc pm an cdv ct), osl⟩ ∧ PySem.W.codeIn K cdv q = true ∧ PySem.W.keepIn K (.ref fI) = true ∧
  FnScope [slf, p2] [slf, p2] (defScope st) ∧ initBody slf p2 f1 f2 (defBody st) = true ∧ okName slf = true ∧ okName p2 = true ∧
  ∀ (kV doc pm : Value) (an : Option Addr) (cdv ct : Value) (us : List Value), us.length = 2 → bindArgs (PySem.W.fnOf nm q (defArgs st) (defBody st) (defScope st) .none kV doc pm an cdv ct) ⟨us, []⟩ = pure ([slf, p2].zip us)
end Mp

/-! MiniPy, part L: defs, a program's defs all together, the law's end. -/
namespace Mp
open PySem PySem.Spec PyProof.Rows L2
section
variable {K : PySem.W.Frag} {F : Fx} {ps : Ps} {H : Hp} {σ : L2.St} {τ : Tau}
/-- further slots, empty -/
theorem Rel.pad (r : Rel K F ps H σ τ) (n : Nat) : Rel K F ps H (σ ++ List.replicate n none) (τ ++ List.replicate n none) := by
  have key : ∀ {i : Nat} {x : Bool × D}, (τ ++ List.replicate n none)[i]? = some (some x) → τ[i]? = some (some x) ∧ i < σ.length := fun {i x} h => by
    by_cases hi : i < τ.length
    · rw [List.getElem?_append_left hi] at h
      exact ⟨h, by rw [r.ls]; exact hi⟩
    · rw [List.getElem?_append_right (by omega), List.getElem?_replicate] at h
      split at h <;> cases h
  refine ⟨by simp [r.ls], fun i d h => ?_, fun i d h => ?_, fun i b p h => ?_, r.inj, r.out, r.keep, r.new, r.p0, r.pin, r.nw⟩
  · obtain ⟨h, hi⟩ := key h
    obtain ⟨p, h1, h2, h3⟩ := r.own i d h
    exact ⟨p, h1, by rw [List.getElem?_append_left hi]; exact h2, h3⟩
  · obtain ⟨h, hi⟩ := key h
    obtain ⟨v, h1, h2⟩ := r.cln i d h
    exact ⟨v, by rw [List.getElem?_append_left hi]; exact h1, h2⟩
  · obtain ⟨d, h1⟩ := r.pown i b p h
    exact ⟨d, by rw [List.getElem?_append_left (List.getElem?_eq_some_iff.mp h1).1]; exact h1⟩
theorem outs_get : ∀ {is : List Nat} {os : List D}, outs τ is = some os → os.length = is.length ∧ ∀ (m i : Nat), is[m]? = some i → ∃ d, os[m]? = some d ∧ τ[i]? = some (some (true, d))
  | [], os, h => by cases h; exact ⟨rfl, fun m i h => by simp at h⟩
  | i :: is, os, h => by
    unfold outs at h
    split at h
    · rename_i d hd
      obtain ⟨os', h1, rfl⟩ := Option.map_eq_some_iff.mp h
      obtain ⟨q1, q2⟩ := outs_get h1
      refine ⟨by simp [q1], fun m j hm => ?_⟩
      cases m with
      | zero => cases hm; exact ⟨d, rfl, hd⟩
      | succ m => exact q2 m j hm
    · cases h
end
/-- a def's body at its entry -/
theorem body_of {K : PySem.W.Frag} {xa : XA} {Fn' : Fn} {N : List Str} {np : Nat} {cf : List D → R (D × List D)} {o : Tau → Out} (hcf : ∀ ds, cf ds = if ds.length = Fn'.nps then (match o (startT Fn' ds) with
    | .nx τ => (R.of (outs τ Fn'.io)).bind fun os => .ok (.none, os)
    | .ret τ d => (R.of (outs τ Fn'.io)).bind fun os => .ok (d, os)
    | .ex x _ => .ex x
    | _ => .st) else .st) (hp : Fn'.nps = np) (hN : Fn'.nsl = N.length) {vs : List V} {H : Hp} {Q : VK} {E : XK}
    (h : spD K cf Fn'.io Fn'.fr xa vs H Q E) : vs.length = np ∧ ∃ F ps τ, Rel K F ps H (L2.start N vs) τ ∧ F.iol = ioM Fn'.io Fn'.fr ∧ Post K F (fun cls d _ H => E cls d H) xa { nx := fun _ H' => Q .non H', rt := Q } (o τ) := by
  obtain ⟨F, ps, ds, r, h0, hio, hil, hq, hnw, h⟩ := h
  rw [hcf] at h
  split at h
  case isFalse => exact h.elim
  rename_i hl
  have hlen : vs.length = np := by
    have := r.ls
    rw [List.length_map, mark_length] at this
    rw [this, hl, hp]
  refine ⟨hlen, F, ps, startT Fn' ds, ?_, hil, ?_⟩
  · have := r.pad (Fn'.nsl - Fn'.nps)
    unfold startT L2.start
    rw [hlen, ← hN, ← hp]
    exact this
  -- at the end every handed slot is where it was
  have hand : ∀ {ps' : Ps} {H' : Hp} {σ' : L2.St} {τ' : Tau} {os : List D} {v : V} {d : D}, Rel K F ps' H' σ' τ' → outs τ' Fn'.io = some os → Dn K (wo (PP F.P0 ps') H') v d → (F.iol.contains mkN = true → isC d = true → ∃ p, v = .ref p ∧ F.nw p ∧ OwnAt K H' (fun a => a = p ∨ PP F.P0 ps' a) p none d) → CPost K F.P0 ps Fn'.io Fn'.fr H H' (d, os) v := fun {ps' H' σ' τ' os v d} r' ho hd hf => by
    obtain ⟨q1, q2⟩ := outs_get ho
    have slot : ∀ i, i ∈ Fn'.io → ∃ p, ps' i false = some p ∧ ps' i = ps i := fun i hm => by
      obtain ⟨m, hm2⟩ := List.getElem?_of_mem hm
      obtain ⟨d2, _, h5⟩ := q2 m i hm2
      obtain ⟨p2, h6, _, _⟩ := r'.own i d2 h5
      rcases r'.pin i (by rw [hil]; exact mem_ioM hm) with z | z
      · rw [z] at h6; cases h6
      · rw [hq] at z; exact ⟨p2, h6, z⟩
    have stay : ∀ (i : Nat) (b : Bool) (p : Addr), ps i b = some p → ps' i b = some p := fun i b p hi => by
      obtain ⟨d0, h1⟩ := r.pown i b p hi
      rw [mark_get] at h1
      obtain ⟨d1, h2, h3⟩ := Option.map_eq_some_iff.mp h1
      simp only [Nat.zero_add, Option.some.injEq, Prod.mk.injEq, Bool.and_eq_true] at h3
      obtain ⟨_, _, h4⟩ := slot i (by simpa using h3.1.1)
      rw [h4]; exact hi
    have sub : ∀ a, PP F.P0 ps a → PP F.P0 ps' a := fun a z => by
      rcases z with z | ⟨i, b, z⟩
      · exact .inl z
      · exact .inr ⟨i, b, stay i b a z⟩
    refine ⟨fun a o z1 z2 => r'.keep a o (by rw [h0]; exact z1) (by rw [hio]; exact z2), hd.sub sub, fun m i hm => ?_, q1, fun z1 z2 => ?_⟩
    · obtain ⟨d2, h4, h5⟩ := q2 m i hm
      obtain ⟨p2, h6, _, h7⟩ := r'.own i d2 h5
      obtain ⟨_, _, h8⟩ := slot i (List.mem_of_getElem? hm)
      rw [h8] at h6 h7
      exact ⟨p2, d2, h6, h4, h7.mono (fun _ z => z) (fun _ _ _ z => z) (wo_sub sub)⟩
    · obtain ⟨a, e1, e2, e3⟩ := hf (by rw [hil, z1]; simp [ioM]) z2
      rw [hnw] at e2
      exact ⟨a, e1, e2, e3.mono (fun _ z => z) (fun _ _ _ z => z) (wo_sub fun b z => z.imp id (sub b))⟩
  cases hs : o (startT Fn' ds) with
  | nx τ =>
    rw [hs] at h
    dsimp only at h
    cases ho : outs τ Fn'.io with
    | none => rw [ho] at h; exact h.elim
    | some os =>
      rw [ho] at h
      exact fun ps' σ' H' r' => h .non H' (hand r' ho .non fun _ z => by cases z)
  | ret τ d =>
    rw [hs] at h
    dsimp only at h
    cases ho : outs τ Fn'.io with
    | none => rw [ho] at h; exact h.elim
    | some os =>
      rw [ho] at h
      exact fun ps' σ' H' v r' hd hf => h v H' (hand r' ho hd hf)
  | ex x τ =>
    rw [hs] at h
    exact fun ps' σ' H' cls dd r' q => h cls dd H' (fun a o z1 z2 => r'.keep a o (by rw [h0]; exact z1) (by rw [hio]; exact z2)) q
  | brk τ => rw [hs] at h; exact h.elim
  | ct τ => rw [hs] at h; exact h.elim
  | st => rw [hs] at h; exact h
/-- a def of the text: its name, its statement, its slots, its parameters, its full name, its class if it is a method -/
structure DefT where
  x : Str
  no : Nat
  st : Stmt
  N : List Str
  ps : List Str
  q : Str
  cls : Option Str
/-- where a def is found -/
def FoundAt (K : PySem.W.Frag) (d : DefT) (f : Addr) : Prop := match d.cls with
  | none => PySem.W.nsIn K mainGlobals d.x = some (some (.ref f))
  | some c => ∀ C, ClsOf K c C → Meth K C d.x f
/-- a def as it stands behind the top -/
structure DefAt (K : PySem.W.Frag) (d : DefT) : Prop where
  ex : ∃ (f : Addr) (oc : Value) (od : Option Addr) (kV doc pm : Value) (an : Option Addr) (cdv ct : Value) (osl : Array (Option Value)),
    FoundAt K d f ∧ K.lookup f = some ⟨oc, od, .func (PySem.W.fnOf d.x d.q (defArgs d.st) (defBody d.st) (defScope d.st) .none kV doc pm an cdv ct), osl⟩ ∧ PySem.W.codeIn K cdv d.q = true ∧ PySem.W.keepIn K (.ref f) = true
theorem mkDef {K : PySem.W.Frag} {d : DefT} {f : Addr} {oc : Value} {od : Option Addr} {kV doc pm : Value} {an : Option Addr} {cdv ct : Value} {osl : Array (Option Value)}
    (a : PySem.W.nsIn K mainGlobals d.x = some (some (.ref f))) (l : K.lookup f = some ⟨oc, od, .func (PySem.W.fnOf d.x d.q (defArgs d.st) (defBody d.st) (defScope d.st) .none kV doc pm an cdv ct), osl⟩) (c : PySem.W.codeIn K cdv d.q = true) (k : PySem.W.keepIn K (.ref f) = true) (hc : d.cls = none := by rfl) : DefAt K d :=
  ⟨⟨f, oc, od, kV, doc, pm, an, cdv, ct, osl, by unfold FoundAt; rw [hc]; exact a, l, c, k⟩⟩
theorem mkMeth {K : PySem.W.Frag} {d : DefT} {f C : Addr} {x : Str} {oc : Value} {od : Option Addr} {kV doc pm : Value} {an : Option Addr} {cdv ct : Value} {osl : Array (Option Value)}
    (hc : d.cls = some x) (hC : PySem.W.nsIn K mainGlobals x = some (some (.ref C))) (m1 : PySem.W.findIn K (.ref C) d.x = some (some (.ref f))) (m2 : PySem.W.isFn K (.ref f) = true)
    (l : K.lookup f = some ⟨oc, od, .func (PySem.W.fnOf d.x d.q (defArgs d.st) (defBody d.st) (defScope d.st) .none kV doc pm an cdv ct), osl⟩) (c : PySem.W.codeIn K cdv d.q = true) (k : PySem.W.keepIn K (.ref f) = true) : DefAt K d :=
  ⟨⟨f, oc, od, kV, doc, pm, an, cdv, ct, osl, by
    unfold FoundAt; rw [hc]
    intro C' h
    have h : PySem.W.nsIn K mainGlobals x = some (some (.ref C')) := h
    rw [hC] at h; cases h
    exact ⟨m1, m2, k⟩, l, c, k⟩⟩
def cfgOf (ds : List DefT) (gls : List (Str × Nat)) (bis : List Str) (gds : List (Str × Nat)) (p : Pr) (d : DefT) : Cfg :=
  ⟨d.N, ds.filterMap (fun d => match d.cls with | none => some (d.x, d.no) | some _ => none), gls, bis, p.io, gds, p.xcs, p.fr, p.cls, ds.filterMap (fun d => match d.cls with | none => none | some _ => some (d.x, d.no)), p.mkc⟩
/-- a def that is a try statement with one clause, and more -/
structure TrOk (ds : List DefT) (gls : List (Str × Nat)) (bis : List Str) (gds : List (Str × Nat)) (p : Pr) (d : DefT) : Prop where
  ex : ∃ (F : Fn) (t : Tr) (tb rest suite : List Stmt) (x n : Str) (i : Nat) (b₀ : Stmt) (np pos pos' : Pos), p.fs d.no = none ∧ p.ts d.no = some (F, t) ∧ F.io = [] ∧ F.fr = false ∧ F.nps = d.ps.length ∧ F.nsl = d.N.length ∧
    defBody d.st = .Try tb [.ExceptHandler (some (.Name x np)) (some n) (b₀ :: suite) pos'] [] [] pos :: rest ∧ d.N[i]? = some n ∧ (defScope d.st).names.lookup n = some .local ∧
    t.b1.strip = ssOf (cS (cfgOf ds gls bis gds p d) eF (defScope d.st)) tb ∧ F.body.strip = ssOf (cS (cfgOf ds gls bis gds p d) eF (defScope d.st)) rest
structure DefOk (ds : List DefT) (gls : List (Str × Nat)) (bis : List Str) (gds : List (Str × Nat)) (p : Pr) (d : DefT) : Prop where
  sc : FnScope d.N d.ps (defScope d.st)
  bind : ∀ (kV doc pm : Value) (an : Option Addr) (cdv ct : Value) (us : List Value), us.length = d.ps.length → bindArgs (PySem.W.fnOf d.x d.q (defArgs d.st) (defBody d.st) (defScope d.st) .none kV doc pm an cdv ct) ⟨us, []⟩ = pure (d.ps.zip us)
  fn : (∃ F, p.fs d.no = some F ∧ F.nps = d.ps.length ∧ F.nsl = d.N.length ∧ F.body.strip = ssOf (cS (cfgOf ds gls bis gds p d) eF (defScope d.st)) (defBody d.st)) ∨ TrOk ds gls bis gds p d
/-- the clause of such a def is right -/
def HdOK (P : Program) (K : PySem.W.Frag) (c : Cfg) (xa : XA) (d : DefT) (t : Tr) : Prop := ∀ (X : Cx) (g : G) (k : Nat) (W : WX), X.prog = P → X.K = K → (∀ x v, PySem.W.nsIn K mainGlobals x = some (some v) → X.mg x = some v) → (∀ x, PySem.W.nsIn K mainGlobals x = some none → X.mg x = none) →
  EnvS X c (defScope d.st) g k W xa → ∀ (tb rest suite : List Stmt) (x n : Str) (i : Nat) (b₀ : Stmt) (np pos pos' : Pos), defBody d.st = .Try tb [.ExceptHandler (some (.Name x np)) (some n) (b₀ :: suite) pos'] [] [] pos :: rest → d.N[i]? = some n → HdAt X g W xa x i (b₀ :: suite) (t.hd g)
/-- nothing looks on, in a heap from which the script alone may be hidden -/
theorem seer_hid {h : Heap} {T : Hp} {a : Addr} {vs : Array Value} (ha : h.get? a = some { cls := .type "list", data := .seq vs }) (hT : ∀ b, T b ≠ none → b = a) (x : h.NoSeer) : (hidT h T).NoSeer := by
  have free : ∀ {b : Addr} {o : Obj}, h.get? b = some o → o.cls ≠ .type "list" ∨ (∀ ws n, o.data ≠ .seq ws n) → (hidT h T).get? b = some o := fun {b o} e ne => hidT_get e (by
    cases q : T b with
    | none => rfl
    | some u =>
      have := hT b (by rw [q]; simp)
      subst this
      rw [ha] at e; cases e
      rcases ne with ne | ne
      · exact absurd rfl ne
      · exact absurd rfl (ne _ _))
  have ns : ∀ {b : Addr} {m : Str → Option Value}, h.Ns b m → (hidT h T).Ns b m := fun {b m} n => by
    obtain ⟨o, es, ep, e, d, r⟩ := n
    exact ⟨o, es, ep, free e (.inr fun ws k z => by rw [d] at z; cases z), d, r⟩
  refine ⟨?_, ?_, ?_, ?_⟩
  · obtain ⟨m, n, r⟩ := x.statics; exact ⟨m, ns n, r⟩
  · obtain ⟨m, n, r⟩ := x.mods; exact ⟨m, ns n, r⟩
  · obtain ⟨m, n, r⟩ := x.imp; exact ⟨m, ns n, r⟩
  · obtain ⟨m, bm, ob, n, e1, e2, e3, e4⟩ := x.main
    exact ⟨m, bm, ob, ns n, e1, free e2 (.inl (by rw [e3]; simp)), e3, e4⟩
/-- what the head wants of the law's def -/
abbrev Told (s : Shared) : Except Value Flow → Shared → Prop := fun r s' => r = .ok (.ret (.bool true)) ∧ OldK s.heap s'.heap ∧ s'.os = s.os ∧ AllBare s'.gens
theorem call_one {P : Program} {w : World} {K : PySem.W.Frag} {mg mb : Str → Option Value} {CX : CXT} {k : Nat} {fa a : Addr} {fd : FuncData} {x : Str} {sp : Sp} {s : Shared} {vs : List Value} {T : Hp}
    (KX : K.In s.heap) (g1 : s.heap.Ns mainGlobals mg) (g2 : s.heap.Ns builtinsNs mb) (g3 : ∀ x : Str, x ≠ "__name__" → mb x = bootBuiltins x) (g4 : s.heap.NoLimit) (g5 : s.heap.NoSeer) (g6 : s.gens = #[])
    (ha : s.heap.get? a = some { cls := .type "list", data := .seq vs.toArray }) (room : Room k callerA) (bind : ∀ (t : Shared) (u : Value), BindsTo t fd ⟨[u], []⟩ [(x, u)])
    (F : ∀ b : Heap, K.In b → b.Ns mainGlobals mg → b.NoSeer → FnOk P w K mg b CX k fa fd [x] sp) (h1 : Only T) (h2 : sp [.ref a] T (fun v _ => v = .bl true) fun _ _ _ => False) (h3 : HOk P w T s.heap) (h4 : ∀ b, T b ≠ none → b = a) (h5 : T a ≠ none → K.lookup a = none)
    (nox : ∀ e t, CX [] T s (fun _ _ _ => False) e t → False) : codeAny (model P w) callerA (.call (.ref fa) ⟨[.ref a], []⟩) (Told s) s := by
  have un : ∀ b o, s.heap.get? b = some o → (∀ z, o.data = .seq z → False) ∨ T b = none → (hidT s.heap T).get? b = some o := fun b o e q => hidT_get e (by
    rcases q with q | q
    · cases t : T b with
      | none => rfl
      | some u =>
        have := h4 b (by rw [t]; simp)
        subst this
        rw [ha] at e; cases e
        exact (q _ rfl).elim
    · exact q)
  have ns : ∀ {b : Addr} {m : Str → Option Value}, s.heap.Ns b m → (hidT s.heap T).Ns b m := fun {b m} n => by
    obtain ⟨o, es, ep, e, d, r⟩ := n
    exact ⟨o, es, ep, un b o e (.inl fun z q => by rw [d] at q; cases q), d, r⟩
  have KB : K.In (hidT s.heap T) := fun b o e => un b o (KX b o e) (.inr (by
    cases t : T b with
    | none => rfl
    | some u =>
      have := h4 b (by rw [t]; simp)
      subst this
      rw [h5 (by rw [t]; simp)] at e; cases e))
  have md : Mod K mg (hidT s.heap T) := by
    refine ⟨KB, ns g1, ⟨mb, ns g2, g3⟩, ?_⟩
    obtain ⟨m, q1, q2⟩ := g4
    exact ⟨m, ns q1, q2⟩
  have env : Env0 P w K mg (hidT s.heap T) callerA [] s T := by
    refine ⟨rfl, md, fun b o e => of_hidT e, Nat.le_of_eq (hidT_size _ _), trivial, fun b z => ?_, h3, .of_eq g6⟩
    cases z
  refine codeAny_mono ((F _ KB (ns g1) (seer_hid ha h4 g5)).run callerA [] s T ⟨[.ref a], []⟩ [.ref a] [.ref a] _ _ room env (bind s (.ref a)) (.cons rfl .nil) h2) fun r t q => ?_
  match r, q with
  | .error e, q => exact (nox e t q).elim
  | .ok .next, q => exact False.elim q
  | .ok .brk, q => exact False.elim q
  | .ok .cont, q => exact False.elim q
  | .ok (.ret u), q =>
    obtain ⟨v, T', os, bare, uu, ok', rv, q⟩ := q
    cases (show v = .bl true from q)
    cases (show u = Value.bool true from rv)
    refine ⟨rfl, OldK.of_keep fun b o e => ?_, os, bare⟩
    rcases h1 b with z | ⟨ob, xs, z⟩
    · exact uu.keep b o e z (fun c => by cases c) (by simp)
    · have p1 := (h3 b _ z).1
      have p2 := (ok' b _ (uu.frzs b ob _ z)).1
      rw [e] at p1; cases p1
      exact p2
/-- the law's def is called with the script -/
theorem call_law {P : Program} {w : World} {K : PySem.W.Frag} {mg mb : Str → Option Value} {CX : CXT} {k : Nat} {fa a : Addr} {fd : FuncData} {x : Str} {sp : Sp} {s : Shared} {vs : List Value} {ns : List Int}
    (KX : K.In s.heap) (g1 : s.heap.Ns mainGlobals mg) (g2 : s.heap.Ns builtinsNs mb) (g3 : ∀ x : Str, x ≠ "__name__" → mb x = bootBuiltins x) (g4 : s.heap.NoLimit) (g5 : s.heap.NoSeer) (g6 : s.gens = #[])
    (ha : s.heap.get? a = some { cls := .type "list", data := .seq vs.toArray }) (hi : IntsAre vs ns) (hl : ns.length ≤ sizeLine) (room : Room k callerA) (bind : ∀ (t : Shared) (u : Value), BindsTo t fd ⟨[u], []⟩ [(x, u)])
    (F : ∀ b : Heap, K.In b → b.Ns mainGlobals mg → b.NoSeer → FnOk P w K mg b CX k fa fd [x] sp) (hsp : ∀ T : Hp, Only T → SqL K T a (ns.map V.int) → sp [.ref a] T (fun v _ => v = .bl true) fun _ _ _ => False)
    (nox : ∀ T e t, CX [] T s (fun _ _ _ => False) e t → False) : codeAny (model P w) callerA (.call (.ref fa) ⟨[.ref a], []⟩) (Told s) s := by
  have rv := vals_ints hi
  have go := fun (T : Hp) h1 h2 => call_one (T := T) KX g1 g2 g3 g4 g5 g6 ha room bind F h1 (hsp T h1 h2)
  cases hk : K.lookup a with
  | some o =>
    have e := KX a o hk
    rw [ha] at e; cases e
    refine go (fun _ => none) (fun _ => .inl rfl) (.inr ⟨_, vs.toArray, _, hk, rfl, rfl, rfl, ?_, ?_⟩) (fun b u z => ?_) (fun b z => absurd rfl z) (fun z => absurd rfl z) (nox _)
    · rw [List.size_toArray, hi.length]; exact hl
    · simpa using rv
    · cases (show (none : Option HO) = some u from z)
  | none =>
    have at_ : (fun b => if b = a then some (HO.frz { cls := .type "list", data := .seq vs.toArray } (.lst (ns.map V.int))) else none : Hp) a = some (.frz { cls := .type "list", data := .seq vs.toArray } (.lst (ns.map V.int))) := if_pos rfl
    have off : ∀ b, b ≠ a → (fun b => if b = a then some (HO.frz { cls := .type "list", data := .seq vs.toArray } (.lst (ns.map V.int))) else none : Hp) b = none := fun b z => if_neg z
    generalize (fun b => if b = a then some (HO.frz { cls := .type "list", data := .seq vs.toArray } (.lst (ns.map V.int))) else none : Hp) = T at at_ off
    refine go T (fun b => ?_) (.inl (.inr ⟨_, at_⟩)) (fun b u z => ?_) (fun b z => ?_) (fun _ => hk) (nox _)
    · by_cases q : b = a
      · subst q; exact .inr ⟨_, _, at_⟩
      · exact .inl (off b q)
    · by_cases q : b = a
      · subst q
        rw [at_] at z; cases z
        exact ⟨ha, by rw [List.length_map]; exact hl, vs, _, rv, ha⟩
      · rw [off b q] at z; cases z
    · exact Classical.byContradiction fun q => z (off b q)
theorem isOwn_loc {sc : Scope} {x : Str} (h : isOwn sc x = true) : sc.names.lookup x = some .local ∨ sc.names.lookup x = some .cell := by
  unfold isOwn at h
  split at h
  · exact .inl (by assumption)
  · exact .inr (by assumption)
  · cases h
section
variable {P : Program} {w : World} {K : PySem.W.Frag} {mg : Str → Option Value} {base : Heap}
theorem fns_ok {ds : List DefT} {gls : List (Str × Nat)} {bis : List Str} {gds : List (Str × Nat)} {p : Pr} {xa : XA} (ok : ∀ d ∈ ds, DefOk ds gls bis gds p d) (hat : ∀ d ∈ ds, DefAt K d) (hmg : ∀ x v, PySem.W.nsIn K mainGlobals x = some (some v) → mg x = some v)
    (hmn : ∀ x, PySem.W.nsIn K mainGlobals x = some none → mg x = none)
    (hbi : ∀ x : Str, bis.contains x = true → mg x = none) (hgl : ∀ (i : Nat) (x : Str), noOf x gls = some i → ∃ u v, mg x = some u ∧ RelV v u ∧ ∀ d, p.gl i = some d → ∀ H, Dn K H v d) (hgd : ∀ (i : Nat) (x : Str), noOf x gds = some i → ∃ d kds, mg x = some (.ref d) ∧ p.gd i = some kds ∧ GdAt K w d kds)
    (hxc : ∀ (x : Str) (q : Nat) (f : Str), xcOf x p.xcs = some (q, f) → ∃ (C fI : Addr) (slf part : Str) (fd : FuncData), mg x = some (.ref C) ∧ mg "super" = none ∧ PySem.W.findIn K (.ref C) "__init__" = some (some (.ref fI)) ∧ PySem.W.typeIn K (.ref fI) = some (.type "function") ∧
      SupC P K C fI f slf part fd ∧ Binds K fd [slf, part] [] ∧ ∀ (dx : Addr) (H : Hp) (y : V) (d : D), isA d = true → Dn K H y d → H dx = some (.xd [(f, y)]) → xa ⟨q, [(f, d)]⟩ (.ref C) (some dx) H)
    (hhd : ∀ d ∈ ds, ∀ F t, p.ts d.no = some (F, t) → HdOK P K (cfgOf ds gls bis gds p d) xa d t)
    (hcl : ∀ (x : Str) (fl : List Str), p.cls = some (x, fl) → ∀ C, ClsOf K x C → Cls K C ∧ ∀ f ∈ fl, NoAttr K C f) (hmt : ∀ d ∈ ds, ∀ c, d.cls = some c → ∃ fl, p.cls = some (c, fl)) (hmk : ∀ (x f1 f2 : Str), p.mkc = some (x, f1, f2) → MkK K x f1 f2) (hsr : Mod K mg base → base.NoSeer) (htr : P.given.tree = none) :
    ∀ (n : Nat) (d : DefT), d ∈ ds → ∀ (f : Addr) (oc : Value) (od : Option Addr) (kV doc pm : Value) (an : Option Addr) (cdv ct : Value) (osl : Array (Option Value)),
      K.lookup f = some ⟨oc, od, .func (PySem.W.fnOf d.x d.q (defArgs d.st) (defBody d.st) (defScope d.st) .none kV doc pm an cdv ct), osl⟩ → PySem.W.codeIn K cdv d.q = true → PySem.W.keepIn K (.ref f) = true →
      FnOk P w K mg base (L2.CX P w) (n + 40) f (PySem.W.fnOf d.x d.q (defArgs d.st) (defBody d.st) (defScope d.st) .none kV doc pm an cdv ct) d.ps (spD K (callN p n d.no) (p.io d.no) (p.fr d.no) xa)
  | 0, d, hi, f, oc, od, kV, doc, pm, an, cdv, ct, osl, h2, h3, h4 => by
    have no : ∀ vs H Q E, ¬ spD K (callN p 0 d.no) (p.io d.no) (p.fr d.no) xa vs H Q E := fun vs H Q E h => by
      obtain ⟨F, ps, ds, r, _, _, _, _, _, h⟩ := h
      exact h.elim
    exact ⟨fun vs H Q E h => (no _ _ _ _ h).elim, fun A outer s H args us vs Q E _ _ _ _ h => (no _ _ _ _ h).elim⟩
  | n + 1, d, hi, f, oc, od, kV, doc, pm, an, cdv, ct, osl, h2, h3, h4 => by
    have o := ok d hi
    have Fu := fun_mk (st := d.st) h2 h3 h4
    have env : ∀ (cdv' : Value) (A : Around) (outer : List Env) (s : Shared) (H : Hp) (E : XK), Room (n + 40) (A.deeper (envOfC d.q (defScope d.st) s.heap.objs.size f cdv')) →
        EnvS (cxOf (L2.CX P w) P w K mg base d.N d.q (defScope d.st) f cdv' A outer s H E) (cfgOf ds gls bis gds p d) (defScope d.st) ⟨callN p n, p.io, p.gl, p.wN, p.gd, Nat.ble 2 n, p.fr⟩ (n + 40) (fun cls d _ H => E cls d H) xa := fun cdv' A outer s H E hr => by
      refine ⟨⟨rfl, o.sc.nd, rfl, rfl, hr, takes_of rfl rfl rfl rfl, fun f' x hx => ?_, hbi, hgl, hgd, fun _ => by omega, fun hfr md s' hk => PySem.PylongRoom.of (md.nolimit.keeps hk) (by have h0 : (A.deeper (envOfC d.q (defScope d.st) s.heap.objs.size f cdv')).depth + 3 * (n + 40) + 5 < recursionLimit := hr.dp; show (A.deeper (envOfC d.q (defScope d.st) s.heap.objs.size f cdv')).depth + 100 < recursionLimit; omega) (PySem.SeerAt.of ((hsr md).keeps hk) htr hfr o.sc.gen o.sc.co rfl rfl), fun x q f hx => ⟨hxc x q f hx⟩, hcl, fun x f1 f2 hx => (by
        obtain ⟨hne, C, fI, slf, p2, nm, q, st, oc, od, kV, doc, pm, an, cdv, ct, osl, m1, m2, m3, m4, m5, m6, m7, m8, m9, m10, m11, m12, m13⟩ := hmk x f1 f2 hx
        have FF := fun_mk (st := st) m6 m7 m8
        exact ⟨hne, C, fI, _, [slf, p2], hmg _ _ m1, m1, m2, m3, m4, m5, FF.binds m13, init_fn FF m9 m10 hne m11 m12⟩), fun f' x hx => ?_⟩, fun x hx => ⟨isOwn_loc hx, .inl rfl⟩, passes_of rfl, o.sc.kind, rfl, rfl⟩
      · have hx : noOf x (ds.filterMap fun d => match d.cls with | none => some (d.x, d.no) | some _ => none) = some f' := hx
        obtain ⟨d', hd', he'⟩ := List.mem_filterMap.mp (noOf_get hx)
        split at he'
        · rename_i hcn
          cases he'
          obtain ⟨f2, oc2, od2, kV2, doc2, pm2, an2, cdv2, ct2, osl2, g1, g2, g3, g4⟩ := (hat d' hd').ex
          unfold FoundAt at g1
          rw [hcn] at g1
          exact ⟨f2, _, d'.ps, hmg _ _ g1, g4, (fun_mk (st := d'.st) g2 g3 g4).binds (ok d' hd').bind, fns_ok ok hat hmg hmn hbi hgl hgd hxc hhd hcl hmt hmk hsr htr n d' hd' f2 oc2 od2 kV2 doc2 pm2 an2 cdv2 ct2 osl2 g2 g3 g4⟩
        · cases he'
      · have hx : noOf x (ds.filterMap fun d => match d.cls with | none => none | some _ => some (d.x, d.no)) = some f' := hx
        obtain ⟨d', hd', he'⟩ := List.mem_filterMap.mp (noOf_get hx)
        split at he'
        · cases he'
        · rename_i cc hcn
          cases he'
          obtain ⟨f2, oc2, od2, kV2, doc2, pm2, an2, cdv2, ct2, osl2, g1, g2, g3, g4⟩ := (hat d' hd').ex
          unfold FoundAt at g1
          rw [hcn] at g1
          obtain ⟨fl, hfl⟩ := hmt d' hd' cc hcn
          exact ⟨cc, fl, hfl, f2, _, d'.ps, g1, (fun_mk (st := d'.st) g2 g3 g4).binds (ok d' hd').bind, fns_ok ok hat hmg hmn hbi hgl hgd hxc hhd hcl hmt hmk hsr htr n d' hd' f2 oc2 od2 kV2 doc2 pm2 an2 cdv2 ct2 osl2 g2 g3 g4⟩
    rcases o.fn with ⟨F, hF, hp, hN, hb⟩ | ⟨F, t, tb, rest, suite, x, nm, i, b₀, np, pos, pos', hF, ht, hio, hfr, hp, hN, hbd, hi2, hl, hb1, hb⟩
    · have hio : p.io d.no = F.io := by unfold Pr.io; rw [hF]
      have hfr : p.fr d.no = F.fr := by unfold Pr.fr; rw [hF]
      have hcf : callN p (n + 1) d.no = runF ⟨callN p n, p.io, p.gl, p.wN, p.gd, Nat.ble 2 n, p.fr⟩ F := by
        funext ds
        show (match p.fs d.no with | some F => runF _ F ds | none => _) = _
        rw [hF]
      refine Fu.okX o.sc (fun vs H Q E h => ?_) (fun cdv' A outer s H vs Q E hr h => ?_)
      · rw [hio, hfr] at h
        exact (body_of (N := d.N) (fun ds => by rw [hcf]; rfl) hp hN h).1
      · rw [hio, hfr] at h
        obtain ⟨_, h⟩ := body_of (N := d.N) (o := evSs ⟨callN p n, p.io, p.gl, p.wN, p.gd, Nat.ble 2 n, p.fr⟩ (ioM F.io F.fr) F.body) (fun ds => by rw [hcf]; rfl) hp hN h
        exact ⟨_, s_body (env cdv' A outer s H E hr) eF _ _ hb, h⟩
    · have hio' : p.io d.no = F.io := by unfold Pr.io; rw [hF, hio]
      have hfr' : p.fr d.no = F.fr := by unfold Pr.fr; rw [hF, hfr]
      have hcf : callN p (n + 1) d.no = runT ⟨callN p n, p.io, p.gl, p.wN, p.gd, Nat.ble 2 n, p.fr⟩ F t := by
        funext ds
        show (match p.fs d.no with | some F => runF _ F ds | none => match p.ts d.no with | some (F, t) => runT _ F t ds | none => .st) = _
        rw [hF, ht]
      refine Fu.okX o.sc (fun vs H Q E h => ?_) (fun cdv' A outer s H vs Q E hr h => ?_)
      · rw [hio', hfr'] at h
        exact (body_of (N := d.N) (o := fun τ => ((evSs ⟨callN p n, p.io, p.gl, p.wN, p.gd, Nat.ble 2 n, p.fr⟩ F.io t.b1 τ).hand (t.hd ⟨callN p n, p.io, p.gl, p.wN, p.gd, Nat.ble 2 n, p.fr⟩)).seq (evSs ⟨callN p n, p.io, p.gl, p.wN, p.gd, Nat.ble 2 n, p.fr⟩ F.io F.body)) (fun ds => by rw [hcf]; rfl) hp hN h).1
      · rw [hio', hfr'] at h
        obtain ⟨_, h⟩ := body_of (N := d.N) (o := fun τ => ((evSs ⟨callN p n, p.io, p.gl, p.wN, p.gd, Nat.ble 2 n, p.fr⟩ F.io t.b1 τ).hand (t.hd ⟨callN p n, p.io, p.gl, p.wN, p.gd, Nat.ble 2 n, p.fr⟩)).seq (evSs ⟨callN p n, p.io, p.gl, p.wN, p.gd, Nat.ble 2 n, p.fr⟩ F.io F.body)) (fun ds => by rw [hcf]; rfl) hp hN h
        rw [hio, hfr, ioM_f] at h
        have ev := env cdv' A outer s H E hr
        rw [hbd]
        exact ⟨_, s_tryThen (s_try ev rfl rfl hi2 hl hb1 (hhd d hi F t ht _ _ _ _ rfl rfl hmg hmn ev tb rest suite x nm i b₀ np pos pos' hbd hi2)) (s_body ev eF _ _ hb), h⟩
end
/-! ### what stands in the module: tuples, dicts -/
inductive Its (K : PySem.W.Frag) : List Value → List D → Prop
  | nil : Its K [] []
  | cons {u : Value} {v : V} {d : D} {us : List Value} {ds : List D} : RelV v u → (∀ H, Dn K H v d) → Its K us ds → Its K (u :: us) (d :: ds)
theorem Its.get {K : PySem.W.Frag} : ∀ {us : List Value} {ds : List D}, Its K us ds → ∃ vs, Vals vs us ∧ ∀ H, DnAll K H vs ds
  | _, _, .nil => ⟨[], .nil, fun _ => .nil⟩
  | _, _, .cons h1 h2 r => let ⟨vs, q1, q2⟩ := r.get; ⟨_ :: vs, .cons h1 q1, fun H => .cons (h2 H) (q2 H)⟩
theorem Its.str {K : PySem.W.Frag} {x : Str} {t : Tok} {us : List Value} {ds : List D} (r : Its K us ds) : Its K (.str x t :: us) (.str x :: ds) := .cons (v := .str x) ⟨t, rfl⟩ (fun _ => .str x) r
theorem Its.int {K : PySem.W.Frag} {x : Int} {t : Tok} {us : List Value} {ds : List D} (r : Its K us ds) : Its K (.int x t :: us) (.int x :: ds) := .cons (v := .int x) ⟨t, rfl⟩ (fun _ => .int x) r
theorem gl_tup {K : PySem.W.Frag} {x : Str} {a : Addr} {dd : Option Addr} {its : List Value} {n : Nat} {sl : Array (Option Value)} {ds : List D} {gl : Option D} (h1 : PySem.W.nsIn K mainGlobals x = some (some (.ref a)))
    (h2 : K.lookup a = some ⟨.type "tuple", dd, .seq its.toArray n, sl⟩) (h3 : Its K its ds) (h4 : its.length ≤ sizeLine) (h5 : ∀ d, gl = some d → d = .tuple ds) :
    ∃ u v, PySem.W.nsIn K mainGlobals x = some (some u) ∧ RelV v u ∧ ∀ d, gl = some d → ∀ H, Dn K H v d := by
  obtain ⟨vs, q1, q2⟩ := h3.get
  refine ⟨_, .ref a, h1, rfl, fun d hd H => ?_⟩
  rw [h5 d hd]
  exact .tup (.inr ⟨_, its.toArray, n, h2, rfl, rfl, by simpa using h4, by simpa using q1⟩) (q2 H)
theorem Ents.str {K : PySem.W.Frag} {P : Params} {h : Int} {x y : Str} {t t' : Tok} {r : List DictEntry} {kr : List (Str × D)} (hh : (⟨h, .str x t, .str y t'⟩ : DictEntry).hash = PyData.keyHash P x) (rr : Ents K P r kr) : Ents K P (⟨h, .str x t, .str y t'⟩ :: r) ((x, .str y) :: kr) := .cons (v := .str y) rfl hh ⟨t', rfl⟩ (fun _ => .str y) rr
theorem gd_at {K : PySem.W.Frag} {w : World} {x : Str} {d : Addr} {es : List DictEntry} {n : Nat} {kds : List (Str × D)} {gd : Option (List (Str × D))} (h1 : PySem.W.nsIn K mainGlobals x = some (some (.ref d))) (h2 : gd = some kds) (h3 : (d == sysModules) = false)
    (h4 : K.lookup d = some ⟨.type "dict", none, .dict es.toArray n, #[]⟩) (h5 : Ents K w.params es kds) : ∃ d kds, PySem.W.nsIn K mainGlobals x = some (some (.ref d)) ∧ gd = some kds ∧ GdAt K w d kds :=
  ⟨d, kds, h1, h2, h3, es.toArray, n, h4, by simpa using h5⟩
/-- how an exception of the text's own classes lies in the heap -/
def xaK (K : PySem.W.Frag) (xcs : List (Str × (Nat × Str))) : XA := fun e cls dd H => ∃ (x : Str) (q : Nat) (f : Str) (C dx : Addr) (y : V) (d : D), xcOf x xcs = some (q, f) ∧ PySem.W.nsIn K mainGlobals x = some (some (.ref C)) ∧ e = ⟨q, [(f, d)]⟩ ∧ cls = .ref C ∧ dd = some dx ∧ isA d = true ∧ Dn K H y d ∧ H dx = some (.xd [(f, y)])
/-- what the written part says of an own exception class -/
def XcK (P : Program) (K : PySem.W.Frag) (f x : Str) : Prop := ∃ (C fI : Addr) (slf part : Str) (fd : FuncData), PySem.W.nsIn K mainGlobals x = some (some (.ref C)) ∧ PySem.W.nsIn K mainGlobals "super" = some none ∧ PySem.W.findIn K (.ref C) "__init__" = some (some (.ref fI)) ∧ PySem.W.typeIn K (.ref fI) = some (.type "function") ∧
  SupC P K C fI f slf part fd ∧ Binds K fd [slf, part] []
/-- THE END of a law: its meaning answers True at every script -/
theorem walk_mp {l : PySem.W.OpenLaw} {n m : Nat} {q : Program} {loose : List Str} {XP : (Str → Option Value) → Heap → Prop} {YP : World → Heap → Prop} {d : DefRec} {K : Params → PySem.W.Frag} {ds : List DefT} {gls : List (Str × Nat)} {bis : List Str} {gds : List (Str × Nat)} {p : Pr} {dL : DefT}
    (hn : l.most = some n) (hn2 : n ≤ sizeLine) (hdf : d.params.defaults = []) (hr : Room (m + 40) callerA) (hY : ∀ (w : World) (h : Heap), YP w h → (K w.params).In h)
    (ok : ∀ d ∈ ds, DefOk ds gls bis gds p d) (hL : dL ∈ ds) (hLc : dL.cls = none) (hx : dL.x = d.name) (hps : dL.ps = [("script" : Str)]) (hio : p.io dL.no = [])
    (hat : ∀ (w : World) (d : DefT), d ∈ ds → DefAt (K w.params) d) (hbi : ∀ (w : World) (x : Str), bis.contains x = true → PySem.W.nsIn (K w.params) mainGlobals x = some none)
    (hgl : ∀ (w : World) (i : Nat) (x : Str), noOf x gls = some i → ∃ u v, PySem.W.nsIn (K w.params) mainGlobals x = some (some u) ∧ RelV v u ∧ ∀ d, p.gl i = some d → ∀ H, Dn (K w.params) H v d)
    (hgd : ∀ (w : World) (i : Nat) (x : Str), noOf x gds = some i → ∃ d kds, PySem.W.nsIn (K w.params) mainGlobals x = some (some (.ref d)) ∧ p.gd i = some kds ∧ GdAt (K w.params) w d kds)
    (hxc : ∀ (w : World) (x : Str) (q : Nat) (f : Str), xcOf x p.xcs = some (q, f) → XcK l.prog (K w.params) f x)
    (hhd : ∀ (w : World) (d : DefT), d ∈ ds → ∀ F t, p.ts d.no = some (F, t) → HdOK l.prog (K w.params) (cfgOf ds gls bis gds p d) (xaK (K w.params) p.xcs) d t)
    (hcl : ∀ (w : World) (x : Str) (fl : List Str), p.cls = some (x, fl) → ∀ C, ClsOf (K w.params) x C → Cls (K w.params) C ∧ ∀ f ∈ fl, NoAttr (K w.params) C f) (hmt : ∀ d ∈ ds, ∀ c, d.cls = some c → ∃ fl, p.cls = some (c, fl)) (hmk : ∀ (w : World) (x f1 f2 : Str), p.mkc = some (x, f1, f2) → MkK (K w.params) x f1 f2)
    (him : importsNone q = true) (htr : l.prog.given.tree = none)
    (law : ∀ ns : List Int, ns.length ≤ n → (∀ z ∈ ns, Builtin.Int.intBits z ≤ 1048576) → callN p m dL.no [.list (ns.map .int)] = .ok (.bool true, [])) :
    PySem.W.WalkO q loose XP YP l.row.toRowW d [] (fun f vs => PySem.call f vs) := by
  refine Att.attach_callB hn hdf fun w s₀ s₁ mg mb fa o pm cd doc a vs ns G Y ho hd hcd hmg hobj hints hlen hbits hg => ?_
  have KX := hY w _ Y
  have hdm := hat w dL hL
  obtain ⟨f, oc, od, kV, doc', pm', an, cdv, ct, osl, h1, h2, h3, h4⟩ := hdm.ex
  unfold FoundAt at h1
  rw [hLc] at h1
  have hmg' := PySem.W.mg_of KX G.T.g h1
  rw [hx] at hmg'
  have e := Option.some.inj (hmg.symm.trans hmg')
  cases e
  have hb : Binds (K w.params) _ dL.ps [] := (fun_mk (st := dL.st) h2 h3 h4).binds (ok dL hL).bind
  refine call_law (x := ("script" : Str)) (CX := L2.CX l.prog w) KX G.T.g G.T.b G.T.builtins G.T.nolimit (G.T.seer him) hg hobj hints (Nat.le_trans hlen hn2) hr (fun s u => ?_) (sp := spD (K w.params) (callN p m dL.no) (p.io dL.no) (p.fr dL.no) (xaK (K w.params) p.xcs)) (fun base kb gb sb => by
    have hsr : Mod (K w.params) mg base → base.NoSeer := fun _ => sb
    have := fns_ok (P := l.prog) (w := w) (base := base) (xa := xaK (K w.params) p.xcs) ok (hat w) (fun x v hz => PySem.W.mg_of KX G.T.g hz) (fun x hz => PySem.W.mg_none_of KX G.T.g hz) (fun x hz => PySem.W.mg_none_of KX G.T.g (hbi w x hz)) (fun i x hz => let ⟨u, v, z1, z2⟩ := hgl w i x hz; ⟨u, v, PySem.W.mg_of KX G.T.g z1, z2⟩) (fun i x hz => let ⟨d, kds, z1, z2⟩ := hgd w i x hz; ⟨d, kds, PySem.W.mg_of KX G.T.g z1, z2⟩)
      (fun x q f hx => by
        obtain ⟨C, fI, slf, part, fd, z1, z2, z3, z4, z5, z6⟩ := hxc w x q f hx
        exact ⟨C, fI, slf, part, fd, PySem.W.mg_of KX G.T.g z1, PySem.W.mg_none_of KX G.T.g z2, z3, z4, z5, z6, fun dx H y d ha hd hH => ⟨x, q, f, C, dx, y, d, hx, z1, rfl, rfl, rfl, ha, hd, hH⟩⟩)
      (hhd w) (hcl w) hmt (hmk w) hsr htr m dL hL fa oc od kV doc' pm' an cdv ct osl h2 h3 h4
    rw [hps] at this
    exact this) (fun H hO hS => ?_) (fun H e s' hc => ?_)
  · have hq := (ok dL hL).bind kV doc' pm' an cdv ct [u] (by rw [hps]; rfl)
    rw [hps] at hq
    exact .of_eq hq
  · have hdn : Dn (K w.params) H (.ref a) (.list (ns.map .int)) := by
      refine .lst ?_ (DnAll.of_ints ns)
      rcases hS with hS | ⟨o', its, k, hk, _, _, hdt, hz, hv⟩
      · exact .inl hS
      · have := KX _ _ hk
        rw [hobj] at this
        cases this
        cases hdt
        exact .inr ⟨vs, _, hk, by simpa using hz, by simpa using hv⟩
    rw [hio]
    refine spD_pure (P := fun _ => False) (ds := [.list (ns.map .int)]) (.cons (Dn.mono (fun b o z => wo_some.mpr ⟨fun z => z, z⟩) _ hdn) .nil) (fun _ z => z.elim) ?_
    rw [law ns hlen hbits]
    intro _ v H' _ hv
    cases hv
    rfl
  · obtain ⟨_, _, _, _, _, _, _, _, _, _, _, _, z⟩ := hc
    exact z.elim
end Mp

/-! the core text of k13, printed by mp.py: the defs that no earlier law has -/
namespace Mp
open PySem PySem.Spec PyProof.Rows L2
def b_written_cells : Ss := (.cons (.ifS (.cmp .In (.sub (.v 0) (.k (.int 0))) (.tup (.cons (.k (.str "add")) (.cons (.k (.str "sub")) (.cons (.k (.str "mul")) .nil))))) (.cons (.ret (.lst (.cons (.sub (.v 0) (.k (.int 1))) (.cons (.sub (.v 0) (.k (.int 2))) .nil)))) .nil) .nil) (.cons (.ret (.lst (.cons (.sub (.v 0) (.k (.int 1))) .nil))) .nil))
/-- number 1 -/
def F_written_cells : Fn := ⟨1, 1, [], b_written_cells, false⟩
def b_read_cells : Ss := (.cons (.ifS (.cmp .Eq (.sub (.v 0) (.k (.int 0))) (.k (.str "put"))) (.cons (.ret (.lst .nil)) .nil) .nil) (.cons (.ret (.bi .list (.cons (.sli (.v 0) (.yes (.k (.int 2))) .no) .nil))) .nil))
/-- number 2 -/
def F_read_cells : Fn := ⟨1, 1, [], b_read_cells, false⟩
def b_lean_1 : Ss := (.cons (.setIx 2 (.v 3) (.k (.bool true))) .nil)
def b_lean_2 : Ss := (.cons (.dpop 2 (.v 3) (.k .none)) .nil)
def b_lean_0 : Ss := (.cons (.set (.n 6) (.call 1 (.cons (.v 5) .nil))) (.cons (.ifS (.not (.bi .any (.cons (.comp (.cmp .In (.v 3) (.v 2)) (.n 3) (.it (.v 6)) .no [3]) .nil))) (.cons .ct .nil) .nil) (.cons (.app 4 (.v 5)) (.cons (.forS [0, 1, 3, 6] (.n 3) (.it (.v 6)) b_lean_2) (.cons (.forS [0, 1, 3, 5, 6] (.n 3) (.it (.call 2 (.cons (.v 5) .nil))) b_lean_1) .nil)))))
def b_lean_3 : Ss := (.cons (.setIx 2 (.v 3) (.k (.bool true))) .nil)
def b_lean : Ss := (.cons (.set (.n 2) .dct0) (.cons (.forS [1, 3, 4, 5, 6] (.n 3) (.it (.v 1)) b_lean_3) (.cons (.set (.n 4) (.lst .nil)) (.cons (.forS [0, 1, 3, 5, 6] (.n 5) (.rev (.bi .list (.cons (.v 0) .nil))) b_lean_0) (.cons (.ret (.trev (.bi .list (.cons (.v 4) .nil)))) .nil)))))
/-- number 3 -/
def F_lean : Fn := ⟨2, 7, [], b_lean, false⟩
def b_run_add : Ss := (.cons (.set (.n 3) (.ite (.cmp .NotEq (.sub (.v 0) (.sub (.v 1) (.k (.int 2)))) (.k (.int 0))) (.k (.int 1)) (.k (.int 0)))) (.cons (.set (.n 4) (.sub (.v 0) (.sub (.v 1) (.k (.int 3))))) (.cons (.set (.n 5) (.sub (.v 0) (.sub (.v 1) (.k (.int 4))))) (.cons (.ifS (.cmp .Eq (.sub (.v 1) (.k (.int 0))) (.k (.str "add"))) (.cons (.set (.n 6) (.bin .Add (.bin .Add (.v 4) (.v 5)) (.v 3))) (.cons (.set (.n 7) (.ite (.cmp .GtE (.v 6) (.v 2)) (.k (.int 1)) (.k (.int 0)))) .nil)) (.cons (.set (.n 6) (.bin .Sub (.bin .Sub (.v 4) (.v 5)) (.v 3))) (.cons (.set (.n 7) (.ite (.cmp .Lt (.v 6) (.k (.int 0))) (.k (.int 1)) (.k (.int 0)))) .nil))) (.cons (.setIx 0 (.sub (.v 1) (.k (.int 1))) (.bin .Mod (.v 6) (.v 2))) (.cons (.setIx 0 (.sub (.v 1) (.k (.int 2))) (.v 7)) .nil))))))
/-- number 4 -/
def F_run_add : Fn := ⟨3, 8, [0], b_run_add, false⟩
def b_run_mul : Ss := (.cons (.set (.n 3) (.bin .Add (.bin .Add (.bin .Mult (.sub (.v 0) (.sub (.v 1) (.k (.int 3)))) (.sub (.v 0) (.sub (.v 1) (.k (.int 4))))) (.sub (.v 0) (.sub (.v 1) (.k (.int 5))))) (.sub (.v 0) (.sub (.v 1) (.k (.int 2)))))) (.cons (.setIx 0 (.sub (.v 1) (.k (.int 1))) (.bin .Mod (.v 3) (.v 2))) (.cons (.setIx 0 (.sub (.v 1) (.k (.int 2))) (.bin .FloorDiv (.v 3) (.v 2))) .nil)))
/-- number 5 -/
def F_run_mul : Fn := ⟨3, 4, [0], b_run_mul, false⟩
def b_run_other : Ss := (.cons (.set (.n 3) (.sub (.v 1) (.k (.int 0)))) (.cons (.ifS (.cmp .Eq (.v 3) (.k (.str "put"))) (.cons (.set (.n 4) (.sub (.v 1) (.k (.int 2)))) .nil) (.cons (.ifS (.cmp .Eq (.v 3) (.k (.str "copy"))) (.cons (.set (.n 4) (.sub (.v 0) (.sub (.v 1) (.k (.int 2))))) .nil) (.cons (.ifS (.cmp .Eq (.v 3) (.k (.str "xor"))) (.cons (.set (.n 4) (.bin .BitXor (.sub (.v 0) (.sub (.v 1) (.k (.int 2)))) (.sub (.v 0) (.sub (.v 1) (.k (.int 3)))))) .nil) (.cons (.ifS (.cmp .Eq (.v 3) (.k (.str "and"))) (.cons (.set (.n 4) (.bin .BitAnd (.sub (.v 0) (.sub (.v 1) (.k (.int 2)))) (.sub (.v 0) (.sub (.v 1) (.k (.int 3)))))) .nil) (.cons (.ifS (.cmp .Eq (.v 3) (.k (.str "sign"))) (.cons (.set (.n 4) (.ite (.cmp .GtE (.sub (.v 0) (.sub (.v 1) (.k (.int 2)))) (.bin .FloorDiv (.v 2) (.k (.int 2)))) (.bin .Sub (.v 2) (.k (.int 1))) (.k (.int 0)))) .nil) (.cons (.ifS (.cmp .Eq (.v 3) (.k (.str "top"))) (.cons (.set (.n 4) (.ite (.cmp .GtE (.sub (.v 0) (.sub (.v 1) (.k (.int 2)))) (.bin .FloorDiv (.v 2) (.k (.int 2)))) (.k (.int 1)) (.k (.int 0)))) .nil) (.cons (.ifS (.cmp .NotEq (.sub (.v 0) (.sub (.v 1) (.k (.int 2)))) (.k (.int 0))) (.cons (.set (.n 4) (.sub (.v 0) (.sub (.v 1) (.k (.int 3))))) .nil) (.cons (.set (.n 4) (.sub (.v 0) (.sub (.v 1) (.k (.int 4))))) .nil)) .nil)) .nil)) .nil)) .nil)) .nil)) .nil)) (.cons (.setIx 0 (.sub (.v 1) (.k (.int 1))) (.v 4)) .nil)))
/-- number 6 -/
def F_run_other : Fn := ⟨3, 5, [0], b_run_other, false⟩
def b_run_steps_0 : Ss := (.cons (.set (.n 5) (.sub (.v 4) (.k (.int 0)))) (.cons (.ifS (.or (.cmp .Eq (.v 5) (.k (.str "add"))) (.cmp .Eq (.v 5) (.k (.str "sub")))) (.cons (.io none 4 (.cons (.v 1) (.cons (.v 4) (.cons (.v 3) .nil)))) .nil) (.cons (.ifS (.cmp .Eq (.v 5) (.k (.str "mul"))) (.cons (.io none 5 (.cons (.v 1) (.cons (.v 4) (.cons (.v 3) .nil)))) .nil) (.cons (.io none 6 (.cons (.v 1) (.cons (.v 4) (.cons (.v 3) .nil)))) .nil)) .nil)) .nil))
def b_run_steps : Ss := (.cons (.set (.n 3) (.bin .LShift (.k (.int 1)) (.v 2))) (.cons (.forS [0, 2, 4, 5] (.n 4) (.it (.v 0)) b_run_steps_0) .nil))
/-- number 7 -/
def F_run_steps : Fn := ⟨3, 6, [1], b_run_steps, false⟩
def b_run_code : Ss := (.cons (.set (.n 3) (.bi .list (.cons (.v 1) .nil))) (.cons (.io none 7 (.cons (.v 0) (.cons (.v 3) (.cons (.v 2) .nil)))) (.cons (.ret (.bi .tuple (.cons (.v 3) .nil))) .nil)))
/-- number 8 -/
def F_run_code : Fn := ⟨3, 4, [], b_run_code, false⟩
def b__law_cell : Ss := (.cons (.ifS (.cmp .Eq (.bi .len (.cons (.v 0) .nil)) (.k (.int 0))) (.cons (.ret (.k (.int 0))) .nil) .nil) (.cons (.set (.n 2) (.sub (.v 0) (.bin .Mod (.v 1) (.bi .len (.cons (.v 0) .nil))))) (.cons (.ifS (.cmp .Lt (.v 2) (.k (.int 0))) (.cons (.ret (.bin .Add (.bin .Mult (.neg (.k (.int 2))) (.v 2)) (.k (.int 1)))) .nil) .nil) (.cons (.ret (.bin .Mult (.k (.int 2)) (.v 2))) .nil))))
/-- number 9 -/
def F__law_cell : Fn := ⟨2, 3, [], b__law_cell, false⟩
def b__law_row_0 : Ss := (.cons (.set (.n 8) (.bin .Mod (.bi .int (.cons (.bin .Add (.bin .Add (.bin .Add (.bin .Mult (.bin .Add (.v 4) (.k (.int 7))) (.k (.int 48271))) (.bin .Mult (.bin .Add (.v 1) (.k (.int 1))) (.k (.int 69621)))) (.bin .Mult (.v 7) (.k (.int 16807)))) (.k (.int 12345))) .nil)) (.k (.int 2147483647)))) (.cons (.set (.n 8) (.bin .Mod (.bi .int (.cons (.bin .Add (.bin .Add (.bin .Mult (.v 8) (.v 8)) (.bin .Mult (.k (.int 40692)) (.bin .Add (.v 7) (.v 1)))) (.k (.int 11))) .nil)) (.k (.int 2147483399)))) (.cons (.app 5 (.bin .Mod (.bi .int (.cons (.bin .FloorDiv (.v 8) (.k (.int 5))) .nil)) (.v 3))) .nil)))
def b__law_row_1 : Ss := (.cons (.ifS (.cmp .Eq (.v 6) (.k (.int 0))) (.cons (.set (.n 6) (.bin .Add (.bin .FloorDiv (.v 4) (.k (.int 3))) (.v 7))) .nil) .nil) (.cons (.app 5 (.bin .Mod (.bi .int (.cons (.v 6) .nil)) (.v 3))) (.cons (.set (.n 6) (.bin .FloorDiv (.v 6) (.v 3))) .nil)))
def b__law_row : Ss := (.cons (.set (.n 4) (.call 9 (.cons (.v 0) (.cons (.v 1) .nil)))) (.cons (.set (.n 5) (.lst .nil)) (.cons (.ifS (.cmp .GtE (.v 4) (.bin .Pow (.k (.int 10)) (.k (.int 18)))) (.cons (.set (.n 6) (.bin .Add (.bin .FloorDiv (.v 4) (.k (.int 2))) (.v 1))) (.cons (.forS [0, 1, 2, 7, 8] (.n 7) (.r1 (.v 2)) b__law_row_1) (.cons (.ret (.v 5)) .nil))) .nil) (.cons (.forS [0, 2, 6, 7, 8] (.n 7) (.r1 (.v 2)) b__law_row_0) (.cons (.ret (.v 5)) .nil)))))
/-- number 10 -/
def F__law_row : Fn := ⟨4, 9, [], b__law_row, false⟩
def b__law_one : Ss := (.cons (.ret (.sub (.call 10 (.cons (.v 0) (.cons (.v 1) (.cons (.k (.int 1)) (.cons (.v 2) .nil))))) (.k (.int 0)))) .nil)
/-- number 11 -/
def F__law_one : Fn := ⟨3, 3, [], b__law_one, false⟩
def b__law_words : Ss := (.cons (.set (.n 4) (.call 10 (.cons (.v 0) (.cons (.v 1) (.cons (.v 2) (.cons (.v 3) .nil)))))) (.cons (.set (.n 5) (.call 10 (.cons (.v 0) (.cons (.bin .Add (.v 1) (.k (.int 31))) (.cons (.v 2) (.cons (.k (.int 10)) .nil)))))) (.cons (.set (.n 6) (.lst (.cons (.k (.int 0)) (.cons (.k (.int 1)) (.cons (.bin .Sub (.bin .FloorDiv (.v 3) (.k (.int 2))) (.k (.int 1))) (.cons (.bin .FloorDiv (.v 3) (.k (.int 2))) (.cons (.bin .Sub (.v 3) (.k (.int 1))) .nil))))))) (.cons (.ret (.comp (.ite (.cmp .Lt (.sub (.v 5) (.v 7)) (.k (.int 5))) (.sub (.v 6) (.sub (.v 5) (.v 7))) (.sub (.v 4) (.v 7))) (.n 7) (.r1 (.v 2)) .no [7])) .nil))))
/-- number 12 -/
def F__law_words : Fn := ⟨4, 8, [], b__law_words, false⟩
def b__law_step : Ss := (.cons (.set (.n 3) (.comp (.bin .Mod (.bi .int (.cons (.v 4) .nil)) (.v 2)) (.n 4) (.it (.v 0)) .no [4])) (.cons (.set (.n 5) (.lst (.cons (.k (.str "put")) (.cons (.k (.str "copy")) (.cons (.k (.str "xor")) (.cons (.k (.str "and")) (.cons (.k (.str "sign")) (.cons (.k (.str "top")) (.cons (.k (.str "pick")) (.cons (.k (.str "add")) (.cons (.k (.str "sub")) (.cons (.k (.str "mul")) .nil)))))))))))) (.cons (.set (.n 6) (.sub (.v 5) (.bin .Mod (.bi .int (.cons (.sub (.v 0) (.k (.int 0))) .nil)) (.k (.int 10))))) (.cons (.set (.n 7) (.sub (.v 3) (.k (.int 1)))) (.cons (.ifS (.cmp .Eq (.v 6) (.k (.str "put"))) (.cons (.ret (.tup (.cons (.v 6) (.cons (.v 7) (.cons (.v 1) .nil))))) .nil) .nil) (.cons (.ifS (.cmp .In (.v 6) (.lst (.cons (.k (.str "copy")) (.cons (.k (.str "sign")) (.cons (.k (.str "top")) .nil))))) (.cons (.ret (.tup (.cons (.v 6) (.cons (.v 7) (.cons (.sub (.v 3) (.k (.int 3))) .nil))))) .nil) .nil) (.cons (.ifS (.cmp .In (.v 6) (.lst (.cons (.k (.str "xor")) (.cons (.k (.str "and")) .nil)))) (.cons (.ret (.tup (.cons (.v 6) (.cons (.v 7) (.cons (.sub (.v 3) (.k (.int 3))) (.cons (.sub (.v 3) (.k (.int 4))) .nil)))))) .nil) .nil) (.cons (.ifS (.cmp .Eq (.v 6) (.k (.str "pick"))) (.cons (.ret (.tup (.cons (.v 6) (.cons (.v 7) (.cons (.sub (.v 3) (.k (.int 2))) (.cons (.sub (.v 3) (.k (.int 3))) (.cons (.sub (.v 3) (.k (.int 4))) .nil))))))) .nil) .nil) (.cons (.set (.n 8) (.bin .Mod (.bi .int (.cons (.bin .Add (.bin .Add (.v 7) (.k (.int 1))) (.bin .Mod (.bi .int (.cons (.sub (.v 0) (.k (.int 2))) .nil)) (.bin .Sub (.v 2) (.k (.int 1))))) .nil)) (.v 2))) (.cons (.ifS (.cmp .Eq (.v 6) (.k (.str "mul"))) (.cons (.ret (.tup (.cons (.v 6) (.cons (.v 7) (.cons (.v 8) (.cons (.sub (.v 3) (.k (.int 3))) (.cons (.sub (.v 3) (.k (.int 4))) (.cons (.sub (.v 3) (.k (.int 5))) .nil)))))))) .nil) .nil) (.cons (.ret (.tup (.cons (.v 6) (.cons (.v 7) (.cons (.v 8) (.cons (.sub (.v 3) (.k (.int 3))) (.cons (.sub (.v 3) (.k (.int 4))) .nil))))))) .nil)))))))))))
/-- number 13 -/
def F__law_step : Fn := ⟨3, 9, [], b__law_step, false⟩
def b__law_code : Ss := (.cons (.set (.n 5) (.call 10 (.cons (.v 0) (.cons (.v 1) (.cons (.bin .Mult (.k (.int 6)) (.v 2)) (.cons (.k (.int 240)) .nil)))))) (.cons (.set (.n 6) (.call 12 (.cons (.v 0) (.cons (.bin .Add (.v 1) (.k (.int 3))) (.cons (.v 2) (.cons (.v 4) .nil)))))) (.cons (.ret (.comp (.call 13 (.cons (.sli (.v 5) (.yes (.bin .Mult (.k (.int 6)) (.v 7))) (.yes (.bin .Add (.bin .Mult (.k (.int 6)) (.v 7)) (.k (.int 6))))) (.cons (.sub (.v 6) (.v 7)) (.cons (.v 3) .nil)))) (.n 7) (.r1 (.v 2)) .no [7])) .nil)))
/-- number 14 -/
def F__law_code : Fn := ⟨5, 8, [], b__law_code, false⟩
def b__law_kept : Ss := (.cons (.set (.n 2) (.call 10 (.cons (.v 0) (.cons (.k (.int 6)) (.cons (.v 1) (.cons (.k (.int 4)) .nil)))))) (.cons (.set (.n 3) (.bi .tuple (.cons (.comp (.v 4) (.n 4) (.r1 (.v 1)) (.yes (.cmp .Eq (.sub (.v 2) (.v 4)) (.k (.int 0)))) [4]) .nil))) (.cons (.set (.n 5) (.call 11 (.cons (.v 0) (.cons (.k (.int 8)) (.cons (.k (.int 10)) .nil))))) (.cons (.ifS (.cmp .Eq (.v 5) (.k (.int 0))) (.cons (.set (.n 3) (.tup .nil)) .nil) .nil) (.cons (.ifS (.cmp .Eq (.v 5) (.k (.int 1))) (.cons (.set (.n 3) (.bi .tuple (.cons (.comp (.bin .Sub (.bin .Sub (.v 1) (.k (.int 1))) (.v 4)) (.n 4) (.r1 (.v 1)) .no [4]) .nil))) .nil) .nil) (.cons (.ifS (.cmp .Eq (.v 5) (.k (.int 2))) (.cons (.set (.n 3) (.bin .Add (.rev (.v 3)) (.v 3))) .nil) .nil) (.cons (.ret (.tup (.cons (.v 3) (.cons (.bin .Add (.v 3) (.bi .tuple (.cons (.comp (.v 4) (.n 4) (.r1 (.v 1)) (.yes (.cmp .Eq (.sub (.v 2) (.v 4)) (.k (.int 1)))) [4]) .nil))) .nil)))) .nil)))))))
/-- number 15 -/
def F__law_kept : Fn := ⟨2, 6, [], b__law_kept, false⟩
def b__law_written : Ss := (.cons (.ifS (.cmp .In (.sub (.v 0) (.k (.int 0))) (.lst (.cons (.k (.str "add")) (.cons (.k (.str "sub")) (.cons (.k (.str "mul")) .nil))))) (.cons (.ret (.lst (.cons (.sub (.v 0) (.k (.int 1))) (.cons (.sub (.v 0) (.k (.int 2))) .nil)))) .nil) .nil) (.cons (.ret (.lst (.cons (.sub (.v 0) (.k (.int 1))) .nil))) .nil))
/-- number 16 -/
def F__law_written : Fn := ⟨1, 1, [], b__law_written, false⟩
def b__law_reads : Ss := (.cons (.ret (.and (.cmp .NotEq (.sub (.v 0) (.k (.int 0))) (.k (.str "put"))) (.cmp .In (.v 1) (.sli (.v 0) (.yes (.k (.int 2))) .no)))) .nil)
/-- number 17 -/
def F__law_reads : Fn := ⟨2, 2, [], b__law_reads, false⟩
def b__law_matters_0 : Ss := (.cons (.ifS (.and (.sub (.v 1) (.v 5)) (.call 17 (.cons (.sub (.v 0) (.v 5)) (.cons (.v 3) .nil)))) (.cons (.ret (.k (.bool true))) .nil) .nil) (.cons (.ifS (.and (.sub (.v 1) (.v 5)) (.cmp .In (.v 3) (.call 16 (.cons (.sub (.v 0) (.v 5)) .nil)))) (.cons (.ret (.k (.bool false))) .nil) .nil) .nil))
def b__law_matters : Ss := (.cons (.forS [2, 5] (.n 5) (.r2 (.bin .Add (.v 2) (.k (.int 1))) (.bi .len (.cons (.v 0) .nil))) b__law_matters_0) (.cons (.ret (.cmp .In (.v 3) (.v 4))) .nil))
/-- number 18 -/
def F__law_matters : Fn := ⟨5, 6, [], b__law_matters, false⟩
def b__law_lean_1 : Ss := (.cons (.ifS (.call 18 (.cons (.v 0) (.cons (.v 2) (.cons (.v 5) (.cons (.v 6) (.cons (.v 1) .nil)))))) (.cons (.setIx 2 (.v 5) (.k (.bool true))) .nil) .nil) .nil)
def b__law_lean_0 : Ss := (.cons (.set (.n 5) (.bin .Sub (.bin .Sub (.bi .len (.cons (.v 0) .nil)) (.k (.int 1))) (.v 4))) (.cons (.forS [3, 4, 6, 7] (.n 6) (.it (.call 16 (.cons (.sub (.v 0) (.v 5)) .nil))) b__law_lean_1) .nil))
def b__law_lean : Ss := (.cons (.set (.n 2) (.comp (.k (.bool false)) (.n 3) (.it (.v 0)) .no [3])) (.cons (.forS [3, 4, 5, 6, 7] (.n 4) (.r1 (.bi .len (.cons (.v 0) .nil))) b__law_lean_0) (.cons (.ret (.bi .tuple (.cons (.comp (.sub (.v 0) (.v 7)) (.n 7) (.r1 (.bi .len (.cons (.v 0) .nil))) (.yes (.sub (.v 2) (.v 7))) [7]) .nil))) .nil)))
/-- number 19 -/
def F__law_lean : Fn := ⟨2, 8, [], b__law_lean, false⟩
def b__law_word : Ss := (.cons (.ifS (.cmp .Eq (.v 0) (.k (.str "xor"))) (.cons (.ret (.bin .BitXor (.sub (.v 1) (.k (.int 0))) (.sub (.v 1) (.k (.int 1))))) .nil) .nil) (.cons (.ifS (.cmp .Eq (.v 0) (.k (.str "and"))) (.cons (.ret (.bin .BitAnd (.sub (.v 1) (.k (.int 0))) (.sub (.v 1) (.k (.int 1))))) .nil) .nil) (.cons (.ifS (.cmp .Eq (.v 0) (.k (.str "sign"))) (.cons (.ret (.ite (.cmp .GtE (.sub (.v 1) (.k (.int 0))) (.bin .FloorDiv (.v 2) (.k (.int 2)))) (.bin .Sub (.v 2) (.k (.int 1))) (.k (.int 0)))) .nil) .nil) (.cons (.ifS (.cmp .Eq (.v 0) (.k (.str "top"))) (.cons (.ret (.ite (.cmp .GtE (.sub (.v 1) (.k (.int 0))) (.bin .FloorDiv (.v 2) (.k (.int 2)))) (.k (.int 1)) (.k (.int 0)))) .nil) .nil) (.cons (.ifS (.cmp .Eq (.v 0) (.k (.str "pick"))) (.cons (.ret (.ite (.cmp .NotEq (.sub (.v 1) (.k (.int 0))) (.k (.int 0))) (.sub (.v 1) (.k (.int 1))) (.sub (.v 1) (.k (.int 2))))) .nil) .nil) (.cons (.ret (.sub (.v 1) (.k (.int 0)))) .nil))))))
/-- number 20 -/
def F__law_word : Fn := ⟨3, 3, [], b__law_word, false⟩
def b__law_run_0 : Ss := (.cons (.set (.n 5) (.sub (.v 4) (.k (.int 0)))) (.cons (.ifS (.cmp .Eq (.v 5) (.k (.str "put"))) (.cons (.setIx 3 (.sub (.v 4) (.k (.int 1))) (.sub (.v 4) (.k (.int 2)))) (.cons .ct .nil)) .nil) (.cons (.set (.n 6) (.comp (.sub (.v 3) (.v 7)) (.n 7) (.it (.sli (.v 4) (.yes (.k (.int 2))) .no)) .no [7])) (.cons (.ifS (.cmp .NotIn (.v 5) (.lst (.cons (.k (.str "add")) (.cons (.k (.str "sub")) (.cons (.k (.str "mul")) .nil))))) (.cons (.setIx 3 (.sub (.v 4) (.k (.int 1))) (.call 20 (.cons (.v 5) (.cons (.v 6) (.cons (.v 2) .nil))))) (.cons .ct .nil)) .nil) (.cons (.set (.n 8) (.ite (.cmp .NotEq (.sub (.v 6) (.k (.int 0))) (.k (.int 0))) (.k (.int 1)) (.k (.int 0)))) (.cons (.ifS (.cmp .Eq (.v 5) (.k (.str "mul"))) (.cons (.set (.n 9) (.bin .Add (.bin .Add (.bin .Mult (.sub (.v 6) (.k (.int 1))) (.sub (.v 6) (.k (.int 2)))) (.sub (.v 6) (.k (.int 3)))) (.sub (.v 6) (.k (.int 0))))) (.cons (.set (.n 8) (.bin .FloorDiv (.v 9) (.v 2))) .nil)) (.cons (.ifS (.cmp .Eq (.v 5) (.k (.str "add"))) (.cons (.set (.n 9) (.bin .Add (.bin .Add (.sub (.v 6) (.k (.int 1))) (.sub (.v 6) (.k (.int 2)))) (.v 8))) (.cons (.set (.n 8) (.ite (.cmp .GtE (.v 9) (.v 2)) (.k (.int 1)) (.k (.int 0)))) .nil)) (.cons (.set (.n 9) (.bin .Sub (.bin .Sub (.sub (.v 6) (.k (.int 1))) (.sub (.v 6) (.k (.int 2)))) (.v 8))) (.cons (.set (.n 8) (.ite (.cmp .Lt (.v 9) (.k (.int 0))) (.k (.int 1)) (.k (.int 0)))) .nil))) .nil)) (.cons (.setIx 3 (.sub (.v 4) (.k (.int 1))) (.bin .Mod (.bi .int (.cons (.v 9) .nil)) (.v 2))) (.cons (.setIx 3 (.sub (.v 4) (.k (.int 2))) (.v 8)) .nil))))))))
def b__law_run : Ss := (.cons (.set (.n 3) (.bi .list (.cons (.v 1) .nil))) (.cons (.forS [0, 1, 4, 5, 6, 7, 8, 9] (.n 4) (.it (.v 0)) b__law_run_0) (.cons (.ret (.v 3)) .nil)))
/-- number 21 -/
def F__law_run : Fn := ⟨3, 10, [], b__law_run, false⟩
def b_law_0 : Ss := (.cons (.set (.n 10) (.call 12 (.cons (.v 0) (.cons (.v 9) (.cons (.v 3) (.cons (.v 2) .nil)))))) (.cons (.set (.n 11) (.call 8 (.cons (.bi .tuple (.cons (.v 4) .nil)) (.cons (.bi .tuple (.cons (.v 10) .nil)) (.cons (.v 1) .nil))))) (.cons (.set (.n 12) (.call 8 (.cons (.v 8) (.cons (.bi .tuple (.cons (.v 10) .nil)) (.cons (.v 1) .nil))))) (.cons (.ifS (.or (.cmp .NotEq (.v 11) (.bi .tuple (.cons (.call 21 (.cons (.v 4) (.cons (.v 10) (.cons (.v 2) .nil)))) .nil))) (.cmp .NotEq (.v 12) (.bi .tuple (.cons (.call 21 (.cons (.v 7) (.cons (.v 10) (.cons (.v 2) .nil)))) .nil)))) (.cons (.ret (.k (.bool false))) .nil) .nil) (.cons (.ifS (.cmp .NotEq (.comp (.sub (.v 11) (.v 13)) (.n 13) (.it (.v 5)) .no [13]) (.comp (.sub (.v 12) (.v 13)) (.n 13) (.it (.v 5)) .no [13])) (.cons (.ret (.k (.bool false))) .nil) .nil) .nil)))))
def b_law : Ss := (.cons (.set (.n 1) (.bin .Add (.k (.int 8)) (.call 11 (.cons (.v 0) (.cons (.k (.int 0)) (.cons (.k (.int 9)) .nil)))))) (.cons (.set (.n 2) (.bin .LShift (.k (.int 1)) (.v 1))) (.cons (.set (.n 3) (.bin .Add (.k (.int 2)) (.call 11 (.cons (.v 0) (.cons (.k (.int 1)) (.cons (.k (.int 11)) .nil)))))) (.cons (.set (.n 4) (.call 14 (.cons (.v 0) (.cons (.k (.int 9)) (.cons (.call 11 (.cons (.v 0) (.cons (.k (.int 4)) (.cons (.k (.int 30)) .nil)))) (.cons (.v 3) (.cons (.v 2) .nil))))))) (.cons (.ifS (.cmp .Eq (.call 11 (.cons (.v 0) (.cons (.k (.int 5)) (.cons (.k (.int 16)) .nil)))) (.k (.int 0))) (.cons (.set (.n 4) (.bin .Mult (.v 4) (.k (.int 4)))) .nil) .nil) (.cons (.set (.tup [5, 6]) (.call 15 (.cons (.v 0) (.cons (.v 3) .nil)))) (.cons (.set (.n 7) (.call 19 (.cons (.v 4) (.cons (.v 5) .nil)))) (.cons (.set (.n 8) (.call 3 (.cons (.bi .tuple (.cons (.v 4) .nil)) (.cons (.v 5) .nil)))) (.cons (.ifS (.or (.not (.isi (.v 8) [.b "tuple"])) (.cmp .NotEq (.v 8) (.v 7))) (.cons (.ret (.k (.bool false))) .nil) .nil) (.cons (.ifS (.or (.cmp .NotEq (.call 3 (.cons (.v 8) (.cons (.v 5) .nil))) (.v 7)) (.cmp .NotEq (.call 3 (.cons (.call 3 (.cons (.bi .tuple (.cons (.v 4) .nil)) (.cons (.v 6) .nil))) (.cons (.v 5) .nil))) (.v 7))) (.cons (.ret (.k (.bool false))) .nil) .nil) (.cons (.forS [6, 9, 10, 11, 12, 13] (.n 9) (.it (.lst (.cons (.k (.int 3)) (.cons (.k (.int 17)) .nil)))) b_law_0) (.cons (.ret (.k (.bool true))) .nil))))))))))))
/-- number 22 -/
def F_law : Fn := ⟨1, 14, [], b_law, false⟩
end Mp

/-! the core text of k43, printed by mp.py: the defs that no earlier law has -/
namespace Mp
open PySem PySem.Spec PyProof.Rows L2
def b_straight_sum_0 : Ss := (.cons (.set (.n 8) (.bin .FloorDiv (.v 2) (.v 3))) (.cons (.par [2, 3] (.cons (.v 3) (.cons (.bin .Sub (.v 2) (.bin .Mult (.v 8) (.v 3))) .nil))) (.cons (.par [4, 5] (.cons (.v 5) (.cons (.bin .Sub (.v 4) (.bin .Mult (.v 8) (.v 5))) .nil))) (.cons (.par [6, 7] (.cons (.v 7) (.cons (.bin .Sub (.v 6) (.bin .Mult (.v 8) (.v 7))) .nil))) .nil))))
def b_straight_sum : Ss := (.cons (.par [2, 3] (.cons (.v 0) (.cons (.v 1) .nil))) (.cons (.set (.tup [4, 5]) (.tup (.cons (.k (.int 1)) (.cons (.k (.int 0)) .nil)))) (.cons (.set (.tup [6, 7]) (.tup (.cons (.k (.int 0)) (.cons (.k (.int 1)) .nil)))) (.cons (.wh [0, 1, 8] (.cmp .NotEq (.v 3) (.k (.int 0))) b_straight_sum_0) (.cons (.ifS (.cmp .Lt (.v 2) (.k (.int 0))) (.cons (.ret (.tup (.cons (.neg (.v 2)) (.cons (.neg (.v 4)) (.cons (.neg (.v 6)) .nil))))) .nil) .nil) (.cons (.ret (.tup (.cons (.v 2) (.cons (.v 4) (.cons (.v 6) .nil))))) .nil))))))
/-- number 107 -/
def F_straight_sum : Fn := ⟨2, 9, [], b_straight_sum, false⟩
def b_divisor_of : Ss := (.cons (.ret (.sub (.call 107 (.cons (.v 0) (.cons (.v 1) .nil))) (.k (.int 0)))) .nil)
/-- number 108 -/
def F_divisor_of : Fn := ⟨2, 2, [], b_divisor_of, false⟩
def b_divisor_of_all_0 : Ss := (.cons (.set (.n 1) (.call 108 (.cons (.v 1) (.cons (.v 2) .nil)))) .nil)
def b_divisor_of_all : Ss := (.cons (.set (.n 1) (.k (.int 0))) (.cons (.forS [0, 2] (.n 2) (.it (.v 0)) b_divisor_of_all_0) (.cons (.ret (.v 1)) .nil)))
/-- number 109 -/
def F_divisor_of_all : Fn := ⟨1, 3, [], b_divisor_of_all, false⟩
def b_trimmed_0 : Ss := (.cons (.set (.n 1) (.bin .Sub (.v 1) (.k (.int 1)))) .nil)
def b_trimmed : Ss := (.cons (.set (.n 1) (.bi .len (.cons (.v 0) .nil))) (.cons (.wh [] (.and (.cmp .Gt (.v 1) (.k (.int 0))) (.cmp .Eq (.sub (.v 0) (.bin .Sub (.v 1) (.k (.int 1)))) (.k (.int 0)))) b_trimmed_0) (.cons (.ret (.bi .tuple (.cons (.sli (.v 0) .no (.yes (.v 1))) .nil))) .nil)))
/-- number 110 -/
def F_trimmed : Fn := ⟨1, 2, [], b_trimmed, false⟩
def b_coefficient : Ss := (.cons (.ifS (.cmp .Lt (.v 1) (.bi .len (.cons (.v 0) .nil))) (.cons (.ret (.sub (.v 0) (.v 1))) .nil) .nil) (.cons (.ret (.k (.int 0))) .nil))
/-- number 111 -/
def F_coefficient : Fn := ⟨2, 2, [], b_coefficient, false⟩
def b_difference_of_polys : Ss := (.cons (.set (.n 2) (.bi .max (.cons (.bi .len (.cons (.v 0) .nil)) (.cons (.bi .len (.cons (.v 1) .nil)) .nil)))) (.cons (.ret (.call 110 (.cons (.comp (.bin .Sub (.call 111 (.cons (.v 0) (.cons (.v 3) .nil))) (.call 111 (.cons (.v 1) (.cons (.v 3) .nil)))) (.n 3) (.r1 (.v 2)) .no [3]) .nil))) .nil))
/-- number 112 -/
def F_difference_of_polys : Fn := ⟨2, 4, [], b_difference_of_polys, false⟩
def b_product_of_polys_1 : Ss := (.cons (.setIx 2 (.bin .Add (.v 3) (.v 5)) (.bin .Add (.sub (.v 2) (.bin .Add (.v 3) (.v 5))) (.bin .Mult (.v 4) (.v 6)))) .nil)
def b_product_of_polys_0 : Ss := (.cons (.forS [0, 5, 6] (.tup [5, 6]) (.enum (.v 1)) b_product_of_polys_1) .nil)
def b_product_of_polys : Ss := (.cons (.ifS (.or (.cmp .Eq (.bi .len (.cons (.v 0) .nil)) (.k (.int 0))) (.cmp .Eq (.bi .len (.cons (.v 1) .nil)) (.k (.int 0)))) (.cons (.ret (.tup .nil)) .nil) .nil) (.cons (.set (.n 2) (.bin .Mult (.lst (.cons (.k (.int 0)) .nil)) (.bin .Sub (.bin .Add (.bi .len (.cons (.v 0) .nil)) (.bi .len (.cons (.v 1) .nil))) (.k (.int 1))))) (.cons (.forS [0, 3, 4, 5, 6] (.tup [3, 4]) (.enum (.v 0)) b_product_of_polys_0) (.cons (.ret (.call 110 (.cons (.v 2) .nil))) .nil))))
/-- number 113 -/
def F_product_of_polys : Fn := ⟨2, 7, [], b_product_of_polys, false⟩
def b_scaled_poly : Ss := (.cons (.ret (.call 110 (.cons (.comp (.bin .Mult (.v 2) (.v 1)) (.n 2) (.it (.v 0)) .no [2]) .nil))) .nil)
/-- number 114 -/
def F_scaled_poly : Fn := ⟨2, 3, [], b_scaled_poly, false⟩
def b_derivative : Ss := (.cons (.ret (.call 110 (.cons (.sli (.comp (.bin .Mult (.v 1) (.v 2)) (.tup [1, 2]) (.enum (.v 0)) .no [1, 2]) (.yes (.k (.int 1))) .no) .nil))) .nil)
/-- number 115 -/
def F_derivative : Fn := ⟨1, 3, [], b_derivative, false⟩
def b_value_of_0 : Ss := (.cons (.set (.n 2) (.bin .Add (.bin .Mult (.v 2) (.v 1)) (.v 3))) .nil)
def b_value_of : Ss := (.cons (.set (.n 2) (.k (.int 0))) (.cons (.forS [0, 3] (.n 3) (.rev (.bi .list (.cons (.v 0) .nil))) b_value_of_0) (.cons (.ret (.v 2)) .nil)))
/-- number 116 -/
def F_value_of : Fn := ⟨2, 4, [], b_value_of, false⟩
def b_top_value_0 : Ss := (.cons (.set (.n 2) (.bin .Add (.bin .Mult (.v 2) (.sub (.v 1) (.k (.int 0)))) (.bin .Mult (.v 4) (.v 3)))) (.cons (.set (.n 3) (.bin .Mult (.v 3) (.sub (.v 1) (.k (.int 1))))) .nil))
def b_top_value : Ss := (.cons (.set (.n 2) (.k (.int 0))) (.cons (.set (.n 3) (.k (.int 1))) (.cons (.forS [0, 4] (.n 4) (.rev (.bi .list (.cons (.v 0) .nil))) b_top_value_0) (.cons (.ret (.v 2)) .nil))))
/-- number 117 -/
def F_top_value : Fn := ⟨2, 5, [], b_top_value, false⟩
def b_content : Ss := (.cons (.ret (.call 109 (.cons (.v 0) .nil))) .nil)
/-- number 118 -/
def F_content : Fn := ⟨1, 1, [], b_content, false⟩
def b_primitive : Ss := (.cons (.ifS (.cmp .Eq (.bi .len (.cons (.v 0) .nil)) (.k (.int 0))) (.cons (.ret (.tup .nil)) .nil) .nil) (.cons (.set (.n 1) (.call 118 (.cons (.v 0) .nil))) (.cons (.ifS (.cmp .Lt (.sub (.v 0) (.neg (.k (.int 1)))) (.k (.int 0))) (.cons (.set (.n 1) (.neg (.v 1))) .nil) .nil) (.cons (.ret (.bi .tuple (.cons (.comp (.bin .FloorDiv (.v 2) (.v 1)) (.n 2) (.it (.v 0)) .no [2]) .nil))) .nil))))
/-- number 119 -/
def F_primitive : Fn := ⟨1, 3, [], b_primitive, false⟩
def b_exact_quotient_1 : Ss := (.cons (.setIx 2 (.bin .Add (.v 4) (.v 7)) (.bin .Sub (.sub (.v 2) (.bin .Add (.v 4) (.v 7))) (.bin .Mult (.v 6) (.v 8)))) .nil)
def b_exact_quotient_0 : Ss := (.cons (.set (.n 5) (.sub (.v 2) (.bin .Sub (.bin .Add (.v 4) (.bi .len (.cons (.v 1) .nil))) (.k (.int 1))))) (.cons (.ifS (.cmp .NotEq (.bin .Mod (.v 5) (.sub (.v 1) (.neg (.k (.int 1))))) (.k (.int 0))) (.cons (.ret (.k .none)) .nil) .nil) (.cons (.set (.n 6) (.bin .FloorDiv (.v 5) (.sub (.v 1) (.neg (.k (.int 1)))))) (.cons (.setIx 3 (.v 4) (.v 6)) (.cons (.forS [0, 5, 7, 8] (.tup [7, 8]) (.enum (.v 1)) b_exact_quotient_1) .nil)))))
def b_exact_quotient : Ss := (.cons (.set (.n 2) (.bi .list (.cons (.v 0) .nil))) (.cons (.set (.n 3) (.bin .Mult (.lst (.cons (.k (.int 0)) .nil)) (.bi .max (.cons (.bin .Add (.bin .Sub (.bi .len (.cons (.v 0) .nil)) (.bi .len (.cons (.v 1) .nil))) (.k (.int 1))) (.cons (.k (.int 0)) .nil))))) (.cons (.forS [0, 4, 5, 6, 7, 8] (.n 4) (.rr1 (.bi .len (.cons (.v 3) .nil))) b_exact_quotient_0) (.cons (.ifS (.bi .any (.cons (.comp (.cmp .NotEq (.v 8) (.k (.int 0))) (.n 8) (.it (.v 2)) .no [8]) .nil)) (.cons (.ret (.k .none)) .nil) .nil) (.cons (.ret (.call 110 (.cons (.v 3) .nil))) .nil)))))
/-- number 120 -/
def F_exact_quotient : Fn := ⟨2, 9, [], b_exact_quotient, false⟩
def b_pseudo_division_1 : Ss := (.cons (.setIx 2 (.bin .Add (.v 8) (.v 11)) (.bin .Sub (.sub (.v 2) (.bin .Add (.v 8) (.v 11))) (.bin .Mult (.bin .Mult (.v 6) (.v 9)) (.v 10)))) .nil)
def b_pseudo_division_0 : Ss := (.cons (.set (.n 9) (.sub (.v 2) (.bin .Sub (.bin .Add (.v 8) (.bi .len (.cons (.v 1) .nil))) (.k (.int 1))))) (.cons (.set (.n 2) (.comp (.bin .Mult (.v 10) (.v 5)) (.n 10) (.it (.v 2)) .no [10])) (.cons (.set (.n 4) (.comp (.bin .Mult (.v 10) (.v 5)) (.n 10) (.it (.v 4)) .no [10])) (.cons (.set (.n 7) (.bin .Mult (.v 7) (.v 5))) (.cons (.setIx 4 (.v 8) (.bin .Add (.sub (.v 4) (.v 8)) (.bin .Mult (.v 6) (.v 9)))) (.cons (.forS [0, 3, 10, 11] (.tup [11, 10]) (.enum (.v 1)) b_pseudo_division_1) .nil))))))
def b_pseudo_division : Ss := (.cons (.set (.n 2) (.bi .list (.cons (.v 0) .nil))) (.cons (.set (.n 3) (.bi .max (.cons (.bin .Add (.bin .Sub (.bi .len (.cons (.v 0) .nil)) (.bi .len (.cons (.v 1) .nil))) (.k (.int 1))) (.cons (.k (.int 0)) .nil)))) (.cons (.set (.n 4) (.bin .Mult (.lst (.cons (.k (.int 0)) .nil)) (.v 3))) (.cons (.set (.n 5) (.bi .abs (.cons (.sub (.v 1) (.neg (.k (.int 1)))) .nil))) (.cons (.set (.n 6) (.ite (.cmp .Gt (.sub (.v 1) (.neg (.k (.int 1)))) (.k (.int 0))) (.k (.int 1)) (.neg (.k (.int 1))))) (.cons (.set (.n 7) (.k (.int 1))) (.cons (.forS [0, 3, 8, 9, 10, 11] (.n 8) (.rr1 (.v 3)) b_pseudo_division_0) (.cons (.ret (.tup (.cons (.v 7) (.cons (.call 110 (.cons (.v 4) .nil)) (.cons (.call 110 (.cons (.v 2) .nil)) .nil))))) .nil))))))))
/-- number 121 -/
def F_pseudo_division : Fn := ⟨2, 12, [], b_pseudo_division, false⟩
def b_divided_by : Ss := (.cons (.ret (.bi .tuple (.cons (.comp (.bin .FloorDiv (.v 2) (.v 1)) (.n 2) (.it (.v 0)) .no [2]) .nil))) .nil)
/-- number 122 -/
def F_divided_by : Fn := ⟨2, 3, [], b_divided_by, false⟩
def b_next_row_0 : Ss := (.cons (.set (.n 7) (.call 114 (.cons (.sub (.v 0) (.v 6)) (.cons (.v 2) .nil)))) (.cons (.app 5 (.call 112 (.cons (.v 7) (.cons (.call 113 (.cons (.v 3) (.cons (.sub (.v 1) (.v 6)) .nil))) .nil)))) .nil))
def b_next_row : Ss := (.cons (.set (.tup [2, 3, 4]) (.call 121 (.cons (.sub (.v 0) (.k (.int 0))) (.cons (.sub (.v 1) (.k (.int 0))) .nil)))) (.cons (.set (.n 5) (.lst (.cons (.v 4) .nil))) (.cons (.forS [4, 6, 7, 8, 9] (.n 6) (.it (.tup (.cons (.k (.int 1)) (.cons (.k (.int 2)) .nil)))) b_next_row_0) (.cons (.set (.n 8) (.call 108 (.cons (.call 108 (.cons (.call 118 (.cons (.sub (.v 5) (.k (.int 0))) .nil)) (.cons (.call 118 (.cons (.sub (.v 5) (.k (.int 1))) .nil)) .nil))) (.cons (.call 118 (.cons (.sub (.v 5) (.k (.int 2))) .nil)) .nil)))) (.cons (.ifS (.cmp .Gt (.v 8) (.k (.int 1))) (.cons (.set (.n 5) (.comp (.call 122 (.cons (.v 9) (.cons (.v 8) .nil))) (.n 9) (.it (.v 5)) .no [9])) .nil) .nil) (.cons (.ret (.bi .tuple (.cons (.v 5) .nil))) .nil))))))
/-- number 123 -/
def F_next_row : Fn := ⟨2, 10, [], b_next_row, false⟩
def b_straight_poly_sum_0 : Ss := (.cons (.par [2, 3] (.cons (.v 3) (.cons (.call 123 (.cons (.v 2) (.cons (.v 3) .nil))) .nil))) .nil)
def b_straight_poly_sum : Ss := (.cons (.set (.n 2) (.tup (.cons (.v 0) (.cons (.tup (.cons (.k (.int 1)) .nil)) (.cons (.tup .nil) .nil))))) (.cons (.set (.n 3) (.tup (.cons (.v 1) (.cons (.tup .nil) (.cons (.tup (.cons (.k (.int 1)) .nil)) .nil))))) (.cons (.wh [0, 1] (.cmp .Gt (.bi .len (.cons (.sub (.v 3) (.k (.int 0))) .nil)) (.k (.int 0))) b_straight_poly_sum_0) (.cons (.ret (.v 2)) .nil))))
/-- number 124 -/
def F_straight_poly_sum : Fn := ⟨2, 4, [], b_straight_poly_sum, false⟩
def b_common_divisor : Ss := (.cons (.ret (.call 119 (.cons (.sub (.call 124 (.cons (.v 0) (.cons (.v 1) .nil))) (.k (.int 0))) .nil))) .nil)
/-- number 125 -/
def F_common_divisor : Fn := ⟨2, 2, [], b_common_divisor, false⟩
def b_squarefree_part : Ss := (.cons (.ifS (.cmp .Eq (.bi .len (.cons (.v 0) .nil)) (.k (.int 1))) (.cons (.ret (.tup (.cons (.k (.int 1)) .nil))) .nil) .nil) (.cons (.ret (.call 120 (.cons (.call 119 (.cons (.v 0) .nil)) (.cons (.call 125 (.cons (.v 0) (.cons (.call 115 (.cons (.v 0) .nil)) .nil))) .nil)))) .nil))
/-- number 126 -/
def F_squarefree_part : Fn := ⟨1, 1, [], b_squarefree_part, false⟩
def b__law_poly_0 : Ss := (.cons (.ifS (.and (.cmp .Gt (.bi .len (.cons (.v 4) .nil)) (.k (.int 0))) (.cmp .Eq (.sub (.v 4) (.neg (.k (.int 1)))) (.k (.int 0)))) (.cons (.set (.n 4) (.sli (.v 4) .no (.yes (.neg (.k (.int 1)))))) .nil) .nil) .nil)
def b__law_poly : Ss := (.cons (.set (.n 4) (.comp (.bin .Sub (.v 5) (.v 3)) (.n 5) (.it (.call 10 (.cons (.v 0) (.cons (.v 1) (.cons (.bin .Add (.v 2) (.k (.int 1))) (.cons (.bin .Add (.bin .Mult (.k (.int 2)) (.v 3)) (.k (.int 1))) .nil)))))) .no [5])) (.cons (.forS [0, 1, 2, 3, 5, 6] (.n 6) (.r1 (.bin .Add (.v 2) (.k (.int 1)))) b__law_poly_0) (.cons (.ret (.bi .tuple (.cons (.v 4) .nil))) .nil)))
/-- number 127 -/
def F__law_poly : Fn := ⟨4, 7, [], b__law_poly, false⟩
def b__law_divisor_0 : Ss := (.cons (.par [2, 3] (.cons (.v 3) (.cons (.bin .Mod (.bi .int (.cons (.v 2) .nil)) (.v 3)) .nil))) .nil)
def b__law_divisor : Ss := (.cons (.par [2, 3] (.cons (.bi .abs (.cons (.v 0) .nil)) (.cons (.bi .abs (.cons (.v 1) .nil)) .nil))) (.cons (.wh [0, 1] (.cmp .Gt (.v 3) (.k (.int 0))) b__law_divisor_0) (.cons (.ret (.v 2)) .nil)))
/-- number 128 -/
def F__law_divisor : Fn := ⟨2, 4, [], b__law_divisor, false⟩
def b__law_power_0 : Ss := (.cons (.set (.n 2) (.bin .Mult (.v 2) (.v 0))) .nil)
def b__law_power : Ss := (.cons (.set (.n 2) (.k (.int 1))) (.cons (.forS [1, 3] (.n 3) (.r1 (.v 1)) b__law_power_0) (.cons (.ret (.v 2)) .nil)))
/-- number 129 -/
def F__law_power : Fn := ⟨2, 4, [], b__law_power, false⟩
def b__law_times_1 : Ss := (.cons (.setIx 2 (.bin .Add (.v 4) (.v 5)) (.bin .Add (.sub (.v 2) (.bin .Add (.v 4) (.v 5))) (.bin .Mult (.sub (.v 0) (.v 4)) (.sub (.v 1) (.v 5))))) .nil)
def b__law_times_0 : Ss := (.cons (.forS [3, 5] (.n 5) (.r1 (.bi .len (.cons (.v 1) .nil))) b__law_times_1) .nil)
def b__law_times : Ss := (.cons (.ifS (.or (.cmp .Eq (.bi .len (.cons (.v 0) .nil)) (.k (.int 0))) (.cmp .Eq (.bi .len (.cons (.v 1) .nil)) (.k (.int 0)))) (.cons (.ret (.tup .nil)) .nil) .nil) (.cons (.set (.n 2) (.comp (.k (.int 0)) (.n 3) (.r1 (.bin .Sub (.bin .Add (.bi .len (.cons (.v 0) .nil)) (.bi .len (.cons (.v 1) .nil))) (.k (.int 1)))) .no [3])) (.cons (.forS [3, 4, 5] (.n 4) (.r1 (.bi .len (.cons (.v 0) .nil))) b__law_times_0) (.cons (.ret (.bi .tuple (.cons (.v 2) .nil))) .nil))))
/-- number 130 -/
def F__law_times : Fn := ⟨2, 6, [], b__law_times, false⟩
def b__law_plus_0 : Ss := (.cons (.ifS (.and (.cmp .Gt (.bi .len (.cons (.v 3) .nil)) (.k (.int 0))) (.cmp .Eq (.sub (.v 3) (.neg (.k (.int 1)))) (.k (.int 0)))) (.cons (.set (.n 3) (.sli (.v 3) .no (.yes (.neg (.k (.int 1)))))) .nil) .nil) .nil)
def b__law_plus_1 : Ss := (.cons (.setIx 3 (.v 4) (.bin .Add (.sub (.v 3) (.v 4)) (.bin .Mult (.v 2) (.sub (.v 1) (.v 4))))) .nil)
def b__law_plus_2 : Ss := (.cons (.setIx 3 (.v 4) (.bin .Add (.sub (.v 3) (.v 4)) (.sub (.v 0) (.v 4)))) .nil)
def b__law_plus : Ss := (.cons (.set (.n 3) (.comp (.k (.int 0)) (.n 4) (.r1 (.bi .max (.cons (.bi .len (.cons (.v 0) .nil)) (.cons (.bi .len (.cons (.v 1) .nil)) .nil)))) .no [4])) (.cons (.forS [4] (.n 4) (.r1 (.bi .len (.cons (.v 0) .nil))) b__law_plus_2) (.cons (.forS [0, 4] (.n 4) (.r1 (.bi .len (.cons (.v 1) .nil))) b__law_plus_1) (.cons (.forS [0, 1, 2, 4] (.n 4) (.r1 (.bi .len (.cons (.v 3) .nil))) b__law_plus_0) (.cons (.ret (.bi .tuple (.cons (.v 3) .nil))) .nil)))))
/-- number 131 -/
def F__law_plus : Fn := ⟨3, 5, [], b__law_plus, false⟩
def b__law_scaled : Ss := (.cons (.ret (.bi .tuple (.cons (.comp (.bin .Mult (.v 2) (.v 1)) (.n 2) (.it (.v 0)) .no [2]) .nil))) .nil)
/-- number 132 -/
def F__law_scaled : Fn := ⟨2, 3, [], b__law_scaled, false⟩
def b__law_primitive_0 : Ss := (.cons (.set (.n 1) (.call 128 (.cons (.v 1) (.cons (.v 2) .nil)))) .nil)
def b__law_primitive : Ss := (.cons (.set (.n 1) (.k (.int 0))) (.cons (.forS [2] (.n 2) (.it (.v 0)) b__law_primitive_0) (.cons (.ifS (.cmp .Eq (.v 1) (.k (.int 0))) (.cons (.ret (.tup .nil)) .nil) .nil) (.cons (.ifS (.cmp .Lt (.sub (.v 0) (.neg (.k (.int 1)))) (.k (.int 0))) (.cons (.set (.n 1) (.neg (.v 1))) .nil) .nil) (.cons (.ret (.bi .tuple (.cons (.comp (.bin .FloorDiv (.v 2) (.v 1)) (.n 2) (.it (.v 0)) .no [2]) .nil))) .nil)))))
/-- number 133 -/
def F__law_primitive : Fn := ⟨1, 3, [], b__law_primitive, false⟩
def b__law_is_poly_0 : Ss := (.cons (.ifS (.or (.not (.isi (.v 1) [.b "int"])) (.isi (.v 1) [.b "bool"])) (.cons (.ret (.k (.bool false))) .nil) .nil) .nil)
def b__law_is_poly : Ss := (.cons (.ifS (.not (.isi (.v 0) [.b "tuple"])) (.cons (.ret (.k (.bool false))) .nil) .nil) (.cons (.forS [1] (.n 1) (.it (.v 0)) b__law_is_poly_0) (.cons (.ret (.or (.cmp .Eq (.bi .len (.cons (.v 0) .nil)) (.k (.int 0))) (.cmp .NotEq (.sub (.v 0) (.neg (.k (.int 1)))) (.k (.int 0))))) .nil)))
/-- number 134 -/
def F__law_is_poly : Fn := ⟨1, 2, [], b__law_is_poly, false⟩
def b__law_alike : Ss := (.cons (.ret (.and (.call 134 (.cons (.v 0) .nil)) (.cmp .Eq (.v 0) (.v 1)))) .nil)
/-- number 135 -/
def F__law_alike : Fn := ⟨2, 2, [], b__law_alike, false⟩
def b__law_division : Ss := (.cons (.set (.n 2) (.call 121 (.cons (.v 0) (.cons (.v 1) .nil)))) (.cons (.ifS (.or (.not (.isi (.v 2) [.b "tuple"])) (.cmp .NotEq (.bi .len (.cons (.v 2) .nil)) (.k (.int 3)))) (.cons (.ret (.k .none)) .nil) .nil) (.cons (.set (.tup [3, 4, 5]) (.v 2)) (.cons (.ifS (.or (.not (.call 134 (.cons (.tup (.cons (.v 3) .nil)) .nil))) (.or (.cmp .Lt (.v 3) (.k (.int 1))) (.or (.not (.call 134 (.cons (.v 4) .nil))) (.or (.not (.call 134 (.cons (.v 5) .nil))) (.cmp .GtE (.bi .len (.cons (.v 5) .nil)) (.bi .len (.cons (.v 1) .nil))))))) (.cons (.ret (.k .none)) .nil) .nil) (.cons (.ifS (.cmp .NotEq (.call 132 (.cons (.v 0) (.cons (.v 3) .nil))) (.call 131 (.cons (.call 130 (.cons (.v 4) (.cons (.v 1) .nil))) (.cons (.v 5) (.cons (.k (.int 1)) .nil))))) (.cons (.ret (.k .none)) .nil) .nil) (.cons (.ret (.v 2)) .nil))))))
/-- number 136 -/
def F__law_division : Fn := ⟨2, 6, [], b__law_division, false⟩
def b__law_quotients_hold : Ss := (.cons (.set (.n 4) (.call 130 (.cons (.v 0) (.cons (.v 1) .nil)))) (.cons (.ifS (.or (.not (.call 135 (.cons (.call 113 (.cons (.v 0) (.cons (.v 1) .nil))) (.cons (.v 4) .nil)))) (.not (.call 135 (.cons (.call 113 (.cons (.v 1) (.cons (.v 0) .nil))) (.cons (.v 4) .nil))))) (.cons (.ret (.k (.bool false))) .nil) .nil) (.cons (.set (.n 5) (.call 131 (.cons (.v 4) (.cons (.v 2) (.cons (.k (.int 1)) .nil))))) (.cons (.set (.n 6) (.call 120 (.cons (.v 5) (.cons (.v 1) .nil)))) (.cons (.ifS (.cmp .Gt (.bi .len (.cons (.v 2) .nil)) (.k (.int 0))) (.cons (.ifS (.cmp .IsNot (.v 6) (.k .none)) (.cons (.ret (.k (.bool false))) .nil) .nil) .nil) (.cons (.ifS (.not (.call 135 (.cons (.v 6) (.cons (.v 0) .nil)))) (.cons (.ret (.k (.bool false))) .nil) .nil) .nil)) (.cons (.set (.n 7) (.call 136 (.cons (.v 5) (.cons (.v 1) .nil)))) (.cons (.ifS (.or (.cmp .Is (.v 7) (.k .none)) (.or (.cmp .NotEq (.sub (.v 7) (.k (.int 1))) (.call 132 (.cons (.v 0) (.cons (.sub (.v 7) (.k (.int 0))) .nil)))) (.cmp .NotEq (.sub (.v 7) (.k (.int 2))) (.call 132 (.cons (.v 2) (.cons (.sub (.v 7) (.k (.int 0))) .nil)))))) (.cons (.ret (.k (.bool false))) .nil) .nil) (.cons (.set (.n 8) (.call 132 (.cons (.v 1) (.cons (.v 3) .nil)))) (.cons (.ifS (.not (.call 135 (.cons (.call 120 (.cons (.call 132 (.cons (.v 4) (.cons (.v 3) .nil))) (.cons (.v 8) .nil))) (.cons (.v 0) .nil)))) (.cons (.ret (.k (.bool false))) .nil) .nil) (.cons (.set (.n 6) (.call 120 (.cons (.v 4) (.cons (.v 8) .nil)))) (.cons (.ifS (.cmp .Gt (.bi .len (.cons (.comp (.v 9) (.n 9) (.it (.v 0)) (.yes (.cmp .NotEq (.bin .Mod (.bi .int (.cons (.v 9) .nil)) (.bi .abs (.cons (.v 3) .nil))) (.k (.int 0)))) [9]) .nil)) (.k (.int 0))) (.cons (.ret (.cmp .Is (.v 6) (.k .none))) .nil) .nil) (.cons (.ret (.call 135 (.cons (.v 6) (.cons (.bi .tuple (.cons (.comp (.bin .FloorDiv (.v 9) (.v 3)) (.n 9) (.it (.v 0)) .no [9]) .nil)) .nil)))) .nil))))))))))))
/-- number 137 -/
def F__law_quotients_hold : Fn := ⟨4, 10, [], b__law_quotients_hold, false⟩
def b__law_values_hold : Ss := (.cons (.set (.n 4) (.bi .max (.cons (.bin .Sub (.bi .len (.cons (.v 0) .nil)) (.k (.int 1))) (.cons (.k (.int 0)) .nil)))) (.cons (.set (.n 5) (.bi .sum (.cons (.comp (.bin .Mult (.bin .Mult (.sub (.v 0) (.v 6)) (.call 129 (.cons (.v 2) (.cons (.v 6) .nil)))) (.call 129 (.cons (.v 3) (.cons (.bin .Sub (.v 4) (.v 6)) .nil)))) (.n 6) (.r1 (.bi .len (.cons (.v 0) .nil))) .no [6]) .nil))) (.cons (.ifS (.cmp .NotEq (.call 117 (.cons (.v 0) (.cons (.tup (.cons (.v 2) (.cons (.v 3) .nil))) .nil))) (.v 5)) (.cons (.ret (.k (.bool false))) .nil) .nil) (.cons (.ret (.cmp .Eq (.call 116 (.cons (.v 0) (.cons (.v 1) .nil))) (.bi .sum (.cons (.comp (.bin .Mult (.sub (.v 0) (.v 6)) (.call 129 (.cons (.v 1) (.cons (.v 6) .nil)))) (.n 6) (.r1 (.bi .len (.cons (.v 0) .nil))) .no [6]) .nil)))) .nil))))
/-- number 138 -/
def F__law_values_hold : Fn := ⟨4, 7, [], b__law_values_hold, false⟩
def b__law_pieces : Ss := (.cons (.set (.tup [2, 3, 4, 5]) (.call 10 (.cons (.v 0) (.cons (.v 1) (.cons (.k (.int 4)) (.cons (.k (.int 25)) .nil)))))) (.cons (.set (.n 6) (.call 133 (.cons (.tup (.cons (.bin .Sub (.v 2) (.k (.int 12))) (.cons (.bin .Add (.k (.int 1)) (.bin .Mod (.bi .int (.cons (.v 4) .nil)) (.k (.int 6)))) .nil))) .nil))) (.cons (.set (.n 7) (.call 133 (.cons (.tup (.cons (.bin .Sub (.v 3) (.k (.int 12))) (.cons (.bin .Add (.k (.int 1)) (.bin .Mod (.bi .int (.cons (.v 5) .nil)) (.k (.int 6)))) .nil))) .nil))) (.cons (.set (.tup [8, 9, 10, 11]) (.call 10 (.cons (.v 0) (.cons (.bin .Add (.v 1) (.k (.int 1))) (.cons (.k (.int 4)) (.cons (.k (.int 8)) .nil)))))) (.cons (.set (.n 12) (.tup (.cons (.bin .Add (.k (.int 3)) (.v 9)) (.cons (.bin .Sub (.bin .Mod (.bi .int (.cons (.v 8) .nil)) (.k (.int 7))) (.k (.int 3))) (.cons (.k (.int 1)) .nil))))) (.cons (.set (.n 13) (.tup (.cons (.neg (.sub (.lst (.cons (.k (.int 2)) (.cons (.k (.int 3)) (.cons (.k (.int 5)) (.cons (.k (.int 6)) (.cons (.k (.int 7)) (.cons (.k (.int 10)) (.cons (.k (.int 11)) (.cons (.k (.int 13)) .nil))))))))) (.v 10))) (.cons (.k (.int 0)) (.cons (.k (.int 1)) .nil))))) (.cons (.ifS (.cmp .Eq (.bin .Mod (.bi .int (.cons (.v 11) .nil)) (.k (.int 2))) (.k (.int 0))) (.cons (.set (.n 13) (.tup (.cons (.sub (.lst (.cons (.k (.int 2)) (.cons (.k (.int 3)) (.cons (.k (.int 4)) (.cons (.k (.int 5)) (.cons (.k (.int 6)) (.cons (.k (.int 7)) (.cons (.neg (.k (.int 2))) (.cons (.neg (.k (.int 5))) .nil))))))))) (.v 10)) (.cons (.k (.int 0)) (.cons (.k (.int 0)) (.cons (.k (.int 1)) .nil)))))) .nil) .nil) (.cons (.set (.n 14) (.call 10 (.cons (.v 0) (.cons (.bin .Add (.v 1) (.k (.int 2))) (.cons (.k (.int 4)) (.cons (.k (.int 12)) .nil)))))) (.cons (.ret (.lst (.cons (.tup (.cons (.v 6) (.cons (.bin .Mod (.bi .int (.cons (.sub (.v 14) (.k (.int 0))) .nil)) (.k (.int 4))) .nil))) (.cons (.tup (.cons (.v 7) (.cons (.bin .Mod (.bi .int (.cons (.sub (.v 14) (.k (.int 1))) .nil)) (.k (.int 3))) .nil))) (.cons (.tup (.cons (.v 12) (.cons (.sub (.lst (.cons (.k (.int 0)) (.cons (.k (.int 0)) (.cons (.k (.int 1)) (.cons (.k (.int 2)) .nil))))) (.bin .Mod (.bi .int (.cons (.sub (.v 14) (.k (.int 2))) .nil)) (.k (.int 4)))) .nil))) (.cons (.tup (.cons (.v 13) (.cons (.bin .Mod (.bi .int (.cons (.sub (.v 14) (.k (.int 3))) .nil)) (.k (.int 2))) .nil))) .nil)))))) .nil)))))))))
/-- number 139 -/
def F__law_pieces : Fn := ⟨2, 15, [], b__law_pieces, false⟩
def b__law_squares_hold_1 : Ss := (.cons (.set (.n 2) (.call 130 (.cons (.v 2) (.cons (.v 5) .nil)))) .nil)
def b__law_squares_hold_0 : Ss := (.cons (.forS [0, 1, 7] (.n 7) (.r1 (.v 6)) b__law_squares_hold_1) (.cons (.ifS (.and (.cmp .Gt (.v 6) (.k (.int 0))) (.cmp .NotIn (.v 5) (.v 4))) (.cons (.app 4 (.v 5)) (.cons (.set (.n 3) (.call 130 (.cons (.v 3) (.cons (.v 5) .nil)))) .nil)) .nil) .nil))
def b__law_squares_hold : Ss := (.cons (.set (.n 2) (.tup (.cons (.v 1) .nil))) (.cons (.set (.n 3) (.tup (.cons (.k (.int 1)) .nil))) (.cons (.set (.n 4) (.lst .nil)) (.cons (.forS [0, 1, 5, 6, 7] (.tup [5, 6]) (.it (.v 0)) b__law_squares_hold_0) (.cons (.ifS (.or (.not (.call 135 (.cons (.call 126 (.cons (.v 2) .nil)) (.cons (.v 3) .nil)))) (.not (.call 135 (.cons (.call 126 (.cons (.v 3) .nil)) (.cons (.v 3) .nil))))) (.cons (.ret (.k (.bool false))) .nil) .nil) (.cons (.ret (.call 135 (.cons (.call 119 (.cons (.v 2) .nil)) (.cons (.call 133 (.cons (.v 2) .nil)) .nil)))) .nil))))))
/-- number 140 -/
def F__law_squares_hold : Fn := ⟨2, 8, [], b__law_squares_hold, false⟩
def b_law__v6_0 : Ss := (.cons (.ifS (.not (.call 138 (.cons (.v 10) (.cons (.v 7) (.cons (.v 8) (.cons (.v 9) .nil)))))) (.cons (.ret (.k (.bool false))) .nil) .nil) .nil)
def b_law__v6 : Ss := (.cons (.set (.n 1) (.sub (.lst (.cons (.k (.int 1)) (.cons (.k (.int 3)) (.cons (.k (.int 9)) (.cons (.k (.int 9)) (.cons (.k (.int 99)) (.cons (.bin .Pow (.k (.int 10)) (.k (.int 8))) .nil))))))) (.call 11 (.cons (.v 0) (.cons (.k (.int 0)) (.cons (.k (.int 6)) .nil)))))) (.cons (.set (.n 2) (.call 127 (.cons (.v 0) (.cons (.k (.int 1)) (.cons (.sub (.lst (.cons (.k (.int 0)) (.cons (.k (.int 1)) (.cons (.k (.int 1)) (.cons (.k (.int 2)) (.cons (.k (.int 2)) (.cons (.k (.int 3)) (.cons (.k (.int 4)) (.cons (.k (.int 6)) .nil))))))))) (.call 11 (.cons (.v 0) (.cons (.k (.int 2)) (.cons (.k (.int 8)) .nil))))) (.cons (.v 1) .nil)))))) (.cons (.ifS (.cmp .Eq (.bi .len (.cons (.v 2) .nil)) (.k (.int 0))) (.cons (.set (.n 2) (.tup (.cons (.bin .Add (.k (.int 1)) (.call 11 (.cons (.v 0) (.cons (.k (.int 3)) (.cons (.v 1) .nil))))) .nil))) .nil) .nil) (.cons (.set (.n 3) (.call 127 (.cons (.v 0) (.cons (.k (.int 4)) (.cons (.sub (.lst (.cons (.k (.int 0)) (.cons (.k (.int 1)) (.cons (.k (.int 2)) (.cons (.k (.int 2)) (.cons (.k (.int 3)) (.cons (.k (.int 4)) .nil))))))) (.call 11 (.cons (.v 0) (.cons (.k (.int 5)) (.cons (.k (.int 6)) .nil))))) (.cons (.v 1) .nil)))))) (.cons (.set (.n 4) (.tup .nil)) (.cons (.ifS (.and (.cmp .Gt (.bi .len (.cons (.v 2) .nil)) (.k (.int 1))) (.cmp .Eq (.call 11 (.cons (.v 0) (.cons (.k (.int 6)) (.cons (.k (.int 2)) .nil)))) (.k (.int 0)))) (.cons (.set (.n 4) (.call 127 (.cons (.v 0) (.cons (.k (.int 7)) (.cons (.bin .Sub (.bi .len (.cons (.v 2) .nil)) (.k (.int 2))) (.cons (.v 1) .nil)))))) .nil) .nil) (.cons (.set (.n 5) (.bin .Add (.k (.int 1)) (.call 11 (.cons (.v 0) (.cons (.k (.int 8)) (.cons (.k (.int 9)) .nil)))))) (.cons (.ifS (.cmp .Eq (.call 11 (.cons (.v 0) (.cons (.k (.int 9)) (.cons (.k (.int 2)) .nil)))) (.k (.int 0))) (.cons (.set (.n 5) (.neg (.v 5))) .nil) .nil) (.cons (.ifS (.cmp .Eq (.call 11 (.cons (.v 0) (.cons (.k (.int 10)) (.cons (.k (.int 3)) .nil)))) (.k (.int 0))) (.cons (.set (.n 3) (.call 132 (.cons (.v 3) (.cons (.v 5) .nil)))) .nil) .nil) (.cons (.ifS (.not (.call 137 (.cons (.v 3) (.cons (.v 2) (.cons (.v 4) (.cons (.v 5) .nil)))))) (.cons (.ret (.k (.bool false))) .nil) .nil) (.cons (.set (.n 6) (.call 127 (.cons (.v 0) (.cons (.k (.int 11)) (.cons (.call 11 (.cons (.v 0) (.cons (.k (.int 12)) (.cons (.k (.int 7)) .nil)))) (.cons (.k (.int 999)) .nil)))))) (.cons (.ifS (.or (.cmp .Is (.call 136 (.cons (.v 6) (.cons (.v 2) .nil))) (.k .none)) (.not (.call 135 (.cons (.call 119 (.cons (.call 132 (.cons (.v 6) (.cons (.v 5) .nil))) .nil)) (.cons (.call 133 (.cons (.v 6) .nil)) .nil))))) (.cons (.ret (.k (.bool false))) .nil) .nil) (.cons (.set (.n 7) (.bin .Sub (.call 11 (.cons (.v 0) (.cons (.k (.int 13)) (.cons (.k (.int 199)) .nil)))) (.k (.int 99)))) (.cons (.set (.n 8) (.bin .Sub (.call 11 (.cons (.v 0) (.cons (.k (.int 14)) (.cons (.k (.int 199)) .nil)))) (.k (.int 99)))) (.cons (.set (.n 9) (.bin .Add (.k (.int 1)) (.call 11 (.cons (.v 0) (.cons (.k (.int 15)) (.cons (.k (.int 99)) .nil)))))) (.cons (.forS [1, 2, 3, 4, 6, 10] (.n 10) (.it (.tup (.cons (.v 6) (.cons (.v 2) (.cons (.v 3) (.cons (.tup .nil) .nil)))))) b_law__v6_0) (.cons (.ret (.and (.cmp .Eq (.call 119 (.cons (.tup .nil) .nil)) (.tup .nil)) (.call 140 (.cons (.call 139 (.cons (.v 0) (.cons (.k (.int 16)) .nil))) (.cons (.v 5) .nil))))) .nil)))))))))))))))))
/-- number 141 -/
def F_law__v6 : Fn := ⟨1, 11, [], b_law__v6, false⟩
end Mp

/-! MiniPy, part M: lemmas to reckon with. -/
namespace Mp
open PySem PySem.Spec PyProof.Rows L2
theorem nat_inj : ∀ {a b : List Char}, a.map Char.toNat = b.map Char.toNat → a = b
  | [], [], _ => rfl
  | [], _ :: _, h => by simp at h
  | _ :: _, [], h => by simp at h
  | x :: a, y :: b, h => by
    rw [List.map_cons, List.map_cons, List.cons.injEq] at h
    have e : x = y := Char.toNat_inj.mp h.1
    rw [e, nat_inj h.2]
@[simp] theorem ofStr_inj {a b : String} : (Str.ofString a = Str.ofString b) = (a = b) := by
  refine propext ⟨fun h => ?_, fun h => by rw [h]⟩
  rw [Str.ofString_eq_toList, Str.ofString_eq_toList] at h
  have h2 := congrArg (fun s : Str => s.cps.toList) h
  simp only at h2
  exact String.toList_inj.mp (nat_inj h2)
theorem ixN_nat {n j : Nat} (h : j < n) : ixN n (j : Int) = some j := by
  unfold ixN
  rw [if_pos (by omega), if_pos (by omega)]; simp
theorem atI_map {α β : Type} {f : α → β} {xs : List α} {j : Nat} {x : α} (h : xs[j]? = some x) : atI (xs.map f) (j : Int) = some (f x) := by
  unfold atI
  rw [ixN_nat (by rw [List.length_map]; exact (List.getElem?_eq_some_iff.mp h).1)]
  simp [h]
theorem atI_some {α : Type} {xs : List α} {j : Nat} {x : α} (h : xs[j]? = some x) : atI xs (j : Int) = some x := by
  unfold atI
  rw [ixN_nat (List.getElem?_eq_some_iff.mp h).1]
  simp [h]
@[simp] theorem atI_0 {α : Type} {x : α} {xs : List α} : atI (x :: xs) 0 = some x := atI_some (j := 0) rfl
@[simp] theorem atI_1 {α : Type} {x y : α} {xs : List α} : atI (x :: y :: xs) 1 = some y := atI_some (j := 1) rfl
@[simp] theorem atI_2 {α : Type} {x y z : α} {xs : List α} : atI (x :: y :: z :: xs) 2 = some z := atI_some (j := 2) rfl
@[simp] theorem atI_3 {α : Type} {x y z u : α} {xs : List α} : atI (x :: y :: z :: u :: xs) 3 = some u := atI_some (j := 3) rfl
@[simp] theorem atI_4 {α : Type} {x y z u v : α} {xs : List α} : atI (x :: y :: z :: u :: v :: xs) 4 = some v := atI_some (j := 4) rfl
@[simp] theorem atI_5 {α : Type} {x y z u v w : α} {xs : List α} : atI (x :: y :: z :: u :: v :: w :: xs) 5 = some w := atI_some (j := 5) rfl
@[simp] theorem atI_6 {α : Type} {a0 a1 a2 a3 a4 a5 a6 : α} {xs : List α} : atI (a0 :: a1 :: a2 :: a3 :: a4 :: a5 :: a6 :: xs) 6 = some a6 := atI_some (j := 6) rfl
@[simp] theorem atI_7 {α : Type} {a0 a1 a2 a3 a4 a5 a6 a7 : α} {xs : List α} : atI (a0 :: a1 :: a2 :: a3 :: a4 :: a5 :: a6 :: a7 :: xs) 7 = some a7 := atI_some (j := 7) rfl
@[simp] theorem atI_8 {α : Type} {a0 a1 a2 a3 a4 a5 a6 a7 a8 : α} {xs : List α} : atI (a0 :: a1 :: a2 :: a3 :: a4 :: a5 :: a6 :: a7 :: a8 :: xs) 8 = some a8 := atI_some (j := 8) rfl
@[simp] theorem atI_9 {α : Type} {a0 a1 a2 a3 a4 a5 a6 a7 a8 a9 : α} {xs : List α} : atI (a0 :: a1 :: a2 :: a3 :: a4 :: a5 :: a6 :: a7 :: a8 :: a9 :: xs) 9 = some a9 := atI_some (j := 9) rfl
@[simp] theorem atI_10 {α : Type} {a0 a1 a2 a3 a4 a5 a6 a7 a8 a9 a10 : α} {xs : List α} : atI (a0 :: a1 :: a2 :: a3 :: a4 :: a5 :: a6 :: a7 :: a8 :: a9 :: a10 :: xs) 10 = some a10 := atI_some (j := 10) rfl
@[simp] theorem atI_11 {α : Type} {a0 a1 a2 a3 a4 a5 a6 a7 a8 a9 a10 a11 : α} {xs : List α} : atI (a0 :: a1 :: a2 :: a3 :: a4 :: a5 :: a6 :: a7 :: a8 :: a9 :: a10 :: a11 :: xs) 11 = some a11 := atI_some (j := 11) rfl
@[simp] theorem atI_12 {α : Type} {a0 a1 a2 a3 a4 a5 a6 a7 a8 a9 a10 a11 a12 : α} {xs : List α} : atI (a0 :: a1 :: a2 :: a3 :: a4 :: a5 :: a6 :: a7 :: a8 :: a9 :: a10 :: a11 :: a12 :: xs) 12 = some a12 := atI_some (j := 12) rfl
/-! ### loops -/
/-- a loop that runs to its end -/
theorem forL_to {io dead : List Nat} {t : T} {body : Tau → Out} (P : Nat → Tau → Prop) : ∀ (ds : List D) (k : Nat) (τ : Tau), P k τ →
    (∀ (i : Nat) (d : D) (τ : Tau), ds[i]? = some d → P (k + i) τ → ∃ τ1, asg io false t d τ = some τ1 ∧ ∃ τ2, (body τ1 = .nx τ2 ∨ body τ1 = .ct τ2) ∧ P (k + i + 1) (wipeT τ2 dead)) →
    ∃ τ', forL io dead t body ds τ = .nx τ' ∧ P (k + ds.length) τ'
  | [], k, τ, h, _ => ⟨τ, rfl, h⟩
  | d :: ds, k, τ, h, st => by
    obtain ⟨τ1, h1, τ2, h2, h3⟩ := st 0 d τ rfl h
    obtain ⟨τ', h4, h5⟩ := forL_to P ds (k + 1) (wipeT τ2 dead) h3 fun i d' τ hd hp => by
      have := st (i + 1) d' τ hd (by rw [show k + (i + 1) = k + 1 + i by omega]; exact hp)
      rw [show k + (i + 1) + 1 = k + 1 + i + 1 by omega] at this
      exact this
    refine ⟨τ', ?_, by rw [List.length_cons, show k + (ds.length + 1) = k + 1 + ds.length by omega]; exact h5⟩
    unfold forL
    rw [h1]
    rcases h2 with h2 | h2
    · simp only [h2]; exact h4
    · simp only [h2]; exact h4
/-- one turn that goes on -/
def Turn (io dead : List Nat) (t : T) (body : Tau → Out) (d : D) (τ τ' : Tau) : Prop := ∃ τ1, asg io false t d τ = some τ1 ∧ ∃ τ2, (body τ1 = .nx τ2 ∨ body τ1 = .ct τ2) ∧ wipeT τ2 dead = τ'
theorem Turn.nx {io dead : List Nat} {t : T} {body : Tau → Out} {d : D} {τ τ' τ1 τ2 : Tau} (h : asg io false t d τ = some τ1) (h2 : body τ1 = .nx τ2) (h3 : wipeT τ2 dead = τ') : Turn io dead t body d τ τ' := ⟨τ1, h, τ2, .inl h2, h3⟩
theorem Turn.ct {io dead : List Nat} {t : T} {body : Tau → Out} {d : D} {τ τ' τ1 τ2 : Tau} (h : asg io false t d τ = some τ1) (h2 : body τ1 = .ct τ2) (h3 : wipeT τ2 dead = τ') : Turn io dead t body d τ τ' := ⟨τ1, h, τ2, .inr h2, h3⟩
/-- the state behind a turn that goes on -/
def Out.wp (dead : List Nat) : Out → Option Tau
  | .nx τ => some (wipeT τ dead)
  | .ct τ => some (wipeT τ dead)
  | _ => none
@[simp] theorem Out.wp_nx (dead : List Nat) (τ : Tau) : Out.wp dead (.nx τ) = some (wipeT τ dead) := rfl
@[simp] theorem Out.wp_ct (dead : List Nat) (τ : Tau) : Out.wp dead (.ct τ) = some (wipeT τ dead) := rfl
theorem Turn.of {io dead : List Nat} {t : T} {body : Tau → Out} {d : D} {τ τ' τ1 : Tau} (h : asg io false t d τ = some τ1) (h2 : Out.wp dead (body τ1) = some τ') : Turn io dead t body d τ τ' := by
  cases hb : body τ1 with
  | nx τ2 => rw [hb] at h2; exact ⟨τ1, h, τ2, .inl hb, Option.some.inj h2⟩
  | ct τ2 => rw [hb] at h2; exact ⟨τ1, h, τ2, .inr hb, Option.some.inj h2⟩
  | _ => rw [hb] at h2; cases h2
/-- a loop as a fold: the state is told by a datum -/
theorem forL_fold {io dead : List Nat} {t : T} {body : Tau → Out} {α β : Type} (S : α → Tau) (f : β → D) (step : α → β → α) (I : α → Prop) : ∀ (xs : List β) (a : α), I a →
    (∀ (a : α) (x : β), x ∈ xs → I a → Turn io dead t body (f x) (S a) (S (step a x)) ∧ I (step a x)) → forL io dead t body (xs.map f) (S a) = .nx (S (xs.foldl step a)) ∧ I (xs.foldl step a)
  | [], a, h, _ => ⟨rfl, h⟩
  | x :: xs, a, h, st => by
    obtain ⟨⟨τ1, h1, τ2, h2, h3⟩, h4⟩ := st a x (by simp) h
    have ih := forL_fold S f step I xs (step a x) h4 fun a y hy => st a y (List.mem_cons_of_mem _ hy)
    refine ⟨?_, ih.2⟩
    rw [List.map_cons]
    unfold forL
    rw [h1]
    rcases h2 with h2 | h2 <;> simp only [h2, h3] <;> exact ih.1
/-- a loop whose turns change nothing that is kept -/
theorem forL_same {io dead : List Nat} {t : T} {body : Tau → Out} {τ : Tau} : ∀ (ds : List D), (∀ d ∈ ds, Turn io dead t body d τ τ) → forL io dead t body ds τ = .nx τ
  | [], _ => rfl
  | d :: ds, st => by
    obtain ⟨τ1, h1, τ2, h2, h3⟩ := st d (by simp)
    have ih := forL_same ds fun d hd => st d (List.mem_cons_of_mem _ hd)
    unfold forL
    rw [h1]
    rcases h2 with h2 | h2 <;> simp only [h2, h3] <;> exact ih
/-- a loop, turn by turn: the state is told by the turn's number -/
theorem forL_ix {io dead : List Nat} {t : T} {body : Tau → Out} : ∀ (ds : List D) (S : Nat → Tau) (k : Nat),
    (∀ (i : Nat) (d : D), ds[i]? = some d → Turn io dead t body d (S (k + i)) (S (k + i + 1))) → forL io dead t body ds (S k) = .nx (S (k + ds.length))
  | [], S, k, _ => rfl
  | d :: ds, S, k, st => by
    obtain ⟨τ1, h1, τ2, h2, h3⟩ := st 0 d rfl
    rw [Nat.add_zero] at h1 h3
    have ih := forL_ix (io := io) (t := t) (body := body) (dead := dead) ds S (k + 1) fun i d' hd => by
      have := st (i + 1) d' hd
      rw [show k + (i + 1) = k + 1 + i by omega] at this
      exact this
    unfold forL
    rw [List.length_cons, show k + (ds.length + 1) = k + 1 + ds.length by omega, ← ih, h1]
    rcases h2 with h2 | h2 <;> simp only [h2, h3]
/-- a while loop, by a measure -/
theorem whL_to {dead : List Nat} {c : Tau → R Bool} {body : Tau → Out} {α : Type} (S : α → Tau) (m : α → Nat) (I : α → Prop) (b : α → Bool) (step : α → α)
    (hc : ∀ a, I a → c (S a) = .ok (b a)) (hb : ∀ a, I a → b a = true → (∃ τ2, (body (S a) = .nx τ2 ∨ body (S a) = .ct τ2) ∧ wipeT τ2 dead = S (step a)) ∧ I (step a) ∧ m (step a) < m a) :
    ∀ (n : Nat) (a : α), I a → m a < n → ∃ a', whL dead c body n (S a) = .nx (S a') ∧ I a' ∧ b a' = false
  | 0, a, _, h => absurd h (Nat.not_lt_zero _)
  | n + 1, a, h, hm => by
    cases hba : b a with
    | false =>
      refine ⟨a, ?_, h, hba⟩
      unfold whL
      rw [hc a h, hba]
    | true =>
      obtain ⟨⟨τ2, h1, h2⟩, h3, h4⟩ := hb a h hba
      obtain ⟨a', q1, q2, q3⟩ := whL_to S m I b step hc hb n (step a) h3 (by omega)
      refine ⟨a', ?_, q2, q3⟩
      unfold whL
      rw [hc a h, hba]
      rcases h1 with h1 | h1 <;> simp only [h1, h2] <;> exact q1
/-- a comprehension, exactly -/
theorem compL_eq {elt : Tau → R (D × List Nat)} {cond : Tau → R Bool} {t : T} {own : List Nat} {τw : Tau} {α : Type} {g : α → D} {f : α → D} {p : α → Bool} : ∀ (xs : List α),
    (∀ x ∈ xs, ∃ τ1, asg [] false t (g x) τw = some τ1 ∧ cond τ1 = .ok (p x) ∧ (p x = true → elt τ1 = .ok (f x, []))) → compL elt cond t own τw (xs.map g) = .ok ((xs.filter p).map f, [])
  | [], _ => rfl
  | x :: xs, h => by
    obtain ⟨τ1, h1, h2, h3⟩ := h x (by simp)
    have ih := compL_eq (own := own) xs fun y hy => h y (List.mem_cons_of_mem _ hy)
    rw [List.map_cons]
    unfold compL
    rw [h1]
    simp only [h2]
    cases hp : p x with
    | true => simp only [h3 hp, ih, List.filter_cons, hp, if_true, List.map_cons, List.append_nil]
    | false => simp only [ih, List.filter_cons, hp]; rfl
theorem filter_tt {α : Type} (xs : List α) : (xs.filter fun _ => true) = xs := by simp

/-! ### operations on what is known -/
@[simp] theorem bAdd (i j : Int) : binD .Add (.int i) (.int j) = some (.int (i + j)) := rfl
@[simp] theorem bSub (i j : Int) : binD .Sub (.int i) (.int j) = some (.int (i - j)) := rfl
@[simp] theorem bMul (i j : Int) : binD .Mult (.int i) (.int j) = if mulOk i j then some (.int (i * j)) else none := rfl
@[simp] theorem bDiv (i j : Int) : binD .FloorDiv (.int i) (.int j) = if divOk i j then some (.int (i / j)) else if j < 0 then some (.int (-i / -j)) else none := rfl
@[simp] theorem bMod (i j : Int) : binD .Mod (.int i) (.int j) = if 0 < j then some (.int (i % j)) else if j < 0 then some (.int (-(-i % -j))) else none := rfl
@[simp] theorem bPow (i j : Int) : binD .Pow (.int i) (.int j) = if powOk i j then some (.int (i ^ j.toNat)) else none := rfl
@[simp] theorem bShl (i j : Int) : binD .LShift (.int i) (.int j) = if shlOk i j then some (.int (i * 2 ^ j.toNat)) else none := rfl
@[simp] theorem bShr (i j : Int) : binD .RShift (.int i) (.int j) = if 0 ≤ j then some (.int (i / 2 ^ j.toNat)) else none := rfl
@[simp] theorem bXor (i j : Int) : binD .BitXor (.int i) (.int j) = some (.int (Builtin.bitXor i j)) := rfl
@[simp] theorem bAnd (i j : Int) : binD .BitAnd (.int i) (.int j) = some (.int (Builtin.bitAnd i j)) := rfl
@[simp] theorem bOr (i j : Int) : binD .BitOr (.int i) (.int j) = some (.int (Builtin.bitOr i j)) := rfl
@[simp] theorem bAddT (a b : List D) : binD .Add (.tuple a) (.tuple b) = if a.length + b.length ≤ sizeLine then some (.tuple (a ++ b)) else none := rfl
@[simp] theorem bAddL (a b : List D) : binD .Add (.list a) (.list b) = if a.length + b.length ≤ sizeLine then some (.list (a ++ b)) else none := rfl
@[simp] theorem bMulL (a : List D) (k : Int) : binD .Mult (.list a) (.int k) = if lmOk a.length k then some (.list (List.replicate k.toNat a).flatten) else none := rfl
@[simp] theorem cEq (x y : D) : cmpD .Eq x y = eqD x y := rfl
@[simp] theorem cNe (x y : D) : cmpD .NotEq x y = (eqD x y).map (!·) := rfl
@[simp] theorem cIn (x y : D) : cmpD .In x y = inD x y := rfl
@[simp] theorem cNi (x y : D) : cmpD .NotIn x y = (inD x y).map (!·) := rfl
@[simp] theorem cLt (i j : Int) : cmpD .Lt (.int i) (.int j) = some (decide (i < j)) := rfl
@[simp] theorem cLe (i j : Int) : cmpD .LtE (.int i) (.int j) = some (decide (i ≤ j)) := rfl
@[simp] theorem cGt (i j : Int) : cmpD .Gt (.int i) (.int j) = some (decide (j < i)) := rfl
@[simp] theorem cGe (i j : Int) : cmpD .GtE (.int i) (.int j) = some (decide (j ≤ i)) := rfl
@[simp] theorem cIs (x : D) : cmpD .Is x .none = some (isNone x) := rfl
@[simp] theorem cIsn (x : D) : cmpD .IsNot x .none = some (!isNone x) := rfl
@[simp] theorem eqI (i j : Int) : eqD (.int i) (.int j) = some (decide (i = j)) := rfl
@[simp] theorem eqS (i j : Str) : eqD (.str i) (.str j) = some (decide (i = j)) := rfl
@[simp] theorem eqB (i j : Bool) : eqD (.bool i) (.bool j) = some (decide (i = j)) := rfl
@[simp] theorem sL (ds : List D) (i : Int) : subD (.list ds) (.int i) = atI ds i := rfl
@[simp] theorem sT (ds : List D) (i : Int) : subD (.tuple ds) (.int i) = atI ds i := rfl
@[simp] theorem slL (ds : List D) (l h : Option Int) : sliD (.list ds) l h = some (.list (cutD ds l h)) := rfl
@[simp] theorem slT (ds : List D) (l h : Option Int) : sliD (.tuple ds) l h = some (.tuple (cutD ds l h)) := rfl
@[simp] theorem tB (b : Bool) : truD (.bool b) = some b := rfl
@[simp] theorem tI' (i : Int) : truD (.int i) = some (i != 0) := rfl
@[simp] theorem tL (ds : List D) : truD (.list ds) = some (!ds.isEmpty) := rfl
@[simp] theorem tT' (ds : List D) : truD (.tuple ds) = some (!ds.isEmpty) := rfl
@[simp] theorem lenL (xs : List D) : biD .len [.list xs] = some (.int xs.length) := rfl
@[simp] theorem lenT (xs : List D) : biD .len [.tuple xs] = some (.int xs.length) := rfl
@[simp] theorem intI (i : Int) : biD .int [.int i] = some (.int i) := rfl
@[simp] theorem absI (i : Int) : biD .abs [.int i] = some (.int (if i < 0 then -i else i)) := rfl
@[simp] theorem tupL (xs : List D) : biD .tuple [.list xs] = some (.tuple xs) := rfl
@[simp] theorem tupT (xs : List D) : biD .tuple [.tuple xs] = some (.tuple xs) := rfl
@[simp] theorem lstL (xs : List D) : biD .list [.list xs] = some (.list xs) := rfl
@[simp] theorem lstT (xs : List D) : biD .list [.tuple xs] = some (.list xs) := rfl
@[simp] theorem anyL (xs : List D) : biD .any [.list xs] = (boolsOf xs).map fun bs => .bool (bs.any id) := rfl
@[simp] theorem revL (xs : List D) : revD (.list xs) = some (.list xs.reverse) := rfl
@[simp] theorem revT (xs : List D) : revD (.tuple xs) = some (.tuple xs.reverse) := rfl
@[simp] theorem inL (x : D) (ds : List D) : inD x (.list ds) = if flatD x && ds.all flatD then some (ds.any fun d => PyData.eqv d x) else if SeqAt.shaped x && SeqAt.shaped (.list ds) then some (ds.any fun d => PyData.eqv d x) else none := rfl
@[simp] theorem inT (x : D) (ds : List D) : inD x (.tuple ds) = if flatD x && ds.all flatD then some (ds.any fun d => PyData.eqv d x) else none := rfl
@[simp] theorem inDc (x : D) (kds : List (D × D)) : inD x (.dict kds) = if isKey x then some (dGet x kds).isSome else none := rfl
@[simp] theorem fI (i : Int) : flatD (.int i) = true := rfl
@[simp] theorem fS (i : Str) : flatD (.str i) = true := rfl
@[simp] theorem fB (i : Bool) : flatD (.bool i) = true := rfl
@[simp] theorem fN : flatD .none = true := rfl
@[simp] theorem kI (i : Int) : isKey (.int i) = true := rfl
@[simp] theorem kS (i : Str) : isKey (.str i) = true := rfl
@[simp] theorem stL (ds : List D) (i : Int) (v : D) : setIxD (.list ds) (.int i) v = (ixN ds.length i).map fun j => .list (ds.set j v) := rfl
@[simp] theorem stD (kds : List (D × D)) (k v : D) : setIxD (.dict kds) k v = if isKey k && !isOb (.dict kds) && decide (kds.length < sizeLine) then some (.dict (dPut k v kds)) else none := rfl
@[simp] theorem obL (ds : List D) : isOb (.list ds) = false := Eq.trans rfl rfl
@[simp] theorem ob0 : isOb (.dict []) = false := Eq.trans rfl rfl
@[simp] theorem obD (k v : D) (ds : List (D × D)) : isOb (.dict ((k, v) :: ds)) = match k with | .none => true | _ => false := by cases k <;> rfl
@[simp] theorem vO_t (d : D) (i : Nat) : vO true d i = match isOb d with | true => .st | false => .ok (d, [i]) := Eq.trans rfl rfl
@[simp] theorem vT_t (d : D) : vT true d = match isOb d with | true => .st | false => R.of (truD d) := Eq.trans rfl rfl
@[simp] theorem icL (ds : List D) : isC (.list ds) = true := rfl
@[simp] theorem icD (ds : List (D × D)) : isC (.dict ds) = true := rfl
@[simp] theorem icT (ds : List D) : isC (.tuple ds) = false := rfl
@[simp] theorem icI (i : Int) : isC (.int i) = false := rfl
@[simp] theorem icS (i : Str) : isC (.str i) = false := rfl
@[simp] theorem icB (i : Bool) : isC (.bool i) = false := rfl
@[simp] theorem icN : isC .none = false := rfl
@[simp] theorem nlI (i : Int) : noL (.int i) = true := rfl
@[simp] theorem nlS (i : Str) : noL (.str i) = true := rfl
@[simp] theorem nlB (i : Bool) : noL (.bool i) = true := rfl
@[simp] theorem nlN : noL .none = true := rfl
@[simp] theorem it1L (ds : List D) : iter1 (.list ds) = some ds := rfl
@[simp] theorem it1S (s : Str) : iter1 (.str s) = some (strL s) := rfl
@[simp] theorem it1T (ds : List D) : iter1 (.tuple ds) = some ds := rfl
@[simp] theorem iteR_int (b : Bool) (i j : Int) (L : List Nat) : iteR b (R.ok (PyData.int i, L)) (R.ok (PyData.int j, L)) = R.ok (PyData.int (if b then i else j), L) := by cases b <;> rfl
@[simp] theorem lk_nil (d : D) : lk d [] = [] := rfl
@[simp] theorem frz_cons (i : Nat) (L : List Nat) (τ : Tau) : frz (i :: L) τ = frz L (frz1 τ i) := rfl
theorem eqv_int (i j : Int) : PyData.eqv (.int i) (.int j) = decide (i = j) := rfl
@[simp] theorem lkE_v' (i : Nat) (L : List Nat) : lkE (.v i) L = [] := rfl
@[simp] theorem lkE_bad'  (L : List Nat) : lkE (.bad ) L = L := rfl
@[simp] theorem lkE_k' (d : D) (L : List Nat) : lkE (.k d) L = L := rfl
@[simp] theorem lkE_g' (i : Nat) (L : List Nat) : lkE (.g i) L = L := rfl
@[simp] theorem lkE_bin' (op : Operator) (a b : E) (L : List Nat) : lkE (.bin op a b) L = L := rfl
@[simp] theorem lkE_neg' (a : E) (L : List Nat) : lkE (.neg a) L = L := rfl
@[simp] theorem lkE_cmp' (op : CmpOp) (a b : E) (L : List Nat) : lkE (.cmp op a b) L = L := rfl
@[simp] theorem lkE_chain' (op op2 : CmpOp) (a b c : E) (L : List Nat) : lkE (.chain op op2 a b c) L = L := rfl
@[simp] theorem lkE_and' (a b : E) (L : List Nat) : lkE (.and a b) L = L := rfl
@[simp] theorem lkE_or' (a b : E) (L : List Nat) : lkE (.or a b) L = L := rfl
@[simp] theorem lkE_not' (a : E) (L : List Nat) : lkE (.not a) L = L := rfl
@[simp] theorem lkE_ite' (c a b : E) (L : List Nat) : lkE (.ite c a b) L = L := rfl
@[simp] theorem lkE_tup' (es : Es) (L : List Nat) : lkE (.tup es) L = L := rfl
@[simp] theorem lkE_lst' (es : Es) (L : List Nat) : lkE (.lst es) L = L := rfl
@[simp] theorem lkE_dct0'  (L : List Nat) : lkE (.dct0 ) L = L := rfl
@[simp] theorem lkE_sub' (a b : E) (L : List Nat) : lkE (.sub a b) L = L := rfl
@[simp] theorem lkE_sli' (a : E) (l h : O) (L : List Nat) : lkE (.sli a l h) L = L := rfl
@[simp] theorem lkE_rev' (a : E) (L : List Nat) : lkE (.rev a) L = L := rfl
@[simp] theorem lkE_call' (f : Nat) (es : Es) (L : List Nat) : lkE (.call f es) L = L := rfl
@[simp] theorem lkE_bi' (f : Bi) (es : Es) (L : List Nat) : lkE (.bi f es) L = L := rfl
@[simp] theorem lkE_isi' (a : E) (ts : List Ty) (L : List Nat) : lkE (.isi a ts) L = L := rfl
@[simp] theorem lkE_trev' (a : E) (L : List Nat) : lkE (.trev a) L = L := rfl
@[simp] theorem lkE_comp' (e : E) (t : T) (it : I) (c : O) (own : List Nat) (L : List Nat) : lkE (.comp e t it c own) L = L := rfl
@[simp] theorem fr_bad  : (E.bad ).fresh = false := rfl
@[simp] theorem fr_k (d : D) : (E.k d).fresh = false := rfl
@[simp] theorem fr_g (i : Nat) : (E.g i).fresh = false := rfl
@[simp] theorem fr_bin (op : Operator) (a b : E) : (E.bin op a b).fresh = true := rfl
@[simp] theorem fr_neg (a : E) : (E.neg a).fresh = false := rfl
@[simp] theorem fr_cmp (op : CmpOp) (a b : E) : (E.cmp op a b).fresh = false := rfl
@[simp] theorem fr_chain (op op2 : CmpOp) (a b c : E) : (E.chain op op2 a b c).fresh = false := rfl
@[simp] theorem fr_and (a b : E) : (E.and a b).fresh = false := rfl
@[simp] theorem fr_or (a b : E) : (E.or a b).fresh = false := rfl
@[simp] theorem fr_not (a : E) : (E.not a).fresh = false := rfl
@[simp] theorem fr_ite (c a b : E) : (E.ite c a b).fresh = false := rfl
@[simp] theorem fr_tup (es : Es) : (E.tup es).fresh = false := rfl
@[simp] theorem fr_lst (es : Es) : (E.lst es).fresh = true := rfl
@[simp] theorem fr_dct0  : (E.dct0 ).fresh = true := rfl
@[simp] theorem fr_sub (a b : E) : (E.sub a b).fresh = false := rfl
@[simp] theorem fr_sli (a : E) (l h : O) : (E.sli a l h).fresh = true := rfl
@[simp] theorem fr_rev (a : E) : (E.rev a).fresh = true := rfl
@[simp] theorem fr_call (f : Nat) (es : Es) : (E.call f es).fresh = false := rfl
@[simp] theorem fr_isi (a : E) (ts : List Ty) : (E.isi a ts).fresh = false := rfl
@[simp] theorem fr_trev (a : E) : (E.trev a).fresh = false := rfl
@[simp] theorem fr_comp (e : E) (t : T) (it : I) (c : O) (own : List Nat) : (E.comp e t it c own).fresh = true := rfl
@[simp] theorem fr_v (i : Nat) : (E.v i).fresh = false := rfl
@[simp] theorem fr_bi_len (es : Es) : (E.bi .len es).fresh = false := rfl
@[simp] theorem fr_bi_int (es : Es) : (E.bi .int es).fresh = false := rfl
@[simp] theorem fr_bi_abs (es : Es) : (E.bi .abs es).fresh = false := rfl
@[simp] theorem fr_bi_max (es : Es) : (E.bi .max es).fresh = false := rfl
@[simp] theorem fr_bi_min (es : Es) : (E.bi .min es).fresh = false := rfl
@[simp] theorem fr_bi_tuple (es : Es) : (E.bi .tuple es).fresh = false := rfl
@[simp] theorem fr_bi_sum (es : Es) : (E.bi .sum es).fresh = false := rfl
@[simp] theorem fr_bi_any (es : Es) : (E.bi .any es).fresh = false := rfl
@[simp] theorem fr_bi_all (es : Es) : (E.bi .all es).fresh = false := rfl
@[simp] theorem fr_bi_str (es : Es) : (E.bi .str es).fresh = false := rfl
@[simp] theorem fr_bi_bool (es : Es) : (E.bi .bool es).fresh = false := rfl
@[simp] theorem fr_bi_sorted (es : Es) : (E.bi .sorted es).fresh = false := rfl
@[simp] theorem fr_bi_bitlen (es : Es) : (E.bi .bitlen es).fresh = false := rfl
@[simp] theorem fr_bi_list (es : Es) : (E.bi .list es).fresh = true := rfl
@[simp] theorem lkI_it (e : E) (L : List Nat) : lkI (.it e) L = lkE e L := rfl
@[simp] theorem lkI_r1 (e : E) (L : List Nat) : lkI (.r1 e) L = L := rfl
@[simp] theorem lkI_r2 (e f : E) (L : List Nat) : lkI (.r2 e f) L = L := rfl
@[simp] theorem lkI_zip (e f : E) (L : List Nat) : lkI (.zip e f) L = L := rfl
@[simp] theorem lkI_enum (e : E) (L : List Nat) : lkI (.enum e) L = L := rfl
@[simp] theorem lkI_rev (e : E) (L : List Nat) : lkI (.rev e) L = L := rfl
/-! ### the meaning, equation by equation -/
@[simp] theorem ev_evE_bad (g : G) (τ : Tau) : evE g (.bad) τ = .st := by
  (conv => lhs; unfold evE); try rfl
@[simp] theorem ev_evE_v (g : G) (τ : Tau) : ∀ i, evE g (.v i) τ = match τ[i]? with
    | some (some (o, d)) => vO o d i
    | _ => .st := by
  intro i; (conv => lhs; unfold evE); try rfl
@[simp] theorem ev_evE_k (g : G) (τ : Tau) : ∀ d, evE g (.k d) τ = .ok (d, []) := by
  intro d; (conv => lhs; unfold evE); try rfl
@[simp] theorem ev_evE_g (g : G) (τ : Tau) : ∀ i, evE g (.g i) τ = match g.gl i with
    | some d => .ok (d, [])
    | none => .st := by
  intro i; (conv => lhs; unfold evE); try rfl
@[simp] theorem ev_evE_bin (g : G) (τ : Tau) : ∀ op a b, evE g (.bin op a b) τ = (evE g a τ).bind fun x => (evE g b τ).bind fun y => match binD op x.1 y.1 with
    | some z => .ok (z, lk z (lkE a x.2 ++ lkE b y.2))
    | none => .st := by
  intro op a b; (conv => lhs; unfold evE); try rfl
@[simp] theorem ev_evE_neg (g : G) (τ : Tau) : ∀ a, evE g (.neg a) τ = (evE g a τ).bind fun x => match x.1 with
    | .int i => .ok (.int (-i), [])
    | _ => .st := by
  intro a; (conv => lhs; unfold evE); try rfl
@[simp] theorem ev_evE_cmp (g : G) (τ : Tau) : ∀ op a b, evE g (.cmp op a b) τ = (evE g a τ).bind fun x => (evE g b τ).bind fun y => match cmpD op x.1 y.1 with
    | some z => .ok (.bool z, [])
    | none => .st := by
  intro op a b; (conv => lhs; unfold evE); try rfl
@[simp] theorem ev_evE_chain (g : G) (τ : Tau) : ∀ op op' a b c, evE g (.chain op op' a b c) τ = (evE g a τ).bind fun x => (evE g b τ).bind fun y => match cmpD op x.1 y.1 with
    | some true => (evE g c τ).bind fun z => match cmpD op' y.1 z.1 with
      | some r => .ok (.bool r, [])
      | none => .st
    | some false => .ok (.bool false, [])
    | none => .st := by
  intro op op' a b c; (conv => lhs; unfold evE); try rfl
@[simp] theorem ev_evE_and (g : G) (τ : Tau) : ∀ a b, evE g (.and a b) τ = (evE g a τ).bind fun x => match x.1 with
    | .bool true => evE g b τ
    | .bool false => .ok (.bool false, [])
    | _ => .st := by
  intro a b; (conv => lhs; unfold evE); try rfl
@[simp] theorem ev_evE_or (g : G) (τ : Tau) : ∀ a b, evE g (.or a b) τ = (evE g a τ).bind fun x => match x.1 with
    | .bool true => .ok (.bool true, [])
    | .bool false => evE g b τ
    | _ => .st := by
  intro a b; (conv => lhs; unfold evE); try rfl
@[simp] theorem ev_evE_not (g : G) (τ : Tau) : ∀ a, evE g (.not a) τ = (evE g a τ).bind fun x => match x.1 with
    | .bool b => .ok (.bool (!b), [])
    | _ => .st := by
  intro a; (conv => lhs; unfold evE); try rfl
@[simp] theorem ev_evE_ite (g : G) (τ : Tau) : ∀ c a b, evE g (.ite c a b) τ = (evT g c τ).bind fun x => iteR x (evE g a τ) (evE g b τ) := by
  intro c a b; (conv => lhs; unfold evE); try rfl
@[simp] theorem ev_evE_tup (g : G) (τ : Tau) : ∀ es, evE g (.tup es) τ = (evEs g es τ).bind fun x => if x.1.length ≤ sizeLine then .ok (.tuple x.1, x.2) else .st := by
  intro es; (conv => lhs; unfold evE); try rfl
@[simp] theorem ev_evE_lst (g : G) (τ : Tau) : ∀ es, evE g (.lst es) τ = (evEs g es τ).bind fun x => if x.1.length ≤ sizeLine then .ok (.list x.1, x.2) else .st := by
  intro es; (conv => lhs; unfold evE); try rfl
@[simp] theorem ev_evE_dct0 (g : G) (τ : Tau) : evE g (.dct0) τ = .ok (.dict [], []) := by
  (conv => lhs; unfold evE); try rfl
@[simp] theorem ev_evE_sub (g : G) (τ : Tau) : ∀ a b, evE g (.sub a b) τ = (evE g a τ).bind fun x => (evE g b τ).bind fun y => match subD x.1 y.1 with
    | some z => .ok (z, lk z (lkE a x.2))
    | none => .st := by
  intro a b; (conv => lhs; unfold evE); try rfl
@[simp] theorem ev_evE_sli (g : G) (τ : Tau) : ∀ a lo hi, evE g (.sli a lo hi) τ = (evE g a τ).bind fun x => (evO g lo τ).bind fun l => (evO g hi τ).bind fun h => match sliD x.1 l h with
    | some z => .ok (z, lk z (lkE a x.2))
    | none => .st := by
  intro a lo hi; (conv => lhs; unfold evE); try rfl
@[simp] theorem ev_evE_rev (g : G) (τ : Tau) : ∀ a, evE g (.rev a) τ = (evE g a τ).bind fun x => match revD x.1 with
    | some z => .ok (z, lk z (lkE a x.2))
    | none => .st := by
  intro a; (conv => lhs; unfold evE); try rfl
@[simp] theorem ev_evE_call (g : G) (τ : Tau) : ∀ f es, evE g (.call f es) τ = match g.io f with
    | [] => (evEs g es τ).bind fun x => (g.cf f x.1).bind fun r => match r.2 with
      | [] => .ok (r.1, lk r.1 x.2)
      | _ :: _ => .st
    | _ :: _ => .st := by
  intro f es; (conv => lhs; unfold evE); try rfl
@[simp] theorem ev_evE_bi (g : G) (τ : Tau) : ∀ f es, evE g (.bi f es) τ = (evEs g es τ).bind fun x => match biD f x.1 with
    | some z => .ok (z, lk z (match es with | .cons e .nil => lkE e x.2 | _ => x.2))
    | none => .st := by
  intro f es; (conv => lhs; unfold evE); try rfl
@[simp] theorem ev_evE_isi (g : G) (τ : Tau) : ∀ a ts, evE g (.isi a ts) τ = (evE g a τ).bind fun x => match isiD x.1 ts with
    | some b => .ok (.bool b, [])
    | none => .st := by
  intro a ts; (conv => lhs; unfold evE); try rfl
@[simp] theorem ev_evE_trev (g : G) (τ : Tau) : ∀ a, evE g (.trev a) τ = (evE g a τ).bind fun x => match x.1 with
    | .list ds => .ok (.tuple ds.reverse, lk (.tuple ds) (lkE a x.2))
    | _ => .st := by
  intro a; (conv => lhs; unfold evE); try rfl
@[simp] theorem ev_evE_gin (g : G) (τ : Tau) : ∀ neg i a, evE g (.gin neg i a) τ = (evE g a τ).bind fun x => match gdIn (g.gd i) x.1 with
    | some b => .ok (.bool (neg != b), [])
    | none => .st := by
  intro neg i a; (conv => lhs; unfold evE); try rfl
@[simp] theorem ev_evE_gix (g : G) (τ : Tau) : ∀ i a, evE g (.gix i a) τ = (evE g a τ).bind fun x => match gdIx (g.gd i) x.1 with
    | some d => .ok (d, [])
    | none => .st := by
  intro i a; (conv => lhs; unfold evE); try rfl
@[simp] theorem ev_evE_dctK (g : G) (τ : Tau) : ∀ kds, evE g (.dctK kds) τ = .ok (.dict (kds.map fun p => (.str p.1, p.2)), []) := by
  intro kds; (conv => lhs; unfold evE); try rfl
@[simp] theorem ev_evE_comp (g : G) (τ : Tau) : ∀ elt t it c own, evE g (.comp elt t it c own) τ = (evI g it τ).bind fun x => if x.1.length ≤ sizeLine then
      (compL (evE g elt) (evC g c) t own (wipeT (frz (lkI it x.2) τ) own) x.1).bind fun y => .ok (.list y.1, lkI it x.2 ++ y.2)
    else .st := by
  intro elt t it c own; (conv => lhs; unfold evE); try rfl
@[simp] theorem ev_evT_not (g : G) (τ : Tau) : ∀ a, evT g (.not a) τ = (evT g a τ).bind fun x => .ok (!x) := by
  intro a; (conv => lhs; unfold evT); try rfl
@[simp] theorem ev_evT_and (g : G) (τ : Tau) : ∀ a b, evT g (.and a b) τ = (evT g a τ).bind fun x => match x with
    | true => evT g b τ
    | false => .ok false := by
  intro a b; (conv => lhs; unfold evT); try rfl
@[simp] theorem ev_evT_or (g : G) (τ : Tau) : ∀ a b, evT g (.or a b) τ = (evT g a τ).bind fun x => match x with
    | true => .ok true
    | false => evT g b τ := by
  intro a b; (conv => lhs; unfold evT); try rfl
@[simp] theorem ev_evT_ite (g : G) (τ : Tau) : ∀ u0 u1 u2, evT g (.ite u0 u1 u2) τ = .st := by
  intro u0 u1 u2; (conv => lhs; unfold evT); try rfl
@[simp] theorem ev_evT_cmp (g : G) (τ : Tau) : ∀ op a b, evT g (.cmp op a b) τ = (evE g a τ).bind fun x => (evE g b τ).bind fun y => match cmpD op x.1 y.1 with
    | some z => .ok z
    | none => .st := by
  intro op a b; (conv => lhs; unfold evT); try rfl
@[simp] theorem ev_evT_chain (g : G) (τ : Tau) : ∀ op op' a b c, evT g (.chain op op' a b c) τ = (evE g a τ).bind fun x => (evE g b τ).bind fun y => match cmpD op x.1 y.1 with
    | some true => (evE g c τ).bind fun z => match cmpD op' y.1 z.1 with
      | some r => .ok r
      | none => .st
    | some false => .ok false
    | none => .st := by
  intro op op' a b c; (conv => lhs; unfold evT); try rfl
@[simp] theorem ev_evT_call (g : G) (τ : Tau) : ∀ f es, evT g (.call f es) τ = match g.io f with
    | [] => (evEs g es τ).bind fun x => (g.cf f x.1).bind fun r => match r.2 with
      | [] => R.of (truD r.1)
      | _ :: _ => .st
    | _ :: _ => .st := by
  intro f es; (conv => lhs; unfold evT); try rfl
@[simp] theorem ev_evT_v (g : G) (τ : Tau) : ∀ i, evT g (.v i) τ = match τ[i]? with
    | some (some (o, d)) => vT o d
    | _ => .st := by
  intro i; (conv => lhs; unfold evT); try rfl
@[simp] theorem ev_evT_bi (g : G) (τ : Tau) : ∀ f es, evT g (.bi f es) τ = (evEs g es τ).bind fun x => (R.of (biD f x.1)).bind fun z => R.of (truD z) := by
  intro f es; (conv => lhs; unfold evT); try rfl
@[simp] theorem ev_evT_isi (g : G) (τ : Tau) : ∀ a ts, evT g (.isi a ts) τ = (evE g a τ).bind fun x => R.of (isiD x.1 ts) := by
  intro a ts; (conv => lhs; unfold evT); try rfl
@[simp] theorem ev_evT_gin (g : G) (τ : Tau) : ∀ neg i a, evT g (.gin neg i a) τ = (evE g a τ).bind fun x => (R.of (gdIn (g.gd i) x.1)).bind fun b => .ok (neg != b) := by
  intro neg i a; (conv => lhs; unfold evT); try rfl
@[simp] theorem ev_evT_sub (g : G) (τ : Tau) : ∀ a b, evT g (.sub a b) τ = (evE g a τ).bind fun x => (evE g b τ).bind fun y => (R.of (subD x.1 y.1)).bind fun z => R.of (truD z) := by
  intro a b; (conv => lhs; unfold evT); try rfl
@[simp] theorem ev_evEs_nil (g : G) (τ : Tau) : evEs g (.nil) τ = .ok ([], []) := by
  (conv => lhs; unfold evEs); try rfl
@[simp] theorem ev_evEs_cons (g : G) (τ : Tau) : ∀ e es, evEs g (.cons e es) τ = (evE g e τ).bind fun x => (evEs g es τ).bind fun y => .ok (x.1 :: y.1, x.2 ++ y.2) := by
  intro e es; (conv => lhs; unfold evEs); try rfl
@[simp] theorem ev_evO_no (g : G) (τ : Tau) : evO g (.no) τ = .ok none := by
  (conv => lhs; unfold evO); try rfl
@[simp] theorem ev_evO_yes (g : G) (τ : Tau) : ∀ e, evO g (.yes e) τ = (evE g e τ).bind fun x => match x.1 with
    | .int i => .ok (some i)
    | _ => .st := by
  intro e; (conv => lhs; unfold evO); try rfl
@[simp] theorem ev_evC_no (g : G) (τ : Tau) : evC g (.no) τ = .ok true := by
  (conv => lhs; unfold evC); try rfl
@[simp] theorem ev_evC_yes (g : G) (τ : Tau) : ∀ e, evC g (.yes e) τ = evT g e τ := by
  intro e; (conv => lhs; unfold evC); try rfl
@[simp] theorem ev_evI_it (g : G) (τ : Tau) : ∀ e, evI g (.it e) τ = (evE g e τ).bind fun x => match iter1 x.1 with
    | some ds => .ok (ds, x.2)
    | none => .st := by
  intro e; (conv => lhs; unfold evI); try rfl
@[simp] theorem ev_evI_r1 (g : G) (τ : Tau) : ∀ a, evI g (.r1 a) τ = (evE g a τ).bind fun x => match x.1 with
    | .int j => rngR1 j
    | _ => .st := by
  intro a; (conv => lhs; unfold evI); try rfl
@[simp] theorem ev_evI_r2 (g : G) (τ : Tau) : ∀ a b, evI g (.r2 a b) τ = (evE g a τ).bind fun x => (evE g b τ).bind fun y => match x.1, y.1 with
    | .int i, .int j => rngR i j
    | _, _ => .st := by
  intro a b; (conv => lhs; unfold evI); try rfl
@[simp] theorem ev_evI_zip (g : G) (τ : Tau) : ∀ a b, evI g (.zip a b) τ = (evE g a τ).bind fun x => (evE g b τ).bind fun y => match iter1 x.1, iter1 y.1 with
    | some xs, some ys => .ok (zipL xs ys, x.2 ++ y.2)
    | _, _ => .st := by
  intro a b; (conv => lhs; unfold evI); try rfl
@[simp] theorem ev_evI_enum (g : G) (τ : Tau) : ∀ a, evI g (.enum a) τ = (evE g a τ).bind fun x => match iter1 x.1 with
    | some xs => .ok (enumL 0 xs, x.2)
    | none => .st := by
  intro a; (conv => lhs; unfold evI); try rfl
@[simp] theorem ev_evI_rev (g : G) (τ : Tau) : ∀ a, evI g (.rev a) τ = (evE g a τ).bind fun x => match x.1 with
    | .list xs => .ok (xs.reverse, x.2)
    | .tuple xs => .ok (xs.reverse, x.2)
    | _ => .st := by
  intro a; (conv => lhs; unfold evI); try rfl
@[simp] theorem ev_evI_rr1 (g : G) (τ : Tau) : ∀ a, evI g (.rr1 a) τ = (evE g a τ).bind fun x => match x.1 with
    | .int j => (rngR1 j).bind fun y => .ok (y.1.reverse, [])
    | _ => .st := by
  intro a; (conv => lhs; unfold evI); try rfl
@[simp] theorem ev_evI_rr2 (g : G) (τ : Tau) : ∀ a b, evI g (.rr2 a b) τ = (evE g a τ).bind fun x => (evE g b τ).bind fun y => match x.1, y.1 with
    | .int i, .int j => (rngR i j).bind fun y => .ok (y.1.reverse, [])
    | _, _ => .st := by
  intro a b; (conv => lhs; unfold evI); try rfl
@[simp] theorem ev_evS_bad (g : G) (io : List Nat) (τ : Tau) : evS g io (.bad) τ = .st := by
  (conv => lhs; unfold evS); try rfl
@[simp] theorem ev_evS_set (g : G) (io : List Nat) (τ : Tau) : ∀ t e, evS g io (.set t e) τ = .ofR (evE g e τ) τ fun x => .ofO (asg io e.fresh t x.1 (frz x.2 τ)) := by
  intro t e; (conv => lhs; unfold evS); try rfl
@[simp] theorem ev_evS_par (g : G) (io : List Nat) (τ : Tau) : ∀ is es, evS g io (.par is es) τ = .ofR (evEs g es τ) τ fun x => .ofO (asgs io is x.1 (frz x.2 τ)) := by
  intro is es; (conv => lhs; unfold evS); try rfl
@[simp] theorem ev_evS_setIx (g : G) (io : List Nat) (τ : Tau) : ∀ i x e, evS g io (.setIx i x e) τ = match own? τ i with
    | none => .st
    | some _ => .ofR (evE g e τ) τ fun v => .ofR (evE g x τ) τ fun k => match own? (frz v.2 τ) i with
      | some c => match setIxD c k.1 v.1 with
        | some c' => .nx ((frz v.2 τ).set i (some (true, c')))
        | none => .st
      | none => .st := by
  intro i x e; (conv => lhs; unfold evS); try rfl
@[simp] theorem ev_evS_app (g : G) (io : List Nat) (τ : Tau) : ∀ i e, evS g io (.app i e) τ = match own? τ i with
    | some (.list _) => .ofR (evE g e τ) τ fun v => match own? (frz v.2 τ) i with
      | some (.list ds) => if ds.length < sizeLine then .nx ((frz v.2 τ).set i (some (true, .list (ds ++ [v.1])))) else .st
      | _ => .st
    | _ => .st := by
  intro i e; (conv => lhs; unfold evS); try rfl
@[simp] theorem ev_evS_ext (g : G) (io : List Nat) (τ : Tau) : ∀ i e, evS g io (.ext i e) τ = match own? τ i with
    | some (.list _) => .ofR (evE g e τ) τ fun v => match v.1 with
      | .list es => match own? (frz (lkE e v.2) τ) i with
        | some (.list ds) => if ds.length + es.length ≤ sizeLine then .nx ((frz (lkE e v.2) τ).set i (some (true, .list (ds ++ es)))) else .st
        | _ => .st
      | _ => .st
    | _ => .st := by
  intro i e; (conv => lhs; unfold evS); try rfl
@[simp] theorem ev_evS_pop (g : G) (io : List Nat) (τ : Tau) : ∀ t i, evS g io (.pop t i) τ = match own? τ i with
    | some (.list ds) => match ds[ds.length - 1]? with
      | some d => match t with
        | none => .nx (τ.set i (some (true, .list ds.dropLast)))
        | some j => if j ∈ io ∨ j = i then .st else .nx ((τ.set i (some (true, .list ds.dropLast))).set j (some (false, d)))
      | none => .st
    | _ => .st := by
  intro t i; (conv => lhs; unfold evS); try rfl
@[simp] theorem ev_evS_dpop (g : G) (io : List Nat) (τ : Tau) : ∀ i k d, evS g io (.dpop i k d) τ = match own? τ i with
    | some (.dict kds) => if isOb (.dict kds) then .st else .ofR (evE g k τ) τ fun x => .ofR (evE g d τ) τ fun y => if isKey x.1 then .nx (τ.set i (some (true, .dict (dDrop x.1 kds)))) else .st
    | _ => .st := by
  intro i k d; (conv => lhs; unfold evS); try rfl
@[simp] theorem ev_evS_ex (g : G) (io : List Nat) (τ : Tau) : ∀ e, evS g io (.ex e) τ = .ofR (evE g e τ) τ fun _ => .nx τ := by
  intro e; (conv => lhs; unfold evS); try rfl
@[simp] theorem ev_evS_io (g : G) (io : List Nat) (τ : Tau) : ∀ t f es, evS g io (.io t f es) τ = match g.io f with
    | [j] => match evIo g j es τ with
      | .ok x => if x.2.1.contains x.2.2 then .st else match g.cf f x.1 with
        | .ok (r, [d]) => if isC d then match t with
            | none => .nx ((frz x.2.1 τ).set x.2.2 (some (true, d)))
            | some i => if i ∈ io ∨ i = x.2.2 then .st else .nx (((frz x.2.1 τ).set x.2.2 (some (true, d))).set i (some (false, r)))
          else .st
        | _ => .st
      | _ => .st
    | _ => .st := by
  intro t f es; (conv => lhs; unfold evS); try rfl
@[simp] theorem ev_evS_popF (g : G) (io : List Nat) (τ : Tau) : ∀ t i, evS g io (.popF t i) τ = match own? τ i with
    | some (.list (d :: ds)) => match t with
        | none => .nx (τ.set i (some (true, .list ds)))
        | some j => if j ∈ io ∨ j = i then .st else .nx ((τ.set i (some (true, .list ds))).set j (some (false, d)))
    | _ => .st := by
  intro t i; (conv => lhs; unfold evS); try rfl
@[simp] theorem ev_evS_ioR (g : G) (io : List Nat) (τ : Tau) : ∀ f es, evS g io (.ioR f es) τ = match g.io f with
    | [j] => match evIo g j es τ with
      | .ok x => if x.2.1.contains x.2.2 then .st else match g.cf f x.1 with
        | .ok (r, [d]) => if isC d && !isC r then .ret ((frz x.2.1 τ).set x.2.2 (some (true, d))) r else .st
        | _ => .st
      | _ => .st
    | _ => .st := by
  intro f es; (conv => lhs; unfold evS); try rfl
@[simp] theorem ev_evS_ioC (g : G) (io : List Nat) (τ : Tau) : ∀ t h as f es, evS g io (.ioC t h as f es) τ = match g.io h, g.io f with
    | [], [j] => match evEs g as τ with
      | .ok (ds, []) => match evIo g j es τ with
        | .ok x => if x.2.1.contains x.2.2 then .st else match g.cf f x.1 with
          | .ok (r, [d]) => if isC d then match g.cf h (ds ++ [r]) with
              | .ok (z, []) => if t ∈ io ∨ t = x.2.2 then .st else .nx (((frz x.2.1 τ).set x.2.2 (some (true, d))).set t (some (false, z)))
              | _ => .st
            else .st
          | _ => .st
        | _ => .st
      | _ => .st
    | _, _ => .st := by
  intro t h as f es; (conv => lhs; unfold evS); try rfl
@[simp] theorem ev_evE_fld (g : G) (τ : Tau) : ∀ x i f, evE g (.fld x i f) τ = fldO x f i (own? τ i) := by
  intro x i f; (conv => lhs; unfold evE); try rfl
@[simp] theorem ev_evS_fset (g : G) (io : List Nat) (τ : Tau) : ∀ x i f e, evS g io (.fset x i f e) τ = match own? τ i with
    | some (.dict ((.none, .str c) :: fs)) => if c = x ∧ Nat.ble fs.length 900 = true then .ofR (evE g e τ) τ fun v => match isC v.1, v.2 with
      | false, [] => match fsetD f v.1 fs with
        | some fs' => .nx (τ.set i (some (true, .dict ((.none, .str c) :: fs'))))
        | none => .st
      | _, _ => .st
      else .st
    | _ => .st := by
  intro x i f e; (conv => lhs; unfold evS); try rfl
@[simp] theorem ev_evS_fapp (g : G) (io : List Nat) (τ : Tau) : ∀ x i f e, evS g io (.fapp x i f e) τ = match own? τ i with
    | some (.dict ((.none, .str c) :: fs)) => if c = x then match fget f fs with
      | some (.list ds) => if ds.length < sizeLine then .ofR (evE g e τ) τ fun v => match v.2 with
        | [] => match fappD f v.1 fs with
          | some fs' => .nx (τ.set i (some (true, .dict ((.none, .str c) :: fs'))))
          | none => .st
        | _ => .st
        else .st
      | _ => .st
      else .st
    | _ => .st := by
  intro x i f e; (conv => lhs; unfold evS); try rfl
@[simp] theorem ev_evS_new (g : G) (io : List Nat) (τ : Tau) : ∀ x f1 f2 i e, evS g io (.new x f1 f2 i e) τ = if g.xr then .ofR (evE g e τ) τ fun v => match isC v.1, v.2 with
      | false, [] => if i ∈ io ∨ ¬ i < τ.length ∨ f2 = f1 then .st else .nx (τ.set i (some (true, .dict [(.none, .str x), (.str f1, .list []), (.str f2, v.1)])))
      | _, _ => .st
    else .st := by
  intro x f1 f2 i e; (conv => lhs; unfold evS); try rfl
@[simp] theorem ev_evS_ifS (g : G) (io : List Nat) (τ : Tau) : ∀ c a b, evS g io (.ifS c a b) τ = .ofR (evT g c τ) τ (ifK (evSs g io a) (evSs g io b) τ) := by
  intro c a b; (conv => lhs; unfold evS); try rfl
@[simp] theorem ev_evS_wh (g : G) (io : List Nat) (τ : Tau) : ∀ dead c b, evS g io (.wh dead c b) τ = whL dead (evT g c) (evSs g io b) g.wN (wipeT τ dead) := by
  intro dead c b; (conv => lhs; unfold evS); try rfl
@[simp] theorem ev_evS_forS (g : G) (io : List Nat) (τ : Tau) : ∀ dead t it b, evS g io (.forS dead t it b) τ = .ofR (evI g it τ) τ fun x => forL io dead t (evSs g io b) x.1 (wipeT (frz x.2 τ) dead) := by
  intro dead t it b; (conv => lhs; unfold evS); try rfl
@[simp] theorem ev_evS_callF (g : G) (io : List Nat) (τ : Tau) : ∀ i f es, evS g io (.callF i f es) τ = match g.io f with
    | [] => .ofR (evEs g es τ) τ fun x => if g.fr f then .ofR (g.cf f x.1) τ fun r => match r.2 with
      | [] => if i ∈ io then .st else .nx ((frz x.2 τ).set i (some (isC r.1, r.1)))
      | _ => .st
      else .st
    | _ => .st := by
  intro i f es; (conv => lhs; unfold evS); try rfl
@[simp] theorem retO_nil (e : E) (x : D × List Nat) (τ : Tau) : retO [] e x τ = .ret (frz x.2 τ) x.1 := retO_no rfl
@[simp] theorem retO_one {j : Nat} (e : E) (x : D × List Nat) (τ : Tau) (h : (1000000 == j) = false) : retO [j] e x τ = .ret (frz x.2 τ) x.1 := retO_no (by
  show (mkN == j || false) = false
  rw [Bool.or_false]; exact h)
@[simp] theorem retO_mk (io : List Nat) (e : E) (x : D × List Nat) (τ : Tau) : retO (1000000 :: io) e x τ = match isC x.1 with
    | false => .ret (frz x.2 τ) x.1
    | true => match e.fresh with
      | true => .ret (frz x.2 τ) x.1
      | false => match e with
        | .v i => match own? τ i with
          | some d => match isOb d with
            | true => .st
            | false => if i ∈ 1000000 :: io then .st else .ret (frz1 τ i) d
          | none => .st
        | _ => .st := by
  unfold retO
  have h : (1000000 :: io).contains mkN = true := by simp [mkN]
  first
    | (rw [h]; done)
    | (rw [h]; rfl)
@[simp] theorem ev_evS_ret (g : G) (io : List Nat) (τ : Tau) : ∀ e, evS g io (.ret e) τ = .ofR (evE g e τ) τ fun x => retO io e x τ := by
  intro e; (conv => lhs; unfold evS); try rfl
@[simp] theorem ev_evS_retN (g : G) (io : List Nat) (τ : Tau) : evS g io (.retN) τ = .ret τ .none := by
  (conv => lhs; unfold evS); try rfl
@[simp] theorem ev_evS_brk (g : G) (io : List Nat) (τ : Tau) : evS g io (.brk) τ = .brk τ := by
  (conv => lhs; unfold evS); try rfl
@[simp] theorem ev_evS_ct (g : G) (io : List Nat) (τ : Tau) : evS g io (.ct) τ = .ct τ := by
  (conv => lhs; unfold evS); try rfl
@[simp] theorem ev_evS_pass (g : G) (io : List Nat) (τ : Tau) : evS g io (.pass) τ = .nx τ := by
  (conv => lhs; unfold evS); try rfl
@[simp] theorem ev_evS_raise (g : G) (io : List Nat) (τ : Tau) : ∀ c f e, evS g io (.raise c f e) τ = if g.xr then .ofR (evE g e τ) τ fun x => if isA x.1 then .ex ⟨c, [(f, x.1)]⟩ τ else .st else .st := by
  intro u0 u1 u2; (conv => lhs; unfold evS); try rfl
theorem evSs_c (g : G) (io : List Nat) (s : S) (ss : Ss) (τ : Tau) : evSs g io (.cons s ss) τ = (evS g io s τ).seq (evSs g io ss) := by unfold evSs; rfl
theorem evSs_n (g : G) (io : List Nat) (τ : Tau) : evSs g io .nil τ = .nx τ := by unfold evSs; rfl
theorem runF_eq (g : G) (F : Fn) (ds : List D) (h : ds.length = F.nps) : runF g F ds = match evSs g (ioM F.io F.fr) F.body (startT F ds) with
    | .nx τ => (R.of (outs τ F.io)).bind fun os => .ok (.none, os)
    | .ret τ d => (R.of (outs τ F.io)).bind fun os => .ok (d, os)
    | .ex x _ => .ex x
    | _ => .st := by
  unfold runF
  first
    | (rw [if_pos h]; done)
    | (rw [if_pos h]; rfl)

theorem div0 {i j : Int} (h : 0 < j) : divOk i j = true := divOk_iff.mpr h
theorem divS {i j : Int} (h : 0 < j) (h2 : j < 1073741824) : divOk i j = true := by
  exact divOk_iff.mpr h
/-- what is handed in, by the slots that may be changed -/
theorem ofI {α : Type} {x : α} : R.of (some x) = R.ok x := rfl
theorem cut_from {α : Type} (xs : List α) (n : Nat) : cutD xs (some (n : Int)) none = xs.drop n := by
  unfold cutD
  rw [HT.sIx_nat, HT.sIx_none]
  by_cases h : n ≤ xs.length
  · rw [Nat.min_eq_left h, List.take_of_length_le (by rw [List.length_drop]; omega)]
  · rw [Nat.min_eq_right (by omega), List.drop_of_length_le (by omega), List.drop_of_length_le (by omega)]; simp
theorem cut_mid {α : Type} (xs : List α) (n m : Nat) (h : m ≤ xs.length) (h2 : n ≤ m) : cutD xs (some (n : Int)) (some (m : Int)) = (xs.drop n).take (m - n) := by
  unfold cutD
  rw [HT.sIx_nat, HT.sIx_nat, Nat.min_eq_left (by omega), Nat.min_eq_left (by omega)]
@[simp] theorem cut2 {α : Type} (x y : α) (xs : List α) : cutD (x :: y :: xs) (some 2) none = xs := cut_from (x :: y :: xs) 2
@[simp] theorem sz_0 : (0 ≤ sizeLine) = True := eq_true (by decide)
@[simp] theorem sz_1 : (1 ≤ sizeLine) = True := eq_true (by decide)
@[simp] theorem sz_2 : (2 ≤ sizeLine) = True := eq_true (by decide)
@[simp] theorem sz_3 : (3 ≤ sizeLine) = True := eq_true (by decide)
@[simp] theorem sz_4 : (4 ≤ sizeLine) = True := eq_true (by decide)
@[simp] theorem sz_5 : (5 ≤ sizeLine) = True := eq_true (by decide)
@[simp] theorem sz_6 : (6 ≤ sizeLine) = True := eq_true (by decide)
@[simp] theorem sz_7 : (7 ≤ sizeLine) = True := eq_true (by decide)
@[simp] theorem sz_8 : (8 ≤ sizeLine) = True := eq_true (by decide)
@[simp] theorem sz_9 : (9 ≤ sizeLine) = True := eq_true (by decide)
@[simp] theorem sz_10 : (10 ≤ sizeLine) = True := eq_true (by decide)
@[simp] theorem sz_11 : (11 ≤ sizeLine) = True := eq_true (by decide)
@[simp] theorem sz_12 : (12 ≤ sizeLine) = True := eq_true (by decide)
@[simp] theorem sz_13 : (13 ≤ sizeLine) = True := eq_true (by decide)
@[simp] theorem sz_14 : (14 ≤ sizeLine) = True := eq_true (by decide)
@[simp] theorem sz_15 : (15 ≤ sizeLine) = True := eq_true (by decide)
@[simp] theorem sz_16 : (16 ≤ sizeLine) = True := eq_true (by decide)
@[simp] theorem eqv_I (i j : Int) : PyData.eqv (.int i) (.int j) = decide (i = j) := rfl
@[simp] theorem eqv_S (i j : Str) : PyData.eqv (.str i) (.str j) = decide (i = j) := rfl
theorem szs {n : Nat} (h : n ≤ 100000) : n ≤ sizeLine := Nat.le_trans h (by decide)
theorem szl {n : Nat} (h : n < 100000) : n < sizeLine := Nat.lt_of_lt_of_le h (by decide)
theorem turn_nx {X : Out} {P : Tau → Prop} (h : ∃ τ2, X = .nx τ2 ∧ P τ2) : ∃ τ2, (X = .nx τ2 ∨ X = .ct τ2) ∧ P τ2 := let ⟨t, a, b⟩ := h; ⟨t, .inl a, b⟩
theorem turn_ct {X : Out} {P : Tau → Prop} (h : ∃ τ2, X = .ct τ2 ∧ P τ2) : ∃ τ2, (X = .nx τ2 ∨ X = .ct τ2) ∧ P τ2 := let ⟨t, a, b⟩ := h; ⟨t, .inr a, b⟩
@[simp] theorem lk_I (i : Int) (L : List Nat) : lk (.int i) L = [] := lk_flat rfl
@[simp] theorem lk_S (i : Str) (L : List Nat) : lk (.str i) L = [] := lk_flat rfl
@[simp] theorem lk_B (i : Bool) (L : List Nat) : lk (.bool i) L = [] := lk_flat rfl
@[simp] theorem lk_N (L : List Nat) : lk .none L = [] := lk_flat rfl
theorem sm62 {i : Int} (h : -1000000 ≤ i) (h2 : i ≤ 1000000) : small62 i = true := by
  unfold small62
  rw [Nat.ble_eq]
  omega
theorem rng1 {n : Nat} (h : n ≤ 100000) : rngR1 (n : Nat) = .ok (rngL 0 n, []) := by
  rw [rngR1_ok (sm62 (by omega) (by omega))]; rfl
theorem rng2 {a n : Nat} (h : a ≤ n) (h2 : n ≤ 100000) : rngR (a : Nat) (n : Nat) = .ok (rngL (a : Nat) (n - a), []) := by
  rw [rngR_ok (sm62 (by omega) (by omega)) (sm62 (by omega) (by omega))]
  rw [show ((n : Int) - (a : Int)).toNat = n - a by omega]
theorem r2_ok {g : G} {a b : E} {τ : Tau} {i j : Int} {L M : List Nat} (ha : evE g a τ = .ok (.int i, L)) (hb : evE g b τ = .ok (.int j, M)) : evI g (.r2 a b) τ = rngR i j := by
  unfold evI
  rw [ha, hb]; rfl
theorem r1_ok {g : G} {a : E} {τ : Tau} {i : Int} {L : List Nat} (ha : evE g a τ = .ok (.int i, L)) : evI g (.r1 a) τ = rngR1 i := by
  unfold evI
  rw [ha]; rfl
/-! ### ints, step by step -/
def EvI (g : G) (e : E) (τ : Tau) (i : Int) : Prop := evE g e τ = .ok (.int i, [])
section
variable {g : G} {τ : Tau} {a b : E} {i j : Int}
theorem EvI.v {k : Nat} (h : τ[k]? = some (some (false, .int i))) : EvI g (.v k) τ i := by unfold EvI evE; rw [h]; rfl
theorem EvI.k : EvI g (.k (.int i)) τ i := by unfold EvI evE; rfl
theorem EvI.bin {op : Operator} {z : Int} (ha : EvI g a τ i) (hb : EvI g b τ j) (h : binD op (.int i) (.int j) = some (.int z)) : EvI g (.bin op a b) τ z := by
  unfold EvI at *
  conv => lhs; unfold evE
  rw [ha, hb]
  simp only [R.bind_ok, h, lk_I]
theorem EvI.add (ha : EvI g a τ i) (hb : EvI g b τ j) : EvI g (.bin .Add a b) τ (i + j) := ha.bin hb rfl
theorem EvI.sub (ha : EvI g a τ i) (hb : EvI g b τ j) : EvI g (.bin .Sub a b) τ (i - j) := ha.bin hb rfl
theorem EvI.mul (h : mulOk i j = true) (ha : EvI g a τ i) (hb : EvI g b τ j) : EvI g (.bin .Mult a b) τ (i * j) := ha.bin hb (by rw [bMul, if_pos h])
theorem EvI.div (h : divOk i j = true) (ha : EvI g a τ i) (hb : EvI g b τ j) : EvI g (.bin .FloorDiv a b) τ (i / j) := ha.bin hb (by rw [bDiv, if_pos h])
theorem EvI.mod (h : 0 < j) (ha : EvI g a τ i) (hb : EvI g b τ j) : EvI g (.bin .Mod a b) τ (i % j) := ha.bin hb (by rw [bMod, if_pos h])
theorem EvI.pow (h : powOk i j = true) (ha : EvI g a τ i) (hb : EvI g b τ j) : EvI g (.bin .Pow a b) τ (i ^ j.toNat) := ha.bin hb (by rw [bPow, if_pos h])
theorem EvI.cmp {op : CmpOp} {z : Bool} (ha : EvI g a τ i) (hb : EvI g b τ j) (h : cmpD op (.int i) (.int j) = some z) : evT g (.cmp op a b) τ = .ok z := by
  unfold EvI at *
  conv => lhs; unfold evT
  rw [ha, hb]
  simp only [R.bind_ok, h]
theorem evS_if {io : List Nat} {c : E} {x y : Ss} {z : Bool} (h : evT g c τ = .ok z) : evS g io (.ifS c x y) τ = if z then evSs g io x τ else evSs g io y τ := by
  unfold evS
  rw [h]
  cases z <;> rfl
theorem EvI.neg (ha : EvI g a τ i) : EvI g (.neg a) τ (-i) := by
  unfold EvI at *
  conv => lhs; unfold evE
  rw [ha]; rfl
theorem EvI.int (ha : EvI g a τ i) : EvI g (.bi .int (.cons a .nil)) τ i := by
  unfold EvI at *
  conv => lhs; unfold evE
  unfold evEs
  rw [ha]
  unfold evEs
  simp only [R.bind_ok, intI, lk_I]
theorem EvI.set {io : List Nat} {k : Nat} (h : EvI g a τ i) (hio : k ∉ io) : evS g io (.set (.n k) a) τ = .nx (τ.set k (some (false, .int i))) := by
  unfold EvI at h
  unfold evS
  rw [h]
  show Out.ofO (asg io a.fresh (.n k) (.int i) (frz [] τ)) = _
  unfold asg
  dsimp only
  rw [if_neg hio, frz_nil, icI, Bool.and_false]
  rfl
theorem EvI.app {io : List Nat} {k : Nat} {ds : List D} (h : EvI g a τ i) (ho : own? τ k = some (.list ds)) (hz : ds.length < sizeLine) : evS g io (.app k a) τ = .nx (τ.set k (some (true, .list (ds ++ [.int i])))) := by
  unfold EvI at h
  unfold evS
  rw [ho, h]
  show (match own? (frz [] τ) k with | some (.list ds) => if ds.length < sizeLine then _ else _ | _ => _) = _
  rw [frz_nil, ho]
  show (if ds.length < sizeLine then _ else _) = _
  rw [if_pos hz]
end
/-! ### comprehensions over what is known -/
theorem comp_map {g : G} {τ : Tau} {elt : E} {it : I} {i : Nat} {own : List Nat} {α : Type} (xs : List α) (gf f : α → D) {L : List Nat} (hI : evI g it τ = .ok (xs.map gf, L)) (hk : lkI it L = []) (hz : xs.length ≤ sizeLine)
    (h : ∀ x ∈ xs, evE g elt ((wipeT τ own).set i (some (false, gf x))) = .ok (f x, [])) : evE g (.comp elt (.n i) it .no own) τ = .ok (.list (xs.map f), []) := by
  unfold evE
  rw [hI]
  simp only [R.bind_ok, List.length_map, if_pos hz, hk, frz_nil]
  have := compL_eq (elt := evE g elt) (cond := evC g .no) (t := .n i) (own := own) (τw := wipeT τ own) (g := gf) (f := f) (p := fun _ => true) xs fun x hx => ⟨(wipeT τ own).set i (some (false, gf x)), by
    unfold asg; simp, by unfold evC; rfl, fun _ => h x hx⟩
  rw [filter_tt] at this
  rw [this]
  rfl
theorem lkI_nil (it : I) : lkI it [] = [] := by
  cases it <;> first | rfl | (rename_i e; cases e <;> rfl)
/-- a comprehension over range(n) -/
theorem comp_rng {g : G} {τ : Tau} {elt e : E} {i : Nat} {own : List Nat} (n : Nat) (f : Nat → D) (he : EvI g e τ (n : Nat)) (hn : n ≤ 100000)
    (h : ∀ k < n, evE g elt ((wipeT τ own).set i (some (false, .int (k : Nat)))) = .ok (f k, [])) : evE g (.comp elt (.n i) (.r1 e) .no own) τ = .ok (.list ((List.range n).map f), []) := by
  refine comp_map (List.range n) (fun k => .int (k : Nat)) f ?_ rfl (by rw [List.length_range]; exact szs hn) fun k hk => h k (List.mem_range.mp hk)
  rw [r1_ok he, rng1 hn]
  unfold rngL
  congr 2
  apply List.map_congr_left
  intro k _
  rw [show (0 : Int) + (k : Nat) = (k : Nat) by omega]
/-! ### calls -/
/-- what a def's body sees -/
def gN (p : Pr) (n : Nat) : G := ⟨callN p n, p.io, p.gl, p.wN, p.gd, Nat.ble 2 n, p.fr⟩
theorem gN_cf (p : Pr) (n : Nat) : (gN p n).cf = callN p n := rfl
theorem gN_io (p : Pr) (n : Nat) : (gN p n).io = p.io := rfl
theorem gN_gl (p : Pr) (n : Nat) : (gN p n).gl = p.gl := rfl
theorem gN_gd (p : Pr) (n : Nat) : (gN p n).gd = p.gd := rfl
theorem gN_fr (p : Pr) (n : Nat) : (gN p n).fr = p.fr := rfl
theorem gN_xr (p : Pr) (n : Nat) : (gN p n).xr = Nat.ble 2 n := rfl
theorem gN_wN (p : Pr) (n : Nat) : (gN p n).wN = p.wN := rfl
/-- at every depth from k on the call hands back r -/
def Cl (p : Pr) (k f : Nat) (ds : List D) (r : D × List D) : Prop := ∀ n, k ≤ n → callN p n f ds = .ok r
theorem Cl.mk {p : Pr} {k f : Nat} {ds : List D} {r : D × List D} {F : Fn} (h : p.fs f = some F) (H : ∀ m, k ≤ m → runF (gN p m) F ds = .ok r) : Cl p (k + 1) f ds r := fun n hn => by
  cases n with
  | zero => omega
  | succ m =>
    show (match p.fs f with | some F => runF ⟨callN p m, p.io, p.gl, p.wN, p.gd, Nat.ble 2 m, p.fr⟩ F ds | none => _) = _
    rw [h]
    exact H m (by omega)
theorem Cl.at {p : Pr} {k f : Nat} {ds : List D} {r : D × List D} (h : Cl p k f ds r) {n : Nat} (hn : k ≤ n) : callN p n f ds = .ok r := h n hn
theorem fr_of {p : Pr} {f : Nat} {F : Fn} (h : p.fs f = some F) : p.fr f = F.fr := by unfold Pr.fr; rw [h]
theorem io_of {p : Pr} {f : Nat} {F : Fn} (h : p.fs f = some F) : p.io f = F.io := by unfold Pr.io; rw [h]
/-- a pure def by its body's end -/
theorem run_ret {g : G} {F : Fn} {ds : List D} {τ : Tau} {d : D} (hl : ds.length = F.nps) (hio : F.io = []) (h : evSs g [] F.body (startT F ds) = .ret τ d) (hfr : F.fr = false := by rfl) : runF g F ds = .ok (d, []) := by
  rw [runF_eq _ _ _ hl, hio, hfr, ioM_f, h]; rfl
@[simp] theorem wipeT_nil (τ : Tau) : wipeT τ [] = τ := rfl
@[simp] theorem wipeT_cons (τ : Tau) (v : Nat) (vs : List Nat) : wipeT τ (v :: vs) = (wipeT τ vs).set v none := rfl
end Mp
namespace Mp
open PySem PySem.Spec PyProof.Rows L2
/-- a call that raises, at every depth from k on -/
def ClX (p : Pr) (k f : Nat) (ds : List D) (e : Exc) : Prop := ∀ n, k ≤ n → callN p n f ds = .ex e
theorem ClX.mk {p : Pr} {k f : Nat} {ds : List D} {e : Exc} {F : Fn} (h : p.fs f = some F) (H : ∀ m, k ≤ m → runF (gN p m) F ds = .ex e) : ClX p (k + 1) f ds e := fun n hn => by
  cases n with
  | zero => omega
  | succ m =>
    show (match p.fs f with | some F => runF ⟨callN p m, p.io, p.gl, p.wN, p.gd, Nat.ble 2 m, p.fr⟩ F ds | none => _) = _
    rw [h]
    exact H m (by omega)
theorem ClX.at {p : Pr} {k f : Nat} {ds : List D} {e : Exc} (h : ClX p k f ds e) {n : Nat} (hn : k ≤ n) : callN p n f ds = .ex e := h n hn
theorem Cl.mkT {p : Pr} {k f : Nat} {ds : List D} {r : D × List D} {F : Fn} {t : Tr} (h0 : p.fs f = none) (h : p.ts f = some (F, t)) (H : ∀ m, k ≤ m → runT (gN p m) F t ds = .ok r) : Cl p (k + 1) f ds r := fun n hn => by
  cases n with
  | zero => omega
  | succ m =>
    show (match p.fs f with | some F => _ | none => match p.ts f with | some (F, t) => runT ⟨callN p m, p.io, p.gl, p.wN, p.gd, Nat.ble 2 m, p.fr⟩ F t ds | none => .st) = _
    rw [h0, h]
    exact H m (by omega)
theorem runT_eq (g : G) (F : Fn) (t : Tr) (ds : List D) (h : ds.length = F.nps) : runT g F t ds = match ((evSs g F.io t.b1 (startT F ds)).hand (t.hd g)).seq (evSs g F.io F.body) with
    | .nx τ => (R.of (outs τ F.io)).bind fun os => .ok (.none, os)
    | .ret τ d => (R.of (outs τ F.io)).bind fun os => .ok (d, os)
    | .ex x _ => .ex x
    | _ => .st := by
  unfold runT
  first
    | (rw [if_pos h]; done)
    | (rw [if_pos h]; rfl)
@[simp] theorem hand_nx (τ : Tau) (f : Exc → Tau → Out) : Out.hand (.nx τ) f = .nx τ := Eq.trans rfl rfl
@[simp] theorem hand_ret (τ : Tau) (d : D) (f : Exc → Tau → Out) : Out.hand (.ret τ d) f = .ret τ d := Eq.trans rfl rfl
@[simp] theorem hand_ex (τ : Tau) (e : Exc) (f : Exc → Tau → Out) : Out.hand (.ex e τ) f = f e τ := Eq.trans rfl rfl
@[simp] theorem isA_int (i : Int) : isA (.int i) = true := rfl
@[simp] theorem isA_str (x : Str) : isA (.str x) = true := rfl
@[simp] theorem isA_bool (b : Bool) : isA (.bool b) = true := rfl
@[simp] theorem isA_none : isA .none = true := rfl
end Mp

/-! equality of data -/
namespace Mp
open PySem PySem.Spec PyProof.Rows L2
theorem eqvAll_ints : ∀ xs ys : List Int, PyData.eqvAll (xs.map .int) (ys.map .int) = decide (xs = ys)
  | [], [] => rfl
  | [], _ :: _ => rfl
  | _ :: _, [] => rfl
  | x :: xs, y :: ys => by
    rw [List.map_cons, List.map_cons, PyData.eqvAll, eqvAll_ints xs ys, eqv_I]
    by_cases h : x = y <;> simp [h]
theorem eqv_tints (xs ys : List Int) : PyData.eqv (.tuple (xs.map .int)) (.tuple (ys.map .int)) = decide (xs = ys) := eqvAll_ints xs ys
theorem eqv_lints (xs ys : List Int) : PyData.eqv (.list (xs.map .int)) (.list (ys.map .int)) = decide (xs = ys) := eqvAll_ints xs ys
/-- what may be compared, and how deep it is -/
def Sh (n : Nat) (d : D) : Prop := d.canLay0 = true ∧ d.depth ≤ n
theorem Sh.int (n : Nat) (i : Int) : Sh n (.int i) := ⟨rfl, Nat.zero_le _⟩
theorem Sh.non (n : Nat) : Sh n .none := ⟨rfl, Nat.zero_le _⟩
theorem Sh.bool (n : Nat) (i : Bool) : Sh n (.bool i) := ⟨rfl, Nat.zero_le _⟩
theorem Sh.str (n : Nat) {x : Str} (h : PyData.canLay0 (.str x) = true) : Sh n (.str x) := ⟨h, Nat.zero_le _⟩
theorem Sh.mono {n m : Nat} {d : D} (h : Sh n d) (e : n ≤ m) : Sh m d := ⟨h.1, Nat.le_trans h.2 e⟩
theorem Sh.all {n : Nat} : ∀ {ds : List D}, (∀ d ∈ ds, Sh n d) → PyData.canLayAll0 ds = true ∧ PyData.depthAll ds ≤ n
  | [], _ => ⟨rfl, Nat.zero_le _⟩
  | d :: ds, h => by
    have h1 := h d (by simp)
    have h2 := Sh.all fun d hd => h d (List.mem_cons_of_mem _ hd)
    exact ⟨by simp [PyData.canLayAll0, h1.1, h2.1], by simp only [PyData.depthAll]; exact Nat.max_le.mpr ⟨h1.2, h2.2⟩⟩
theorem Sh.tup {n : Nat} {ds : List D} (h : ∀ d ∈ ds, Sh n d) : Sh (n + 1) (.tuple ds) := ⟨by simp [PyData.canLay0, (Sh.all h).1], by simp only [PyData.depth]; have := (Sh.all h).2; omega⟩
theorem Sh.lst {n : Nat} {ds : List D} (h : ∀ d ∈ ds, Sh n d) : Sh (n + 1) (.list ds) := ⟨by simp [PyData.canLay0, (Sh.all h).1], by simp only [PyData.depth]; have := (Sh.all h).2; omega⟩
theorem Sh.shaped {n : Nat} {d : D} (h : Sh n d) (hn : n ≤ 64) : SeqAt.shaped d = true := by
  unfold SeqAt.shaped
  rw [h.1, decide_eq_true (Nat.le_trans h.2 hn)]; rfl
theorem Sh.ints (xs : List Int) : ∀ d ∈ xs.map PyData.int, Sh 0 d := fun d hd => by
  obtain ⟨x, _, rfl⟩ := List.mem_map.mp hd
  exact .int 0 x
theorem eqD_T {xs ys : List D} (h1 : SeqAt.shaped (.tuple xs) = true) (h2 : SeqAt.shaped (.tuple ys) = true) : eqD (.tuple xs) (.tuple ys) = some (PyData.eqv (.tuple xs) (.tuple ys)) := by
  show (if SeqAt.shaped (.tuple xs) && SeqAt.shaped (.tuple ys) then some (PyData.eqv (.tuple xs) (.tuple ys)) else none) = _
  rw [h1, h2]; rfl
theorem eqD_L {xs ys : List D} (h1 : SeqAt.shaped (.list xs) = true) (h2 : SeqAt.shaped (.list ys) = true) : eqD (.list xs) (.list ys) = some (PyData.eqv (.list xs) (.list ys)) := by
  show (if SeqAt.shaped (.list xs) && SeqAt.shaped (.list ys) then some (PyData.eqv (.list xs) (.list ys)) else none) = _
  rw [h1, h2]; rfl
theorem eqT_ints (xs ys : List Int) : eqD (.tuple (xs.map .int)) (.tuple (ys.map .int)) = some (decide (xs = ys)) := by
  rw [eqD_T ((Sh.tup (Sh.ints xs)).shaped (by decide)) ((Sh.tup (Sh.ints ys)).shaped (by decide)), eqv_tints]
theorem eqL_ints (xs ys : List Int) : eqD (.list (xs.map .int)) (.list (ys.map .int)) = some (decide (xs = ys)) := by
  rw [eqD_L ((Sh.lst (Sh.ints xs)).shaped (by decide)) ((Sh.lst (Sh.ints ys)).shaped (by decide)), eqv_lints]
theorem eqT_refl {n : Nat} {xs : List D} (h : Sh n (.tuple xs)) (hn : n ≤ 64) : eqD (.tuple xs) (.tuple xs) = some true := by
  rw [eqD_T (h.shaped hn) (h.shaped hn), SeqAt.eqv_refl _ h.1]
theorem eqL_refl {n : Nat} {xs : List D} (h : Sh n (.list xs)) (hn : n ≤ 64) : eqD (.list xs) (.list xs) = some true := by
  rw [eqD_L (h.shaped hn) (h.shaped hn), SeqAt.eqv_refl _ h.1]
end Mp

/-! the draws of the laws: a cell, a row, one number -/
namespace Mp
open PySem PySem.Spec PyProof.Rows L2
def rd (ms : List Int) (j : Nat) : Int := ms.getD j 0
theorem at_rd {ms : List Int} {j : Nat} (h : j < ms.length) : atI (ms.map PyData.int) (j : Int) = some (.int (rd ms j)) := by
  refine atI_map ?_
  unfold rd
  simp [h]
/-- a word -/
def Wd (base x : Int) : Prop := 0 ≤ x ∧ x < base
theorem mod_wd {base x : Int} (hb : 0 < base) : Wd base (x % base) := ⟨Int.emod_nonneg _ (by omega), Int.emod_lt_of_pos _ hb⟩
theorem mulR {i j : Int} (h : -(2 ^ 64) < j ∧ j < 2 ^ 64) : mulOk i j = true := mulOk_iff.mpr (.inr (.inl h))
theorem mulL {i j : Int} (h : -(2 ^ 64) < i ∧ i < 2 ^ 64) : mulOk i j = true := mulOk_iff.mpr (.inl h)
def cellF (ns : List Int) (p : Int) : Int := if ns = [] then 0 else if rd ns (p % (ns.length : Nat)).toNat < 0 then -2 * rd ns (p % (ns.length : Nat)).toNat + 1 else 2 * rd ns (p % (ns.length : Nat)).toNat
theorem cellF_nn (ns : List Int) (p : Int) : 0 ≤ cellF ns p := by
  unfold cellF
  split
  · omega
  · split <;> omega
structure HRow (p : Pr) : Prop where
  cell : p.fs 9 = some F__law_cell
  row : ∃ b, p.fs 10 = some { F__law_row with fr := b }
  one : p.fs 11 = some F__law_one
theorem cell_cl {p : Pr} (h : p.fs 9 = some F__law_cell) (ns : List Int) (pl : Int) : Cl p 1 9 [.list (ns.map .int), .int pl] (.int (cellF ns pl), []) := by
  refine Cl.mk h fun m _ => ?_
  unfold cellF
  by_cases h : ns = []
  · subst h
    rw [runF_eq _ _ _ rfl]; simp only [F__law_cell, b__law_cell, ioM_f, ioM_t, startT, mark, List.replicate, List.cons_append, List.nil_append, List.contains_cons, List.contains_nil, icL, icT, icI, icS, icB, icN, icD, Nat.reduceBEq, Nat.reduceSub, Nat.reduceAdd, Bool.true_and, Bool.false_and, Bool.or_false, beq_self_eq_true]; repeat (rw [evSs_c]; simp [evIo, evSs_n, asg, asgs, frz1, own?, ixN_nat, outs, ofI, divS, gN_cf, gN_io, gN_gl, gN_gd, gN_xr, gN_fr, wipeT_nil, wipeT_cons])
  · have hl : 0 < ns.length := List.length_pos_iff.mpr h
    have h1 : (0 : Int) < (ns.length : Nat) := by omega
    have e : pl % (ns.length : Nat) = (((pl % (ns.length : Nat)).toNat : Nat) : Int) := (Int.toNat_of_nonneg (Int.emod_nonneg _ (by omega))).symm
    have hlt : (pl % (ns.length : Nat)).toNat < ns.length := by
      have := Int.emod_lt_of_pos pl h1
      omega
    have ha := at_rd (ms := ns) hlt
    generalize (pl % (ns.length : Nat)).toNat = j at *
    generalize rd ns j = c at *
    have m1 : mulOk (-2) c = true := mulL (by decide)
    have m2 : mulOk 2 c = true := mulL (by decide)
    by_cases hc : c < 0
    · rw [runF_eq _ _ _ rfl]; simp only [F__law_cell, b__law_cell, ioM_f, ioM_t, startT, mark, List.replicate, List.cons_append, List.nil_append, List.contains_cons, List.contains_nil, icL, icT, icI, icS, icB, icN, icD, Nat.reduceBEq, Nat.reduceSub, Nat.reduceAdd, Bool.true_and, Bool.false_and, Bool.or_false, beq_self_eq_true]; repeat (rw [evSs_c]; simp [evIo, evSs_n, asg, asgs, frz1, own?, ixN_nat, outs, ofI, divS, gN_cf, gN_io, gN_gl, gN_gd, gN_xr, gN_fr, wipeT_nil, wipeT_cons, h, h1, hl, e, ha, hc, m1, m2])
    · rw [runF_eq _ _ _ rfl]; simp only [F__law_cell, b__law_cell, ioM_f, ioM_t, startT, mark, List.replicate, List.cons_append, List.nil_append, List.contains_cons, List.contains_nil, icL, icT, icI, icS, icB, icN, icD, Nat.reduceBEq, Nat.reduceSub, Nat.reduceAdd, Bool.true_and, Bool.false_and, Bool.or_false, beq_self_eq_true]; repeat (rw [evSs_c]; simp [evIo, evSs_n, asg, asgs, frz1, own?, ixN_nat, outs, ofI, divS, gN_cf, gN_io, gN_gl, gN_gd, gN_xr, gN_fr, wipeT_nil, wipeT_cons, h, h1, hl, e, ha, hc, m1, m2])
/-- digits of a great cell -/
def digF (num limit : Int) (s : List Int × Int) (k : Nat) : List Int × Int := (s.1 ++ [(if s.2 = 0 then num / 3 + (k : Nat) else s.2) % limit], (if s.2 = 0 then num / 3 + (k : Nat) else s.2) / limit)
def mixF (num pl limit : Int) (k : Nat) : Int := ((((num + 7) * 48271 + (pl + 1) * 69621 + (k : Nat) * 16807 + 12345) % 2147483647 * (((num + 7) * 48271 + (pl + 1) * 69621 + (k : Nat) * 16807 + 12345) % 2147483647) + 40692 * ((k : Nat) + pl) + 11) % 2147483399 / 5) % limit
def big18 : Int := 1000000000000000000
def rowN (num pl : Int) (many : Nat) (limit : Int) : List Int :=
  if big18 ≤ num then ((List.range many).foldl (digF num limit) ([], num / 2 + pl)).1 else (List.range many).map (mixF num pl limit)
def rowF (ns : List Int) (pl : Int) (many : Nat) (limit : Int) : List Int := rowN (cellF ns pl) pl many limit
theorem digs_ok (num limit : Int) (hl : 0 < limit) : ∀ (ks : List Nat) (s : List Int × Int), (∀ x ∈ s.1, Wd limit x) → (ks.foldl (digF num limit) s).1.length = s.1.length + ks.length ∧ ∀ x ∈ (ks.foldl (digF num limit) s).1, Wd limit x
  | [], s, h => ⟨rfl, h⟩
  | k :: ks, s, h => by
    have := digs_ok num limit hl ks (digF num limit s k) (fun x hx => by
      unfold digF at hx
      rw [List.mem_append, List.mem_singleton] at hx
      rcases hx with hx | rfl
      · exact h x hx
      · exact mod_wd hl)
    refine ⟨?_, this.2⟩
    rw [List.foldl_cons, this.1]
    simp [digF]; omega
theorem rowF_len (ns : List Int) (pl : Int) (many : Nat) {limit : Int} (hl : 0 < limit) : (rowF ns pl many limit).length = many := by
  unfold rowF rowN
  split
  · have := (digs_ok (cellF ns pl) limit hl (List.range many) ([], cellF ns pl / 2 + pl) (by simp)).1
    rw [this]; simp
  · simp
theorem rowF_wd (ns : List Int) (pl : Int) (many : Nat) {limit : Int} (hl : 0 < limit) : ∀ x ∈ rowF ns pl many limit, Wd limit x := by
  unfold rowF rowN
  split
  · exact (digs_ok (cellF ns pl) limit hl (List.range many) ([], cellF ns pl / 2 + pl) (by simp)).2
  · intro x hx
    obtain ⟨k, _, rfl⟩ := List.mem_map.mp hx
    exact mod_wd hl
theorem rng0 (n : Nat) : rngL 0 n = (List.range n).map fun k : Nat => PyData.int (k : Nat) := by
  unfold rngL
  apply List.map_congr_left
  intro k _
  rw [show (0 : Int) + (k : Nat) = (k : Nat) by omega]
theorem rng_get {m i : Nat} {d : D} (h : (rngL 0 m)[i]? = some d) : i < m ∧ d = .int (i : Nat) := by
  rw [rng0, List.getElem?_map] at h
  obtain ⟨j, hj, rfl⟩ := Option.map_eq_some_iff.mp h
  obtain ⟨hlt, he⟩ := List.getElem?_eq_some_iff.mp hj
  rw [List.length_range] at hlt
  rw [List.getElem_range] at he
  subst he
  exact ⟨hlt, rfl⟩
theorem rng_len (m : Nat) : (rngL 0 m).length = m := by simp [rngL]
theorem fold_succ {α : Type} (f : α → Nat → α) (a : α) (j : Nat) : (List.range (j + 1)).foldl f a = f ((List.range j).foldl f a) j := by
  rw [List.range_succ, List.foldl_append]; rfl
def digS (limit num : Int) (s : List Int × Int) : Tau := [none, none, none, some (false, .int limit), some (false, .int num), some (true, .list (s.1.map .int)), some (false, .int s.2), none, none]
theorem dig_turn {io : List Nat} (hio : io = [] ∨ io = [1000000]) (g : G) (limit num : Int) (hl : 0 < limit) (hl2 : ∀ x, divOk x limit = true) (s : List Int × Int) (i : Nat) (hz : s.1.length < sizeLine) :
    Turn io [0, 1, 2, 7, 8] (.n 7) (evSs g io b__law_row_1) (.int (i : Nat)) (digS limit num s) (digS limit num (digF num limit s i)) := by
  obtain ⟨r, y⟩ := s
  have hz : r.length < sizeLine := hz
  unfold digF digS
  by_cases h0 : y = 0
  · rcases hio with rfl | rfl <;> exact Turn.of rfl (by simp only [b__law_row_1]; repeat (rw [evSs_c]; simp [evIo, evSs_n, asg, asgs, frz1, own?, ixN_nat, outs, ofI, divS, gN_cf, gN_io, gN_gl, gN_gd, gN_xr, gN_fr, wipeT_nil, wipeT_cons, h0, hl, hl2, hz]))
  · rcases hio with rfl | rfl <;> exact Turn.of rfl (by simp only [b__law_row_1]; repeat (rw [evSs_c]; simp [evIo, evSs_n, asg, asgs, frz1, own?, ixN_nat, outs, ofI, divS, gN_cf, gN_io, gN_gl, gN_gd, gN_xr, gN_fr, wipeT_nil, wipeT_cons, h0, hl, hl2, hz]))
theorem dig_loop {io : List Nat} (hio : io = [] ∨ io = [1000000]) (g : G) (limit num rest : Int) (hl : 0 < limit) (hl2 : ∀ x, divOk x limit = true) (m : Nat) (hm : m ≤ 100000) :
    forL io [0, 1, 2, 7, 8] (.n 7) (evSs g io b__law_row_1) (rngL 0 m) (digS limit num ([], rest)) = .nx (digS limit num ((List.range m).foldl (digF num limit) ([], rest))) := by
  have := forL_ix (io := io) (dead := [0, 1, 2, 7, 8]) (t := .n 7) (body := evSs g io b__law_row_1) (rngL 0 m) (fun j => digS limit num ((List.range j).foldl (digF num limit) ([], rest))) 0 fun i d hd => by
      obtain ⟨hi, rfl⟩ := rng_get hd
      rw [Nat.zero_add, fold_succ]
      have hlen := (digs_ok num limit hl (List.range i) ([], rest) (by simp)).1
      simp only [List.length_nil, List.length_range] at hlen
      exact dig_turn hio g limit num hl hl2 _ i (szl (by omega))
  rw [rng_len, Nat.zero_add] at this
  exact this
def mixS (pl limit num : Int) (r : List Int) : Tau := [none, some (false, .int pl), none, some (false, .int limit), some (false, .int num), some (true, .list (r.map .int)), none, none, none]
def mixA (num pl : Int) (k : Nat) : Int := ((num + 7) * 48271 + (pl + 1) * 69621 + (k : Nat) * 16807 + 12345) % 2147483647
def mixB (w pl : Int) (k : Nat) : Int := (w * w + 40692 * ((k : Nat) + pl) + 11) % 2147483399
theorem mix_turn {io : List Nat} (hio : io = [] ∨ io = [1000000]) (g : G) (pl limit num : Int) (hl : 0 < limit) (r : List Int) (i : Nat) (hz : r.length < sizeLine) :
    Turn io [0, 2, 6, 7, 8] (.n 7) (evSs g io b__law_row_0) (.int (i : Nat)) (mixS pl limit num r) (mixS pl limit num (r ++ [mixF num pl limit i])) := by
  have hw : -(2 ^ 64) < mixA num pl i ∧ mixA num pl i < 2 ^ 64 := by
    have h1 := Int.emod_nonneg ((num + 7) * 48271 + (pl + 1) * 69621 + (i : Nat) * 16807 + 12345) (show (2147483647 : Int) ≠ 0 by decide)
    have h2 := Int.emod_lt_of_pos ((num + 7) * 48271 + (pl + 1) * 69621 + (i : Nat) * 16807 + 12345) (show (0 : Int) < 2147483647 by decide)
    unfold mixA
    constructor <;> omega
  have hF : mixF num pl limit i = mixB (mixA num pl i) pl i / 5 % limit := rfl
  have hm : r.map PyData.int ++ [.int (mixF num pl limit i)] = (r ++ [mixF num pl limit i]).map .int := by simp
  have e1 : EvI g (.bin .Mod (.bi .int (.cons (.bin .Add (.bin .Add (.bin .Add (.bin .Mult (.bin .Add (.v 4) (.k (.int 7))) (.k (.int 48271))) (.bin .Mult (.bin .Add (.v 1) (.k (.int 1))) (.k (.int 69621)))) (.bin .Mult (.v 7) (.k (.int 16807)))) (.k (.int 12345))) .nil)) (.k (.int 2147483647))) [none, some (false, .int pl), none, some (false, .int limit), some (false, .int num), some (true, .list (r.map .int)), none, some (false, .int (i : Nat)), none] (mixA num pl i) :=
    .mod (by decide) (.int (.add (.add (.add (.mul (mulR (by decide)) (.add (.v rfl) .k) .k) (.mul (mulR (by decide)) (.add (.v rfl) .k) .k)) (.mul (mulR (by decide)) (.v rfl) .k)) .k)) .k
  generalize mixA num pl i = w at *
  have e2 : EvI g (.bin .Mod (.bi .int (.cons (.bin .Add (.bin .Add (.bin .Mult (.v 8) (.v 8)) (.bin .Mult (.k (.int 40692)) (.bin .Add (.v 7) (.v 1)))) (.k (.int 11))) .nil)) (.k (.int 2147483399))) [none, some (false, .int pl), none, some (false, .int limit), some (false, .int num), some (true, .list (r.map .int)), none, some (false, .int (i : Nat)), some (false, .int w)] (mixB w pl i) :=
    .mod (by decide) (.int (.add (.add (.mul (mulL hw) (.v rfl) (.v rfl)) (.mul (mulL (by decide)) .k (.add (.v rfl) (.v rfl)))) .k)) .k
  generalize mixB w pl i = v at *
  have e3 : EvI g (.bin .Mod (.bi .int (.cons (.bin .FloorDiv (.v 8) (.k (.int 5))) .nil)) (.v 3)) [none, some (false, .int pl), none, some (false, .int limit), some (false, .int num), some (true, .list (r.map .int)), none, some (false, .int (i : Nat)), some (false, .int v)] (v / 5 % limit) :=
    .mod hl (.int (.div (divS (by decide) (by decide)) (.v rfl) .k)) (.v rfl)
  have n6 : 6 ∉ io := by rcases hio with rfl | rfl <;> simp
  have n8 : 8 ∉ io := by rcases hio with rfl | rfl <;> simp
  have n7 : 7 ∉ io := by rcases hio with rfl | rfl <;> simp
  unfold mixS
  refine Turn.of (τ1 := [none, some (false, .int pl), none, some (false, .int limit), some (false, .int num), some (true, .list (r.map .int)), none, some (false, .int (i : Nat)), none]) (by simp [asg, n7]) ?_
  rw [← hm, hF]
  simp only [b__law_row_0, icI, Bool.and_false, List.set_cons_succ, List.set_cons_zero]
  rw [evSs_c, e1.set n8, Out.seq_nx, evSs_c]
  simp only [List.set_cons_succ, List.set_cons_zero]
  rw [e2.set n8, Out.seq_nx, evSs_c]
  simp only [List.set_cons_succ, List.set_cons_zero]
  rw [e3.app (ds := r.map .int) rfl (by simpa using hz), Out.seq_nx, evSs_n]
  rfl
theorem mix_loop {io : List Nat} (hio : io = [] ∨ io = [1000000]) (g : G) (pl limit num : Int) (hl : 0 < limit) (m : Nat) (hm : m ≤ 100000) :
    forL io [0, 2, 6, 7, 8] (.n 7) (evSs g io b__law_row_0) (rngL 0 m) (mixS pl limit num []) = .nx (mixS pl limit num ((List.range m).map (mixF num pl limit))) := by
  have := forL_ix (io := io) (dead := [0, 2, 6, 7, 8]) (t := .n 7) (body := evSs g io b__law_row_0) (rngL 0 m) (fun j => mixS pl limit num ((List.range j).map (mixF num pl limit))) 0 fun i d hd => by
      obtain ⟨hi, rfl⟩ := rng_get hd
      rw [Nat.zero_add, List.range_succ, List.map_append]
      exact mix_turn hio g pl limit num hl _ i (szl (by simp; omega))
  rw [rng_len, Nat.zero_add] at this
  exact this
theorem p18 : (10 : Int) ^ (18 : Int).toNat = big18 := by decide
theorem row_test (g : G) (x0 x1 x2 x3 x5 x6 x7 x8 : Option (Bool × D)) (num : Int) : evT g (.cmp .GtE (.v 4) (.bin .Pow (.k (.int 10)) (.k (.int 18)))) [x0, x1, x2, x3, some (false, .int num), x5, x6, x7, x8] = .ok (decide (big18 ≤ num)) :=
  EvI.cmp (.v rfl) (.pow (by decide) .k .k) (by rw [cGe, p18])
theorem row_cl {p : Pr} (h : HRow p) (ns : List Int) (pl : Int) (m : Nat) (limit : Int) (hm : m ≤ 100000) (hl : 0 < limit) (hl2 : ∀ x, divOk x limit = true) :
    Cl p 2 10 [.list (ns.map .int), .int pl, .int (m : Nat), .int limit] (.list ((rowF ns pl m limit).map .int), []) := by
  obtain ⟨b, hb⟩ := h.row
  refine Cl.mk hb fun n hn => ?_
  have hc := (cell_cl h.cell ns pl).at hn
  have io := io_of h.cell
  have hr := rng1 (n := m) (by omega)
  unfold rowF
  generalize cellF ns pl = num at *
  have hT : ∀ g : G, evT g (.cmp .GtE (.v 4) (.bin .Pow (.k (.int 10)) (.k (.int 18)))) [some (false, .list (ns.map .int)), some (false, .int pl), some (false, .int (m : Nat)), some (false, .int limit), some (false, .int num), some (true, .list []), none, none, none] = .ok (decide (big18 ≤ num)) :=
    fun g => row_test g _ _ _ _ _ _ _ _ num
  have hio : ioM [] b = [] ∨ ioM [] b = [1000000] := by cases b <;> simp
  have key : ∃ τ, evSs (gN p n) (ioM [] b) b__law_row [some (false, .list (ns.map .int)), some (false, .int pl), some (false, .int (m : Nat)), some (false, .int limit), none, none, none, none, none] = .ret τ (.list ((rowN num pl m limit).map .int)) := by
    generalize ioM [] b = io' at *
    simp only [b__law_row]
    rw [evSs_c, show evS (gN p n) io' (.set (.n 4) (.call 9 (.cons (.v 0) (.cons (.v 1) .nil)))) [some (false, .list (ns.map .int)), some (false, .int pl), some (false, .int (m : Nat)), some (false, .int limit), none, none, none, none, none] = .nx [some (false, .list (ns.map .int)), some (false, .int pl), some (false, .int (m : Nat)), some (false, .int limit), some (false, .int num), none, none, none, none] by (rcases hio with rfl | rfl <;> simp [evIo, evSs_n, asg, asgs, frz1, own?, ixN_nat, outs, ofI, divS, gN_cf, gN_io, gN_gl, gN_gd, gN_xr, gN_fr, wipeT_nil, wipeT_cons, hc, io, F__law_cell]), Out.seq_nx,
      evSs_c, show evS (gN p n) io' (.set (.n 5) (.lst .nil)) [some (false, .list (ns.map .int)), some (false, .int pl), some (false, .int (m : Nat)), some (false, .int limit), some (false, .int num), none, none, none, none] = .nx [some (false, .list (ns.map .int)), some (false, .int pl), some (false, .int (m : Nat)), some (false, .int limit), some (false, .int num), some (true, .list []), none, none, none] by (rcases hio with rfl | rfl <;> simp [evIo, evSs_n, asg, asgs, frz1, own?, ixN_nat, outs, ofI, divS, gN_cf, gN_io, gN_gl, gN_gd, gN_xr, gN_fr, wipeT_nil, wipeT_cons]), Out.seq_nx, evSs_c, evS_if (hT _)]
    unfold rowN
    by_cases hb : big18 ≤ num
    · have e := dig_loop hio (gN p n) limit num (num / 2 + pl) hl hl2 m hm
      simp only [digS, List.map_nil] at e
      rw [decide_eq_true hb, if_pos rfl, if_pos hb]
      generalize (List.range m).foldl (digF num limit) ([], num / 2 + pl) = s at *
      rcases hio with rfl | rfl <;> repeat (rw [evSs_c]; simp [evIo, evSs_n, asg, asgs, frz1, own?, ixN_nat, outs, ofI, divS, gN_cf, gN_io, gN_gl, gN_gd, gN_xr, gN_fr, wipeT_nil, wipeT_cons, e, hr])
    · have e := mix_loop hio (gN p n) pl limit num hl m hm
      simp only [mixS, List.map_nil] at e
      rw [decide_eq_false hb, if_neg (by decide), if_neg hb, evSs_n, Out.seq_nx]
      generalize (List.range m).map (mixF num pl limit) = r at *
      rcases hio with rfl | rfl <;> repeat (rw [evSs_c]; simp [evIo, evSs_n, asg, asgs, frz1, own?, ixN_nat, outs, ofI, divS, gN_cf, gN_io, gN_gl, gN_gd, gN_xr, gN_fr, wipeT_nil, wipeT_cons, e, hr])
  obtain ⟨τ, key⟩ := key
  rw [runF_eq _ _ _ rfl]
  show (match evSs (gN p n) (ioM [] b) b__law_row [some (false, .list (ns.map .int)), some (false, .int pl), some (false, .int (m : Nat)), some (false, .int limit), none, none, none, none, none] with
    | .nx τ => (R.of (outs τ [])).bind fun os => R.ok (PyData.none, os)
    | .ret τ d => (R.of (outs τ [])).bind fun os => .ok (d, os)
    | .ex x _ => .ex x
    | _ => .st) = _
  rw [key]
  rfl
theorem row_io {p : Pr} (h : HRow p) : p.io 10 = [] := by
  obtain ⟨b, hb⟩ := h.row
  exact io_of hb
def oneF (ns : List Int) (pl limit : Int) : Int := rd (rowF ns pl 1 limit) 0
theorem oneF_wd (ns : List Int) (pl : Int) {limit : Int} (hl : 0 < limit) : Wd limit (oneF ns pl limit) := by
  have h1 := rowF_len ns pl 1 hl
  refine rowF_wd ns pl 1 hl _ ?_
  unfold oneF rd
  rw [List.getD_eq_getElem?_getD, List.getElem?_eq_getElem (by omega)]
  exact List.getElem_mem _
theorem one_cl {p : Pr} (h : HRow p) (ns : List Int) (pl limit : Int) (hl : 0 < limit) (hl2 : ∀ x, divOk x limit = true) :
    Cl p 3 11 [.list (ns.map .int), .int pl, .int limit] (.int (oneF ns pl limit), []) := by
  refine Cl.mk h.one fun n hn => ?_
  have hc : callN p n 10 [.list (ns.map .int), .int pl, .int 1, .int limit] = _ := (row_cl h ns pl 1 limit (by omega) hl hl2).at hn
  have io := row_io h
  have ha : atI _ 0 = _ := at_rd (ms := rowF ns pl 1 limit) (j := 0) (by rw [rowF_len _ _ _ hl]; omega)
  unfold oneF
  rw [runF_eq _ _ _ rfl]; simp only [F__law_one, b__law_one, ioM_f, ioM_t, startT, mark, List.replicate, List.cons_append, List.nil_append, List.contains_cons, List.contains_nil, icL, icT, icI, icS, icB, icN, icD, Nat.reduceBEq, Nat.reduceSub, Nat.reduceAdd, Bool.true_and, Bool.false_and, Bool.or_false, beq_self_eq_true]
  repeat (rw [evSs_c]; simp [evIo, evSs_n, asg, asgs, frz1, own?, ixN_nat, outs, ofI, divS, gN_cf, gN_io, gN_gl, gN_gd, gN_xr, gN_fr, wipeT_nil, wipeT_cons, hc, io, ha])
/-- a divisor of few digits -/
theorem divB {limit : Int} (h : 0 < limit) (h2 : limit < 1073741824) (x : Int) : divOk x limit = true := divS h h2
theorem rd_wd {base : Int} {ms : List Int} (hb : 0 < base) (h : ∀ x ∈ ms, Wd base x) (j : Nat) : Wd base (rd ms j) := by
  unfold rd
  rw [List.getD_eq_getElem?_getD]
  cases e : ms[j]? with
  | none => exact ⟨by simp, hb⟩
  | some x => exact h x (List.mem_of_getElem? e)
end Mp

/-! polynomials as lists of whole numbers, by their values -/
namespace Mp
def pev : List Int → Int → Int
  | [], _ => 0
  | a :: p, x => a + x * pev p x
def IsP (p : List Int) : Prop := p.getLast? ≠ some 0
def trm : List Int → List Int
  | [] => []
  | a :: p => match trm p with
    | [] => if a = 0 then [] else [a]
    | b :: q => a :: b :: q
theorem eq0_of_dvd {x a : Int} (h : x ∣ a) (h2 : (a.natAbs : Int) < x) : a = 0 :=
  Int.eq_zero_of_dvd_of_natAbs_lt_natAbs h (by omega)
theorem step_eq {a b N : Int} {f g : Int → Int} (h : ∀ x, N ≤ x → a + x * f x = b + x * g x) : a = b ∧ ∀ x, max N 1 ≤ x → f x = g x := by
  have hab : a = b := by
    have h1 := h (max N 0 + ((b - a).natAbs : Nat) + 1) (by omega)
    have h2 : (max N 0 + ((b - a).natAbs : Nat) + 1) ∣ (b - a) := ⟨f (max N 0 + ((b - a).natAbs : Nat) + 1) - g (max N 0 + ((b - a).natAbs : Nat) + 1), by rw [Int.mul_sub]; omega⟩
    have := eq0_of_dvd h2 (by omega)
    omega
  refine ⟨hab, fun x hx => ?_⟩
  subst hab
  have h1 := h x (by omega)
  exact Int.eq_of_mul_eq_mul_left (a := x) (by omega) (by omega)
theorem pev_getD : ∀ (p q : List Int) (N : Int), (∀ x, N ≤ x → pev p x = pev q x) → ∀ i, p.getD i 0 = q.getD i 0
  | [], [], _, _, _ => rfl
  | [], b :: q, N, h, i => by
    have s := step_eq (a := 0) (b := b) (f := fun _ => 0) (g := pev q) (N := N) (fun x hx => by have := h x hx; simp only [pev] at this; simpa using this)
    have t := pev_getD [] q (max N 1) (fun x hx => s.2 x hx)
    cases i with
    | zero => simpa using s.1
    | succ i => simpa using t i
  | a :: p, [], N, h, i => by
    have s := step_eq (a := a) (b := 0) (f := pev p) (g := fun _ => 0) (N := N) (fun x hx => by have := h x hx; simp only [pev] at this; simpa using this)
    have t := pev_getD p [] (max N 1) (fun x hx => s.2 x hx)
    cases i with
    | zero => simpa using s.1
    | succ i => simpa using t i
  | a :: p, b :: q, N, h, i => by
    have s := step_eq (a := a) (b := b) (f := pev p) (g := pev q) (N := N) (fun x hx => h x hx)
    have t := pev_getD p q (max N 1) (fun x hx => s.2 x hx)
    cases i with
    | zero => simpa using s.1
    | succ i => simpa using t i
theorem ext_getD {p q : List Int} (hl : p.length = q.length) (h : ∀ i, p.getD i 0 = q.getD i 0) : p = q := by
  apply List.ext_getElem? 
  intro i
  have := h i
  by_cases hi : i < p.length
  · rw [List.getD_eq_getElem?_getD, List.getD_eq_getElem?_getD, List.getElem?_eq_getElem hi, List.getElem?_eq_getElem (by omega)] at this
    rw [List.getElem?_eq_getElem hi, List.getElem?_eq_getElem (by omega)]
    simpa using this
  · rw [List.getElem?_eq_none (by omega), List.getElem?_eq_none (by omega)]
theorem pev_inj {p q : List Int} (N : Int) (hl : p.length = q.length) (h : ∀ x, N ≤ x → pev p x = pev q x) : p = q := ext_getD hl (pev_getD p q N h)
theorem isP_last {p : List Int} (h : IsP p) (n : p ≠ []) : p.getD (p.length - 1) 0 ≠ 0 := by
  unfold IsP at h
  rw [List.getLast?_eq_getElem?] at h
  have hl : 0 < p.length := List.length_pos_iff.mpr n
  rw [List.getElem?_eq_getElem (by omega)] at h
  rw [List.getD_eq_getElem?_getD, List.getElem?_eq_getElem (by omega)]
  simpa using h
theorem isP_uniq {p q : List Int} (hp : IsP p) (hq : IsP q) (N : Int) (h : ∀ x, N ≤ x → pev p x = pev q x) : p = q := by
  have g := pev_getD p q N h
  refine ext_getD ?_ g
  have out : ∀ {l : List Int} {i : Nat}, l.length ≤ i → l.getD i 0 = 0 := fun {l i} z => by
    rw [List.getD_eq_getElem?_getD, List.getElem?_eq_none z]; rfl
  rcases Nat.lt_trichotomy p.length q.length with z | z | z
  · have n : q ≠ [] := fun e => by rw [e] at z; simp at z
    exact absurd ((g (q.length - 1)).symm.trans (out (by omega))) (isP_last hq n)
  · exact z
  · have n : p ≠ [] := fun e => by rw [e] at z; simp at z
    exact absurd ((g (p.length - 1)).trans (out (by omega))) (isP_last hp n)
theorem isP_nil : IsP [] := by unfold IsP; simp
theorem isP_cons {a b : Int} {p : List Int} : IsP (a :: b :: p) ↔ IsP (b :: p) := by unfold IsP; rw [List.getLast?_cons_cons]
theorem isP_one {a : Int} : IsP [a] ↔ a ≠ 0 := by unfold IsP; simp
theorem isP_trm : ∀ p : List Int, IsP (trm p)
  | [] => isP_nil
  | a :: p => by
    have ih := isP_trm p
    unfold trm
    split
    · split
      · exact isP_nil
      · exact isP_one.mpr (by assumption)
    · rename_i b q e
      rw [e] at ih
      exact isP_cons.mpr ih
theorem pev_trm : ∀ (p : List Int) (x : Int), pev (trm p) x = pev p x
  | [], x => rfl
  | a :: p, x => by
    have ih := pev_trm p x
    unfold trm
    split
    · rename_i e
      rw [e] at ih
      simp only [pev] at ih ⊢
      rw [← ih]
      split
      · rename_i z; simp [pev, z]
      · simp [pev]
    · rename_i b q e
      rw [e] at ih
      rw [pev, ih, pev]
theorem trm_isP : ∀ {p : List Int}, IsP p → trm p = p := fun {p} h => isP_uniq (isP_trm p) h 0 fun x _ => pev_trm p x
theorem trm_len : ∀ p : List Int, (trm p).length ≤ p.length
  | [] => Nat.le_refl _
  | a :: p => by
    have ih := trm_len p
    unfold trm
    split
    · split <;> simp
    · rename_i b q e
      rw [e] at ih
      simpa using ih
theorem trm_take : ∀ p : List Int, trm p = p.take (trm p).length
  | [] => rfl
  | a :: p => by
    have ih := trm_take p
    unfold trm
    split
    · split <;> simp
    · rename_i b q e
      rw [e] at ih
      simp only [List.length_cons, List.take_succ_cons] at ih ⊢
      rw [← ih]
theorem trm_mem {p : List Int} {a : Int} (h : a ∈ trm p) : a ∈ p := by
  rw [trm_take p] at h
  exact List.mem_of_mem_take h
theorem trm_zero {p : List Int} {i : Nat} (h : (trm p).length ≤ i) : p.getD i 0 = 0 := by
  have := pev_getD (trm p) p 0 (fun x _ => pev_trm p x) i
  rw [← this, List.getD_eq_getElem?_getD, List.getElem?_eq_none h]; rfl
theorem trm_nil {p : List Int} : trm p = [] ↔ ∀ a ∈ p, a = 0 := by
  constructor
  · intro h a ha
    obtain ⟨i, hi⟩ := List.getElem?_of_mem ha
    have := trm_zero (p := p) (i := i) (by rw [h]; exact Nat.zero_le _)
    rw [List.getD_eq_getElem?_getD, hi] at this
    exact this
  · intro h
    cases e : trm p with
    | nil => rfl
    | cons b q =>
      have h1 := isP_last (isP_trm p) (by rw [e]; simp)
      refine absurd ?_ h1
      rw [List.getD_eq_getElem?_getD]
      cases z : (trm p)[(trm p).length - 1]? with
      | none => rfl
      | some c => exact h c (trm_mem (List.mem_of_getElem? z))
/-- the zero polynomial -/
theorem isP_nil_of {p : List Int} (hp : IsP p) (N : Int) (h : ∀ x, N ≤ x → pev p x = 0) : p = [] := isP_uniq hp isP_nil N h
theorem nab_mul_le {a b c : Int} (h : (b.natAbs : Int) ≤ (c.natAbs : Int)) : ((a * b).natAbs : Int) ≤ ((a * c).natAbs : Int) := by
  rw [Int.natAbs_mul, Int.natAbs_mul]
  exact Int.ofNat_le.mpr (Nat.mul_le_mul_left _ (by omega))
/-- a polynomial of a higher degree is greater in the end -/
theorem pev_dom : ∀ (y b : List Int), IsP y → b.length < y.length → ∃ N : Int, ∀ x, N ≤ x → ((pev b x).natAbs : Int) < ((pev y x).natAbs : Int)
  | [], b, _, h => by simp at h
  | [c], b, hy, h => by
    have hb : b = [] := by simpa using h
    subst hb
    have := isP_one.mp hy
    exact ⟨0, fun x _ => by simp [pev]; omega⟩
  | c :: e :: y, b, hy, h => by
    have main : ∀ (d : Int) (b' : List Int), b'.length < (e :: y).length → (∀ x, pev b x = d + x * pev b' x) → ∃ N : Int, ∀ x, N ≤ x → ((pev b x).natAbs : Int) < ((pev (c :: e :: y) x).natAbs : Int) := by
      intro d b' hl hb
      obtain ⟨N, hN⟩ := pev_dom (e :: y) b' (isP_cons.mp hy) hl
      refine ⟨max N 0 + (c.natAbs : Nat) + (d.natAbs : Nat) + 1, fun x hx => ?_⟩
      have h1 := hN x (by omega)
      rw [hb, pev]
      generalize pev (e :: y) x = u at *
      generalize pev b' x = v at *
      have h2 : x * ((v.natAbs : Int) + 1) ≤ x * (u.natAbs : Int) := Int.mul_le_mul_of_nonneg_left (by omega) (by omega)
      have h3 : ((x * u).natAbs : Int) = x * (u.natAbs : Int) := by rw [Int.natAbs_mul]; rw [Int.natCast_mul]; congr 1; omega
      have h4 : ((x * v).natAbs : Int) = x * (v.natAbs : Int) := by rw [Int.natAbs_mul]; rw [Int.natCast_mul]; congr 1; omega
      rw [Int.mul_add, Int.mul_one] at h2
      omega
    cases b with
    | nil => exact main 0 [] (by simp) (fun x => by simp [pev])
    | cons d b' => exact main d b' (by simpa using h) (fun x => rfl)
/-- what is bounded is constant -/
theorem pev_bdd {p : List Int} (hp : IsP p) (N M : Int) (h : ∀ x, N ≤ x → ((pev p x).natAbs : Int) ≤ M) : p.length ≤ 1 := by
  by_cases hl : p.length ≤ 1
  · exact hl
  obtain ⟨N', h'⟩ := pev_dom p [M + 1] hp (by simp; omega)
  have h1 := h (max N N') (by omega)
  have h2 := h' (max N N') (by omega)
  simp only [pev] at h2
  omega
/-- a division with rest is one alone -/
theorem div_uniq {y a r b s : List Int} (hy : IsP y) (hy0 : y ≠ []) (hr : r.length < y.length) (hs : s.length < y.length) (N : Int) (h : ∀ x, N ≤ x → pev a x * pev y x + pev r x = pev b x * pev y x + pev s x) : ∃ M, ∀ x, M ≤ x → pev a x = pev b x ∧ pev r x = pev s x := by
  obtain ⟨N1, h1⟩ := pev_dom y (List.zipWith (· - ·) (s ++ List.replicate (y.length - 1 - s.length) 0) (r ++ List.replicate (y.length - 1 - r.length) 0)) hy (by simp [List.length_zipWith]; omega)
  have key : ∀ x : Int, pev (List.zipWith (· - ·) (s ++ List.replicate (y.length - 1 - s.length) 0) (r ++ List.replicate (y.length - 1 - r.length) 0)) x = pev s x - pev r x := by
    have pad : ∀ (l : List Int) (k : Nat) (x : Int), pev (l ++ List.replicate k 0) x = pev l x := by
      intro l k x
      induction l with
      | nil =>
        induction k with
        | zero => rfl
        | succ k ih => rw [List.replicate_succ]; simp only [List.nil_append, pev] at ih ⊢; rw [ih]; omega
      | cons c l ih => simp only [List.cons_append, pev, ih]
    have zw : ∀ (l m : List Int) (x : Int), l.length = m.length → pev (List.zipWith (· - ·) l m) x = pev l x - pev m x := by
      intro l
      induction l with
      | nil => intro m x h; cases m with | nil => rfl | cons _ _ => simp at h
      | cons c l ih =>
        intro m x h
        cases m with
        | nil => simp at h
        | cons d m =>
          simp only [List.zipWith_cons_cons, pev]
          rw [ih m x (by simpa using h), Int.mul_sub]; omega
    intro x
    rw [zw _ _ _ (by simp; omega), pad, pad]
  refine ⟨max N N1, fun x hx => ?_⟩
  have e1 := h x (by omega)
  have e2 := h1 x (by omega)
  rw [key] at e2
  have e3 : (pev a x - pev b x) * pev y x = pev s x - pev r x := by rw [Int.sub_mul]; omega
  have e4 : pev a x - pev b x = 0 := by
    have : pev y x ∣ pev s x - pev r x := ⟨pev a x - pev b x, by rw [← e3, Int.mul_comm]⟩
    have z := Int.eq_zero_of_dvd_of_natAbs_lt_natAbs this (by omega)
    rw [z] at e3
    rcases Int.mul_eq_zero.mp e3 with q | q
    · exact q
    · rw [q] at e2; simp at e2; omega
  rw [e4] at e3
  constructor <;> omega
end Mp

/-! sums and products of polynomials, derivative -/
namespace Mp
theorem pev_append : ∀ (p q : List Int) (x : Int), pev (p ++ q) x = pev p x + x ^ p.length * pev q x
  | [], q, x => by simp [pev]
  | a :: p, q, x => by
    simp only [List.cons_append, pev, pev_append p q x, List.length_cons, Int.pow_succ]
    rw [Int.mul_add, Int.mul_comm (x ^ p.length) x, Int.mul_assoc]; omega
theorem pev_zeros : ∀ (k : Nat) (x : Int), pev (List.replicate k 0) x = 0
  | 0, x => rfl
  | k + 1, x => by rw [List.replicate_succ, pev, pev_zeros k x]; simp
theorem pev_scale (c : Int) : ∀ (p : List Int) (x : Int), pev (p.map (· * c)) x = c * pev p x
  | [], x => by simp [pev]
  | a :: p, x => by
    simp only [List.map_cons, pev, pev_scale c p x]
    generalize pev p x = u
    grobner
/-- a sum, the longer one's length -/
def padd : List Int → List Int → List Int
  | [], q => q
  | p, [] => p
  | a :: p, b :: q => (a + b) :: padd p q
theorem pev_padd : ∀ (p q : List Int) (x : Int), pev (padd p q) x = pev p x + pev q x
  | [], q, x => by simp [padd, pev]
  | a :: p, [], x => by simp [padd, pev]
  | a :: p, b :: q, x => by
    simp only [padd, pev, pev_padd p q x]
    rw [Int.mul_add]; omega
theorem padd_len : ∀ (p q : List Int), (padd p q).length = max p.length q.length
  | [], q => by simp [padd]
  | a :: p, [] => by simp [padd]
  | a :: p, b :: q => by simp [padd, padd_len p q]
def pmul : List Int → List Int → List Int
  | [], _ => []
  | a :: p, q => match p with
    | [] => q.map (· * a)
    | b :: r => padd (q.map (· * a)) (0 :: pmul (b :: r) q)
theorem pev_pmul : ∀ (p q : List Int) (x : Int), pev (pmul p q) x = pev p x * pev q x
  | [], q, x => by simp [pmul, pev]
  | [a], q, x => by simp [pmul, pev, pev_scale]
  | a :: b :: r, q, x => by
    rw [pmul, pev_padd, pev_scale, pev, pev_pmul (b :: r) q x, show pev (a :: b :: r) x = a + x * pev (b :: r) x from rfl]
    generalize pev (b :: r) x = u
    generalize pev q x = v
    grobner
theorem pmul_len : ∀ (p q : List Int), p ≠ [] → q ≠ [] → (pmul p q).length = p.length + q.length - 1
  | [], q, h, _ => absurd rfl h
  | [a], q, _, _ => by simp [pmul]
  | a :: b :: r, q, _, h => by
    have := pmul_len (b :: r) q (by simp) h
    have hq : 0 < q.length := List.length_pos_iff.mpr h
    rw [pmul, padd_len]
    simp only [List.length_map, List.length_cons] at this ⊢
    omega
theorem padd_last : ∀ (p q : List Int), p.length < q.length → (padd p q).getLast? = q.getLast?
  | [], q, _ => by simp [padd]
  | a :: p, [], h => by simp at h
  | a :: p, b :: q, h => by
    have h : p.length < q.length := by simpa using h
    have ih := padd_last p q h
    have e : padd p q ≠ [] := fun z => by have := padd_len p q; rw [z] at this; simp at this; omega
    have e2 : q ≠ [] := fun z => by rw [z] at h; simp at h
    obtain ⟨c, l, hc⟩ := List.exists_cons_of_ne_nil e
    obtain ⟨d, m, hd⟩ := List.exists_cons_of_ne_nil e2
    rw [padd, hc, hd, List.getLast?_cons_cons, List.getLast?_cons_cons, ← hc, ← hd]
    exact ih
theorem pmul_ne {p q : List Int} (hp : p ≠ []) (hq : q ≠ []) : pmul p q ≠ [] := fun z => by
  have := pmul_len p q hp hq
  have h1 : 0 < p.length := List.length_pos_iff.mpr hp
  have h2 : 0 < q.length := List.length_pos_iff.mpr hq
  rw [z] at this; simp at this; omega
def lead (p : List Int) : Int := p.getLastD 0
theorem lead_cons {a b : Int} {p : List Int} : lead (a :: b :: p) = lead (b :: p) := by
  unfold lead; simp [List.getLastD_cons]
theorem lead_q {p : List Int} (h : p ≠ []) : p.getLast? = some (lead p) := by
  unfold lead
  rw [List.getLastD_eq_getLast?]
  cases e : p.getLast? with
  | none => exact absurd (List.getLast?_eq_none_iff.mp e) h
  | some a => rfl
theorem isP_lead {p : List Int} (h : p ≠ []) : IsP p ↔ lead p ≠ 0 := by
  unfold IsP; rw [lead_q h]; simp
theorem pmul_last : ∀ (p q : List Int), p ≠ [] → q ≠ [] → (pmul p q).getLast? = some (lead p * lead q)
  | [], q, h, _ => absurd rfl h
  | [a], q, _, h => by
    rw [pmul, List.getLast?_map, lead_q h]
    simp [lead, Int.mul_comm]
  | a :: b :: r, q, _, h => by
    have ih := pmul_last (b :: r) q (by simp) h
    have n := pmul_ne (p := b :: r) (by simp) h
    obtain ⟨c, l, hc⟩ := List.exists_cons_of_ne_nil n
    have hq : 0 < q.length := List.length_pos_iff.mpr h
    rw [pmul, padd_last, hc, List.getLast?_cons_cons, ← hc, ih, lead_cons]
    have := pmul_len (b :: r) q (by simp) h
    simp only [List.length_map, List.length_cons] at this ⊢
    omega
theorem isP_pmul {p q : List Int} (hp : IsP p) (hq : IsP q) (e2 : q ≠ []) : IsP (pmul p q) := by
  by_cases e1 : p = []
  · subst e1; exact isP_nil
  unfold IsP
  rw [pmul_last p q e1 e2]
  have h1 := (isP_lead e1).mp hp
  have h2 := (isP_lead e2).mp hq
  intro z
  rcases Int.mul_eq_zero.mp (Option.some.inj z) with z | z
  · exact h1 z
  · exact h2 z
/-- the derivative -/
def pder : List Int → List Int
  | [] => []
  | _ :: p => padd p (0 :: pder p)
theorem pev_pder_cons (a : Int) (p : List Int) (x : Int) : pev (pder (a :: p)) x = pev p x + x * pev (pder p) x := by
  rw [pder, pev_padd, pev]; omega
theorem pev_pder_padd : ∀ (p q : List Int) (x : Int), pev (pder (padd p q)) x = pev (pder p) x + pev (pder q) x
  | [], q, x => by simp [padd, pder, pev]
  | a :: p, [], x => by simp [padd, pder, pev]
  | a :: p, b :: q, x => by
    rw [padd, pev_pder_cons, pev_pder_cons, pev_pder_cons, pev_padd, pev_pder_padd p q x]
    rw [Int.mul_add]; omega
theorem pev_pder_scale (c : Int) : ∀ (p : List Int) (x : Int), pev (pder (p.map (· * c))) x = c * pev (pder p) x
  | [], x => by simp [pder, pev]
  | a :: p, x => by
    rw [List.map_cons, pev_pder_cons, pev_pder_cons, pev_scale, pev_pder_scale c p x]
    generalize pev p x = u
    generalize pev (pder p) x = v
    grobner
theorem pev_pder_pmul : ∀ (p q : List Int) (x : Int), pev (pder (pmul p q)) x = pev (pder p) x * pev q x + pev p x * pev (pder q) x
  | [], q, x => by simp [pmul, pder, pev]
  | [a], q, x => by
    rw [pmul, pev_pder_scale, pev_pder_cons]
    simp [pev, pder]
  | a :: b :: r, q, x => by
    rw [pmul, pev_pder_padd, pev_pder_scale, pev_pder_cons, pev_pder_cons, pev_pder_pmul (b :: r) q x, pev_pmul, show pev (a :: b :: r) x = a + x * pev (b :: r) x from rfl]
    generalize pev (pder (b :: r)) x = u
    generalize pev (b :: r) x = w
    generalize pev (pder q) x = v
    generalize pev q x = z
    grobner
/-- coprime: what divides both values divides a number -/
def Cop (f g : Int → Int) : Prop := ∃ D : Int, D ≠ 0 ∧ ∀ x : Int, ((Int.gcd (f x) (g x) : Nat) : Int) ∣ D
theorem Cop.symm {f g : Int → Int} (h : Cop f g) : Cop g f := let ⟨D, h1, h2⟩ := h; ⟨D, h1, fun x => by rw [Int.gcd_comm]; exact h2 x⟩
theorem Cop.mk {f g : Int → Int} (D : Int) (hD : D ≠ 0) (a b : Int → Int) (h : ∀ x, a x * f x + b x * g x = D) : Cop f g :=
  ⟨D, hD, fun x => by
    rw [← h x]
    exact Int.dvd_add (Int.dvd_trans (Int.gcd_dvd_left _ _) (Int.dvd_mul_left _ _)) (Int.dvd_trans (Int.gcd_dvd_right _ _) (Int.dvd_mul_left _ _))⟩
theorem Cop.one (f : Int → Int) : Cop f fun _ => 1 := Cop.mk 1 (by decide) (fun _ => 0) (fun _ => 1) fun x => by omega
theorem Cop.mul {f g h : Int → Int} (h1 : Cop f g) (h2 : Cop f h) : Cop f fun x => g x * h x := by
  obtain ⟨D, d1, d2⟩ := h1
  obtain ⟨E, e1, e2⟩ := h2
  refine ⟨D * E, fun z => by rcases Int.mul_eq_zero.mp z with z | z <;> contradiction, fun x => ?_⟩
  have hd : ∀ k : Int, k ∣ f x → k ∣ g x * h x → k ∣ D * E := fun k kf kg => by
    have s1 : k ∣ D * h x := by
      have : k ∣ ((Int.gcd (f x * h x) (g x * h x) : Nat) : Int) := Int.dvd_coe_gcd (Int.dvd_trans kf (Int.dvd_mul_right _ _)) kg
      rw [Int.gcd_mul_right, Int.natCast_mul] at this
      refine Int.dvd_trans this (Int.dvd_trans (Int.mul_dvd_mul (d2 x) (Int.natAbs_dvd_self (a := h x))) ?_)
      exact Int.dvd_refl _
    have s2 : k ∣ D * f x := Int.dvd_trans kf (Int.dvd_mul_left _ _)
    have : k ∣ ((Int.gcd (D * f x) (D * h x) : Nat) : Int) := Int.dvd_coe_gcd s2 s1
    rw [Int.gcd_mul_left, Int.natCast_mul] at this
    exact Int.dvd_trans this (Int.mul_dvd_mul (Int.natAbs_dvd_self (a := D)) (e2 x))
  exact hd _ (Int.gcd_dvd_left _ _) (Int.gcd_dvd_right _ _)
theorem Cop.addmul {f g : Int → Int} (h : Cop f g) (a : Int → Int) : Cop f fun x => g x + a x * f x := by
  obtain ⟨D, d1, d2⟩ := h
  refine ⟨D, d1, fun x => Int.dvd_trans ?_ (d2 x)⟩
  have k1 := Int.gcd_dvd_left (f x) (g x + a x * f x)
  have k2 := Int.gcd_dvd_right (f x) (g x + a x * f x)
  refine Int.dvd_coe_gcd k1 ?_
  have : g x = (g x + a x * f x) - a x * f x := by omega
  rw [this]
  exact Int.dvd_sub k2 (Int.dvd_trans k1 (Int.dvd_mul_left _ _))
end Mp

/-! division with rest, contents -/
namespace Mp
/-- c times y is added at place k -/
def addH (c : Int) : List Int → List Int → List Int
  | [], _ => []
  | r, [] => r
  | a :: r, b :: y => (a + c * b) :: addH c r y
def addAt (c : Int) (y : List Int) : List Int → Nat → List Int
  | [], _ => []
  | a :: r, 0 => addH c (a :: r) y
  | a :: r, k + 1 => a :: addAt c y r k
theorem addH_len (c : Int) : ∀ (r y : List Int), (addH c r y).length = r.length
  | [], y => by simp [addH]
  | a :: r, [] => by simp [addH]
  | a :: r, b :: y => by simp [addH, addH_len c r y]
theorem addAt_len (c : Int) (y : List Int) : ∀ (r : List Int) (k : Nat), (addAt c y r k).length = r.length
  | [], k => by simp [addAt]
  | a :: r, 0 => by simp [addAt, addH_len]
  | a :: r, k + 1 => by simp [addAt, addAt_len c y r k]
theorem pev_addH (c : Int) : ∀ (r y : List Int) (x : Int), y.length ≤ r.length → pev (addH c r y) x = pev r x + c * pev y x
  | [], [], x, _ => by simp [addH, pev]
  | [], b :: y, x, h => by simp at h
  | a :: r, [], x, _ => by simp [addH, pev]
  | a :: r, b :: y, x, h => by
    have ih := pev_addH c r y x (by simpa using h)
    simp only [addH, pev, ih]
    generalize pev r x = u
    generalize pev y x = v
    grobner
theorem pev_addAt (c : Int) (y : List Int) : ∀ (r : List Int) (k : Nat) (x : Int), k + y.length ≤ r.length → pev (addAt c y r k) x = pev r x + c * (x ^ k * pev y x)
  | [], k, x, h => by
    have : y = [] := List.length_eq_zero_iff.mp (by simp only [List.length_nil] at h; omega)
    subst this
    simp [addAt, pev]
  | a :: r, 0, x, h => by
    rw [addAt, pev_addH c (a :: r) y x (by omega)]; simp
  | a :: r, k + 1, x, h => by
    have ih := pev_addAt c y r k x (by simp at h; omega)
    simp only [addAt, pev, ih, Int.pow_succ]
    generalize pev r x = u
    generalize pev y x = v
    generalize x ^ k = w
    grobner
theorem addH_get (c : Int) : ∀ (r y : List Int) (j : Nat), j < r.length → (addH c r y).getD j 0 = r.getD j 0 + c * y.getD j 0
  | [], y, j, h => by simp at h
  | a :: r, [], j, _ => by simp [addH]
  | a :: r, b :: y, 0, _ => by simp [addH]
  | a :: r, b :: y, j + 1, h => by
    have ih := addH_get c r y j (by simpa using h)
    simpa [addH] using ih
theorem addAt_get (c : Int) (y : List Int) : ∀ (r : List Int) (k j : Nat), j < r.length → (addAt c y r k).getD j 0 = r.getD j 0 + (if k ≤ j then c * y.getD (j - k) 0 else 0)
  | [], k, j, h => by simp at h
  | a :: r, 0, j, h => by rw [addAt, addH_get c (a :: r) y j h]; simp
  | a :: r, k + 1, 0, h => by simp [addAt]
  | a :: r, k + 1, j + 1, h => by
    have ih := addAt_get c y r k j (by simpa using h)
    simp only [addAt, List.getD_cons_succ, Nat.add_le_add_iff_right, Nat.add_sub_add_right] at ih ⊢
    exact ih
theorem getD_out {l : List Int} {i : Nat} (z : l.length ≤ i) : l.getD i 0 = 0 := by
  rw [List.getD_eq_getElem?_getD, List.getElem?_eq_none z]; rfl
theorem getD_take {l : List Int} {n i : Nat} : (l.take n).getD i 0 = if i < n then l.getD i 0 else 0 := by
  rw [List.getD_eq_getElem?_getD, List.getElem?_take]
  split
  · rw [List.getD_eq_getElem?_getD]
  · rfl
theorem getD_set {l : List Int} {n i : Nat} {a : Int} (h : n < l.length) : (l.set n a).getD i 0 = if n = i then a else l.getD i 0 := by
  rw [List.getD_eq_getElem?_getD, List.getElem?_set]
  split
  · rename_i e; subst e; simp
  · rw [List.getD_eq_getElem?_getD]
/-- the inner loop: one number more -/
theorem addAt_succ {c : Int} {y r : List Int} {k j : Nat} (h : k + y.length ≤ r.length) (hj : j < y.length) :
    (addAt c (y.take j) r k).set (k + j) ((addAt c (y.take j) r k).getD (k + j) 0 + c * y.getD j 0) = addAt c (y.take (j + 1)) r k := by
  have hl := addAt_len c (y.take j) r k
  have hl2 := addAt_len c (y.take (j + 1)) r k
  refine ext_getD (by rw [List.length_set, hl, hl2]) fun i => ?_
  by_cases hi : i < r.length
  · rw [getD_set (by omega), addAt_get _ _ _ _ _ hi, addAt_get _ _ _ _ _ hi, addAt_get _ _ _ _ _ (by omega), getD_take, getD_take, getD_take]
    by_cases e : k + j = i
    · subst e
      simp
    · rw [if_neg e]
      by_cases e2 : k ≤ i
      · rw [if_pos e2, if_pos e2]
        by_cases e3 : i - k < j
        · rw [if_pos e3, if_pos (by omega)]
        · rw [if_neg e3, if_neg (by omega)]
      · rw [if_neg e2, if_neg e2]
  · rw [getD_out (by rw [List.length_set]; omega), getD_out (by omega)]
theorem addAt_nil {c : Int} {r : List Int} {k : Nat} : addAt c [] r k = r := by
  refine ext_getD (addAt_len _ _ _ _) fun i => ?_
  by_cases hi : i < r.length
  · rw [addAt_get _ _ _ _ _ hi]; simp
  · rw [getD_out (by rw [addAt_len]; omega), getD_out (by omega)]
theorem map_getD {l : List Int} {f : Int → Int} (h : f 0 = 0) (i : Nat) : (l.map f).getD i 0 = f (l.getD i 0) := by
  rw [List.getD_eq_getElem?_getD, List.getElem?_map, List.getD_eq_getElem?_getD]
  cases l[i]? with
  | none => exact h.symm
  | some a => rfl
/-- the state of a division: rest, quotient, scale -/
structure DvS where
  r : List Int
  q : List Int
  s : Int
/-- one place of a division with scale -/
def pdv (y : List Int) (e : DvS) (k : Nat) : DvS :=
  let top := e.r.getD (k + y.length - 1) 0
  let size : Int := ((lead y).natAbs : Nat)
  let sign : Int := if 0 < lead y then 1 else -1
  let q := e.q.map (· * size)
  ⟨addAt (-(sign * top)) y (e.r.map (· * size)) k, q.set k (q.getD k 0 + sign * top), e.s * size⟩
/-- what holds when the places from k on are done -/
structure DvI (x y : List Int) (n k : Nat) (e : DvS) : Prop where
  rl : e.r.length = x.length
  ql : e.q.length = n
  id : ∀ t, e.s * pev x t = pev e.q t * pev y t + pev e.r t
  z : ∀ i, k + y.length - 1 ≤ i → e.r.getD i 0 = 0
  qz : ∀ i, i < k → e.q.getD i 0 = 0
  s : 0 < e.s
theorem pev_set {q : List Int} {k : Nat} {a : Int} (h : k < q.length) (x : Int) : pev (q.set k a) x = pev q x + (a - q.getD k 0) * x ^ k := by
  induction q generalizing k with
  | nil => simp at h
  | cons b q ih =>
    cases k with
    | zero => simp [pev]; omega
    | succ k =>
      have := ih (k := k) (by simpa using h)
      simp only [List.set_cons_succ, pev, this, List.getD_cons_succ, Int.pow_succ]
      generalize pev q x = u
      generalize x ^ k = w
      generalize q.getD k 0 = g
      grobner
theorem lead_getD {y : List Int} : y.getD (y.length - 1) 0 = lead y := by
  unfold lead
  rw [List.getLastD_eq_getLast?, List.getLast?_eq_getElem?, List.getD_eq_getElem?_getD]
theorem sign_size {a : Int} (h : a ≠ 0) : (if 0 < a then (1 : Int) else -1) * a = ((a.natAbs : Nat) : Int) := by
  split <;> omega
theorem pdv_ok {x y : List Int} {n k : Nat} {e : DvS} (hy : y ≠ []) (hl : lead y ≠ 0) (hn : n + y.length - 1 ≤ x.length) (hk : k < n) (I : DvI x y n (k + 1) e) : DvI x y n k (pdv y e k) := by
  have hy0 : 0 < y.length := List.length_pos_iff.mpr hy
  have hs := sign_size hl
  unfold pdv
  generalize (if 0 < lead y then (1 : Int) else -1) = sg at *
  generalize htop : e.r.getD (k + y.length - 1) 0 = top at *
  have hsz : (0 : Int) < ((lead y).natAbs : Nat) := by omega
  generalize ((lead y).natAbs : Int) = sz at *
  have hq : (e.q.map (· * sz)).getD k 0 = 0 := by rw [map_getD (by simp), I.qz k (by omega)]; simp
  refine ⟨?_, ?_, fun t => ?_, fun i hi => ?_, fun i hi => ?_, ?_⟩
  · dsimp only; rw [addAt_len, List.length_map, I.rl]
  · dsimp only; rw [List.length_set, List.length_map, I.ql]
  · dsimp only
    rw [pev_addAt _ _ _ _ _ (by rw [List.length_map, I.rl]; omega), pev_set (by rw [List.length_map, I.ql]; omega), pev_scale, pev_scale, hq]
    have := I.id t
    generalize pev x t = X at *
    generalize pev e.q t = Q at *
    generalize pev y t = Y at *
    generalize pev e.r t = R at *
    generalize t ^ k = T at *
    have h2 : e.s * sz * X = sz * (e.s * X) := by grobner
    rw [h2, this]
    grobner
  · dsimp only
    by_cases hx : i < x.length
    · rw [addAt_get _ _ _ _ _ (by rw [List.length_map, I.rl]; exact hx), map_getD (by simp), if_pos (by omega)]
      by_cases e2 : i = k + y.length - 1
      · rw [e2, htop, show k + y.length - 1 - k = y.length - 1 by omega, lead_getD]
        rw [← hs]
        grobner
      · rw [I.z i (by omega), getD_out (l := y) (by omega)]; simp
    · rw [getD_out (by rw [addAt_len, List.length_map, I.rl]; omega)]
  · dsimp only
    rw [getD_set (by rw [List.length_map, I.ql]; omega), if_neg (by omega), map_getD (by simp), I.qz i (by omega)]; simp
  · exact Int.mul_pos I.s hsz
/-- all places, the highest first -/
def pdvs (y : List Int) (e : DvS) : Nat → DvS
  | 0 => e
  | k + 1 => pdvs y (pdv y e k) k
theorem pdvs_ok {x y : List Int} {n : Nat} (hy : y ≠ []) (hl : lead y ≠ 0) (hn : n + y.length - 1 ≤ x.length) : ∀ (k : Nat) (e : DvS), k ≤ n → DvI x y n k e → DvI x y n 0 (pdvs y e k)
  | 0, e, _, I => I
  | k + 1, e, h, I => pdvs_ok hy hl hn k _ (by omega) (pdv_ok hy hl hn (by omega) I)
def pdiv (x y : List Int) : DvS := pdvs y ⟨x, List.replicate (x.length + 1 - y.length) 0, 1⟩ (x.length + 1 - y.length)
theorem pdiv_ok (x y : List Int) (hy : y ≠ []) (hl : lead y ≠ 0) : DvI x y (x.length + 1 - y.length) 0 (pdiv x y) := by
  have hy0 : 0 < y.length := List.length_pos_iff.mpr hy
  have st : DvI x y (x.length + 1 - y.length) (x.length + 1 - y.length) ⟨x, List.replicate (x.length + 1 - y.length) 0, 1⟩ :=
    ⟨rfl, by simp, fun t => by simp [pev_zeros], fun i hi => getD_out (by dsimp only; omega), fun i hi => by simp [List.getD_eq_getElem?_getD, List.getElem?_replicate, hi], by simp⟩
  by_cases h : x.length + 1 - y.length = 0
  · unfold pdiv
    rw [h] at st ⊢
    exact st
  · exact pdvs_ok hy hl (by omega) _ _ (Nat.le_refl _) st
/-- the rest is shorter than the divisor -/
theorem DvI.rest_len {x y : List Int} {n : Nat} {e : DvS} (hy : y ≠ []) (I : DvI x y n 0 e) : (trm e.r).length < y.length := by
  have hy0 : 0 < y.length := List.length_pos_iff.mpr hy
  by_cases h : trm e.r = []
  · rw [h]; exact hy0
  · have h1 := isP_last (isP_trm e.r) h
    have h0 : 0 < (trm e.r).length := List.length_pos_iff.mpr h
    by_cases h2 : (trm e.r).length < y.length
    · exact h2
    · refine absurd ?_ h1
      have := pev_getD (trm e.r) e.r 0 (fun x _ => pev_trm _ x) ((trm e.r).length - 1)
      rw [this]
      exact I.z _ (by omega)
/-! ### contents -/
def cont (p : List Int) : Nat := p.foldl (fun (g : Nat) a => Int.gcd (g : Int) a) 0
theorem cont_dvd_from : ∀ (p : List Int) (g : Nat) (d : Int), d ∣ ((p.foldl (fun (g : Nat) a => Int.gcd (g : Int) a) g : Nat) : Int) ↔ d ∣ (g : Int) ∧ ∀ a ∈ p, d ∣ a
  | [], g, d => by simp
  | a :: p, g, d => by
    rw [List.foldl_cons, cont_dvd_from p _ d]
    constructor
    · rintro ⟨h1, h2⟩
      refine ⟨Int.dvd_trans h1 (Int.gcd_dvd_left _ _), fun b hb => ?_⟩
      rcases List.mem_cons.mp hb with rfl | hb
      · exact Int.dvd_trans h1 (Int.gcd_dvd_right _ _)
      · exact h2 b hb
    · rintro ⟨h1, h2⟩
      exact ⟨Int.dvd_coe_gcd h1 (h2 a (by simp)), fun b hb => h2 b (List.mem_cons_of_mem _ hb)⟩
theorem cont_dvd {p : List Int} {d : Int} : d ∣ ((cont p : Nat) : Int) ↔ ∀ a ∈ p, d ∣ a := by
  unfold cont
  rw [cont_dvd_from]
  constructor
  · exact fun h => h.2
  · exact fun h => ⟨by simp, h⟩
def Prim (p : List Int) : Prop := ∀ d : Int, (∀ a ∈ p, d ∣ a) → d ∣ 1
theorem cont_scale {p : List Int} (h : Prim p) {c : Int} (hc : c ≠ 0) : cont (p.map (· * c)) = c.natAbs := by
  have h1 : c ∣ ((cont (p.map (· * c)) : Nat) : Int) := cont_dvd.mpr fun a ha => by
    obtain ⟨b, _, rfl⟩ := List.mem_map.mp ha
    exact Int.dvd_mul_left _ _
  obtain ⟨k, hk⟩ := h1
  have h2 : k ∣ 1 := h k fun a ha => by
    have := cont_dvd.mp (Int.dvd_refl ((cont (p.map (· * c)) : Nat) : Int)) (a * c) (List.mem_map.mpr ⟨a, ha, rfl⟩)
    rw [hk, Int.mul_comm a c] at this
    exact (Int.mul_dvd_mul_iff_left hc).mp this
  have h3 : k.natAbs = 1 := by
    have := Int.natAbs_dvd_natAbs.mpr h2
    simpa using Nat.dvd_one.mp this
  have h4 : ((cont (p.map (· * c)) : Nat) : Int).natAbs = c.natAbs * k.natAbs := by rw [hk, Int.natAbs_mul]
  rw [h3] at h4
  simpa using h4
theorem Prim.ne {p : List Int} (h : Prim p) : p ≠ [] := fun e => by
  have := h 0 (by rw [e]; simp)
  simp at this
theorem prim_of_mem_one {p : List Int} (h : (1 : Int) ∈ p) : Prim p := fun d hd => hd 1 h
theorem prim_one : Prim [1] := prim_of_mem_one (by simp)
/-- d divides all numbers -/
theorem dvd_all_iff {p : List Int} {d : Int} : (∀ a ∈ p, d ∣ a) ↔ ∃ q : List Int, p = q.map (· * d) := by
  constructor
  · intro h
    induction p with
    | nil => exact ⟨[], rfl⟩
    | cons a p ih =>
      obtain ⟨q, hq⟩ := ih fun b hb => h b (List.mem_cons_of_mem _ hb)
      obtain ⟨c, hc⟩ := h a (by simp)
      exact ⟨c :: q, by rw [List.map_cons, ← hq, hc, Int.mul_comm]⟩
  · rintro ⟨q, rfl⟩ a ha
    obtain ⟨b, _, rfl⟩ := List.mem_map.mp ha
    exact Int.dvd_mul_left _ _
theorem natAbs_pow' (a : Int) : ∀ n : Nat, (a ^ n).natAbs = a.natAbs ^ n
  | 0 => by simp
  | n + 1 => by rw [Int.pow_succ, Int.natAbs_mul, natAbs_pow' a n, Nat.pow_succ]
/-- a product with a polynomial of leading number 1 -/
theorem prim_monic {m q : List Int} (hm : m ≠ []) (hl : lead m = 1) (hq : Prim q) (hqP : IsP q) : Prim (pmul m q) := by
  intro d hd
  obtain ⟨w, hw⟩ := dvd_all_iff.mp hd
  have hqn := hq.ne
  by_cases hd0 : d = 0
  · subst hd0
    have h1 := pmul_last m q hm hqn
    have h2 := hd _ (List.mem_of_getLast? h1)
    rw [hl, Int.one_mul] at h2
    exact absurd (Int.zero_dvd.mp h2) ((isP_lead hqn).mp hqP)
  have hmP : IsP m := (isP_lead hm).mpr (by rw [hl]; decide)
  have I := pdiv_ok w m hm (by rw [hl]; decide)
  have hs : (pdiv w m).s = 1 := by
    have : ∀ (k : Nat) (e : DvS), (pdvs m e k).s = e.s := by
      intro k
      induction k with
      | zero => intro e; rfl
      | succ k ih => intro e; rw [pdvs, ih]; unfold pdv; rw [hl]; simp
    unfold pdiv
    rw [this]
  have id := I.id
  rw [hs] at id
  generalize (pdiv w m).q = Q at *
  have hr := I.rest_len hm
  generalize (pdiv w m).r = R at *
  obtain ⟨M, hM⟩ := div_uniq (y := m) (a := q) (r := []) (b := Q.map (· * d)) (s := (trm R).map (· * d)) hmP hm (by simpa using List.length_pos_iff.mpr hm) (by simpa using hr) 0 (fun x _ => by
    rw [pev_scale, pev_scale, pev_trm]
    have h1 := congrArg (fun l => pev l x) hw
    simp only [pev_pmul, pev_scale] at h1
    have h2 := id x
    simp only [pev]
    generalize pev q x = a at *
    generalize pev m x = b at *
    generalize pev w x = c at *
    generalize pev Q x = e at *
    generalize pev R x = f at *
    grobner)
  have hq2 : q = (trm Q).map (· * d) := isP_uniq hqP (by
    by_cases e : trm Q = []
    · rw [e]; exact isP_nil
    · have h1 := (isP_lead e).mp (isP_trm Q)
      unfold IsP
      rw [List.getLast?_map, lead_q e]
      simp [hd0, h1]) M fun x hx => by rw [(hM x hx).1, pev_scale, pev_scale, pev_trm]
  exact hq d (dvd_all_iff.mpr ⟨trm Q, hq2⟩)
theorem lin_low {a b d : Int} : ∀ (q : List Int) (c : Int) (n : Nat), (∀ e ∈ padd (q.map (· * a)) (c :: q.map (· * b)), d ∣ e) → d ∣ a ^ n * c → ∃ m, ∀ e ∈ q, d ∣ a ^ m * e
  | [], c, n, _, _ => ⟨0, by simp⟩
  | x :: q, c, n, h, hc => by
    have h0 : d ∣ x * a + c := h _ (by simp [padd])
    have hx : d ∣ a ^ (n + 1) * x := by
      have h1 : d ∣ a ^ n * (x * a + c) := Int.dvd_trans h0 (Int.dvd_mul_left _ _)
      have e : a ^ (n + 1) * x = a ^ n * (x * a + c) - a ^ n * c := by rw [Int.pow_succ]; generalize a ^ n = w; grobner
      rw [e]
      exact Int.dvd_sub h1 hc
    obtain ⟨m, hm⟩ := lin_low q (x * b) (n + 1) (fun e he => h e (by simp [padd]; exact .inr he)) (by
      have e : a ^ (n + 1) * (x * b) = a ^ (n + 1) * x * b := by rw [Int.mul_assoc]
      rw [e]; exact Int.dvd_trans hx (Int.dvd_mul_right _ _))
    refine ⟨m + (n + 1), fun e he => ?_⟩
    rcases List.mem_cons.mp he with rfl | he
    · rw [Int.pow_add, Int.mul_assoc]; exact Int.dvd_trans hx (Int.dvd_mul_left _ _)
    · rw [Int.pow_add, Int.mul_comm (a ^ m), Int.mul_assoc]; exact Int.dvd_trans (hm e he) (Int.dvd_mul_left _ _)
theorem lin_high {a b d : Int} : ∀ (q : List Int) (c : Int), (∀ e ∈ padd (q.map (· * a)) (c :: q.map (· * b)), d ∣ e) → ∃ m, (∀ e ∈ q, d ∣ b ^ m * e) ∧ d ∣ b ^ m * c
  | [], c, h => ⟨0, by simp, by simpa using h c (by simp [padd])⟩
  | x :: q, c, h => by
    have h0 : d ∣ x * a + c := h _ (by simp [padd])
    obtain ⟨m, h1, h2⟩ := lin_high q (x * b) (fun e he => h e (by simp [padd]; exact .inr he))
    have hx : d ∣ b ^ (m + 1) * x := by
      have e : b ^ (m + 1) * x = b ^ m * (x * b) := by rw [Int.pow_succ]; generalize b ^ m = w; grobner
      rw [e]; exact h2
    refine ⟨m + 1, fun e he => ?_, ?_⟩
    · rcases List.mem_cons.mp he with rfl | he
      · exact hx
      · rw [Int.pow_succ, Int.mul_comm (b ^ m), Int.mul_assoc]; exact Int.dvd_trans (h1 e he) (Int.dvd_mul_left _ _)
    · have e : b ^ (m + 1) * c = b ^ (m + 1) * (x * a + c) - b ^ (m + 1) * x * a := by generalize b ^ (m + 1) = w; grobner
      rw [e]
      exact Int.dvd_sub (Int.dvd_trans h0 (Int.dvd_mul_left _ _)) (Int.dvd_trans hx (Int.dvd_mul_right _ _))
theorem prim_lin {a b : Int} (hab : Int.gcd a b = 1) {q : List Int} (hq : Prim q) : Prim (pmul [a, b] q) := by
  intro d hd
  refine hq d fun e he => ?_
  rw [pmul] at hd
  simp only [pmul] at hd
  obtain ⟨m, hm⟩ := lin_low q 0 0 hd (by simp)
  obtain ⟨n, hn, _⟩ := lin_high q 0 hd
  have h1 : d ∣ ((Int.gcd (a ^ m * e) (b ^ n * e) : Nat) : Int) := Int.dvd_coe_gcd (hm e he) (hn e he)
  rw [Int.gcd_mul_right] at h1
  have h2 : Int.gcd (a ^ m) (b ^ n) = 1 := by
    have h3 : Nat.Coprime a.natAbs b.natAbs := hab
    show Nat.gcd (a ^ m).natAbs (b ^ n).natAbs = 1
    rw [natAbs_pow', natAbs_pow']
    exact Nat.Coprime.pow m n h3
  rw [h2, Nat.one_mul] at h1
  exact Int.dvd_natAbs.mp h1
end Mp

/-! the common divisor of a product of powers and its derivative -/
namespace Mp
theorem pev_ne {h : List Int} (hp : IsP h) (hn : h ≠ []) : ∃ N : Int, ∀ x, N ≤ x → pev h x ≠ 0 := by
  obtain ⟨N, hN⟩ := pev_dom h [] hp (by simpa using List.length_pos_iff.mpr hn)
  exact ⟨N, fun x hx e => by have := hN x hx; rw [e] at this; simp [pev] at this⟩
theorem dvd_bound {a D : Int} (h : a ∣ D) (hD : D ≠ 0) : (a.natAbs : Int) ≤ (D.natAbs : Int) := by
  have := Nat.le_of_dvd (by omega) (Int.natAbs_dvd_natAbs.mpr h)
  omega
theorem common_is {x y h R S g o1 o2 : List Int} {kp c : Int} {a b : Int → Int} (hk : kp ≠ 0) (hc : c ≠ 0) (hh : IsP h) (hn : h ≠ []) (hg : IsP g) (gn : g ≠ [])
    (fx : ∀ t, pev x t = kp * (pev h t * pev R t)) (fy : ∀ t, pev y t = kp * (pev h t * pev S t)) (cop : Cop (pev R) (pev S))
    (lc : ∀ t, pev g t = pev o1 t * pev x t + pev o2 t * pev y t) (ca : ∀ t, c * pev x t = a t * pev g t) (cb : ∀ t, c * pev y t = b t * pev g t) :
    ∃ u : Int, u ≠ 0 ∧ g = h.map (· * u) := by
  obtain ⟨N, hN⟩ := pev_ne hh hn
  obtain ⟨D, hD, hd⟩ := cop
  have hU : ∀ t, pev g t = kp * pev h t * pev (padd (pmul o1 R) (pmul o2 S)) t := fun t => by
    rw [lc, fx, fy, pev_padd, pev_pmul, pev_pmul]
    generalize pev h t = A
    generalize pev R t = B
    generalize pev S t = C
    generalize pev o1 t = E
    generalize pev o2 t = F
    grobner
  have bd : ∀ t, N ≤ t → ((pev (trm (padd (pmul o1 R) (pmul o2 S))) t).natAbs : Int) ≤ ((c * D).natAbs : Int) := fun t ht => by
    rw [pev_trm]
    have e1 := ca t
    have e2 := cb t
    rw [hU, fx] at e1
    rw [hU, fy] at e2
    have hh0 := hN t ht
    generalize pev (padd (pmul o1 R) (pmul o2 S)) t = U at *
    have hd := hd t
    generalize pev h t = A at *
    generalize pev R t = B at *
    generalize pev S t = C at *
    have hA : kp * A ≠ 0 := fun z => by rcases Int.mul_eq_zero.mp z with z | z <;> contradiction
    have d1 : U ∣ c * B := ⟨a t, Int.eq_of_mul_eq_mul_left hA (by generalize a t = w at *; grobner)⟩
    have d2 : U ∣ c * C := ⟨b t, Int.eq_of_mul_eq_mul_left hA (by generalize b t = w at *; grobner)⟩
    have d3 : U ∣ ((Int.gcd (c * B) (c * C) : Nat) : Int) := Int.dvd_coe_gcd d1 d2
    rw [Int.gcd_mul_left, Int.natCast_mul] at d3
    refine dvd_bound (Int.dvd_trans d3 (Int.mul_dvd_mul (Int.natAbs_dvd_self (a := c)) hd)) ?_
    exact fun z => by rcases Int.mul_eq_zero.mp z with z | z <;> contradiction
  have hlen := pev_bdd (isP_trm _) N _ bd
  obtain ⟨u0, hu⟩ : ∃ u0 : Int, ∀ t, pev (padd (pmul o1 R) (pmul o2 S)) t = u0 := by
    cases e : trm (padd (pmul o1 R) (pmul o2 S)) with
    | nil => exact ⟨0, fun t => by rw [← pev_trm, e]; rfl⟩
    | cons v l =>
      rw [e] at hlen
      have : l = [] := List.length_eq_zero_iff.mp (by simpa using hlen)
      subst this
      exact ⟨v, fun t => by rw [← pev_trm, e]; simp [pev]⟩
  have key : ∀ t, pev g t = pev (h.map (· * (kp * u0))) t := fun t => by
    rw [hU, hu, pev_scale]
    generalize pev h t = A
    grobner
  by_cases hz : kp * u0 = 0
  · exact absurd (isP_nil_of hg 0 fun t _ => by rw [key, pev_scale, hz]; simp) gn
  · refine ⟨kp * u0, hz, isP_uniq hg ?_ 0 fun t _ => key t⟩
    have h1 := (isP_lead hn).mp hh
    unfold IsP
    rw [List.getLast?_map, lead_q hn]
    intro z
    rcases Int.mul_eq_zero.mp (Option.some.inj z) with z | z <;> contradiction
/-! ### powers and products -/
def pw (p : List Int) : Nat → List Int
  | 0 => [1]
  | e + 1 => pmul p (pw p e)
abbrev PE := List (List Int × Nat)
def lP : PE → List Int
  | [] => [1]
  | (p, e) :: L => pmul (pw p e) (lP L)
def lH : PE → List Int
  | [] => [1]
  | (p, e) :: L => pmul (pw p (e - 1)) (lH L)
def lR : PE → List Int
  | [] => [1]
  | (p, _) :: L => pmul p (lR L)
def lS : PE → List Int
  | [] => []
  | (p, e) :: L => padd (pmul ((pder p).map (· * (e : Int))) (lR L)) (pmul p (lS L))
theorem pev_one (t : Int) : pev [1] t = 1 := by simp [pev]
theorem pev_pw (p : List Int) : ∀ (e : Nat) (t : Int), pev (pw p e) t = pev p t ^ e
  | 0, t => by rw [pw, pev_one]; simp
  | e + 1, t => by rw [pw, pev_pmul, pev_pw p e t, Int.pow_succ, Int.mul_comm]
theorem pev_pder_pw (p : List Int) : ∀ (e : Nat) (t : Int), pev (pder (pw p (e + 1))) t = ((e : Int) + 1) * (pev p t ^ e * pev (pder p) t)
  | 0, t => by
    rw [pw, pev_pder_pmul, pw, pev_one]
    simp [pder, pev]
    rw [show padd [] [0] = [0] from rfl]; simp [pev]
  | e + 1, t => by
    rw [pw, pev_pder_pmul, pev_pder_pw p e t, pev_pw, Int.pow_succ]
    generalize pev p t = A
    generalize pev (pder p) t = B
    generalize A ^ e = C
    simp only [Int.natCast_add, Int.natCast_one]
    generalize (e : Int) = z
    grobner
theorem lP_eq : ∀ (L : PE) (t : Int), (∀ q ∈ L, 0 < q.2) → pev (lP L) t = pev (lH L) t * pev (lR L) t
  | [], t, _ => by simp [lP, lH, lR, pev]
  | (p, e) :: L, t, h => by
    have ih := lP_eq L t fun q hq => h q (List.mem_cons_of_mem _ hq)
    obtain ⟨k, hk⟩ := Nat.exists_eq_add_of_le' (h (p, e) (by simp))
    have hk : e = k + 1 := hk
    subst hk
    rw [lP, lH, lR, pev_pmul, pev_pmul, pev_pmul, ih, pev_pw, pev_pw, Nat.add_sub_cancel, Int.pow_succ]
    generalize pev p t = A
    generalize pev (lH L) t = B
    generalize pev (lR L) t = C
    generalize A ^ k = E
    grobner
theorem lP_der : ∀ (L : PE) (t : Int), (∀ q ∈ L, 0 < q.2) → pev (pder (lP L)) t = pev (lH L) t * pev (lS L) t
  | [], t, _ => by simp [lP, lH, lS, pder, pev, padd]
  | (p, e) :: L, t, h => by
    have h' : ∀ q ∈ L, 0 < q.2 := fun q hq => h q (List.mem_cons_of_mem _ hq)
    have ih := lP_der L t h'
    have ih2 := lP_eq L t h'
    obtain ⟨k, hk⟩ := Nat.exists_eq_add_of_le' (h (p, e) (by simp))
    have hk : e = k + 1 := hk
    subst hk
    rw [lP, lH, lS, pev_pder_pmul, pev_pder_pw, ih, ih2, pev_padd, pev_pmul, pev_pmul, pev_pmul, pev_scale, pev_pw, pev_pw, Nat.add_sub_cancel, Int.pow_succ]
    generalize pev p t = A
    generalize pev (pder p) t = F
    generalize pev (lH L) t = B
    generalize pev (lR L) t = C
    generalize pev (lS L) t = G
    generalize A ^ k = E
    simp only [Int.natCast_add, Int.natCast_one]
    generalize (k : Int) = z
    grobner
theorem Cop.congr {f g f' g' : Int → Int} (h : Cop f g) (h1 : ∀ x, f' x = f x) (h2 : ∀ x, g' x = g x) : Cop f' g' := by
  obtain ⟨D, d1, d2⟩ := h
  exact ⟨D, d1, fun x => by rw [h1, h2]; exact d2 x⟩
theorem Cop.const {f : Int → Int} {e : Int} (he : e ≠ 0) : Cop f fun _ => e := Cop.mk e he (fun _ => 0) (fun _ => 1) fun x => by omega
/-- pieces that are coprime to each other and to their derivatives -/
def Sep : PE → Prop
  | [] => True
  | (p, e) :: L => Cop (pev p) (pev (pder p)) ∧ (∀ q ∈ L, Cop (pev p) (pev q.1)) ∧ 0 < e ∧ Sep L
theorem cop_lR {f : Int → Int} : ∀ {L : PE}, (∀ q ∈ L, Cop f (pev q.1)) → Cop f (pev (lR L))
  | [], _ => (Cop.one f).congr (fun _ => rfl) fun x => by rw [lR, pev_one]
  | (p, e) :: L, h => ((h (p, e) (by simp)).mul (cop_lR fun q hq => h q (List.mem_cons_of_mem _ hq))).congr (fun _ => rfl) fun x => by rw [lR, pev_pmul]
theorem Sep.pos : ∀ {L : PE}, Sep L → ∀ q ∈ L, 0 < q.2
  | [], _, q, h => by cases h
  | (p, e) :: L, s, q, h => by
    rcases List.mem_cons.mp h with rfl | h
    · exact s.2.2.1
    · exact s.2.2.2.pos q h
theorem Sep.cop : ∀ {L : PE}, Sep L → Cop (pev (lR L)) (pev (lS L))
  | [], _ => Cop.symm ((Cop.one _).congr (fun _ => rfl) fun x => by rw [lR, pev_one])
  | (p, e) :: L, s => by
    obtain ⟨s1, s2, s3, s4⟩ := s
    have ih := Sep.cop s4
    have pR : Cop (pev p) (pev (lR L)) := cop_lR s2
    have c1 : Cop (pev p) (pev (lS ((p, e) :: L))) := by
      have h1 : Cop (pev p) fun x => ((e : Int) * pev (pder p) x) * pev (lR L) x := (((Cop.const (e := (e : Int)) (by omega)).mul s1).mul pR)
      exact (h1.addmul fun x => pev (lS L) x).congr (fun _ => rfl) fun x => by
        rw [lS, pev_padd, pev_pmul, pev_pmul, pev_scale, Int.mul_comm (pev p x)]
    have c2 : Cop (pev (lR L)) (pev (lS ((p, e) :: L))) := by
      have h1 : Cop (pev (lR L)) fun x => pev p x * pev (lS L) x := pR.symm.mul ih
      exact (h1.addmul fun x => (e : Int) * pev (pder p) x).congr (fun _ => rfl) fun x => by
        rw [lS, pev_padd, pev_pmul, pev_pmul, pev_scale]; omega
    exact ((c1.symm.mul c2.symm).symm).congr (fun x => by rw [lR, pev_pmul]) fun _ => rfl
/-- pieces of a content 1 -/
def Good (p : List Int) : Prop := p ≠ [] ∧ 0 < lead p ∧ ∀ q, Prim q → IsP q → Prim (pmul p q)
theorem good_lin {a b : Int} (h : Int.gcd a b = 1) (hb : 0 < b) : Good [a, b] := ⟨by simp, by simpa [lead] using hb, fun q hq _ => prim_lin h hq⟩
theorem good_monic {m : List Int} (hm : m ≠ []) (hl : lead m = 1) : Good m := ⟨hm, by omega, fun q hq hp => prim_monic hm hl hq hp⟩
/-- a list whose leading number is positive, of content 1 -/
def Nrm (q : List Int) : Prop := q ≠ [] ∧ 0 < lead q ∧ Prim q
theorem Nrm.isP {q : List Int} (h : Nrm q) : IsP q := (isP_lead h.1).mpr (by have := h.2.1; omega)
theorem nrm_one : Nrm [1] := ⟨by simp, by simp [lead], prim_one⟩
theorem Good.mul {p q : List Int} (hp : Good p) (hq : Nrm q) : Nrm (pmul p q) := by
  have n := pmul_ne hp.1 hq.1
  refine ⟨n, ?_, hp.2.2 q hq.2.2 hq.isP⟩
  have := pmul_last p q hp.1 hq.1
  rw [lead_q n] at this
  rw [Option.some.inj this]
  exact Int.mul_pos hp.2.1 hq.2.1
theorem Good.nrm {p : List Int} (hp : Good p) : Nrm p := by
  have := hp.mul nrm_one
  have e : pmul p [1] = p := by
    have l := pmul_len p [1] hp.1 (by simp)
    exact pev_inj 0 (by simpa using l) fun x _ => by rw [pev_pmul, pev_one, Int.mul_one]
  rw [e] at this
  exact this
theorem pmul_assoc (p q r : List Int) (hp : p ≠ []) (hq : q ≠ []) (hr : r ≠ []) : pmul (pmul p q) r = pmul p (pmul q r) := by
  have l1 := pmul_len (pmul p q) r (pmul_ne hp hq) hr
  have l2 := pmul_len p (pmul q r) hp (pmul_ne hq hr)
  have l3 := pmul_len p q hp hq
  have l4 := pmul_len q r hq hr
  have n1 : 0 < p.length := List.length_pos_iff.mpr hp
  have n2 : 0 < q.length := List.length_pos_iff.mpr hq
  exact pev_inj 0 (by omega) fun x _ => by rw [pev_pmul, pev_pmul, pev_pmul, pev_pmul, Int.mul_assoc]
theorem pmul_comm (p q : List Int) (hp : p ≠ []) (hq : q ≠ []) : pmul p q = pmul q p := by
  have l1 := pmul_len p q hp hq
  have l2 := pmul_len q p hq hp
  exact pev_inj 0 (by omega) fun x _ => by rw [pev_pmul, pev_pmul, Int.mul_comm]
theorem good_pw {p : List Int} (hp : Good p) : ∀ (e : Nat) {q : List Int}, Nrm q → Nrm (pmul (pw p e) q)
  | 0, q, hq => by
    have e : pmul (pw p 0) q = q := by
      have l := pmul_len [1] q (by simp) hq.1
      exact pev_inj 0 (by rw [pw]; simp only [List.length_singleton] at l; omega) fun x _ => by rw [pw, pev_pmul, pev_one, Int.one_mul]
    rw [e]; exact hq
  | e + 1, q, hq => by
    have ih := good_pw hp e hq
    have n : pw p e ≠ [] := (good_pw_ne e)
    rw [pw, pmul_assoc p (pw p e) q hp.1 n hq.1]
    exact hp.mul ih
where
  good_pw_ne : ∀ e, pw p e ≠ []
  | 0 => by simp [pw]
  | e + 1 => pmul_ne hp.1 (good_pw_ne e)
theorem nrm_lH : ∀ {L : PE}, (∀ q ∈ L, Good q.1) → Nrm (lH L)
  | [], _ => nrm_one
  | (p, e) :: L, h => good_pw (h (p, e) (by simp)) _ (nrm_lH fun q hq => h q (List.mem_cons_of_mem _ hq))
theorem nrm_lR : ∀ {L : PE}, (∀ q ∈ L, Good q.1) → Nrm (lR L)
  | [], _ => nrm_one
  | (p, e) :: L, h => (h (p, e) (by simp)).mul (nrm_lR fun q hq => h q (List.mem_cons_of_mem _ hq))
theorem nrm_lP : ∀ {L : PE}, (∀ q ∈ L, Good q.1) → Nrm (lP L)
  | [], _ => nrm_one
  | (p, e) :: L, h => good_pw (h (p, e) (by simp)) _ (nrm_lP fun q hq => h q (List.mem_cons_of_mem _ hq))
end Mp

/-! sizes of numbers, floor division -/
namespace Mp
open PySem PySem.Spec PyProof.Rows L2
def Bd (b : Nat) (x : Int) : Prop := x.natAbs < 2 ^ b
theorem Bd.mono {b c : Nat} {x : Int} (h : Bd b x) (e : b ≤ c) : Bd c x := Nat.lt_of_lt_of_le h (Nat.pow_le_pow_right (by decide) e)
theorem Bd.mul {b c : Nat} {x y : Int} (h : Bd b x) (h2 : Bd c y) : Bd (b + c) (x * y) := by
  unfold Bd at *
  rw [Int.natAbs_mul, Nat.pow_add]
  exact Nat.mul_lt_mul'' h h2
theorem Bd.add {b : Nat} {x y : Int} (h : Bd b x) (h2 : Bd b y) : Bd (b + 1) (x + y) := by
  unfold Bd at *
  have := Int.natAbs_add_le x y
  rw [Nat.pow_succ]; omega
theorem Bd.neg {b : Nat} {x : Int} (h : Bd b x) : Bd b (-x) := by unfold Bd at *; rw [Int.natAbs_neg]; exact h
theorem Bd.sub {b : Nat} {x y : Int} (h : Bd b x) (h2 : Bd b y) : Bd (b + 1) (x - y) := by rw [Int.sub_eq_add_neg]; exact h.add h2.neg
theorem Bd.zero (b : Nat) : Bd b 0 := by unfold Bd; simpa using Nat.two_pow_pos b
theorem Bd.of_le {b : Nat} {x y : Int} (h : Bd b y) (e : x.natAbs ≤ y.natAbs) : Bd b x := Nat.lt_of_le_of_lt e h
theorem mulB {b c : Nat} {x y : Int} (h : Bd b x) (h2 : Bd c y) (e : b + c ≤ 134217728) : mulOk x y = true := by
  refine mulOk_iff.mpr (.inr (.inr ?_))
  have h1 := PySem.intBits_le_iff.mpr h
  have h2 := PySem.intBits_le_iff.mpr h2
  omega
/-- by the product's size -/
theorem mulP {m : Nat} {x y : Int} (h : Bd m (x * y)) (e : m + 1 ≤ 134217728) : mulOk x y = true := by
  by_cases hx : x = 0
  · subst hx; exact mulOk_iff.mpr (.inl ⟨by decide, by decide⟩)
  by_cases hy : y = 0
  · subst hy; exact mulOk_iff.mpr (.inr (.inl ⟨by decide, by decide⟩))
  refine mulOk_iff.mpr (.inr (.inr ?_))
  have h1 : 2 ^ x.natAbs.log2 ≤ x.natAbs := (Nat.le_log2 (by omega)).mp (Nat.le_refl _)
  have h2 : 2 ^ y.natAbs.log2 ≤ y.natAbs := (Nat.le_log2 (by omega)).mp (Nat.le_refl _)
  have h3 := Nat.mul_le_mul h1 h2
  rw [← Nat.pow_add, ← Int.natAbs_mul] at h3
  have h4 : x.natAbs.log2 + y.natAbs.log2 < m := (Nat.pow_lt_pow_iff_right (by decide : 1 < 2)).mp (Nat.lt_of_le_of_lt h3 h)
  have e1 : Builtin.Int.intBits x = x.natAbs.log2 + 1 := by
    unfold Builtin.Int.intBits
    rw [if_neg (by simpa using hx)]
  have e2 : Builtin.Int.intBits y = y.natAbs.log2 + 1 := by
    unfold Builtin.Int.intBits
    rw [if_neg (by simpa using hy)]
  rw [e1, e2]
  omega
/-- floor division -/
def fq (i j : Int) : Int := if 0 < j then i / j else -i / -j
structure Fl (i j q r : Int) : Prop where
  eq : i = q * j + r
  lt : r.natAbs < j.natAbs
  sg : 0 ≤ r * j
  sz : 0 ≤ i * j → q.natAbs * j.natAbs + r.natAbs = i.natAbs
theorem fl_ok (i : Int) {j : Int} (hj : j ≠ 0) : Fl i j (fq i j) (i - fq i j * j) := by
  unfold fq
  split
  · rename_i h
    have e : i - i / j * j = i % j := by rw [Int.emod_def, Int.mul_comm]
    have h1 := Int.emod_nonneg i hj
    have h2 := Int.emod_lt_of_pos i h
    refine ⟨by omega, by rw [e]; omega, by rw [e]; exact Int.mul_nonneg h1 (by omega), fun hs => ?_⟩
    have hi : 0 ≤ i := by
      rcases Int.lt_or_le i 0 with z | z
      · exact absurd hs (by have := Int.mul_neg_of_neg_of_pos z h; omega)
      · exact z
    have hq : 0 ≤ i / j := Int.ediv_nonneg hi (by omega)
    have e3 : ((i / j).natAbs * j.natAbs : Nat) = ((i / j) * j).natAbs := by rw [Int.natAbs_mul]
    rw [e3, e]
    have h4 := Int.mul_nonneg hq (show (0:Int) ≤ j by omega)
    omega
  · rename_i h
    have h : 0 < -j := by omega
    have e : i - -i / -j * j = -(-i % -j) := by rw [Int.emod_def, Int.neg_mul]; have := Int.mul_comm j (-i / -j); omega
    have h1 := Int.emod_nonneg (-i) (show -j ≠ 0 by omega)
    have h2 := Int.emod_lt_of_pos (-i) h
    refine ⟨by omega, by rw [e]; omega, by rw [e]; exact Int.mul_nonneg_of_nonpos_of_nonpos (by omega) (by omega), fun hs => ?_⟩
    have hi : i ≤ 0 := by
      rcases Int.lt_or_le 0 i with z | z
      · exact absurd hs (by have := Int.mul_neg_of_pos_of_neg z (show j < 0 by omega); omega)
      · exact z
    have hq : 0 ≤ -i / -j := Int.ediv_nonneg (by omega) (by omega)
    have e3 : ((-i / -j).natAbs * j.natAbs : Nat) = ((-i / -j) * j).natAbs := by rw [Int.natAbs_mul]
    rw [e3, e]
    have h4 := Int.mul_nonneg hq (show (0:Int) ≤ -j by omega)
    rw [Int.mul_neg] at h4
    omega
/-- how the program's division answers -/
theorem fq_bin {i j : Int} (hj : j ≠ 0) : binD .FloorDiv (.int i) (.int j) = some (.int (fq i j)) := by
  rw [bDiv]
  unfold fq
  by_cases h : 0 < j
  · rw [if_pos (div0 h), if_pos h]
  · rw [if_neg (fun z => h (divOk_iff.mp z)), if_pos (by omega), if_neg h]
theorem fm_bin {i j : Int} (hj : j ≠ 0) : binD .Mod (.int i) (.int j) = some (.int (i - fq i j * j)) := by
  rw [bMod]
  unfold fq
  by_cases h : 0 < j
  · rw [if_pos h, if_pos h]
    congr 2
    rw [Int.emod_def, Int.mul_comm]
  · rw [if_neg h, if_pos (by omega), if_neg h]
    congr 2
    rw [Int.emod_def, Int.neg_mul, Int.mul_comm]; omega
/-- an exact division -/
theorem fq_mul {a c : Int} (hc : c ≠ 0) : fq (a * c) c = a := by
  unfold fq
  split
  · exact Int.mul_ediv_cancel a hc
  · rw [← Int.mul_neg, Int.mul_ediv_cancel a (by omega)]
theorem fm_iff {i j : Int} (hj : j ≠ 0) : i - fq i j * j = 0 ↔ j ∣ i := by
  constructor
  · intro h
    exact ⟨fq i j, by rw [Int.mul_comm]; omega⟩
  · rintro ⟨k, rfl⟩
    rw [Int.mul_comm j k, fq_mul hj]; omega
theorem log2_half {r o : Nat} (hr : r ≠ 0) (h : 2 * r ≤ o) : r.log2 + 1 ≤ o.log2 := by
  have h1 : 2 ^ r.log2 ≤ r := (Nat.le_log2 hr).mp (Nat.le_refl _)
  exact (Nat.le_log2 (by omega)).mpr (by rw [Nat.pow_succ]; omega)
theorem log2_mono {r o : Nat} (hr : r ≠ 0) (h : r ≤ o) : r.log2 ≤ o.log2 := by
  have h1 : 2 ^ r.log2 ≤ r := (Nat.le_log2 hr).mp (Nat.le_refl _)
  exact (Nat.le_log2 (by omega)).mpr (by omega)
theorem log2_bd {b : Nat} {x : Int} (h : Bd b x) (hx : x ≠ 0) : x.natAbs.log2 < b := (Nat.log2_lt (by omega)).mpr h
theorem wp_ex {dead : List Nat} {o : Out} {τ' : Tau} (h : Out.wp dead o = some τ') : ∃ τ2, (o = .nx τ2 ∨ o = .ct τ2) ∧ wipeT τ2 dead = τ' := by
  cases o with
  | nx τ2 => exact ⟨τ2, .inl rfl, Option.some.inj h⟩
  | ct τ2 => exact ⟨τ2, .inr rfl, Option.some.inj h⟩
  | _ => cases h
/-- a while loop's end, the same whatever runs it -/
theorem whL_un {α : Type} (S : α → Tau) (m : α → Nat) (I : α → Prop) (b : α → Bool) (step : α → α) (hp : ∀ a, I a → b a = true → I (step a) ∧ m (step a) < m a) : ∀ (k : Nat) (a : α), m a ≤ k → I a →
    ∃ a', I a' ∧ b a' = false ∧ ∀ (n : Nat) (dead : List Nat) (c : Tau → R Bool) (body : Tau → Out), m a < n → (∀ a, I a → c (S a) = .ok (b a)) → (∀ a, I a → b a = true → Out.wp dead (body (S a)) = some (S (step a))) → whL dead c body n (S a) = .nx (S a')
  | k, a, hk, hI => by
    cases hb : b a with
    | false =>
      refine ⟨a, hI, hb, fun n dead c body hn hc hs => ?_⟩
      obtain ⟨n, rfl⟩ := Nat.exists_eq_add_of_le' (show 1 ≤ n by omega)
      unfold whL
      rw [hc a hI, hb]
    | true =>
      obtain ⟨h1, h2⟩ := hp a hI hb
      cases k with
      | zero => omega
      | succ k =>
        obtain ⟨a', q1, q2, q3⟩ := whL_un S m I b step hp k (step a) (by omega) h1
        refine ⟨a', q1, q2, fun n dead c body hn hc hs => ?_⟩
        obtain ⟨n, rfl⟩ := Nat.exists_eq_add_of_le' (show 1 ≤ n by omega)
        have q4 := q3 n dead c body (by omega) hc hs
        obtain ⟨τ2, w1, w2⟩ := wp_ex (hs a hI hb)
        unfold whL
        rw [hc a hI, hb]
        rcases w1 with w1 | w1 <;> simp only [w1, w2] <;> exact q4
end Mp

/-! straight_sum: the greatest common divisor -/
namespace Mp
open PySem PySem.Spec PyProof.Rows L2
structure Eu where
  o : Int
  n : Int
  a : Int
  b : Int
  c : Int
  d : Int
  first : Bool
def Eu.step (e : Eu) : Eu := ⟨e.n, e.o - fq e.o e.n * e.n, e.b, e.a - fq e.o e.n * e.b, e.d, e.c - fq e.o e.n * e.d, false⟩
def Eu.S (e : Eu) : Tau := [none, none, some (false, .int e.o), some (false, .int e.n), some (false, .int e.a), some (false, .int e.b), some (false, .int e.c), some (false, .int e.d), none]
structure EuI (x y : Int) (e : Eu) : Prop where
  l1 : e.a * x + e.c * y = e.o
  l2 : e.b * x + e.d * y = e.n
  g : ∀ k : Int, (k ∣ e.o ∧ k ∣ e.n) ↔ (k ∣ x ∧ k ∣ y)
  s1 : e.first = true → e.o = x ∧ e.n = y ∧ e.a = 1 ∧ e.b = 0 ∧ e.c = 0 ∧ e.d = 1
  s2 : e.first = false → 0 ≤ e.o * e.n ∧ e.n.natAbs < e.o.natAbs ∧ e.o.natAbs ≤ y.natAbs
  b1 : e.b.natAbs * e.o.natAbs + e.a.natAbs * e.n.natAbs ≤ y.natAbs
  b2 : e.d.natAbs * e.o.natAbs + e.c.natAbs * e.n.natAbs ≤ x.natAbs + 2 * y.natAbs
  b3 : e.b = 0 ∨ e.o ≠ 0
  b4 : e.d.natAbs ≤ x.natAbs + 2 * y.natAbs + 1
def Eu.m (e : Eu) : Nat := if e.n = 0 then 0 else if e.first then 2 * e.n.natAbs.log2 + 3 else e.o.natAbs.log2 + e.n.natAbs.log2 + 1
theorem eu_start (x y : Int) : EuI x y ⟨x, y, 1, 0, 0, 1, true⟩ := by
  refine ⟨by simp, by simp, fun k => Iff.rfl, fun _ => ⟨rfl, rfl, rfl, rfl, rfl, rfl⟩, (fun z => by cases z), by simp, by simp, .inl rfl, by simp⟩
theorem nat_step {A Q B N R O M : Nat} (h : B * O + A * N ≤ M) (hq : Q * N + R ≤ O) : (A + Q * B) * N + B * R ≤ M := by
  have h1 := Nat.mul_le_mul_left B hq
  have e : (A + Q * B) * N + B * R = A * N + B * (Q * N + R) := by
    rw [Nat.add_mul, Nat.mul_add, Nat.mul_assoc, Nat.mul_left_comm Q B N]; omega
  omega
theorem eu_step {x y : Int} {e : Eu} (I : EuI x y e) (hn : e.n ≠ 0) : EuI x y e.step ∧ e.step.m < e.m := by
  have f := fl_ok e.o hn
  obtain ⟨o, n, a, b, c, d, fi⟩ := e
  obtain ⟨l1, l2, g, s1, s2, b1, b2, b3, b4⟩ := I
  unfold Eu.step
  dsimp only at *
  generalize fq o n = q at *
  generalize hr : o - q * n = r at *
  obtain ⟨f1, f2, f3, f4⟩ := f
  have hA : ∀ u v : Int, (u - q * v).natAbs ≤ u.natAbs + q.natAbs * v.natAbs := fun u v => by
    have := Int.natAbs_sub_le u (q * v)
    rw [Int.natAbs_mul] at this
    exact this
  have L2 : (a - q * b) * x + (c - q * d) * y = r := by
    rw [← hr, ← l1, ← l2]; grobner
  have G : ∀ k : Int, (k ∣ n ∧ k ∣ r) ↔ (k ∣ x ∧ k ∣ y) := fun k => by
    rw [← g k]
    constructor
    · rintro ⟨h1, h2⟩
      refine ⟨?_, h1⟩
      rw [f1]
      exact Int.dvd_add (Int.dvd_trans h1 (Int.dvd_mul_left _ _)) h2
    · rintro ⟨h1, h2⟩
      refine ⟨h2, ?_⟩
      rw [← hr]
      exact Int.dvd_sub h1 (Int.dvd_trans h2 (Int.dvd_mul_left _ _))
  have hN : 1 ≤ n.natAbs := by omega
  have hm : n ≠ 0 := hn
  cases fi with
  | true =>
    obtain ⟨rfl, rfl, rfl, rfl, rfl, rfl⟩ := s1 rfl
    have hq : q.natAbs * n.natAbs + r.natAbs ≤ o.natAbs + 2 * n.natAbs := by
      have h1 : q.natAbs * n.natAbs = (o - r).natAbs := by rw [← Int.natAbs_mul]; congr 1; omega
      omega
    have hq2 : q.natAbs ≤ o.natAbs + 2 * n.natAbs := by
      have := Nat.le_mul_of_pos_right q.natAbs (show 0 < n.natAbs by omega)
      omega
    refine ⟨⟨l2, L2, G, (fun z => by cases z), fun _ => ⟨by rw [Int.mul_comm]; exact f3, f2, Nat.le_refl _⟩, by simp, ?_, .inr hm, ?_⟩, ?_⟩
    · have e1 : ((0 : Int) - q * 1).natAbs = q.natAbs := by omega
      dsimp only
      rw [e1]
      simpa using hq
    · dsimp only
      omega
    · unfold Eu.m
      dsimp only
      simp only [hm, if_false, Bool.false_eq_true, if_true]
      by_cases hr0 : r = 0
      · rw [if_pos hr0]; omega
      · have := log2_mono (r := r.natAbs) (o := n.natAbs) (by omega) (by omega)
        rw [if_neg hr0]; omega
  | false =>
    obtain ⟨t1, t2, t3⟩ := s2 rfl
    have t4 := f4 t1
    have hq0 : q ≠ 0 := fun z => by rw [z] at t4; simp at t4; omega
    have hq1 : n.natAbs ≤ q.natAbs * n.natAbs := Nat.le_mul_of_pos_left _ (by omega)
    refine ⟨⟨l2, L2, G, (fun z => by cases z), fun _ => ⟨by rw [Int.mul_comm]; exact f3, f2, by dsimp only; omega⟩, ?_, ?_, .inr hm, ?_⟩, ?_⟩
    · dsimp only
      exact Nat.le_trans (Nat.add_le_add_right (Nat.mul_le_mul_right _ (hA a b)) _) (nat_step b1 (by omega))
    · dsimp only
      exact Nat.le_trans (Nat.add_le_add_right (Nat.mul_le_mul_right _ (hA c d)) _) (nat_step b2 (by omega))
    · dsimp only
      have h1 := Nat.le_trans (Nat.add_le_add_right (Nat.mul_le_mul_right _ (hA c d)) _) (nat_step (R := r.natAbs) b2 (by omega))
      have h2 := Nat.le_mul_of_pos_right (c - q * d).natAbs (show 0 < n.natAbs by omega)
      omega
    · unfold Eu.m
      dsimp only
      simp only [hm, if_false, Bool.false_eq_true]
      by_cases hr0 : r = 0
      · rw [if_pos hr0]; omega
      · have := log2_half (r := r.natAbs) (o := o.natAbs) (by omega) (by omega)
        rw [if_neg hr0]; omega
theorem eu_mul {B : Nat} (hB : B ≤ 134217720) {x y : Int} (hx : Bd B x) (hy : Bd B y) {e : Eu} (I : EuI x y e) (hn : e.n ≠ 0) : mulOk (fq e.o e.n) e.n = true ∧ mulOk (fq e.o e.n) e.b = true ∧ mulOk (fq e.o e.n) e.d = true := by
  have f := fl_ok e.o hn
  obtain ⟨o, n, a, b, c, d, fi⟩ := e
  obtain ⟨l1, l2, g, s1, s2, b1, b2, b3, b4⟩ := I
  dsimp only at *
  generalize fq o n = q at *
  generalize hr : o - q * n = r at *
  obtain ⟨f1, f2, f3, f4⟩ := f
  have P : 0 < 2 ^ B := Nat.two_pow_pos B
  have P2 : 2 ^ (B + 2) = 4 * 2 ^ B := by rw [Nat.pow_add]; omega
  unfold Bd at hx hy
  have h1 : (q * n).natAbs = (o - r).natAbs := by congr 1; omega
  cases fi with
  | true =>
    obtain ⟨rfl, rfl, rfl, rfl, rfl, rfl⟩ := s1 rfl
    have h2 := Nat.le_mul_of_pos_right q.natAbs (show 0 < n.natAbs by omega)
    rw [← Int.natAbs_mul] at h2
    refine ⟨mulP (m := B + 2) ?_ (by omega), mulOk_iff.mpr (.inr (.inl ⟨by decide, by decide⟩)), mulOk_iff.mpr (.inr (.inl ⟨by decide, by decide⟩))⟩
    unfold Bd
    omega
  | false =>
    obtain ⟨t1, t2, t3⟩ := s2 rfl
    have t4 := f4 t1
    have u1 := nat_step (Q := q.natAbs) (N := n.natAbs) (R := r.natAbs) b1 (by omega)
    have u2 := nat_step (Q := q.natAbs) (N := n.natAbs) (R := r.natAbs) b2 (by omega)
    rw [Nat.add_mul] at u1 u2
    have v1 := Nat.le_mul_of_pos_right (q.natAbs * b.natAbs) (show 0 < n.natAbs by omega)
    have v2 := Nat.le_mul_of_pos_right (q.natAbs * d.natAbs) (show 0 < n.natAbs by omega)
    refine ⟨mulP (m := B + 2) ?_ (by omega), mulP (m := B + 2) ?_ (by omega), mulP (m := B + 2) ?_ (by omega)⟩
    · unfold Bd; omega
    · unfold Bd; rw [Int.natAbs_mul]; omega
    · unfold Bd; rw [Int.natAbs_mul]; omega
/-- the greatest common divisor, as a sum -/
theorem ss_cl {p : Pr} (h : p.fs 107 = some F_straight_sum) (hw : p.wN = 2 ^ 64) {B : Nat} (hB : B ≤ 134217720) {x y : Int} (hx : Bd B x) (hy : Bd B y) :
    ∃ s t : Int, s * x + t * y = (Int.gcd x y : Nat) ∧ Cl p 1 107 [.int x, .int y] (.tuple [.int (Int.gcd x y : Nat), .int s, .int t], []) := by
  obtain ⟨e, I, hb, run⟩ := whL_un Eu.S Eu.m (EuI x y) (fun e => decide (e.n ≠ 0)) Eu.step (fun e I hb => eu_step I (of_decide_eq_true hb)) _ ⟨x, y, 1, 0, 0, 1, true⟩ (Nat.le_refl _) (eu_start x y)
  have hm : Eu.m ⟨x, y, 1, 0, 0, 1, true⟩ < 2 ^ 64 := by
    unfold Eu.m
    dsimp only
    by_cases z : y = 0
    · rw [if_pos z]; exact Nat.two_pow_pos _
    · have := log2_bd hy z
      rw [if_neg z, if_pos rfl]; omega
  have hn : e.n = 0 := by simpa using hb
  have hg : e.o.natAbs = Int.gcd x y := by
    have h1 : ((e.o.natAbs : Nat) : Int) ∣ x ∧ ((e.o.natAbs : Nat) : Int) ∣ y := (I.g _).mp ⟨Int.natAbs_dvd_self, by rw [hn]; simp⟩
    have h2 := ((I.g ((Int.gcd x y : Nat) : Int)).mpr ⟨Int.gcd_dvd_left _ _, Int.gcd_dvd_right _ _⟩).1
    refine Nat.dvd_antisymm ?_ ?_
    · have := Int.dvd_coe_gcd h1.1 h1.2
      exact Int.ofNat_dvd.mp this
    · exact Int.ofNat_dvd.mp (Int.dvd_natAbs.mpr h2)
  have rn : ∀ m : Nat, whL [0, 1, 8] (evT (gN p m) (.cmp .NotEq (.v 3) (.k (.int 0)))) (evSs (gN p m) [] b_straight_sum_0) (2 ^ 64) (Eu.S ⟨x, y, 1, 0, 0, 1, true⟩) = .nx e.S := fun m =>
    run (2 ^ 64) _ _ _ hm (fun e I => by unfold Eu.S; simp) fun e I hb => by
      have hn : e.n ≠ 0 := of_decide_eq_true hb
      obtain ⟨m1, m2, m3⟩ := eu_mul hB hx hy I hn
      have hd := fq_bin (i := e.o) hn
      unfold Eu.S Eu.step
      simp only [b_straight_sum_0]
      repeat (rw [evSs_c]; simp [evIo, evSs_n, asg, asgs, frz1, own?, ixN_nat, outs, ofI, divS, gN_cf, gN_io, gN_gl, gN_gd, gN_xr, gN_fr, wipeT_nil, wipeT_cons, hd, m1, m2, m3, -bDiv])
  have l1 := I.l1
  unfold Eu.S at rn
  generalize e.o = o at *
  generalize e.a = a at *
  generalize e.c = c at *
  rw [hn] at rn
  by_cases ho : o < 0
  · have hg' : ((Int.gcd x y : Nat) : Int) = -o := by omega
    refine ⟨-a, -c, by rw [hg', Int.neg_mul, Int.neg_mul]; omega, Cl.mk h fun m _ => ?_⟩
    have rn := rn m
    rw [hg']
    rw [runF_eq _ _ _ rfl]; simp only [F_straight_sum, b_straight_sum, ioM_f, ioM_t, startT, mark, List.replicate, List.cons_append, List.nil_append, List.contains_cons, List.contains_nil, icL, icT, icI, icS, icB, icN, icD, Nat.reduceBEq, Nat.reduceSub, Nat.reduceAdd, Bool.true_and, Bool.false_and, Bool.or_false, beq_self_eq_true]
    repeat (rw [evSs_c]; simp [evIo, evSs_n, asg, asgs, frz1, own?, ixN_nat, outs, ofI, divS, gN_cf, gN_io, gN_gl, gN_gd, gN_xr, gN_fr, wipeT_nil, wipeT_cons, gN_wN, hw, rn, ho])
  · have hg' : ((Int.gcd x y : Nat) : Int) = o := by omega
    refine ⟨a, c, by rw [hg']; exact l1, Cl.mk h fun m _ => ?_⟩
    have rn := rn m
    rw [hg']
    rw [runF_eq _ _ _ rfl]; simp only [F_straight_sum, b_straight_sum, ioM_f, ioM_t, startT, mark, List.replicate, List.cons_append, List.nil_append, List.contains_cons, List.contains_nil, icL, icT, icI, icS, icB, icN, icD, Nat.reduceBEq, Nat.reduceSub, Nat.reduceAdd, Bool.true_and, Bool.false_and, Bool.or_false, beq_self_eq_true]
    repeat (rw [evSs_c]; simp [evIo, evSs_n, asg, asgs, frz1, own?, ixN_nat, outs, ofI, divS, gN_cf, gN_io, gN_gl, gN_gd, gN_xr, gN_fr, wipeT_nil, wipeT_cons, gN_wN, hw, rn, ho])
/-- the greatest common divisor alone -/
theorem dvo_cl {p : Pr} (h : p.fs 107 = some F_straight_sum) (h2 : p.fs 108 = some F_divisor_of) (hw : p.wN = 2 ^ 64) {B : Nat} (hB : B ≤ 134217720) {x y : Int} (hx : Bd B x) (hy : Bd B y) :
    Cl p 2 108 [.int x, .int y] (.int (Int.gcd x y : Nat), []) := by
  obtain ⟨s, t, _, hc⟩ := ss_cl h hw hB hx hy
  refine Cl.mk h2 fun m hm => ?_
  have hc := hc.at hm
  have io := io_of h
  simp only [F_straight_sum] at io
  generalize ((Int.gcd x y : Nat) : Int) = g at *
  rw [runF_eq _ _ _ rfl]; simp only [F_divisor_of, b_divisor_of, ioM_f, ioM_t, startT, mark, List.replicate, List.cons_append, List.nil_append, List.contains_cons, List.contains_nil, icL, icT, icI, icS, icB, icN, icD, Nat.reduceBEq, Nat.reduceSub, Nat.reduceAdd, Bool.true_and, Bool.false_and, Bool.or_false, beq_self_eq_true]
  repeat (rw [evSs_c]; simp [evIo, evSs_n, asg, asgs, frz1, own?, ixN_nat, outs, ofI, divS, gN_cf, gN_io, gN_gl, gN_gd, gN_xr, gN_fr, wipeT_nil, wipeT_cons, hc, io])
end Mp

/-! the program's polynomials: trimmed, sums, products, values -/
namespace Mp
open PySem PySem.Spec PyProof.Rows L2
structure HPoly (p : Pr) : Prop where
  wn : p.wN = 2 ^ 64
  ss : p.fs 107 = some F_straight_sum
  dvo : p.fs 108 = some F_divisor_of
  dva : p.fs 109 = some F_divisor_of_all
  trim : p.fs 110 = some F_trimmed
  coef : p.fs 111 = some F_coefficient
  diff : p.fs 112 = some F_difference_of_polys
  prod : p.fs 113 = some F_product_of_polys
  scal : p.fs 114 = some F_scaled_poly
  deri : p.fs 115 = some F_derivative
  valu : p.fs 116 = some F_value_of
  topv : p.fs 117 = some F_top_value
  cont : p.fs 118 = some F_content
  prim : p.fs 119 = some F_primitive
  exq : p.fs 120 = some F_exact_quotient
  pdv : p.fs 121 = some F_pseudo_division
  dby : p.fs 122 = some F_divided_by
  nrow : p.fs 123 = some F_next_row
  sps : p.fs 124 = some F_straight_poly_sum
  cdv : p.fs 125 = some F_common_divisor
  sqf : p.fs 126 = some F_squarefree_part
abbrev iT (xs : List Int) : D := .tuple (xs.map .int)
abbrev iL (xs : List Int) : D := .list (xs.map .int)
theorem at_i {xs : List Int} {j : Nat} (h : j < xs.length) : atI (xs.map PyData.int) (j : Int) = some (.int (xs.getD j 0)) := by
  refine atI_map ?_
  simp [h]
theorem ixN_last {n : Nat} (h : 0 < n) : ixN n (-1) = some (n - 1) := by
  unfold ixN
  simp only [show ¬ (0 : Int) ≤ -1 by omega, show (-1 : Int) < 0 by omega, if_true, if_false]
  split <;> first | (congr 1; omega) | omega
theorem at_last {xs : List Int} (h : xs ≠ []) : atI (xs.map PyData.int) (-1) = some (.int (lead xs)) := by
  have hl : 0 < xs.length := List.length_pos_iff.mpr h
  have := at_i (xs := xs) (j := xs.length - 1) (by omega)
  rw [lead_getD] at this
  rw [← this]
  unfold atI
  rw [ixN_last (by simpa using hl), List.length_map, ixN_nat (by omega)]
theorem cut_to {α : Type} (xs : List α) (n : Nat) (h : n ≤ xs.length) : cutD xs none (some (n : Int)) = xs.take n := by
  unfold cutD
  rw [HT.sIx_nat, HT.sIx_none, Nat.min_eq_left h]; simp
theorem pev_congr : ∀ (p q : List Int), (∀ i, p.getD i 0 = q.getD i 0) → ∀ x, pev p x = pev q x
  | [], [], _, x => rfl
  | [], b :: q, h, x => by
    have := pev_congr [] q (fun i => by simpa using h (i + 1)) x
    have h0 := h 0
    simp at h0
    rw [pev, pev, ← this, ← h0, pev]; simp
  | a :: p, [], h, x => by
    have := pev_congr p [] (fun i => by simpa using h (i + 1)) x
    have h0 := h 0
    simp at h0
    rw [pev, pev, this, h0, pev]; simp
  | a :: p, b :: q, h, x => by
    have := pev_congr p q (fun i => by simpa using h (i + 1)) x
    have h0 := h 0
    simp at h0
    rw [pev, pev, this, h0]
theorem take_trm {xs : List Int} {e : Nat} (h1 : e ≤ xs.length) (h2 : ∀ i, e ≤ i → xs.getD i 0 = 0) (h3 : e = 0 ∨ xs.getD (e - 1) 0 ≠ 0) : xs.take e = trm xs := by
  refine isP_uniq ?_ (isP_trm xs) 0 fun x _ => ?_
  · rcases h3 with rfl | h3
    · simpa using isP_nil
    · unfold IsP
      rw [List.getLast?_eq_getElem?, List.length_take, Nat.min_eq_left h1, List.getElem?_take]
      intro z
      split at z
      · rw [List.getD_eq_getElem?_getD, z] at h3; exact h3 rfl
      · cases z
  · rw [pev_trm]
    refine pev_congr _ _ (fun i => ?_) x
    rw [getD_take]
    split
    · rfl
    · rw [h2 i (by omega)]
theorem trim_cl {p : Pr} (H : HPoly p) (xs : List Int) (hz : xs.length ≤ 100000) : Cl p 1 110 [iL xs] (iT (trm xs), []) := by
  obtain ⟨e, ⟨I1, I2⟩, hb, run⟩ := whL_un (fun e : Nat => [some (false, iL xs), some (false, .int (e : Nat))]) (fun e => e) (fun e => e ≤ xs.length ∧ ∀ i, e ≤ i → xs.getD i 0 = 0) (fun e => decide (0 < e) && decide (xs.getD (e - 1) 0 = 0)) (fun e => e - 1) (fun e I hb => by
    simp only [Bool.and_eq_true, decide_eq_true_eq] at hb
    refine ⟨⟨by omega, fun i hi => ?_⟩, by omega⟩
    by_cases z : i = e - 1
    · rw [z]; exact hb.2
    · exact I.2 i (by omega)) _ xs.length (Nat.le_refl _) ⟨Nat.le_refl _, fun i hi => getD_out hi⟩
  have ht : xs.take e = trm xs := take_trm I1 I2 (by
    simp only [Bool.and_eq_false_iff, decide_eq_false_iff_not] at hb
    rcases hb with hb | hb
    · exact .inl (by omega)
    · exact .inr hb)
  refine Cl.mk H.trim fun m _ => ?_
  have rn := run (2 ^ 64) [] (evT (gN p m) (.and (.cmp .Gt (.v 1) (.k (.int 0))) (.cmp .Eq (.sub (.v 0) (.bin .Sub (.v 1) (.k (.int 1)))) (.k (.int 0))))) (evSs (gN p m) [] b_trimmed_0) (by omega) (fun e I => by
      by_cases h0 : 0 < e
      · have h1 : (0 : Int) < (e : Nat) := by omega
        have ha := at_i (xs := xs) (j := e - 1) (by omega)
        rw [show (((e - 1 : Nat) : Int)) = (e : Int) - 1 by omega] at ha
        simp [h0, h1, ha]
      · have h1 : ¬ (0 : Int) < (e : Nat) := by omega
        simp [h0, h1]) (fun e I hb => by
      simp only [Bool.and_eq_true, decide_eq_true_eq] at hb
      simp only [b_trimmed_0]
      repeat (rw [evSs_c]; simp [evIo, evSs_n, asg, asgs, frz1, own?, ixN_nat, outs, ofI, divS, gN_cf, gN_io, gN_gl, gN_gd, gN_xr, gN_fr, wipeT_nil, wipeT_cons, show ((e - 1 : Nat) : Int) = (e : Int) - 1 by omega]))
  have hc : cutD (xs.map PyData.int) none (some (e : Int)) = (trm xs).map PyData.int := by rw [cut_to _ _ (by simpa using I1), ← List.map_take, ht]
  rw [runF_eq _ _ _ rfl]; simp only [F_trimmed, b_trimmed, ioM_f, ioM_t, startT, mark, List.replicate, List.cons_append, List.nil_append, List.contains_cons, List.contains_nil, icL, icT, icI, icS, icB, icN, icD, Nat.reduceBEq, Nat.reduceSub, Nat.reduceAdd, Bool.true_and, Bool.false_and, Bool.or_false, beq_self_eq_true]
  repeat (rw [evSs_c]; simp [evIo, evSs_n, asg, asgs, frz1, own?, ixN_nat, outs, ofI, divS, gN_cf, gN_io, gN_gl, gN_gd, gN_xr, gN_fr, wipeT_nil, wipeT_cons, gN_wN, H.wn, rn, hc])
end Mp

/-! sums, scaled ones, derivatives, values -/
namespace Mp
open PySem PySem.Spec PyProof.Rows L2
theorem bi_max (a b : Nat) : biD .max [.int (a : Int), .int (b : Int)] = some (.int ((max a b : Nat) : Int)) := by
  show some (PyData.int (if (b : Int) > (a : Int) then (b : Int) else (a : Int))) = _
  congr 2
  split <;> omega
theorem coef_cl {p : Pr} (H : HPoly p) (xs : List Int) (k : Nat) : Cl p 1 111 [iT xs, .int (k : Nat)] (.int (xs.getD k 0), []) := by
  refine Cl.mk H.coef fun m _ => ?_
  by_cases h : k < xs.length
  · have ha := at_i h
    have h' : (k : Int) < (xs.length : Nat) := by omega
    generalize xs.getD k 0 = z at *
    rw [runF_eq _ _ _ rfl]; simp only [F_coefficient, b_coefficient, ioM_f, ioM_t, startT, mark, List.replicate, List.cons_append, List.nil_append, List.contains_cons, List.contains_nil, icL, icT, icI, icS, icB, icN, icD, Nat.reduceBEq, Nat.reduceSub, Nat.reduceAdd, Bool.true_and, Bool.false_and, Bool.or_false, beq_self_eq_true]
    repeat (rw [evSs_c]; simp [evIo, evSs_n, asg, asgs, frz1, own?, ixN_nat, outs, ofI, divS, gN_cf, gN_io, gN_gl, gN_gd, gN_xr, gN_fr, wipeT_nil, wipeT_cons, h', ha])
  · have h' : ¬ (k : Int) < (xs.length : Nat) := by omega
    rw [getD_out (by omega)]
    rw [runF_eq _ _ _ rfl]; simp only [F_coefficient, b_coefficient, ioM_f, ioM_t, startT, mark, List.replicate, List.cons_append, List.nil_append, List.contains_cons, List.contains_nil, icL, icT, icI, icS, icB, icN, icD, Nat.reduceBEq, Nat.reduceSub, Nat.reduceAdd, Bool.true_and, Bool.false_and, Bool.or_false, beq_self_eq_true]
    repeat (rw [evSs_c]; simp [evIo, evSs_n, asg, asgs, frz1, own?, ixN_nat, outs, ofI, divS, gN_cf, gN_io, gN_gl, gN_gd, gN_xr, gN_fr, wipeT_nil, wipeT_cons, h'])
def pdiff (xs ys : List Int) : List Int := (List.range (max xs.length ys.length)).map fun k => xs.getD k 0 - ys.getD k 0
theorem pdiff_len (xs ys : List Int) : (pdiff xs ys).length = max xs.length ys.length := by simp [pdiff]
theorem pdiff_get (xs ys : List Int) (i : Nat) : (pdiff xs ys).getD i 0 = xs.getD i 0 - ys.getD i 0 := by
  unfold pdiff
  by_cases h : i < max xs.length ys.length
  · rw [List.getD_eq_getElem?_getD, List.getElem?_map, List.getElem?_range h]; rfl
  · rw [getD_out (by simp; omega), getD_out (l := xs) (by omega), getD_out (l := ys) (by omega)]; rfl
theorem padd_get : ∀ (p q : List Int) (i : Nat), (padd p q).getD i 0 = p.getD i 0 + q.getD i 0
  | [], q, i => by simp [padd]
  | a :: p, [], i => by simp [padd]
  | a :: p, b :: q, 0 => by simp [padd]
  | a :: p, b :: q, i + 1 => by simpa [padd] using padd_get p q i
theorem pev_pdiff (xs ys : List Int) (x : Int) : pev (pdiff xs ys) x = pev xs x - pev ys x := by
  have := pev_congr (pdiff xs ys) (padd xs (ys.map (· * (-1)))) (fun i => by rw [pdiff_get, padd_get, map_getD (by simp)]; omega) x
  rw [this, pev_padd, pev_scale]; omega
theorem diff_cl {p : Pr} (H : HPoly p) (xs ys : List Int) (hx : xs.length ≤ 100000) (hy : ys.length ≤ 100000) : Cl p 2 112 [iT xs, iT ys] (iT (trm (pdiff xs ys)), []) := by
  refine Cl.mk H.diff fun m hm => ?_
  have c1 := fun k : Nat => (coef_cl H xs k).at hm
  have c2 := fun k : Nat => (coef_cl H ys k).at hm
  have ct := (trim_cl H (pdiff xs ys) (by rw [pdiff_len]; omega)).at hm
  have i1 := io_of H.coef
  have i2 := io_of H.trim
  simp only [F_coefficient] at i1
  simp only [F_trimmed] at i2
  have hmx := bi_max xs.length ys.length
  have hcomp : evE (gN p m) (.comp (.bin .Sub (.call 111 (.cons (.v 0) (.cons (.v 3) .nil))) (.call 111 (.cons (.v 1) (.cons (.v 3) .nil)))) (.n 3) (.r1 (.v 2)) .no [3]) [some (false, iT xs), some (false, iT ys), some (false, .int ((max xs.length ys.length : Nat) : Int)), none] = .ok (iL (pdiff xs ys), []) := by
    have := comp_rng (g := gN p m) (τ := [some (false, iT xs), some (false, iT ys), some (false, .int ((max xs.length ys.length : Nat) : Int)), none]) (elt := .bin .Sub (.call 111 (.cons (.v 0) (.cons (.v 3) .nil))) (.call 111 (.cons (.v 1) (.cons (.v 3) .nil)))) (e := .v 2) (i := 3) (own := [3]) (max xs.length ys.length) (fun k => .int (xs.getD k 0 - ys.getD k 0)) (.v rfl) (by omega) (fun k _ => by
      have c1 := c1 k
      have c2 := c2 k
      generalize xs.getD k 0 = u at *
      generalize ys.getD k 0 = w at *
      simp [evIo, evSs_n, asg, asgs, frz1, own?, ixN_nat, outs, ofI, divS, gN_cf, gN_io, gN_gl, gN_gd, gN_xr, gN_fr, wipeT_nil, wipeT_cons, c1, c2, i1])
    rw [this]
    unfold pdiff iL
    rw [List.map_map]; rfl
  generalize pdiff xs ys = ds at *
  generalize trm ds = ts at *
  rw [runF_eq _ _ _ rfl]; simp only [F_difference_of_polys, b_difference_of_polys, ioM_f, ioM_t, startT, mark, List.replicate, List.cons_append, List.nil_append, List.contains_cons, List.contains_nil, icL, icT, icI, icS, icB, icN, icD, Nat.reduceBEq, Nat.reduceSub, Nat.reduceAdd, Bool.true_and, Bool.false_and, Bool.or_false, beq_self_eq_true]
  generalize max xs.length ys.length = mx at *
  repeat (rw [evSs_c]; simp [evIo, evSs_n, asg, asgs, frz1, own?, ixN_nat, outs, ofI, divS, gN_cf, gN_io, gN_gl, gN_gd, gN_xr, gN_fr, wipeT_nil, wipeT_cons, hmx, hcomp, ct, i2, -ev_evE_comp])
theorem scal_cl {p : Pr} (H : HPoly p) (xs : List Int) (f : Int) (hx : xs.length ≤ 100000) (hm : ∀ a ∈ xs, mulOk a f = true) : Cl p 2 114 [iT xs, .int f] (iT (trm (xs.map (· * f))), []) := by
  refine Cl.mk H.scal fun m hn => ?_
  have ct := (trim_cl H (xs.map (· * f)) (by simpa using hx)).at hn
  have i2 := io_of H.trim
  simp only [F_trimmed] at i2
  have hcomp : evE (gN p m) (.comp (.bin .Mult (.v 2) (.v 1)) (.n 2) (.it (.v 0)) .no [2]) [some (false, iT xs), some (false, .int f), none] = .ok (iL (xs.map (· * f)), []) := by
    have := comp_map (g := gN p m) (τ := [some (false, iT xs), some (false, .int f), none]) (elt := .bin .Mult (.v 2) (.v 1)) (it := .it (.v 0)) (i := 2) (own := [2]) (L := []) xs PyData.int (fun a => .int (a * f)) (by simp) rfl (szs hx) (fun a ha => by
      have := hm a ha
      simp [evIo, evSs_n, asg, asgs, frz1, own?, ixN_nat, outs, ofI, divS, gN_cf, gN_io, gN_gl, gN_gd, gN_xr, gN_fr, wipeT_nil, wipeT_cons, this])
    rw [this]
    unfold iL
    rw [List.map_map]; rfl
  generalize trm (xs.map (· * f)) = ts at *
  generalize xs.map (· * f) = ds at *
  rw [runF_eq _ _ _ rfl]; simp only [F_scaled_poly, b_scaled_poly, ioM_f, ioM_t, startT, mark, List.replicate, List.cons_append, List.nil_append, List.contains_cons, List.contains_nil, icL, icT, icI, icS, icB, icN, icD, Nat.reduceBEq, Nat.reduceSub, Nat.reduceAdd, Bool.true_and, Bool.false_and, Bool.or_false, beq_self_eq_true]
  repeat (rw [evSs_c]; simp [evIo, evSs_n, asg, asgs, frz1, own?, ixN_nat, outs, ofI, divS, gN_cf, gN_io, gN_gl, gN_gd, gN_xr, gN_fr, wipeT_nil, wipeT_cons, hcomp, ct, i2, -ev_evE_comp])
/-- a comprehension over enumerate -/
theorem enumL_zip {f : Int → D} : ∀ (xs : List Int) (k : Nat), enumL (k : Int) (xs.map f) = (xs.zipIdx k).map fun q => .tuple [.int (q.2 : Nat), f q.1]
  | [], k => rfl
  | x :: xs, k => by
    rw [List.map_cons, enumL, List.zipIdx_cons, List.map_cons]
    have := enumL_zip (f := f) xs (k + 1)
    rw [show ((k + 1 : Nat) : Int) = (k : Int) + 1 by omega] at this
    rw [this]
theorem enumL_0 {f : Int → D} (xs : List Int) : enumL 0 (xs.map f) = (xs.zipIdx 0).map fun q => .tuple [.int (q.2 : Nat), f q.1] := enumL_zip xs 0
theorem comp_enum {g : G} {τ : Tau} {elt e : E} {i j : Nat} {own : List Nat} (xs : List Int) (f : Int × Nat → D) (he : evI g (.enum e) τ = .ok (enumL 0 (xs.map .int), [])) (hz : xs.length ≤ 100000)
    (h : ∀ q ∈ xs.zipIdx 0, evE g elt (((wipeT τ own).set i (some (false, .int (q.2 : Nat)))).set j (some (false, .int q.1))) = .ok (f q, [])) :
    evE g (.comp elt (.tup [i, j]) (.enum e) .no own) τ = .ok (.list ((xs.zipIdx 0).map f), []) := by
  rw [enumL_0] at he
  unfold evE
  rw [he]
  simp only [R.bind_ok, List.length_map, List.length_zipIdx, if_pos (szs hz), lkI_nil, frz_nil]
  have := compL_eq (elt := evE g elt) (cond := evC g .no) (t := .tup [i, j]) (own := own) (τw := wipeT τ own) (g := fun q : Int × Nat => .tuple [.int (q.2 : Nat), .int q.1]) (f := f) (p := fun _ => true) (xs.zipIdx 0) fun q hq => ⟨((wipeT τ own).set i (some (false, .int (q.2 : Nat)))).set j (some (false, .int q.1)), by
    unfold asg; simp [asgs], by unfold evC; rfl, fun _ => h q hq⟩
  rw [filter_tt] at this
  rw [this]
  rfl
theorem pder_get : ∀ (xs : List Int) (i : Nat), (pder xs).getD i 0 = ((i : Int) + 1) * xs.getD (i + 1) 0
  | [], i => by simp [pder]
  | a :: xs, 0 => by
    rw [pder, padd_get]; simp
  | a :: xs, i + 1 => by
    have := pder_get xs i
    rw [pder, padd_get, List.getD_cons_succ, this, List.getD_cons_succ]
    simp only [Int.natCast_add, Int.natCast_one]
    generalize xs.getD (i + 1) 0 = u
    generalize (i : Int) = z
    grobner
def dlist (xs : List Int) : List Int := ((xs.zipIdx 0).map fun q : Int × Nat => (q.2 : Int) * q.1).drop 1
theorem dlist_len (xs : List Int) : (dlist xs).length = xs.length - 1 := by simp [dlist]
theorem der_get (xs : List Int) (i : Nat) : (dlist xs).getD i 0 = (pder xs).getD i 0 := by
  unfold dlist
  rw [pder_get, List.getD_eq_getElem?_getD, List.getElem?_drop, List.getElem?_map, List.getElem?_zipIdx]
  rw [List.getD_eq_getElem?_getD, show 1 + i = i + 1 by omega]
  cases xs[i + 1]? with
  | none => simp
  | some a => simp
theorem der_trm (xs : List Int) : trm (dlist xs) = trm (pder xs) := isP_uniq (isP_trm _) (isP_trm _) 0 fun x _ => by
  rw [pev_trm, pev_trm]; exact pev_congr _ _ (der_get xs) x
theorem deri_cl {p : Pr} (H : HPoly p) (xs : List Int) (hx : xs.length ≤ 100000) : Cl p 2 115 [iT xs] (iT (trm (pder xs)), []) := by
  refine Cl.mk H.deri fun m hn => ?_
  have ct := (trim_cl H (dlist xs) (by rw [dlist_len]; omega)).at hn
  rw [der_trm] at ct
  have i2 := io_of H.trim
  simp only [F_trimmed] at i2
  have hcomp : evE (gN p m) (.comp (.bin .Mult (.v 1) (.v 2)) (.tup [1, 2]) (.enum (.v 0)) .no [1, 2]) [some (false, iT xs), none, none] = .ok (iL ((xs.zipIdx 0).map fun q : Int × Nat => (q.2 : Int) * q.1), []) := by
    have := comp_enum (g := gN p m) (τ := [some (false, iT xs), none, none]) (elt := .bin .Mult (.v 1) (.v 2)) (e := .v 0) (i := 1) (j := 2) (own := [1, 2]) xs (fun q => .int ((q.2 : Int) * q.1)) (by simp) hx (fun q hq => by
      have h1 : q.2 < xs.length := by
        obtain ⟨_, h, _⟩ := List.mem_zipIdx hq
        omega
      have h2 : -(2 ^ 64) < (q.2 : Int) ∧ (q.2 : Int) < 2 ^ 64 := by omega
      have := mulL (i := (q.2 : Int)) (j := q.1) h2
      simp [evIo, evSs_n, asg, asgs, frz1, own?, ixN_nat, outs, ofI, divS, gN_cf, gN_io, gN_gl, gN_gd, gN_xr, gN_fr, wipeT_nil, wipeT_cons, this])
    rw [this]
    simp [iL]
  have hd : cutD (((xs.zipIdx 0).map fun q : Int × Nat => (q.2 : Int) * q.1).map PyData.int) (some 1) none = (dlist xs).map PyData.int := by
    have := cut_from (((xs.zipIdx 0).map fun q : Int × Nat => (q.2 : Int) * q.1).map PyData.int) 1
    unfold dlist; rw [List.map_drop]; exact this
  generalize trm (pder xs) = ts at *
  generalize dlist xs = ds at *
  generalize (xs.zipIdx 0).map (fun q : Int × Nat => (q.2 : Int) * q.1) = zs at *
  rw [runF_eq _ _ _ rfl]; simp only [F_derivative, b_derivative, ioM_f, ioM_t, startT, mark, List.replicate, List.cons_append, List.nil_append, List.contains_cons, List.contains_nil, icL, icT, icI, icS, icB, icN, icD, Nat.reduceBEq, Nat.reduceSub, Nat.reduceAdd, Bool.true_and, Bool.false_and, Bool.or_false, beq_self_eq_true]
  repeat (rw [evSs_c]; simp [evIo, evSs_n, asg, asgs, frz1, own?, ixN_nat, outs, ofI, divS, gN_cf, gN_io, gN_gl, gN_gd, gN_xr, gN_fr, wipeT_nil, wipeT_cons, hcomp, hd, ct, i2, -ev_evE_comp])
theorem pev_horner (x : Int) : ∀ (xs : List Int), xs.foldr (fun a t => t * x + a) 0 = pev xs x
  | [] => rfl
  | a :: xs => by rw [List.foldr_cons, pev_horner x xs, pev]; rw [Int.mul_comm]; omega
theorem valu_cl {p : Pr} (H : HPoly p) (xs : List Int) (x : Int) (hx : -(2 ^ 64) < x ∧ x < 2 ^ 64) : Cl p 1 116 [iT xs, .int x] (.int (pev xs x), []) := by
  refine Cl.mk H.valu fun m hn => ?_
  have hl := (forL_fold (io := []) (dead := [0, 3]) (t := .n 3) (body := evSs (gN p m) [] b_value_of_0) (fun t : Int => [none, some (false, .int x), some (false, .int t), none]) PyData.int (fun t a => t * x + a) (fun _ => True) xs.reverse 0 trivial (fun t a _ _ => ⟨by
    have hm := mulR (i := t) hx
    exact Turn.of rfl (by simp only [b_value_of_0]; repeat (rw [evSs_c]; simp [evIo, evSs_n, asg, asgs, frz1, own?, ixN_nat, outs, ofI, divS, gN_cf, gN_io, gN_gl, gN_gd, gN_xr, gN_fr, wipeT_nil, wipeT_cons, hm])), trivial⟩)).1
  rw [List.foldl_reverse, pev_horner] at hl
  rw [List.map_reverse] at hl
  generalize pev xs x = v at *
  rw [runF_eq _ _ _ rfl]; simp only [F_value_of, b_value_of, ioM_f, ioM_t, startT, mark, List.replicate, List.cons_append, List.nil_append, List.contains_cons, List.contains_nil, icL, icT, icI, icS, icB, icN, icD, Nat.reduceBEq, Nat.reduceSub, Nat.reduceAdd, Bool.true_and, Bool.false_and, Bool.or_false, beq_self_eq_true]
  repeat (rw [evSs_c]; simp [evIo, evSs_n, asg, asgs, frz1, own?, ixN_nat, outs, ofI, divS, gN_cf, gN_io, gN_gl, gN_gd, gN_xr, gN_fr, wipeT_nil, wipeT_cons, hl])
/-- the program's homogeneous value -/
def tvS (t b : Int) (s : Int × Int) (a : Int) : Int × Int := (s.1 * t + a * s.2, s.2 * b)
def tvF (xs : List Int) (t b : Int) : Int := (xs.foldr (fun a s => tvS t b s a) (0, 1)).1
theorem topv_cl {p : Pr} (H : HPoly p) (xs : List Int) (t b : Int) (ht : -(2 ^ 64) < t ∧ t < 2 ^ 64) (hb : -(2 ^ 64) < b ∧ b < 2 ^ 64) (hx : ∀ a ∈ xs, -(2 ^ 64) < a ∧ a < 2 ^ 64) : Cl p 1 117 [iT xs, .tuple [.int t, .int b]] (.int (tvF xs t b), []) := by
  refine Cl.mk H.topv fun m hn => ?_
  have hl := (forL_fold (io := []) (dead := [0, 4]) (t := .n 4) (body := evSs (gN p m) [] b_top_value_0) (fun s : Int × Int => [none, some (false, .tuple [.int t, .int b]), some (false, .int s.1), some (false, .int s.2), none]) PyData.int (tvS t b) (fun _ => True) xs.reverse (0, 1) trivial (fun s a ha _ => ⟨by
    have h1 := mulR (i := s.1) ht
    have h2 := mulL (j := s.2) (hx a (by simpa using ha))
    have h3 := mulR (i := s.2) hb
    exact Turn.of rfl (by simp only [b_top_value_0, tvS]; repeat (rw [evSs_c]; simp [evIo, evSs_n, asg, asgs, frz1, own?, ixN_nat, outs, ofI, divS, gN_cf, gN_io, gN_gl, gN_gd, gN_xr, gN_fr, wipeT_nil, wipeT_cons, h1, h2, h3])), trivial⟩)).1
  rw [List.foldl_reverse] at hl
  rw [List.map_reverse] at hl
  unfold tvF
  generalize xs.foldr (fun a s => tvS t b s a) (0, 1) = v at *
  rw [runF_eq _ _ _ rfl]; simp only [F_top_value, b_top_value, ioM_f, ioM_t, startT, mark, List.replicate, List.cons_append, List.nil_append, List.contains_cons, List.contains_nil, icL, icT, icI, icS, icB, icN, icD, Nat.reduceBEq, Nat.reduceSub, Nat.reduceAdd, Bool.true_and, Bool.false_and, Bool.or_false, beq_self_eq_true]
  repeat (rw [evSs_c]; simp [evIo, evSs_n, asg, asgs, frz1, own?, ixN_nat, outs, ofI, divS, gN_cf, gN_io, gN_gl, gN_gd, gN_xr, gN_fr, wipeT_nil, wipeT_cons, hl])
end Mp

/-! products, divisions -/
namespace Mp
open PySem PySem.Spec PyProof.Rows L2
theorem enum_get {ys : List Int} {j : Nat} {d : D} (h : (enumL 0 (ys.map .int))[j]? = some d) : j < ys.length ∧ d = .tuple [.int (j : Nat), .int (ys.getD j 0)] := by
  rw [enumL_0, List.getElem?_map, List.getElem?_zipIdx] at h
  cases e : ys[j]? with
  | none => rw [e] at h; cases h
  | some a =>
    rw [e] at h
    have := (List.getElem?_eq_some_iff.mp e).1
    refine ⟨this, ?_⟩
    rw [List.getD_eq_getElem?_getD, e]
    simpa using h.symm
theorem enum_len (ys : List Int) : (enumL 0 (ys.map PyData.int)).length = ys.length := by rw [enumL_0]; simp
/-- what one inner turn needs -/
structure AdT (c : Int) (ys row : List Int) (k j : Nat) : Prop where
  f1 : atI ((addAt c (ys.take j) row k).map PyData.int) ((k : Int) + (j : Int)) = some (.int ((addAt c (ys.take j) row k).getD (k + j) 0))
  f2 : ixN (addAt c (ys.take j) row k).length ((k : Int) + (j : Int)) = some (k + j)
  f3 : ((addAt c (ys.take j) row k).map PyData.int).set (k + j) (.int ((addAt c (ys.take j) row k).getD (k + j) 0 + c * ys.getD j 0)) = (addAt c (ys.take (j + 1)) row k).map PyData.int
theorem adT {c : Int} {ys row : List Int} {k j : Nat} (h : k + ys.length ≤ row.length) (hj : j < ys.length) : AdT c ys row k j := by
  have e : (k : Int) + (j : Int) = ((k + j : Nat) : Int) := by omega
  have hl := addAt_len c (ys.take j) row k
  refine ⟨?_, ?_, ?_⟩
  · rw [e]; exact at_i (by omega)
  · rw [e]; exact ixN_nat (by omega)
  · rw [← addAt_succ h hj, List.map_set]
/-! ### the product -/
theorem prod_inner {g : G} (a : Int) (ys row : List Int) (k : Nat) (h : k + ys.length ≤ row.length) (hm : ∀ b ∈ ys, mulOk a b = true) :
    forL [] [0, 5, 6] (.tup [5, 6]) (evSs g [] b_product_of_polys_1) (enumL 0 (ys.map .int)) [none, some (false, iT ys), some (true, iL row), some (false, .int (k : Nat)), some (false, .int a), none, none] =
      .nx [none, some (false, iT ys), some (true, iL (addAt a ys row k)), some (false, .int (k : Nat)), some (false, .int a), none, none] := by
  have := forL_ix (io := []) (dead := [0, 5, 6]) (t := .tup [5, 6]) (body := evSs g [] b_product_of_polys_1) (enumL 0 (ys.map .int)) (fun j => [none, some (false, iT ys), some (true, iL (addAt a (ys.take j) row k)), some (false, .int (k : Nat)), some (false, .int a), none, none]) 0 fun j d hd => by
    obtain ⟨hj, rfl⟩ := enum_get hd
    rw [Nat.zero_add]
    have q := adT (c := a) h hj
    have hm := hm (ys.getD j 0) (by
      rw [List.getD_eq_getElem?_getD, List.getElem?_eq_getElem hj]; exact List.getElem_mem _)
    obtain ⟨f1, f2, f3⟩ := q
    generalize addAt a (ys.take j) row k = R at *
    generalize addAt a (ys.take (j + 1)) row k = R' at *
    generalize ys.getD j 0 = b at *
    generalize R.getD (k + j) 0 = u at *
    exact Turn.of rfl (by simp only [b_product_of_polys_1]; repeat (rw [evSs_c]; simp [evIo, evSs_n, asg, asgs, frz1, own?, ixN_nat, outs, ofI, divS, gN_cf, gN_io, gN_gl, gN_gd, gN_xr, gN_fr, wipeT_nil, wipeT_cons, f1, f2, f3, hm]))
  rw [enum_len, Nat.zero_add, List.take_length, List.take_zero, addAt_nil] at this
  exact this
def mrow (ys row : List Int) (q : Int × Nat) : List Int := addAt q.1 ys row q.2
/-- rows of products: the list that the loops make -/
def mulRow (xs ys : List Int) : List Int := (xs.zipIdx 0).foldl (mrow ys) (List.replicate (xs.length + ys.length - 1) 0)
theorem mulRow_from (ys : List Int) : ∀ (xs : List Int) (k : Nat) (row : List Int), k + xs.length + ys.length ≤ row.length + 1 → 0 < ys.length → ((xs.zipIdx k).foldl (mrow ys) row).length = row.length ∧ ∀ x, pev ((xs.zipIdx k).foldl (mrow ys) row) x = pev row x + x ^ k * pev xs x * pev ys x
  | [], k, row, _, _ => ⟨rfl, fun x => by simp [pev]⟩
  | a :: xs, k, row, h, hy => by
    simp only [List.length_cons] at h
    have hl : (mrow ys row (a, k)).length = row.length := addAt_len _ _ _ _
    have ih := mulRow_from ys xs (k + 1) (mrow ys row (a, k)) (by rw [hl]; omega) hy
    rw [List.zipIdx_cons, List.foldl_cons]
    refine ⟨by rw [ih.1, hl], fun x => ?_⟩
    rw [ih.2 x]
    unfold mrow
    rw [pev_addAt _ _ _ _ _ (by dsimp only; omega), pev, Int.pow_succ]
    generalize pev row x = A
    generalize pev ys x = B
    generalize pev xs x = C
    generalize x ^ k = E
    grobner
theorem mulRow_ok {xs ys : List Int} (hx : xs ≠ []) (hy : ys ≠ []) : mulRow xs ys = pmul xs ys := by
  have h1 : 0 < xs.length := List.length_pos_iff.mpr hx
  have h2 : 0 < ys.length := List.length_pos_iff.mpr hy
  have := mulRow_from ys xs 0 (List.replicate (xs.length + ys.length - 1) 0) (by simp; omega) h2
  refine pev_inj 0 (by unfold mulRow; rw [this.1, pmul_len xs ys hx hy]; simp) fun x _ => ?_
  unfold mulRow
  rw [this.2, pev_pmul, pev_zeros]
  simp
theorem prod_cl {p : Pr} (H : HPoly p) {xs ys : List Int} (hl : xs.length + ys.length ≤ 100000) (hm : ∀ a ∈ xs, ∀ b ∈ ys, mulOk a b = true) (hx : IsP xs) (hy : IsP ys) :
    Cl p 2 113 [iT xs, iT ys] (if xs = [] ∨ ys = [] then iT [] else iT (pmul xs ys), []) := by
  by_cases h0 : xs = [] ∨ ys = []
  · rw [if_pos h0]
    refine Cl.mk H.prod fun m _ => ?_
    rcases h0 with rfl | rfl
    · rw [runF_eq _ _ _ rfl]; simp only [F_product_of_polys, b_product_of_polys, ioM_f, ioM_t, startT, mark, List.replicate, List.cons_append, List.nil_append, List.contains_cons, List.contains_nil, icL, icT, icI, icS, icB, icN, icD, Nat.reduceBEq, Nat.reduceSub, Nat.reduceAdd, Bool.true_and, Bool.false_and, Bool.or_false, beq_self_eq_true]
      repeat (rw [evSs_c]; simp [evIo, evSs_n, asg, asgs, frz1, own?, ixN_nat, outs, ofI, divS, gN_cf, gN_io, gN_gl, gN_gd, gN_xr, gN_fr, wipeT_nil, wipeT_cons])
    · by_cases h : xs.length = 0
      · rw [runF_eq _ _ _ rfl]; simp only [F_product_of_polys, b_product_of_polys, ioM_f, ioM_t, startT, mark, List.replicate, List.cons_append, List.nil_append, List.contains_cons, List.contains_nil, icL, icT, icI, icS, icB, icN, icD, Nat.reduceBEq, Nat.reduceSub, Nat.reduceAdd, Bool.true_and, Bool.false_and, Bool.or_false, beq_self_eq_true]
        repeat (rw [evSs_c]; simp [evIo, evSs_n, asg, asgs, frz1, own?, ixN_nat, outs, ofI, divS, gN_cf, gN_io, gN_gl, gN_gd, gN_xr, gN_fr, wipeT_nil, wipeT_cons, h])
      · rw [runF_eq _ _ _ rfl]; simp only [F_product_of_polys, b_product_of_polys, ioM_f, ioM_t, startT, mark, List.replicate, List.cons_append, List.nil_append, List.contains_cons, List.contains_nil, icL, icT, icI, icS, icB, icN, icD, Nat.reduceBEq, Nat.reduceSub, Nat.reduceAdd, Bool.true_and, Bool.false_and, Bool.or_false, beq_self_eq_true]
        repeat (rw [evSs_c]; simp [evIo, evSs_n, asg, asgs, frz1, own?, ixN_nat, outs, ofI, divS, gN_cf, gN_io, gN_gl, gN_gd, gN_xr, gN_fr, wipeT_nil, wipeT_cons, h])
  · rw [if_neg h0]
    simp only [not_or] at h0
    obtain ⟨n1, n2⟩ := h0
    refine Cl.mk H.prod fun m hn => ?_
    have h1 : 0 < xs.length := List.length_pos_iff.mpr n1
    have h2 : 0 < ys.length := List.length_pos_iff.mpr n2
    have ct := (trim_cl H (pmul xs ys) (by rw [pmul_len _ _ n1 n2]; omega)).at hn
    rw [trm_isP (isP_pmul hx hy n2)] at ct
    have i2 := io_of H.trim
    simp only [F_trimmed] at i2
    have hloop : forL [] [0, 3, 4, 5, 6] (.tup [3, 4]) (evSs (gN p m) [] b_product_of_polys_0) (enumL 0 (xs.map .int)) [none, some (false, iT ys), some (true, iL (List.replicate (xs.length + ys.length - 1) 0)), none, none, none, none] = .nx [none, some (false, iT ys), some (true, iL (pmul xs ys)), none, none, none, none] := by
      have := forL_fold (io := []) (dead := [0, 3, 4, 5, 6]) (t := .tup [3, 4]) (body := evSs (gN p m) [] b_product_of_polys_0) (fun row : List Int => [none, some (false, iT ys), some (true, iL row), none, none, none, none]) (fun q : Int × Nat => .tuple [.int (q.2 : Nat), .int q.1]) (mrow ys) (fun row => row.length = xs.length + ys.length - 1) (xs.zipIdx 0) (List.replicate (xs.length + ys.length - 1) 0) (by simp) (fun row q hq hr => by
        obtain ⟨_, hq1, hq2⟩ := List.mem_zipIdx hq
        have hmem : q.1 ∈ xs := by rw [hq2]; exact List.getElem_mem _
        refine ⟨?_, by unfold mrow; rw [addAt_len]; exact hr⟩
        have hi := prod_inner (g := gN p m) q.1 ys row q.2 (by omega) (hm q.1 hmem)
        unfold mrow
        obtain ⟨a, k⟩ := q
        dsimp only at *
        exact Turn.of rfl (by simp only [b_product_of_polys_0]; repeat (rw [evSs_c]; simp [evIo, evSs_n, asg, asgs, frz1, own?, ixN_nat, outs, ofI, divS, gN_cf, gN_io, gN_gl, gN_gd, gN_xr, gN_fr, wipeT_nil, wipeT_cons, hi])))
      have e := mulRow_ok n1 n2
      unfold mulRow at e
      rw [e] at this
      rw [enumL_0]
      exact this.1
    have hrep : binD .Mult (.list [.int 0]) (.int ((xs.length : Int) + (ys.length : Int) - 1)) = some (iL (List.replicate (xs.length + ys.length - 1) 0)) := by
      rw [bMulL, if_pos (lmOk_iff.mpr ⟨by omega, szs (by simp; omega)⟩)]
      have : ((xs.length : Int) + (ys.length : Int) - 1).toNat = xs.length + ys.length - 1 := by omega
      rw [this]
      congr 2
      generalize xs.length + ys.length - 1 = n
      induction n with
      | zero => rfl
      | succ n ih => rw [List.replicate_succ, List.flatten_cons, ih]; rfl
    have e1 : ¬ xs.length = 0 := by omega
    have e2 : ¬ ys.length = 0 := by omega
    generalize pmul xs ys = R at *
    generalize List.replicate (xs.length + ys.length - 1) (0 : Int) = Z at *
    rw [runF_eq _ _ _ rfl]; simp only [F_product_of_polys, b_product_of_polys, ioM_f, ioM_t, startT, mark, List.replicate, List.cons_append, List.nil_append, List.contains_cons, List.contains_nil, icL, icT, icI, icS, icB, icN, icD, Nat.reduceBEq, Nat.reduceSub, Nat.reduceAdd, Bool.true_and, Bool.false_and, Bool.or_false, beq_self_eq_true]
    repeat (rw [evSs_c]; simp [evIo, evSs_n, asg, asgs, frz1, own?, ixN_nat, outs, ofI, divS, gN_cf, gN_io, gN_gl, gN_gd, gN_xr, gN_fr, wipeT_nil, wipeT_cons, e1, e2, n1, n2, hrep, hloop, ct, i2, -bMulL])
end Mp

/-! the exact quotient -/
namespace Mp
open PySem PySem.Spec PyProof.Rows L2
theorem rng_rev (k : Nat) : (rngL 0 (k + 1)).reverse = .int (k : Nat) :: (rngL 0 k).reverse := by
  rw [rng0, rng0, List.range_succ, List.map_append, List.reverse_append]; rfl
theorem getD_mem {l : List Int} {i : Nat} (h : i < l.length) : l.getD i 0 ∈ l := by
  rw [List.getD_eq_getElem?_getD, List.getElem?_eq_getElem h]; exact List.getElem_mem _
theorem rep0 {n : Nat} (hn : n ≤ 100000) (z : Int) (hz : z.toNat = n) (hz2 : -100000 ≤ z ∧ z ≤ 100000) : binD .Mult (.list [.int 0]) (.int z) = some (iL (List.replicate n 0)) := by
  rw [bMulL, if_pos (lmOk_iff.mpr ⟨by omega, szs (by simp; omega)⟩), hz]
  congr 2
  clear hz hn
  induction n with
  | zero => rfl
  | succ n ih => rw [List.replicate_succ, List.flatten_cons, ih]; rfl
theorem bi_max0 (z : Int) : biD .max [.int z, .int 0] = some (.int ((z.toNat : Nat) : Int)) := by
  show some (PyData.int (if (0 : Int) > z then (0 : Int) else z)) = _
  congr 2
  split <;> omega
theorem exq_inner {g : G} (c z1 : Int) (ys row qs : List Int) (k : Nat) (h : k + ys.length ≤ row.length) (hm : ∀ b ∈ ys, mulOk c b = true) :
    forL [] [0, 5, 7, 8] (.tup [7, 8]) (evSs g [] b_exact_quotient_1) (enumL 0 (ys.map .int)) [none, some (false, iT ys), some (true, iL row), some (true, iL qs), some (false, .int (k : Nat)), none, some (false, .int c), none, none] =
      .nx [none, some (false, iT ys), some (true, iL (addAt (-c) ys row k)), some (true, iL qs), some (false, .int (k : Nat)), none, some (false, .int c), none, none] := by
  have := forL_ix (io := []) (dead := [0, 5, 7, 8]) (t := .tup [7, 8]) (body := evSs g [] b_exact_quotient_1) (enumL 0 (ys.map .int)) (fun j => [none, some (false, iT ys), some (true, iL (addAt (-c) (ys.take j) row k)), some (true, iL qs), some (false, .int (k : Nat)), none, some (false, .int c), none, none]) 0 fun j d hd => by
    obtain ⟨hj, rfl⟩ := enum_get hd
    rw [Nat.zero_add]
    have q := adT (c := -c) h hj
    have hm := hm (ys.getD j 0) (getD_mem hj)
    obtain ⟨f1, f2, f3⟩ := q
    generalize addAt (-c) (ys.take j) row k = R at *
    generalize addAt (-c) (ys.take (j + 1)) row k = R' at *
    generalize ys.getD j 0 = b at *
    generalize R.getD (k + j) 0 = u at *
    rw [show u + -c * b = u - c * b by rw [Int.neg_mul]; omega] at f3
    exact Turn.of rfl (by simp only [b_exact_quotient_1]; repeat (rw [evSs_c]; simp [evIo, evSs_n, asg, asgs, frz1, own?, ixN_nat, outs, ofI, divS, gN_cf, gN_io, gN_gl, gN_gd, gN_xr, gN_fr, wipeT_nil, wipeT_cons, f1, f2, f3, hm]))
  rw [enum_len, Nat.zero_add, List.take_length, List.take_zero, addAt_nil] at this
  exact this
def exS (ys R Q : List Int) : Tau := [none, some (false, iT ys), some (true, iL R), some (true, iL Q), none, none, none, none, none]
/-- a turn that goes on -/
theorem exq_turn {g : G} (ys R Q : List Int) (k : Nat) (c : Int) (hy : ys ≠ []) (h : k + ys.length ≤ R.length) (hk : k < Q.length) (hl : lead ys ≠ 0) (ht : R.getD (k + ys.length - 1) 0 = c * lead ys) (hm : ∀ b ∈ ys, mulOk c b = true) :
    Turn [] [0, 4, 5, 6, 7, 8] (.n 4) (evSs g [] b_exact_quotient_0) (.int (k : Nat)) (exS ys R Q) (exS ys (addAt (-c) ys R k) (Q.set k c)) := by
  have hy0 : 0 < ys.length := List.length_pos_iff.mpr hy
  have f1 : atI (R.map PyData.int) ((k : Int) + (ys.length : Int) - 1) = some (.int (c * lead ys)) := by
    rw [show (k : Int) + (ys.length : Int) - 1 = ((k + ys.length - 1 : Nat) : Int) by omega, at_i (by omega), ht]
  have f2 := at_last hy
  have f3 := fm_bin (i := c * lead ys) hl
  rw [fq_mul hl, Int.sub_self] at f3
  have f4 := fq_bin (i := c * lead ys) hl
  rw [fq_mul hl] at f4
  have f5 : ixN Q.length (k : Int) = some k := ixN_nat hk
  have hi := exq_inner (g := g) c 0 ys R (Q.set k c) k h hm
  have f6 : (Q.map PyData.int).set k (.int c) = (Q.set k c).map .int := by rw [List.map_set]
  generalize Q.set k c = Q' at *
  generalize addAt (-c) ys R k = R' at *
  generalize c * lead ys = tp at *
  unfold exS
  exact Turn.of rfl (by simp only [b_exact_quotient_0]; repeat (rw [evSs_c]; simp [evIo, evSs_n, asg, asgs, frz1, own?, ixN_nat, outs, ofI, divS, gN_cf, gN_io, gN_gl, gN_gd, gN_xr, gN_fr, wipeT_nil, wipeT_cons, f1, f2, f3, f4, f5, f6, hi, -bMod, -bDiv]))
/-- a turn that ends the def -/
theorem exq_stop {g : G} (ys R Q : List Int) (k : Nat) (hy : ys ≠ []) (h : k + ys.length ≤ R.length) (hl : lead ys ≠ 0) (ht : ¬ lead ys ∣ R.getD (k + ys.length - 1) 0) :
    ∃ τ1 τ, asg [] false (.n 4) (.int (k : Nat)) (exS ys R Q) = some τ1 ∧ evSs g [] b_exact_quotient_0 τ1 = .ret τ .none := by
  have hy0 : 0 < ys.length := List.length_pos_iff.mpr hy
  have f1 : atI (R.map PyData.int) ((k : Int) + (ys.length : Int) - 1) = some (.int (R.getD (k + ys.length - 1) 0)) := by
    rw [show (k : Int) + (ys.length : Int) - 1 = ((k + ys.length - 1 : Nat) : Int) by omega, at_i (by omega)]
  have f2 := at_last hy
  have f3 := fm_bin (i := R.getD (k + ys.length - 1) 0) hl
  have f4 : ¬ (R.getD (k + ys.length - 1) 0 - fq (R.getD (k + ys.length - 1) 0) (lead ys) * lead ys = 0) := fun z => ht ((fm_iff hl).mp z)
  generalize R.getD (k + ys.length - 1) 0 - fq (R.getD (k + ys.length - 1) 0) (lead ys) * lead ys = md at *
  generalize R.getD (k + ys.length - 1) 0 = tp at *
  unfold exS
  refine ⟨_, [none, some (false, iT ys), some (true, iL R), some (true, iL Q), some (false, .int (k : Nat)), some (false, .int tp), none, none, none], rfl, ?_⟩
  simp only [b_exact_quotient_0]
  repeat (rw [evSs_c]; simp [evIo, evSs_n, asg, asgs, frz1, own?, ixN_nat, outs, ofI, divS, gN_cf, gN_io, gN_gl, gN_gd, gN_xr, gN_fr, wipeT_nil, wipeT_cons, f1, f2, f3, f4, -bMod])
structure ExI (x y q r w : List Int) (f : Int) (k : Nat) (R Q : List Int) : Prop where
  rl : R.length = x.length
  ql : Q.length = q.length
  id : ∀ t, pev R t = pev (q.take k) t * pev y t + pev r t
  hi : ∀ i, k ≤ i → Q.getD i 0 * f = q.getD i 0
  lo : ∀ i, i < k → Q.getD i 0 = 0
structure ExH (x y q r : List Int) (f : Int) : Prop where
  y0 : y ≠ []
  yl : lead y ≠ 0
  qP : IsP q
  rP : IsP r
  rl : r.length < y.length
  f0 : f ≠ 0
  id : ∀ t, pev x t = pev q t * pev y t + pev r t
  n : x.length + 1 - y.length = q.length
theorem lead_take {q : List Int} {k : Nat} (h : k < q.length) : lead (q.take (k + 1)) = q.getD k 0 := by
  rw [← lead_getD, List.length_take, Nat.min_eq_left (by omega), getD_take, if_pos (by omega)]; rfl
theorem pev_take {q : List Int} {k : Nat} (h : k < q.length) (t : Int) : pev (q.take (k + 1)) t = pev (q.take k) t + q.getD k 0 * t ^ k := by
  rw [List.take_succ, pev_append, List.length_take, Nat.min_eq_left (by omega), List.getD_eq_getElem?_getD]
  cases q[k]? with
  | none => simp [pev]
  | some a => simp [pev]; rw [Int.mul_comm]
theorem ExI.top {x y q r w R Q : List Int} {f : Int} {k : Nat} (H : ExH x y q r f) (I : ExI x y q r w f (k + 1) R Q) (hk : k < q.length) : R.getD (k + y.length - 1) 0 = q.getD k 0 * lead y := by
  have hy : 0 < y.length := List.length_pos_iff.mpr H.y0
  have e := pev_getD R (padd (pmul (q.take (k + 1)) y) r) 0 (fun t _ => by rw [I.id, pev_padd, pev_pmul]) (k + y.length - 1)
  have tn : q.take (k + 1) ≠ [] := fun z => by
    have := congrArg List.length z
    rw [List.length_take, List.length_nil] at this; omega
  have l1 := pmul_len (q.take (k + 1)) y tn H.y0
  rw [List.length_take, Nat.min_eq_left (by omega)] at l1
  have pn := pmul_ne tn H.y0
  have l2 := pmul_last (q.take (k + 1)) y tn H.y0
  rw [lead_q pn, lead_take hk] at l2
  rw [e, padd_get, getD_out (l := r) (by have := H.rl; omega), Int.add_zero, ← Option.some.inj l2, ← lead_getD, l1]
  congr 1; omega
theorem ExI.next {x y q r R Q : List Int} {f c : Int} {k : Nat} (H : ExH x y q r f) (I : ExI x y q r (y.map (· * f)) f (k + 1) R Q) (hk : k < q.length) (hc : c * f = q.getD k 0) : ExI x y q r (y.map (· * f)) f k (addAt (-c) (y.map (· * f)) R k) (Q.set k c) := by
  have hy : 0 < y.length := List.length_pos_iff.mpr H.y0
  have hn := H.n
  refine ⟨by rw [addAt_len, I.rl], by rw [List.length_set, I.ql], fun t => ?_, fun i hi => ?_, fun i hi => ?_⟩
  · rw [pev_addAt _ _ _ _ _ (by rw [List.length_map, I.rl]; omega), I.id, pev_take hk, pev_scale, ← hc]
    generalize pev (q.take k) t = A
    generalize pev y t = B
    generalize pev r t = C
    generalize t ^ k = E
    grobner
  · rw [getD_set (by rw [I.ql]; exact hk)]
    split
    · rename_i e; subst e; exact hc
    · exact I.hi i (by omega)
  · rw [getD_set (by rw [I.ql]; exact hk), if_neg (by omega)]
    exact I.lo i (by omega)
theorem lead_scale {y : List Int} {f : Int} : lead (y.map (· * f)) = lead y * f := by
  rw [← lead_getD, map_getD (by simp), List.length_map, lead_getD]
theorem exq_loop {g : G} {x y q r : List Int} {f : Int} (H : ExH x y q r f) (hm : ∀ c : Int, (∃ a ∈ q, c * f = a) → ∀ b ∈ y.map (· * f), mulOk c b = true) : ∀ (k : Nat) (R Q : List Int), k ≤ q.length → ExI x y q r (y.map (· * f)) f k R Q →
    ((∀ i, i < k → f ∣ q.getD i 0) → ∃ R' Q', ExI x y q r (y.map (· * f)) f 0 R' Q' ∧ forL [] [0, 4, 5, 6, 7, 8] (.n 4) (evSs g [] b_exact_quotient_0) (rngL 0 k).reverse (exS (y.map (· * f)) R Q) = .nx (exS (y.map (· * f)) R' Q')) ∧
    ((∃ i, i < k ∧ ¬ f ∣ q.getD i 0) → ∃ τ, forL [] [0, 4, 5, 6, 7, 8] (.n 4) (evSs g [] b_exact_quotient_0) (rngL 0 k).reverse (exS (y.map (· * f)) R Q) = .ret τ .none)
  | 0, R, Q, _, I => ⟨fun _ => ⟨R, Q, I, rfl⟩, fun ⟨i, hi, _⟩ => by omega⟩
  | k + 1, R, Q, hk, I => by
    have hy : 0 < y.length := List.length_pos_iff.mpr H.y0
    have hn := H.n
    have wn : y.map (· * f) ≠ [] := by simpa using H.y0
    have wl : lead (y.map (· * f)) ≠ 0 := by
      rw [lead_scale]
      intro z
      rcases Int.mul_eq_zero.mp z with z | z
      · exact H.yl z
      · exact H.f0 z
    have top := I.top H (by omega)
    rw [rng_rev]
    by_cases hd : f ∣ q.getD k 0
    · obtain ⟨c, hc⟩ := hd
      rw [Int.mul_comm] at hc
      have nx := I.next H (by omega) hc.symm
      have tn := exq_turn (g := g) (y.map (· * f)) R Q k c wn (by rw [List.length_map, I.rl]; omega) (by rw [I.ql]; omega) wl (by rw [List.length_map, top, lead_scale, hc]; generalize lead y = z; grobner) (hm c ⟨_, getD_mem (by omega), hc.symm⟩)
      obtain ⟨τ1, a1, τ2, a2, a3⟩ := tn
      have ih := exq_loop (g := g) H hm k _ _ (by omega) nx
      have st : forL [] [0, 4, 5, 6, 7, 8] (.n 4) (evSs g [] b_exact_quotient_0) (.int (k : Nat) :: (rngL 0 k).reverse) (exS (y.map (· * f)) R Q) = forL [] [0, 4, 5, 6, 7, 8] (.n 4) (evSs g [] b_exact_quotient_0) (rngL 0 k).reverse (exS (y.map (· * f)) (addAt (-c) (y.map (· * f)) R k) (Q.set k c)) := by
        conv => lhs; unfold forL
        rw [a1]
        rcases a2 with a2 | a2 <;> simp only [a2, a3]
      rw [st]
      refine ⟨fun hh => ih.1 fun i hi => hh i (by omega), fun ⟨i, hi, hh⟩ => ih.2 ⟨i, ?_, hh⟩⟩
      rcases Nat.lt_or_ge i k with z | z
      · exact z
      · exact absurd (show f ∣ q.getD i 0 by rw [show i = k by omega, hc]; exact Int.dvd_mul_left _ _) hh
    · refine ⟨fun hh => absurd (hh k (by omega)) hd, fun _ => ?_⟩
      obtain ⟨τ1, τ, b1, b2⟩ := exq_stop (g := g) (y.map (· * f)) R Q k wn (by rw [List.length_map, I.rl]; omega) wl (by
        rw [List.length_map, top, lead_scale]
        rintro ⟨e, he⟩
        refine hd ⟨e, Int.eq_of_mul_eq_mul_right H.yl ?_⟩
        rw [he]; generalize lead y = z; grobner)
      refine ⟨τ, ?_⟩
      unfold forL
      rw [b1]
      simp only [b2]
theorem boolsOf_map (f : Int → Bool) : ∀ xs : List Int, boolsOf (xs.map fun a => PyData.bool (f a)) = some (xs.map f)
  | [] => rfl
  | a :: xs => by rw [List.map_cons, boolsOf, boolsOf_map f xs]; rfl
theorem any_ev {g : G} (xs : List Int) (hz : xs.length ≤ 100000) (a0 a1 a3 a4 a5 a6 a7 a8 : Option (Bool × D)) : evE g (.comp (.cmp .NotEq (.v 8) (.k (.int 0))) (.n 8) (.it (.v 2)) .no [8]) [a0, a1, some (true, iL xs), a3, a4, a5, a6, a7, a8] = .ok (.list (xs.map fun a => .bool (!decide (a = 0))), []) := by
  refine comp_map (L := [2]) xs PyData.int (fun a => .bool (!decide (a = 0))) (by simp) rfl (szs hz) (fun a ha => ?_)
  simp [evIo, evSs_n, asg, asgs, frz1, own?, ixN_nat, outs, ofI, divS, gN_cf, gN_io, gN_gl, gN_gd, gN_xr, gN_fr, wipeT_nil, wipeT_cons]
theorem trm_any (R : List Int) : ((R.map fun a => !decide (a = 0)).any id) = !decide (trm R = []) := by
  by_cases h : trm R = []
  · have := trm_nil.mp h
    rw [decide_eq_true h]
    simpa using this
  · rw [decide_eq_false h]
    simp only [Bool.not_false, List.any_map, List.any_eq_true]
    refine Classical.byContradiction fun z => h (trm_nil.mpr fun a ha => Classical.byContradiction fun y => z ⟨a, ha, ?_⟩)
    simp [y]
/-- the exact quotient, or None -/
theorem exq_cl {p : Pr} (Hp : HPoly p) {x y q r : List Int} {f : Int} (H : ExH x y q r f) (hm : ∀ c : Int, (∃ a ∈ q, c * f = a) → ∀ b ∈ y.map (· * f), mulOk c b = true) (hz : x.length + y.length ≤ 100000) :
    (∀ c : List Int, r = [] → q = c.map (· * f) → Cl p 2 120 [iT x, iT (y.map (· * f))] (iT c, [])) ∧ ((r ≠ [] ∨ ∃ a ∈ q, ¬ f ∣ a) → Cl p 2 120 [iT x, iT (y.map (· * f))] (.none, [])) := by
  have hn := H.n
  have hy0 : 0 < y.length := List.length_pos_iff.mpr H.y0
  have hq0 : q.length ≤ 100000 := by omega
  have start : ExI x y q r (y.map (· * f)) f q.length x (List.replicate q.length 0) := by
    refine ⟨rfl, by simp, fun t => by rw [List.take_length]; exact H.id t, fun i hi => ?_, fun i hi => ?_⟩
    · rw [getD_out (by simpa using hi), getD_out hi]; simp
    · simp [List.getD_eq_getElem?_getD, List.getElem?_replicate, hi]
  have e1 : biD .max [.int ((x.length : Int) - (y.length : Int) + 1), .int 0] = some (.int ((q.length : Nat) : Int)) := by
    rw [bi_max0]; congr 2; omega
  have e2 := rep0 hq0 ((q.length : Nat) : Int) (by omega) (by omega)
  have e3 := rng1 hq0
  have i2 := io_of Hp.trim
  simp only [F_trimmed] at i2
  have lp := fun g : G => exq_loop (g := g) H hm q.length x (List.replicate q.length 0) (Nat.le_refl _) start
  have all_iff : (∀ i, i < q.length → f ∣ q.getD i 0) ↔ ∀ a ∈ q, f ∣ a := by
    constructor
    · intro h a ha
      obtain ⟨i, hi⟩ := List.getElem?_of_mem ha
      have := h i (List.getElem?_eq_some_iff.mp hi).1
      rw [List.getD_eq_getElem?_getD, hi] at this
      exact this
    · exact fun h i hi => h _ (getD_mem hi)
  have hwl : (y.map (· * f)).length = y.length := List.length_map ..
  have lz : (List.replicate q.length (0 : Int)).length = q.length := by simp
  generalize List.replicate q.length (0 : Int) = Z at *
  -- behind the loop
  have fin : ∀ (m : Nat), 1 ≤ m → (∀ a ∈ q, f ∣ a) → ∃ Q', (∀ i, Q'.getD i 0 * f = q.getD i 0) ∧ Q'.length = q.length ∧ runF (gN p m) F_exact_quotient [iT x, iT (y.map (· * f))] = .ok (if r = [] then iT (trm Q') else .none, []) := by
    intro m hm1 ha
    obtain ⟨R', Q', I, hloop⟩ := (lp (gN p m)).1 (all_iff.mpr ha)
    refine ⟨Q', fun i => I.hi i (Nat.zero_le _), I.ql, ?_⟩
    have ct := (trim_cl Hp Q' (by rw [I.ql]; exact hq0)).at hm1
    have hany : ((R'.map fun a => !decide (a = 0)).any id) = !decide (r = []) := by
      rw [trm_any]
      have : trm R' = r := isP_uniq (isP_trm _) H.rP 0 fun t _ => by rw [pev_trm, I.id]; simp [pev]
      rw [this]
    have hb := boolsOf_map (fun a => !decide (a = 0)) R'
    have hcomp := any_ev (g := gN p m) R' (by rw [I.rl]; omega) none (some (false, iT (y.map (· * f)))) (some (true, iL Q')) none none none none none
    have hA : biD .any [.list (R'.map fun a => PyData.bool (!decide (a = 0)))] = some (.bool (!decide (r = []))) := by
      rw [anyL, hb, ← hany]; rfl
    generalize (R'.map fun a => PyData.bool (!decide (a = 0))) = bs at *
    generalize trm Q' = ts at *
    generalize y.map (· * f) = W at *
    have hwl : W.length = y.length := by assumption
    unfold exS at hloop
    by_cases h : r = []
    · rw [runF_eq _ _ _ rfl]; simp only [F_exact_quotient, b_exact_quotient, ioM_f, ioM_t, startT, mark, List.replicate, List.cons_append, List.nil_append, List.contains_cons, List.contains_nil, icL, icT, icI, icS, icB, icN, icD, Nat.reduceBEq, Nat.reduceSub, Nat.reduceAdd, Bool.true_and, Bool.false_and, Bool.or_false, beq_self_eq_true]
      repeat (rw [evSs_c]; simp [evIo, evSs_n, asg, asgs, frz1, own?, ixN_nat, outs, ofI, divS, gN_cf, gN_io, gN_gl, gN_gd, gN_xr, gN_fr, wipeT_nil, wipeT_cons, e1, e2, e3, hloop, hcomp, hA, ct, i2, h, hwl, lz, -bMulL, -ev_evE_comp, -anyL])
    · rw [runF_eq _ _ _ rfl]; simp only [F_exact_quotient, b_exact_quotient, ioM_f, ioM_t, startT, mark, List.replicate, List.cons_append, List.nil_append, List.contains_cons, List.contains_nil, icL, icT, icI, icS, icB, icN, icD, Nat.reduceBEq, Nat.reduceSub, Nat.reduceAdd, Bool.true_and, Bool.false_and, Bool.or_false, beq_self_eq_true]
      repeat (rw [evSs_c]; simp [evIo, evSs_n, asg, asgs, frz1, own?, ixN_nat, outs, ofI, divS, gN_cf, gN_io, gN_gl, gN_gd, gN_xr, gN_fr, wipeT_nil, wipeT_cons, e1, e2, e3, hloop, hcomp, hA, ct, i2, h, hwl, lz, -bMulL, -ev_evE_comp, -anyL])
  refine ⟨fun c hr hc => ?_, fun h => ?_⟩
  · refine Cl.mk Hp.exq fun m hm1 => ?_
    have ha : ∀ a ∈ q, f ∣ a := fun a ha => by
      rw [hc] at ha
      obtain ⟨b, _, rfl⟩ := List.mem_map.mp ha
      exact Int.dvd_mul_left _ _
    obtain ⟨Q', h1, h2, h3⟩ := fin m hm1 ha
    have hP : IsP c := by
      have := H.qP
      rw [hc] at this
      unfold IsP at *
      rw [List.getLast?_map] at this
      intro z
      rw [z] at this
      simp at this
    have : trm Q' = c := isP_uniq (isP_trm _) hP 0 fun t _ => by
      rw [pev_trm]
      refine pev_congr _ _ (fun i => ?_) t
      have e := h1 i
      rw [hc, map_getD (by simp)] at e
      exact Int.eq_of_mul_eq_mul_right H.f0 e
    rw [h3, if_pos hr, this]
  · by_cases ha : ∀ a ∈ q, f ∣ a
    · have hr : r ≠ [] := by
        rcases h with h | ⟨a, h1, h2⟩
        · exact h
        · exact absurd (ha a h1) h2
      refine Cl.mk Hp.exq fun m hm1 => ?_
      obtain ⟨Q', h1, h2, h3⟩ := fin m hm1 ha
      rw [h3, if_neg hr]
    · refine Cl.mk Hp.exq fun m hm1 => ?_
      have hex : ∃ i, i < q.length ∧ ¬ f ∣ q.getD i 0 := Classical.byContradiction fun z => ha (all_iff.mp fun i hi => Classical.byContradiction fun y => z ⟨i, hi, y⟩)
      obtain ⟨τ, hloop⟩ := (lp (gN p m)).2 hex
      clear all_iff fin lp start hm
      generalize y.map (· * f) = W at *
      unfold exS at hloop
      rw [runF_eq _ _ _ rfl]; simp only [F_exact_quotient, b_exact_quotient, ioM_f, ioM_t, startT, mark, List.replicate, List.cons_append, List.nil_append, List.contains_cons, List.contains_nil, icL, icT, icI, icS, icB, icN, icD, Nat.reduceBEq, Nat.reduceSub, Nat.reduceAdd, Bool.true_and, Bool.false_and, Bool.or_false, beq_self_eq_true]
      repeat (rw [evSs_c]; simp [evIo, evSs_n, asg, asgs, frz1, own?, ixN_nat, outs, ofI, divS, gN_cf, gN_io, gN_gl, gN_gd, gN_xr, gN_fr, wipeT_nil, wipeT_cons, e1, e2, e3, hloop, hwl, lz, -bMulL])
end Mp

/-! the division with scale; contents -/
namespace Mp
open PySem PySem.Spec PyProof.Rows L2
def szY (y : List Int) : Int := ((lead y).natAbs : Nat)
def sgY (y : List Int) : Int := if 0 < lead y then 1 else -1
theorem pdv_eq (y : List Int) (e : DvS) (k : Nat) : pdv y e k = ⟨addAt (-(sgY y * e.r.getD (k + y.length - 1) 0)) y (e.r.map (· * szY y)) k, (e.q.map (· * szY y)).set k ((e.q.map (· * szY y)).getD k 0 + sgY y * e.r.getD (k + y.length - 1) 0), e.s * szY y⟩ := rfl
structure DvB (B : Nat) (e : DvS) : Prop where
  r : ∀ a ∈ e.r, Bd B a
  q : ∀ a ∈ e.q, Bd B a
  s : Bd B e.s
theorem bd_getD {B : Nat} {l : List Int} (h : ∀ a ∈ l, Bd B a) (i : Nat) : Bd B (l.getD i 0) := by
  by_cases z : i < l.length
  · exact h _ (getD_mem z)
  · rw [getD_out (by omega)]; exact Bd.zero B
theorem bd_map {B c : Nat} {l : List Int} (h : ∀ a ∈ l, Bd B a) {z : Int} (hz : Bd c z) : ∀ a ∈ l.map (· * z), Bd (B + c) a := fun a ha => by
  obtain ⟨b, hb, rfl⟩ := List.mem_map.mp ha
  exact (h b hb).mul hz
theorem bd_sg (y : List Int) {B : Nat} {a : Int} (h : Bd B a) : Bd B (sgY y * a) := by
  unfold sgY
  split
  · rw [Int.one_mul]; exact h
  · rw [Int.neg_mul, Int.one_mul]; exact h.neg
theorem bd_sz {y : List Int} {b : Nat} (hy : y ≠ []) (h : ∀ a ∈ y, Bd b a) : Bd b (szY y) := by
  have := bd_getD h (y.length - 1)
  rw [lead_getD] at this
  unfold szY Bd at *
  omega
theorem addAt_mem {c : Int} {y : List Int} {r : List Int} {k : Nat} {a : Int} (h : a ∈ addAt c y r k) : ∃ i j, a = r.getD i 0 + c * y.getD j 0 ∨ a = r.getD i 0 := by
  obtain ⟨i, hi⟩ := List.getElem?_of_mem h
  have hl := (List.getElem?_eq_some_iff.mp hi).1
  rw [addAt_len] at hl
  have g := addAt_get c y r k i hl
  rw [List.getD_eq_getElem?_getD, hi] at g
  have g : a = r.getD i 0 + (if k ≤ i then c * y.getD (i - k) 0 else 0) := g
  refine ⟨i, i - k, ?_⟩
  split at g
  · exact .inl g
  · exact .inr (by omega)
theorem pdv_b {y : List Int} {e : DvS} {k B b : Nat} (hy : y ≠ []) (hb : ∀ a ∈ y, Bd b a) (I : DvB B e) : DvB (B + b + 1) (pdv y e k) := by
  rw [pdv_eq]
  have t := bd_sg y (bd_getD I.r (k + y.length - 1))
  refine ⟨fun a ha => ?_, fun a ha => ?_, ((I.s.mul (bd_sz hy hb)).mono (by omega))⟩
  · obtain ⟨i, j, h⟩ := addAt_mem ha
    have h1 := bd_getD (bd_map I.r (bd_sz hy hb)) i
    have h2 := t.neg.mul (bd_getD hb j)
    rcases h with rfl | rfl
    · exact h1.add h2
    · exact h1.mono (by omega)
  · rcases List.mem_or_eq_of_mem_set ha with h | rfl
    · exact (bd_map I.q (bd_sz hy hb) a h).mono (by omega)
    · exact ((bd_getD (bd_map I.q (bd_sz hy hb)) k).add (t.mono (by omega)))
def pdS (y : List Int) (e : DvS) : Tau := [none, some (false, iT y), some (true, iL e.r), none, some (true, iL e.q), some (false, .int (szY y)), some (false, .int (sgY y)), some (false, .int e.s), none, none, none, none]
theorem pd_inner {g : G} (sg top : Int) (ys row : List Int) (k : Nat) (Q : D) (a5 a7 : Option (Bool × D)) (h : k + ys.length ≤ row.length) (hm0 : mulOk sg top = true) (hm : ∀ b ∈ ys, mulOk (sg * top) b = true) :
    forL [] [0, 3, 10, 11] (.tup [11, 10]) (evSs g [] b_pseudo_division_1) (enumL 0 (ys.map .int)) [none, some (false, iT ys), some (true, iL row), none, some (true, Q), a5, some (false, .int sg), a7, some (false, .int (k : Nat)), some (false, .int top), none, none] =
      .nx [none, some (false, iT ys), some (true, iL (addAt (-(sg * top)) ys row k)), none, some (true, Q), a5, some (false, .int sg), a7, some (false, .int (k : Nat)), some (false, .int top), none, none] := by
  have := forL_ix (io := []) (dead := [0, 3, 10, 11]) (t := .tup [11, 10]) (body := evSs g [] b_pseudo_division_1) (enumL 0 (ys.map .int)) (fun j => [none, some (false, iT ys), some (true, iL (addAt (-(sg * top)) (ys.take j) row k)), none, some (true, Q), a5, some (false, .int sg), a7, some (false, .int (k : Nat)), some (false, .int top), none, none]) 0 fun j d hd => by
    obtain ⟨hj, rfl⟩ := enum_get hd
    rw [Nat.zero_add]
    have q := adT (c := -(sg * top)) h hj
    have hm := hm (ys.getD j 0) (getD_mem hj)
    obtain ⟨f1, f2, f3⟩ := q
    generalize addAt (-(sg * top)) (ys.take j) row k = R at *
    generalize addAt (-(sg * top)) (ys.take (j + 1)) row k = R' at *
    generalize ys.getD j 0 = b at *
    generalize R.getD (k + j) 0 = u at *
    rw [show u + -(sg * top) * b = u - sg * top * b by rw [Int.neg_mul]; omega] at f3
    exact Turn.of rfl (by simp only [b_pseudo_division_1]; repeat (rw [evSs_c]; simp [evIo, evSs_n, asg, asgs, frz1, own?, ixN_nat, outs, ofI, divS, gN_cf, gN_io, gN_gl, gN_gd, gN_xr, gN_fr, wipeT_nil, wipeT_cons, f1, f2, f3, hm0, hm]))
  rw [enum_len, Nat.zero_add, List.take_length, List.take_zero, addAt_nil] at this
  exact this
theorem pd_comp2 {g : G} (R : List Int) (z : Int) (hz : R.length ≤ 100000) (hm : ∀ a ∈ R, mulOk a z = true) (a0 a1 a3 a4 a6 a7 a8 a9 a10 a11 : Option (Bool × D)) :
    evE g (.comp (.bin .Mult (.v 10) (.v 5)) (.n 10) (.it (.v 2)) .no [10]) [a0, a1, some (true, iL R), a3, a4, some (false, .int z), a6, a7, a8, a9, a10, a11] = .ok (iL (R.map (· * z)), []) := by
  have := comp_map (g := g) (τ := [a0, a1, some (true, iL R), a3, a4, some (false, .int z), a6, a7, a8, a9, a10, a11]) (elt := .bin .Mult (.v 10) (.v 5)) (it := .it (.v 2)) (i := 10) (own := [10]) (L := [2]) R PyData.int (fun a => .int (a * z)) (by simp) rfl (szs hz) (fun a ha => by
    have := hm a ha
    simp [evIo, evSs_n, asg, asgs, frz1, own?, ixN_nat, outs, ofI, divS, gN_cf, gN_io, gN_gl, gN_gd, gN_xr, gN_fr, wipeT_nil, wipeT_cons, this])
  rw [this]; unfold iL; rw [List.map_map]; rfl
theorem pd_comp4 {g : G} (R : List Int) (z : Int) (hz : R.length ≤ 100000) (hm : ∀ a ∈ R, mulOk a z = true) (a0 a1 a2 a3 a6 a7 a8 a9 a10 a11 : Option (Bool × D)) :
    evE g (.comp (.bin .Mult (.v 10) (.v 5)) (.n 10) (.it (.v 4)) .no [10]) [a0, a1, a2, a3, some (true, iL R), some (false, .int z), a6, a7, a8, a9, a10, a11] = .ok (iL (R.map (· * z)), []) := by
  have := comp_map (g := g) (τ := [a0, a1, a2, a3, some (true, iL R), some (false, .int z), a6, a7, a8, a9, a10, a11]) (elt := .bin .Mult (.v 10) (.v 5)) (it := .it (.v 4)) (i := 10) (own := [10]) (L := [4]) R PyData.int (fun a => .int (a * z)) (by simp) rfl (szs hz) (fun a ha => by
    have := hm a ha
    simp [evIo, evSs_n, asg, asgs, frz1, own?, ixN_nat, outs, ofI, divS, gN_cf, gN_io, gN_gl, gN_gd, gN_xr, gN_fr, wipeT_nil, wipeT_cons, this])
  rw [this]; unfold iL; rw [List.map_map]; rfl
theorem pd_turn {g : G} {y : List Int} {e : DvS} {k B b : Nat} (hy : y ≠ []) (hb : ∀ a ∈ y, Bd b a) (I : DvB B e) (h : k + y.length ≤ e.r.length) (hk : k < e.q.length) (hr : e.r.length ≤ 100000) (hq : e.q.length ≤ 100000) (hB : B + b ≤ 134217728) :
    Turn [] [0, 3, 8, 9, 10, 11] (.n 8) (evSs g [] b_pseudo_division_0) (.int (k : Nat)) (pdS y e) (pdS y (pdv y e k)) := by
  have hy0 : 0 < y.length := List.length_pos_iff.mpr hy
  have hsz := bd_sz hy hb
  have htop := bd_getD I.r (k + y.length - 1)
  have f1 : atI (e.r.map PyData.int) ((k : Int) + (y.length : Int) - 1) = some (.int (e.r.getD (k + y.length - 1) 0)) := by
    rw [show (k : Int) + (y.length : Int) - 1 = ((k + y.length - 1 : Nat) : Int) by omega, at_i (by omega)]
  have c1 := pd_comp2 (g := g) e.r (szY y) hr fun a ha => mulB (I.r a ha) hsz (by omega)
  have c2 := pd_comp4 (g := g) e.q (szY y) hq fun a ha => mulB (I.q a ha) hsz (by omega)
  have m1 : mulOk e.s (szY y) = true := mulB I.s hsz (by omega)
  have ql : (e.q.map (· * szY y)).length = e.q.length := List.length_map ..
  have f2 : atI ((e.q.map (· * szY y)).map PyData.int) (k : Int) = some (.int ((e.q.map (· * szY y)).getD k 0)) := at_i (by omega)
  have f3 : ixN (e.q.map (· * szY y)).length (k : Int) = some k := ixN_nat (by omega)
  have hsg : -(2 ^ 64) < sgY y ∧ sgY y < 2 ^ 64 := by unfold sgY; split <;> decide
  have m2 : mulOk (sgY y) (e.r.getD (k + y.length - 1) 0) = true := mulL hsg
  have inn := fun Q a5 a7 => pd_inner (g := g) (sgY y) (e.r.getD (k + y.length - 1) 0) y (e.r.map (· * szY y)) k Q a5 a7 (by rw [List.length_map]; exact h) m2 fun b hb' => mulB (bd_sg y htop) (hb b hb') (by omega)
  have f4 : ((e.q.map (· * szY y)).map PyData.int).set k (.int ((e.q.map (· * szY y)).getD k 0 + sgY y * e.r.getD (k + y.length - 1) 0)) = ((e.q.map (· * szY y)).set k ((e.q.map (· * szY y)).getD k 0 + sgY y * e.r.getD (k + y.length - 1) 0)).map PyData.int := by rw [List.map_set]
  rw [pdv_eq]
  unfold pdS
  dsimp only
  generalize addAt (-(sgY y * e.r.getD (k + y.length - 1) 0)) y (e.r.map (· * szY y)) k = R' at *
  generalize (e.q.map (· * szY y)).set k ((e.q.map (· * szY y)).getD k 0 + sgY y * e.r.getD (k + y.length - 1) 0) = Q' at *
  generalize (e.q.map (· * szY y)).getD k 0 = qk at *
  generalize e.r.getD (k + y.length - 1) 0 = top at *
  generalize e.q.map (· * szY y) = Q1 at *
  generalize e.r.map (· * szY y) = R1 at *
  generalize szY y = sz at *
  generalize sgY y = sg at *
  exact Turn.of rfl (by simp only [b_pseudo_division_0]; repeat (rw [evSs_c]; simp [evIo, evSs_n, asg, asgs, frz1, own?, ixN_nat, outs, ofI, divS, gN_cf, gN_io, gN_gl, gN_gd, gN_xr, gN_fr, wipeT_nil, wipeT_cons, f1, c1, c2, m1, f2, f3, m2, inn, f4, -ev_evE_comp]))
theorem pd_loop {g : G} {x y : List Int} {n b : Nat} (hy : y ≠ []) (hl : lead y ≠ 0) (hb : ∀ a ∈ y, Bd b a) (hn : n + y.length - 1 ≤ x.length) (hx : x.length ≤ 90000) (hn2 : n ≤ 90000) : ∀ (k : Nat) (e : DvS) (B : Nat), k ≤ n → DvI x y n k e → DvB B e → B + (k + 1) * (b + 1) ≤ 134217728 →
    forL [] [0, 3, 8, 9, 10, 11] (.n 8) (evSs g [] b_pseudo_division_0) (rngL 0 k).reverse (pdS y e) = .nx (pdS y (pdvs y e k)) ∧ DvB (B + k * (b + 1)) (pdvs y e k)
  | 0, e, B, _, _, I, _ => ⟨rfl, by rw [Nat.zero_mul, Nat.add_zero]; exact I⟩
  | k + 1, e, B, h, J, I, hB => by
    have hy0 : 0 < y.length := List.length_pos_iff.mpr hy
    have e1 : (k + 1 + 1) * (b + 1) = (k + 1) * (b + 1) + (b + 1) := by rw [Nat.add_mul (k + 1)]; simp
    have e2 : (k + 1) * (b + 1) = k * (b + 1) + (b + 1) := by rw [Nat.add_mul k]; simp
    obtain ⟨τ1, a1, τ2, a2, a3⟩ := pd_turn (g := g) (k := k) hy hb I (by rw [J.rl]; omega) (by rw [J.ql]; omega) (by rw [J.rl]; omega) (by rw [J.ql]; omega) (by omega)
    have J' := pdv_ok hy hl hn (by omega) J
    have I' := pdv_b (k := k) hy hb I
    have ih := pd_loop (g := g) hy hl hb hn hx hn2 k _ _ (by omega) J' I' (by omega)
    refine ⟨?_, ?_⟩
    · rw [rng_rev]
      unfold forL
      rw [a1]
      rcases a2 with a2 | a2 <;> simp only [a2, a3] <;> exact ih.1
    · have := ih.2
      rw [pdvs, e2]
      rw [show B + b + 1 + k * (b + 1) = B + (k * (b + 1) + (b + 1)) by omega] at this
      exact this
/-- the division with scale -/
theorem pdv_cl {p : Pr} (Hp : HPoly p) {x y : List Int} {bx b : Nat} (hy : y ≠ []) (hl : lead y ≠ 0) (hbx : ∀ a ∈ x, Bd bx a) (hb : ∀ a ∈ y, Bd b a) (hx : x.length + y.length ≤ 80000) (hB : bx + 1 + (x.length + 2 - y.length) * (b + 1) ≤ 134217728) :
    Cl p 2 121 [iT x, iT y] (.tuple [.int (pdiv x y).s, iT (trm (pdiv x y).q), iT (trm (pdiv x y).r)], []) ∧ DvB (bx + 1 + (x.length + 1 - y.length) * (b + 1)) (pdiv x y) := by
  have hy0 : 0 < y.length := List.length_pos_iff.mpr hy
  have J0 : DvI x y (x.length + 1 - y.length) (x.length + 1 - y.length) ⟨x, List.replicate (x.length + 1 - y.length) 0, 1⟩ :=
    ⟨rfl, by simp, fun t => by simp [pev_zeros], fun i hi => getD_out (by dsimp only; omega), fun i hi => by simp [List.getD_eq_getElem?_getD, List.getElem?_replicate, hi], by simp⟩
  have I0 : DvB (bx + 1) ⟨x, List.replicate (x.length + 1 - y.length) 0, 1⟩ := by
    refine ⟨fun a ha => (hbx a ha).mono (by omega), fun a ha => ?_, ?_⟩
    · rw [(List.mem_replicate.mp ha).2]; exact Bd.zero _
    · unfold Bd
      have := Nat.two_pow_pos bx
      rw [Nat.pow_succ]; simp; omega
  have Jf := pdiv_ok x y hy hl
  have lp : ∀ g : G, forL [] [0, 3, 8, 9, 10, 11] (.n 8) (evSs g [] b_pseudo_division_0) (rngL 0 (x.length + 1 - y.length)).reverse (pdS y ⟨x, List.replicate (x.length + 1 - y.length) 0, 1⟩) = .nx (pdS y (pdiv x y)) ∧ DvB (bx + 1 + (x.length + 1 - y.length) * (b + 1)) (pdiv x y) := fun g => by
    by_cases h0 : x.length + 1 - y.length = 0
    · unfold pdiv
      rw [h0] at I0 ⊢
      exact ⟨rfl, by rw [Nat.zero_mul, Nat.add_zero]; exact I0⟩
    · exact pd_loop (g := g) hy hl hb (by omega) (by omega) (by omega) _ _ _ (Nat.le_refl _) J0 I0 (by
        rw [show x.length + 2 - y.length = x.length + 1 - y.length + 1 by omega] at hB
        exact hB)
  refine ⟨Cl.mk Hp.pdv fun m hm => ?_, (lp (gN p 0)).2⟩
  have lp := (lp (gN p m)).1
  have ct1 := (trim_cl Hp (pdiv x y).q (by rw [Jf.ql]; omega)).at hm
  have ct2 := (trim_cl Hp (pdiv x y).r (by rw [Jf.rl]; omega)).at hm
  have e1 : biD .max [.int ((x.length : Int) - (y.length : Int) + 1), .int 0] = some (.int ((x.length + 1 - y.length : Nat) : Int)) := by
    rw [bi_max0]; congr 2; omega
  have e2 := rep0 (n := x.length + 1 - y.length) (by omega) ((x.length + 1 - y.length : Nat) : Int) (by omega) (by omega)
  have e3 := rng1 (n := x.length + 1 - y.length) (by omega)
  have i2 := io_of Hp.trim
  simp only [F_trimmed] at i2
  have f2 := at_last hy
  have f3 : (if lead y < 0 then -lead y else lead y) = szY y := by unfold szY; split <;> omega
  have f4 : (if decide (0 < lead y) = true then (1 : Int) else -1) = sgY y := by unfold sgY; simp
  unfold pdS at lp
  dsimp only at lp
  generalize List.replicate (x.length + 1 - y.length) (0 : Int) = Z at *
  generalize x.length + 1 - y.length = n at *
  generalize trm (pdiv x y).q = q' at *
  generalize trm (pdiv x y).r = r' at *
  generalize pdiv x y = E at *
  generalize szY y = sz at *
  generalize sgY y = sg at *
  by_cases hp : 0 < lead y
  · have hn : ¬ lead y < 0 := by omega
    rw [if_neg hn] at f3
    rw [decide_eq_true hp, if_pos rfl] at f4
    subst f3 f4
    rw [runF_eq _ _ _ rfl]; simp only [F_pseudo_division, b_pseudo_division, ioM_f, ioM_t, startT, mark, List.replicate, List.cons_append, List.nil_append, List.contains_cons, List.contains_nil, icL, icT, icI, icS, icB, icN, icD, Nat.reduceBEq, Nat.reduceSub, Nat.reduceAdd, Bool.true_and, Bool.false_and, Bool.or_false, beq_self_eq_true]
    repeat (rw [evSs_c]; simp [evIo, evSs_n, asg, asgs, frz1, own?, ixN_nat, outs, ofI, divS, gN_cf, gN_io, gN_gl, gN_gd, gN_xr, gN_fr, wipeT_nil, wipeT_cons, e1, e2, e3, f2, lp, ct1, ct2, i2, hp, hn, -bMulL])
  · have hn : lead y < 0 := by omega
    rw [if_pos hn] at f3
    rw [decide_eq_false hp, if_neg (by decide)] at f4
    subst f3 f4
    rw [runF_eq _ _ _ rfl]; simp only [F_pseudo_division, b_pseudo_division, ioM_f, ioM_t, startT, mark, List.replicate, List.cons_append, List.nil_append, List.contains_cons, List.contains_nil, icL, icT, icI, icS, icB, icN, icD, Nat.reduceBEq, Nat.reduceSub, Nat.reduceAdd, Bool.true_and, Bool.false_and, Bool.or_false, beq_self_eq_true]
    repeat (rw [evSs_c]; simp [evIo, evSs_n, asg, asgs, frz1, own?, ixN_nat, outs, ofI, divS, gN_cf, gN_io, gN_gl, gN_gd, gN_xr, gN_fr, wipeT_nil, wipeT_cons, e1, e2, e3, f2, lp, ct1, ct2, i2, hp, hn, -bMulL])
end Mp

/-! contents, primitive parts -/
namespace Mp
open PySem PySem.Spec PyProof.Rows L2
theorem gcd_bd {B : Nat} {g : Nat} {a : Int} (hg : Bd B (g : Int)) (ha : Bd B a) : Bd B ((Int.gcd (g : Int) a : Nat) : Int) := by
  unfold Bd at *
  by_cases z : a = 0
  · subst z; simpa using hg
  · have := Nat.le_of_dvd (show 0 < a.natAbs by omega) (Int.natAbs_dvd_natAbs.mpr (Int.gcd_dvd_right (g : Int) a))
    simp only [Int.natAbs_natCast] at this ⊢
    omega
theorem dva_cl {p : Pr} (H : HPoly p) {B : Nat} (hB : B ≤ 134217720) (xs : List Int) (hb : ∀ a ∈ xs, Bd B a) : Cl p 3 109 [iT xs] (.int (cont xs : Nat), []) := by
  refine Cl.mk H.dva fun m hm => ?_
  have i1 := io_of H.dvo
  simp only [F_divisor_of] at i1
  have hl := (forL_fold (io := []) (dead := [0, 2]) (t := .n 2) (body := evSs (gN p m) [] b_divisor_of_all_0) (fun g : Nat => [none, some (false, .int (g : Int)), none]) PyData.int (fun g a => Int.gcd (g : Int) a) (fun g => Bd B (g : Int)) xs 0 (Bd.zero B) (fun g a ha hg => ⟨by
    have hc := (dvo_cl H.ss H.dvo H.wn hB hg (hb a ha)).at hm
    generalize Int.gcd (g : Int) a = d at *
    exact Turn.of rfl (by simp only [b_divisor_of_all_0]; repeat (rw [evSs_c]; simp [evIo, evSs_n, asg, asgs, frz1, own?, ixN_nat, outs, ofI, divS, gN_cf, gN_io, gN_gl, gN_gd, gN_xr, gN_fr, wipeT_nil, wipeT_cons, hc, i1])), gcd_bd hg (hb a ha)⟩)).1
  unfold cont
  generalize xs.foldl (fun (g : Nat) a => Int.gcd (g : Int) a) 0 = r at *
  simp only [Int.ofNat_eq_natCast, Int.natCast_zero] at hl
  rw [runF_eq _ _ _ rfl]; simp only [F_divisor_of_all, b_divisor_of_all, ioM_f, ioM_t, startT, mark, List.replicate, List.cons_append, List.nil_append, List.contains_cons, List.contains_nil, icL, icT, icI, icS, icB, icN, icD, Nat.reduceBEq, Nat.reduceSub, Nat.reduceAdd, Bool.true_and, Bool.false_and, Bool.or_false, beq_self_eq_true]
  repeat (rw [evSs_c]; simp [evIo, evSs_n, asg, asgs, frz1, own?, ixN_nat, outs, ofI, divS, gN_cf, gN_io, gN_gl, gN_gd, gN_xr, gN_fr, wipeT_nil, wipeT_cons, hl])
theorem cont_cl {p : Pr} (H : HPoly p) {B : Nat} (hB : B ≤ 134217720) (xs : List Int) (hb : ∀ a ∈ xs, Bd B a) : Cl p 4 118 [iT xs] (.int (cont xs : Nat), []) := by
  refine Cl.mk H.cont fun m hm => ?_
  have hc := (dva_cl H hB xs hb).at hm
  have i1 := io_of H.dva
  simp only [F_divisor_of_all] at i1
  generalize cont xs = r at *
  rw [runF_eq _ _ _ rfl]; simp only [F_content, b_content, ioM_f, ioM_t, startT, mark, List.replicate, List.cons_append, List.nil_append, List.contains_cons, List.contains_nil, icL, icT, icI, icS, icB, icN, icD, Nat.reduceBEq, Nat.reduceSub, Nat.reduceAdd, Bool.true_and, Bool.false_and, Bool.or_false, beq_self_eq_true]
  repeat (rw [evSs_c]; simp [evIo, evSs_n, asg, asgs, frz1, own?, ixN_nat, outs, ofI, divS, gN_cf, gN_io, gN_gl, gN_gd, gN_xr, gN_fr, wipeT_nil, wipeT_cons, hc, i1])
theorem cont_bd {B : Nat} {xs : List Int} (hb : ∀ a ∈ xs, Bd B a) : Bd B ((cont xs : Nat) : Int) := by
  have : ∀ (l : List Int) (g : Nat), (∀ a ∈ l, Bd B a) → Bd B (g : Int) → Bd B ((l.foldl (fun (g : Nat) a => Int.gcd (g : Int) a) g : Nat) : Int) := by
    intro l
    induction l with
    | nil => intro g _ hg; exact hg
    | cons a l ih => intro g h hg; exact ih _ (fun b hb => h b (List.mem_cons_of_mem _ hb)) (gcd_bd hg (h a (by simp)))
  exact this xs 0 hb (Bd.zero B)
/-- divided by a number that divides all: the comprehension -/
theorem dv_list {xs : List Int} {c : Int} (hc : c ≠ 0) : (xs.map (· * c)).map (fun a => fq a c) = xs := by
  rw [List.map_map]
  have : ∀ a ∈ xs, ((fun a => fq a c) ∘ (· * c)) a = a := fun a _ => fq_mul hc
  rw [List.map_congr_left this]; simp
theorem comp_dv {g : G} (xs : List Int) (c : Int) (hc : c ≠ 0) (hz : xs.length ≤ 100000) (a2 : Option (Bool × D)) : evE g (.comp (.bin .FloorDiv (.v 2) (.v 1)) (.n 2) (.it (.v 0)) .no [2]) [some (false, iT (xs.map (· * c))), some (false, .int c), a2] = .ok (iL xs, []) := by
  have := comp_map (g := g) (τ := [some (false, iT (xs.map (· * c))), some (false, .int c), a2]) (elt := .bin .FloorDiv (.v 2) (.v 1)) (it := .it (.v 0)) (i := 2) (own := [2]) (L := []) (xs.map (· * c)) PyData.int (fun a => .int (fq a c)) (by simp) rfl (szs (by simpa using hz)) (fun a ha => by
    have := fq_bin (i := a) hc
    simp [evIo, evSs_n, asg, asgs, frz1, own?, ixN_nat, outs, ofI, divS, gN_cf, gN_io, gN_gl, gN_gd, gN_xr, gN_fr, wipeT_nil, wipeT_cons, this, -bDiv])
  rw [this]
  unfold iL
  conv => rhs; rw [← dv_list (xs := xs) hc]
  rw [List.map_map, List.map_map, List.map_map]; rfl
theorem dby_cl {p : Pr} (H : HPoly p) (xs : List Int) (c : Int) (hc : c ≠ 0) (hz : xs.length ≤ 100000) : Cl p 1 122 [iT (xs.map (· * c)), .int c] (iT xs, []) := by
  refine Cl.mk H.dby fun m hm => ?_
  have hcomp := comp_dv (g := gN p m) xs c hc hz none
  generalize xs.map (· * c) = ys at *
  rw [runF_eq _ _ _ rfl]; simp only [F_divided_by, b_divided_by, ioM_f, ioM_t, startT, mark, List.replicate, List.cons_append, List.nil_append, List.contains_cons, List.contains_nil, icL, icT, icI, icS, icB, icN, icD, Nat.reduceBEq, Nat.reduceSub, Nat.reduceAdd, Bool.true_and, Bool.false_and, Bool.or_false, beq_self_eq_true]
  repeat (rw [evSs_c]; simp [evIo, evSs_n, asg, asgs, frz1, own?, ixN_nat, outs, ofI, divS, gN_cf, gN_io, gN_gl, gN_gd, gN_xr, gN_fr, wipeT_nil, wipeT_cons, hcomp, -ev_evE_comp])
theorem prim0_cl {p : Pr} (H : HPoly p) : Cl p 1 119 [iT []] (iT [], []) := by
  refine Cl.mk H.prim fun m hm => ?_
  rw [runF_eq _ _ _ rfl]; simp only [F_primitive, b_primitive, ioM_f, ioM_t, startT, mark, List.replicate, List.cons_append, List.nil_append, List.contains_cons, List.contains_nil, icL, icT, icI, icS, icB, icN, icD, Nat.reduceBEq, Nat.reduceSub, Nat.reduceAdd, Bool.true_and, Bool.false_and, Bool.or_false, beq_self_eq_true]
  repeat (rw [evSs_c]; simp [evIo, evSs_n, asg, asgs, frz1, own?, ixN_nat, outs, ofI, divS, gN_cf, gN_io, gN_gl, gN_gd, gN_xr, gN_fr, wipeT_nil, wipeT_cons])
theorem prim_cl {p : Pr} (H : HPoly p) {B : Nat} (hB : B ≤ 134217720) {g : List Int} {c : Int} (hg : Nrm g) (hc : c ≠ 0) (hb : ∀ a ∈ g.map (· * c), Bd B a) (hz : g.length ≤ 100000) : Cl p 5 119 [iT (g.map (· * c))] (iT g, []) := by
  refine Cl.mk H.prim fun m hm => ?_
  have hcn := (cont_cl H hB (g.map (· * c)) hb).at hm
  rw [cont_scale hg.2.2 hc] at hcn
  have i1 := io_of H.cont
  simp only [F_content] at i1
  have hlast := at_last (xs := g.map (· * c)) (by simpa using hg.1)
  rw [lead_scale] at hlast
  have hcomp := comp_dv (g := gN p m) g c hc hz none
  have hl : (g.map (· * c)).length = g.length := List.length_map ..
  have h0 : ¬ g.length = 0 := by have := List.length_pos_iff.mpr hg.1; omega
  have h0' : ¬ g = [] := hg.1
  have hp := hg.2.1
  generalize g.map (· * c) = ys at *
  generalize lead g = l at *
  by_cases h : c < 0
  · have e1 : ((c.natAbs : Nat) : Int) = -c := by omega
    have e2 : l * c < 0 := Int.mul_neg_of_pos_of_neg hp h
    rw [e1] at hcn
    rw [runF_eq _ _ _ rfl]; simp only [F_primitive, b_primitive, ioM_f, ioM_t, startT, mark, List.replicate, List.cons_append, List.nil_append, List.contains_cons, List.contains_nil, icL, icT, icI, icS, icB, icN, icD, Nat.reduceBEq, Nat.reduceSub, Nat.reduceAdd, Bool.true_and, Bool.false_and, Bool.or_false, beq_self_eq_true]
    repeat (rw [evSs_c]; simp [evIo, evSs_n, asg, asgs, frz1, own?, ixN_nat, outs, ofI, divS, gN_cf, gN_io, gN_gl, gN_gd, gN_xr, gN_fr, wipeT_nil, wipeT_cons, hcn, i1, hlast, hcomp, hl, h0, h0', e2, -ev_evE_comp])
  · have e1 : ((c.natAbs : Nat) : Int) = c := by omega
    have e2 : ¬ l * c < 0 := by have := Int.mul_pos hp (show 0 < c by omega); omega
    rw [e1] at hcn
    rw [runF_eq _ _ _ rfl]; simp only [F_primitive, b_primitive, ioM_f, ioM_t, startT, mark, List.replicate, List.cons_append, List.nil_append, List.contains_cons, List.contains_nil, icL, icT, icI, icS, icB, icN, icD, Nat.reduceBEq, Nat.reduceSub, Nat.reduceAdd, Bool.true_and, Bool.false_and, Bool.or_false, beq_self_eq_true]
    repeat (rw [evSs_c]; simp [evIo, evSs_n, asg, asgs, frz1, own?, ixN_nat, outs, ofI, divS, gN_cf, gN_io, gN_gl, gN_gd, gN_xr, gN_fr, wipeT_nil, wipeT_cons, hcn, i1, hlast, hcomp, hl, h0, h0', e2, -ev_evE_comp])
/-- each list is a number times one of content 1 -/
theorem nrm_ex {x : List Int} (hx : IsP x) (hn : x ≠ []) : ∃ (g : List Int) (c : Int), c ≠ 0 ∧ Nrm g ∧ x = g.map (· * c) := by
  have hl := (isP_lead hn).mp hx
  have hc : cont x ≠ 0 := fun z => by
    have h0 : (0 : Int) ∣ lead x := by
      have := cont_dvd.mp (Int.dvd_refl ((cont x : Nat) : Int)) (lead x) (List.mem_of_getLast? (lead_q hn))
      rw [z] at this; exact this
    exact hl (Int.zero_dvd.mp h0)
  have base : ∃ g : List Int, x = g.map (· * ((cont x : Nat) : Int)) := dvd_all_iff.mp (cont_dvd.mp (Int.dvd_refl _))
  obtain ⟨g, hg⟩ := base
  have hprim : Prim g := fun d hd => by
    have h1 : ((cont x : Nat) : Int) * d ∣ ((cont x : Nat) : Int) := cont_dvd.mpr fun a ha => by
      rw [hg] at ha
      obtain ⟨b, hb, rfl⟩ := List.mem_map.mp ha
      rw [Int.mul_comm b]
      exact Int.mul_dvd_mul (Int.dvd_refl _) (hd b hb)
    have h2 : ((cont x : Nat) : Int) * d ∣ ((cont x : Nat) : Int) * 1 := by rw [Int.mul_one]; exact h1
    exact (Int.mul_dvd_mul_iff_left (by omega)).mp h2
  have gn : g ≠ [] := hprim.ne
  have hlg : lead x = lead g * ((cont x : Nat) : Int) := by conv => lhs; rw [hg]
                                                            exact lead_scale
  by_cases h : 0 < lead g
  · exact ⟨g, _, by omega, ⟨gn, h, hprim⟩, hg⟩
  · have h2 : lead g ≠ 0 := fun z => hl (by rw [hlg, z]; simp)
    refine ⟨g.map (· * (-1)), -((cont x : Nat) : Int), by omega, ⟨by simpa using gn, by rw [lead_scale]; omega, fun d hd => hprim d fun a ha => ?_⟩, ?_⟩
    · have := hd (a * (-1)) (List.mem_map.mpr ⟨a, ha, rfl⟩)
      rw [Int.mul_neg, Int.mul_one] at this
      exact (Int.dvd_neg).mp this
    · rw [List.map_map]
      conv => lhs; rw [hg]
      apply List.map_congr_left
      intro a _
      simp
      rw [Int.neg_mul_neg]
end Mp

/-! Euclid's rows of polynomials -/
namespace Mp
open PySem PySem.Spec PyProof.Rows L2
def pm (q n : List Int) : List Int := if q = [] ∨ n = [] then [] else pmul q n
theorem pev_pm (q n : List Int) (t : Int) : pev (pm q n) t = pev q t * pev n t := by
  unfold pm
  split
  · rename_i h
    rcases h with rfl | rfl <;> simp [pev]
  · exact pev_pmul q n t
theorem isP_pm {q n : List Int} (hq : IsP q) (hn : IsP n) : IsP (pm q n) := by
  unfold pm
  split
  · exact isP_nil
  · rename_i h
    exact isP_pmul hq hn fun z => h (.inr z)
theorem pm_len {q n : List Int} : (pm q n).length ≤ q.length + n.length := by
  unfold pm
  split
  · simp
  · rename_i h
    simp only [not_or] at h
    rw [pmul_len q n h.1 h.2]; omega
theorem padd_mem {p q : List Int} {B : Nat} (hp : ∀ a ∈ p, Bd B a) (hq : ∀ a ∈ q, Bd B a) : ∀ a ∈ padd p q, Bd (B + 1) a := fun a ha => by
  obtain ⟨i, hi⟩ := List.getElem?_of_mem ha
  have g := padd_get p q i
  rw [List.getD_eq_getElem?_getD, hi] at g
  rw [show a = p.getD i 0 + q.getD i 0 from g]
  exact (bd_getD hp i).add (bd_getD hq i)
theorem pmul_bd : ∀ {p q : List Int} {B C : Nat}, (∀ a ∈ p, Bd B a) → (∀ a ∈ q, Bd C a) → ∀ a ∈ pmul p q, Bd (B + C + p.length) a
  | [], q, B, C, _, _, a, h => by simp [pmul] at h
  | [a], q, B, C, hp, hq, z, h => by
    rw [pmul] at h
    have := bd_map hq (hp a (by simp)) z h
    exact this.mono (by simp; omega)
  | a :: b :: r, q, B, C, hp, hq, z, h => by
    have ih := pmul_bd (p := b :: r) (fun x hx => hp x (List.mem_cons_of_mem _ hx)) hq
    rw [pmul] at h
    have := padd_mem (B := B + C + (b :: r).length) (fun x hx => (bd_map hq (hp a (by simp)) x hx).mono (by omega)) (fun x hx => by
      rcases List.mem_cons.mp hx with rfl | hx
      · exact Bd.zero _
      · exact ih x hx) z h
    exact this.mono (by simp; omega)
theorem pm_bd {p q : List Int} {B C : Nat} (hp : ∀ a ∈ p, Bd B a) (hq : ∀ a ∈ q, Bd C a) : ∀ a ∈ pm p q, Bd (B + C + p.length) a := fun a ha => by
  unfold pm at ha
  split at ha
  · cases ha
  · exact pmul_bd hp hq a ha
theorem pdiff_bd {p q : List Int} {B : Nat} (hp : ∀ a ∈ p, Bd B a) (hq : ∀ a ∈ q, Bd B a) : ∀ a ∈ pdiff p q, Bd (B + 1) a := fun a ha => by
  obtain ⟨i, hi⟩ := List.getElem?_of_mem ha
  have g := pdiff_get p q i
  rw [List.getD_eq_getElem?_getD, hi] at g
  rw [show a = p.getD i 0 - q.getD i 0 from g]
  exact (bd_getD hp i).sub (bd_getD hq i)
theorem isP_scale {p : List Int} {c : Int} (hp : IsP p) (hc : c ≠ 0) : IsP (p.map (· * c)) := by
  unfold IsP at *
  rw [List.getLast?_map]
  intro z
  cases e : p.getLast? with
  | none => rw [e] at z; cases z
  | some a =>
    rw [e] at z hp
    rcases Int.mul_eq_zero.mp (Option.some.inj z) with w | w
    · exact hp (by rw [w])
    · exact hc w
theorem isP_unscale {p : List Int} {c : Int} (hp : IsP (p.map (· * c))) : IsP p := by
  unfold IsP at *
  rw [List.getLast?_map] at hp
  intro z
  rw [z] at hp
  simp at hp
theorem bd_unscale {p : List Int} {c : Int} {B : Nat} (hc : c ≠ 0) (h : ∀ a ∈ p.map (· * c), Bd B a) : ∀ a ∈ p, Bd B a := fun a ha => by
  refine (h (a * c) (List.mem_map.mpr ⟨a, ha, rfl⟩)).of_le ?_
  rw [Int.natAbs_mul]
  exact Nat.le_mul_of_pos_right _ (by omega)
theorem forL_cons {io dead : List Nat} {t : T} {body : Tau → Out} {d : D} {ds : List D} {τ τ' : Tau} (h : Turn io dead t body d τ τ') : forL io dead t body (d :: ds) τ = forL io dead t body ds τ' := by
  obtain ⟨τ1, a1, τ2, a2, a3⟩ := h
  conv => lhs; unfold forL
  rw [a1]
  rcases a2 with a2 | a2 <;> simp only [a2, a3]
/-- three polynomials -/
structure Rw3 where
  a : List Int
  b : List Int
  c : List Int
abbrev Rw3.D (r : Rw3) : D := .tuple [iT r.a, iT r.b, iT r.c]
/-- a row of Euclid's from the two ahead of it -/
structure NxR (o n m : Rw3) (q : List Int) (c d : Int) : Prop where
  c0 : c ≠ 0
  d0 : d ≠ 0
  p0 : IsP m.a
  p1 : IsP m.b
  p2 : IsP m.c
  i0 : ∀ t, c * pev o.a t = pev q t * pev n.a t + d * pev m.a t
  i1 : ∀ t, c * pev o.b t = pev q t * pev n.b t + d * pev m.b t
  i2 : ∀ t, c * pev o.c t = pev q t * pev n.c t + d * pev m.c t
  len : m.a.length < n.a.length
theorem nrow_cl {p : Pr} (H : HPoly p) {o n : Rw3} {bo bn v : Nat} (hn : n.a ≠ []) (pn : IsP n.a) (pob : IsP o.b) (poc : IsP o.c) (pnb : IsP n.b) (pnc : IsP n.c)
    (ho : ∀ a ∈ o.a, Bd bo a) (hna : ∀ a ∈ n.a, Bd bn a) (hob : ∀ a ∈ o.b, Bd v a) (hoc : ∀ a ∈ o.c, Bd v a) (hnb : ∀ a ∈ n.b, Bd v a) (hnc : ∀ a ∈ n.c, Bd v a)
    (hl : o.a.length + n.a.length ≤ 1000) (hl2 : o.b.length ≤ 1000 ∧ o.c.length ≤ 1000 ∧ n.b.length ≤ 1000 ∧ n.c.length ≤ 1000)
    {Bq : Nat} (hBq : bo + 1 + (o.a.length + 1 - n.a.length) * (bn + 1) ≤ Bq) (hB1 : bo + 1 + (o.a.length + 2 - n.a.length) * (bn + 1) ≤ 134217728) (hB2 : Bq + v + (o.a.length + 1 - n.a.length) + 1 ≤ 134217720) :
    ∃ (m : Rw3) (q : List Int) (c d : Int), NxR o n m q c d ∧ q.length ≤ o.a.length + 1 - n.a.length ∧ (∀ a ∈ m.a, Bd Bq a) ∧ (∀ a ∈ m.b, Bd (Bq + v + (o.a.length + 1 - n.a.length) + 1) a) ∧ (∀ a ∈ m.c, Bd (Bq + v + (o.a.length + 1 - n.a.length) + 1) a) ∧
      m.b.length ≤ max o.b.length (q.length + n.b.length) ∧ m.c.length ≤ max o.c.length (q.length + n.c.length) ∧ Cl p 6 123 [o.D, n.D] (m.D, []) := by
  have hl0 := (isP_lead hn).mp pn
  obtain ⟨cp, DB⟩ := pdv_cl H hn hl0 ho hna (by omega) hB1
  have J := pdiv_ok o.a n.a hn hl0
  have hrl := J.rest_len hn
  have DB : DvB Bq (pdiv o.a n.a) := ⟨fun a h => (DB.r a h).mono hBq, fun a h => (DB.q a h).mono hBq, DB.s.mono hBq⟩
  have hs := J.s
  have id := J.id
  have hq : (trm (pdiv o.a n.a).q).length ≤ o.a.length + 1 - n.a.length := by have := trm_len (pdiv o.a n.a).q; rw [J.ql] at this; exact this
  have qP := isP_trm (pdiv o.a n.a).q
  have rP := isP_trm (pdiv o.a n.a).r
  have qB : ∀ a ∈ trm (pdiv o.a n.a).q, Bd Bq a := fun a h => DB.q a (trm_mem h)
  have rB : ∀ a ∈ trm (pdiv o.a n.a).r, Bd Bq a := fun a h => DB.r a (trm_mem h)
  have sB := DB.s
  have id : ∀ t, (pdiv o.a n.a).s * pev o.a t = pev (trm (pdiv o.a n.a).q) t * pev n.a t + pev (trm (pdiv o.a n.a).r) t := fun t => by rw [pev_trm, pev_trm]; exact id t
  generalize (pdiv o.a n.a).s = c at *
  generalize trm (pdiv o.a n.a).q = q at *
  generalize trm (pdiv o.a n.a).r = r at *
  have hc0 : c ≠ 0 := by omega
  -- the two other columns
  have col : ∀ (u w : List Int), IsP u → IsP w → (∀ a ∈ u, Bd v a) → (∀ a ∈ w, Bd v a) → u.length ≤ 1000 → w.length ≤ 1000 →
      ∃ s : List Int, s = trm (pdiff (u.map (· * c)) (pm q w)) ∧ (∀ t, pev s t = c * pev u t - pev q t * pev w t) ∧ IsP s ∧ (∀ a ∈ s, Bd (Bq + v + (o.a.length + 1 - n.a.length) + 1) a) ∧ s.length ≤ max u.length (q.length + w.length) ∧ Cl p 2 114 [iT u, .int c] (iT (u.map (· * c)), []) ∧ Cl p 2 113 [iT q, iT w] (iT (pm q w), []) ∧ Cl p 2 112 [iT (u.map (· * c)), iT (pm q w)] (iT s, []) := by
    intro u w hu hw bu bw lu lw
    have b1 := bd_map bu sB
    have b2 := pm_bd qB bw
    refine ⟨_, rfl, fun t => by rw [pev_trm, pev_pdiff, pev_scale, pev_pm], isP_trm _, fun a ha => ?_, ?_, ?_, ?_, ?_⟩
    · exact (pdiff_bd (B := Bq + v + (o.a.length + 1 - n.a.length)) (fun a h => (b1 a h).mono (by omega)) (fun a h => (b2 a h).mono (by omega)) a (trm_mem ha))
    · have h1 := trm_len (pdiff (u.map (· * c)) (pm q w))
      rw [pdiff_len, List.length_map] at h1
      have h2 := pm_len (q := q) (n := w)
      omega
    · have := scal_cl H u c (by omega) fun a ha => mulB (bu a ha) sB (by omega)
      rw [trm_isP (isP_scale hu hc0)] at this
      exact this
    · have := prod_cl H (xs := q) (ys := w) (by omega) (fun a ha b hb => mulB (qB a ha) (bw b hb) (by omega)) qP hw
      unfold pm
      split at this
      · rename_i h; rw [if_pos h]; exact this
      · rename_i h; rw [if_neg h]; exact this
    · have h2 := pm_len (q := q) (n := w)
      exact diff_cl H _ _ (by rw [List.length_map]; omega) (by omega)
  obtain ⟨s1, _, e1, P1, B1, L1, k1, k2, k3⟩ := col o.b n.b pob pnb hob hnb hl2.1 hl2.2.2.1
  obtain ⟨s2, _, e2, P2, B2, L2, k4, k5, k6⟩ := col o.c n.c poc pnc hoc hnc hl2.2.1 hl2.2.2.2
  have g1 := cont_cl H (B := Bq + v + (o.a.length + 1 - n.a.length) + 1) hB2 r fun a h => (rB a h).mono (by omega)
  have g2 := cont_cl H hB2 s1 B1
  have g3 := cont_cl H hB2 s2 B2
  have c1 := cont_bd fun a h => (rB a h).mono (show Bq ≤ Bq + v + (o.a.length + 1 - n.a.length) + 1 by omega)
  have c2 := cont_bd B1
  have c3 := cont_bd B2
  have d1 := dvo_cl H.ss H.dvo H.wn hB2 c1 c2
  have d2 := dvo_cl H.ss H.dvo H.wn hB2 (gcd_bd c1 c2) c3
  -- what divides all
  have dv : ∀ l : List Int, l = r ∨ l = s1 ∨ l = s2 → ∃ m : List Int, l = m.map (· * ((Int.gcd ((Int.gcd (cont r : Int) (cont s1 : Int) : Nat) : Int) (cont s2 : Int) : Nat) : Int)) := fun l hl => by
    refine dvd_all_iff.mp (cont_dvd.mp ?_)
    have a1 := Int.gcd_dvd_left ((Int.gcd (cont r : Int) (cont s1 : Int) : Nat) : Int) (cont s2 : Int)
    have a2 := Int.gcd_dvd_right ((Int.gcd (cont r : Int) (cont s1 : Int) : Nat) : Int) (cont s2 : Int)
    have a3 := Int.gcd_dvd_left (cont r : Int) (cont s1 : Int)
    have a4 := Int.gcd_dvd_right (cont r : Int) (cont s1 : Int)
    rcases hl with rfl | rfl | rfl
    · exact Int.dvd_trans a1 a3
    · exact Int.dvd_trans a1 a4
    · exact a2
  generalize hd : Int.gcd ((Int.gcd (cont r : Int) (cont s1 : Int) : Nat) : Int) (cont s2 : Int) = d at *
  generalize Int.gcd (cont r : Int) (cont s1 : Int) = d' at *
  clear col DB J c1 c2 c3
  have j1 := io_of H.pdv
  have j2 := io_of H.scal
  have j3 := io_of H.prod
  have j4 := io_of H.diff
  have j5 := io_of H.cont
  have j6 := io_of H.dvo
  have j7 := io_of H.dby
  simp only [F_pseudo_division] at j1
  simp only [F_scaled_poly] at j2
  simp only [F_product_of_polys] at j3
  simp only [F_difference_of_polys] at j4
  simp only [F_content] at j5
  simp only [F_divisor_of] at j6
  simp only [F_divided_by] at j7
  have loop : ∀ m, 2 ≤ m → forL [] [4, 6, 7, 8, 9] (.n 6) (evSs (gN p m) [] b_next_row_0) [.int 1, .int 2] [some (false, o.D), some (false, n.D), some (false, .int c), some (false, iT q), none, some (true, .list [iT r]), none, none, none, none] =
      .nx [some (false, o.D), some (false, n.D), some (false, .int c), some (false, iT q), none, some (true, .list [iT r, iT s1, iT s2]), none, none, none, none] := fun m hm => by
    have k1 := k1.at hm
    have k2 := k2.at hm
    have k3 := k3.at hm
    have k4 := k4.at hm
    have k5 := k5.at hm
    have k6 := k6.at hm
    have sz1 : 1 < sizeLine := by decide
    have sz2 : 2 < sizeLine := by decide
    generalize o.b.map (· * c) = ob at *
    generalize o.c.map (· * c) = oc at *
    generalize pm q n.b = qb at *
    generalize pm q n.c = qc at *
    have t1 : Turn [] [4, 6, 7, 8, 9] (.n 6) (evSs (gN p m) [] b_next_row_0) (.int 1) [some (false, o.D), some (false, n.D), some (false, .int c), some (false, iT q), none, some (true, .list [iT r]), none, none, none, none] [some (false, o.D), some (false, n.D), some (false, .int c), some (false, iT q), none, some (true, .list [iT r, iT s1]), none, none, none, none] :=
      Turn.of rfl (by simp only [b_next_row_0]; repeat (rw [evSs_c]; simp [evIo, evSs_n, asg, asgs, frz1, own?, ixN_nat, outs, ofI, divS, gN_cf, gN_io, gN_gl, gN_gd, gN_xr, gN_fr, wipeT_nil, wipeT_cons, k1, k2, k3, j2, j3, j4, sz1]))
    have t2 : Turn [] [4, 6, 7, 8, 9] (.n 6) (evSs (gN p m) [] b_next_row_0) (.int 2) [some (false, o.D), some (false, n.D), some (false, .int c), some (false, iT q), none, some (true, .list [iT r, iT s1]), none, none, none, none] [some (false, o.D), some (false, n.D), some (false, .int c), some (false, iT q), none, some (true, .list [iT r, iT s1, iT s2]), none, none, none, none] :=
      Turn.of rfl (by simp only [b_next_row_0]; repeat (rw [evSs_c]; simp [evIo, evSs_n, asg, asgs, frz1, own?, ixN_nat, outs, ofI, divS, gN_cf, gN_io, gN_gl, gN_gd, gN_xr, gN_fr, wipeT_nil, wipeT_cons, k4, k5, k6, j2, j3, j4, sz2]))
    rw [forL_cons t1, forL_cons t2]; rfl
  by_cases h1 : 1 < d
  · obtain ⟨m0, hm0⟩ := dv r (.inl rfl)
    obtain ⟨m1, hm1⟩ := dv s1 (.inr (.inl rfl))
    obtain ⟨m2, hm2⟩ := dv s2 (.inr (.inr rfl))
    have hd0 : ((d : Nat) : Int) ≠ 0 := by omega
    have l0 : m0.length = r.length := by rw [hm0, List.length_map]
    have l1 : m1.length = s1.length := by rw [hm1, List.length_map]
    have l2 : m2.length = s2.length := by rw [hm2, List.length_map]
    have v0 : ∀ t, pev r t = (d : Int) * pev m0 t := fun t => by rw [hm0, pev_scale]
    have v1 : ∀ t, pev s1 t = (d : Int) * pev m1 t := fun t => by rw [hm1, pev_scale]
    have v2 : ∀ t, pev s2 t = (d : Int) * pev m2 t := fun t => by rw [hm2, pev_scale]
    refine ⟨⟨m0, m1, m2⟩, q, c, d, ⟨hc0, hd0, isP_unscale (hm0 ▸ rP), isP_unscale (hm1 ▸ P1), isP_unscale (hm2 ▸ P2), fun t => by dsimp only; rw [← v0, id t], fun t => by dsimp only; rw [← v1, e1]; omega, fun t => by dsimp only; rw [← v2, e2]; omega, by dsimp only; omega⟩, hq, bd_unscale hd0 (hm0 ▸ rB), bd_unscale hd0 (hm1 ▸ B1), bd_unscale hd0 (hm2 ▸ B2), by dsimp only; omega, by dsimp only; omega, Cl.mk H.nrow fun m hm => ?_⟩
    have lp := loop m (by omega)
    have cp := cp.at (show 2 ≤ m by omega)
    have g1 := g1.at (show 4 ≤ m by omega)
    have g2 := g2.at (show 4 ≤ m by omega)
    have g3 := g3.at (show 4 ≤ m by omega)
    have d1 := d1.at (show 2 ≤ m by omega)
    have d2 := d2.at (show 2 ≤ m by omega)
    have h1' : (1 : Int) < (d : Nat) := by omega
    have b0 := (dby_cl H m0 d hd0 (by omega)).at (show 1 ≤ m by omega)
    have b1 := (dby_cl H m1 d hd0 (by omega)).at (show 1 ≤ m by omega)
    have b2 := (dby_cl H m2 d hd0 (by omega)).at (show 1 ≤ m by omega)
    rw [← hm0] at b0
    rw [← hm1] at b1
    rw [← hm2] at b2
    have hcomp : evE (gN p m) (.comp (.call 122 (.cons (.v 9) (.cons (.v 8) .nil))) (.n 9) (.it (.v 5)) .no [9]) [some (false, o.D), some (false, n.D), some (false, .int c), some (false, iT q), none, some (true, .list [iT r, iT s1, iT s2]), none, none, some (false, .int (d : Int)), none] = .ok (.list [iT m0, iT m1, iT m2], []) := by
      have := comp_map (g := gN p m) (τ := [some (false, o.D), some (false, n.D), some (false, .int c), some (false, iT q), none, some (true, .list [iT r, iT s1, iT s2]), none, none, some (false, .int (d : Int)), none]) (elt := .call 122 (.cons (.v 9) (.cons (.v 8) .nil))) (it := .it (.v 5)) (i := 9) (own := [9]) (L := [5]) [(r, m0), (s1, m1), (s2, m2)] (fun x => iT x.1) (fun x => iT x.2) (by simp) rfl (szs (by simp)) (fun x hx => by
        simp only [List.mem_cons, List.not_mem_nil, or_false] at hx
        rcases hx with rfl | rfl | rfl
        · simp [evIo, evSs_n, asg, asgs, frz1, own?, ixN_nat, outs, ofI, divS, gN_cf, gN_io, gN_gl, gN_gd, gN_xr, gN_fr, wipeT_nil, wipeT_cons, b0, j7]
        · simp [evIo, evSs_n, asg, asgs, frz1, own?, ixN_nat, outs, ofI, divS, gN_cf, gN_io, gN_gl, gN_gd, gN_xr, gN_fr, wipeT_nil, wipeT_cons, b1, j7]
        · simp [evIo, evSs_n, asg, asgs, frz1, own?, ixN_nat, outs, ofI, divS, gN_cf, gN_io, gN_gl, gN_gd, gN_xr, gN_fr, wipeT_nil, wipeT_cons, b2, j7])
      exact this
    clear k1 k2 k3 k4 k5 k6 dv hm0 hm1 hm2
    generalize cont r = q1 at *
    generalize cont s1 = q2 at *
    generalize cont s2 = q3 at *
    generalize (d' : Int) = dd at *
    rw [runF_eq _ _ _ rfl]; simp only [F_next_row, b_next_row, ioM_f, ioM_t, startT, mark, List.replicate, List.cons_append, List.nil_append, List.contains_cons, List.contains_nil, icL, icT, icI, icS, icB, icN, icD, Nat.reduceBEq, Nat.reduceSub, Nat.reduceAdd, Bool.true_and, Bool.false_and, Bool.or_false, beq_self_eq_true]
    repeat (rw [evSs_c]; simp [evIo, evSs_n, asg, asgs, frz1, own?, ixN_nat, outs, ofI, divS, gN_cf, gN_io, gN_gl, gN_gd, gN_xr, gN_fr, wipeT_nil, wipeT_cons, cp, lp, g1, g2, g3, d1, d2, h1', j1, j5, j6, hcomp, -ev_evE_comp])
  · refine ⟨⟨r, s1, s2⟩, q, c, 1, ⟨hc0, by decide, rP, P1, P2, fun t => by dsimp only; rw [id t]; omega, fun t => by dsimp only; rw [e1]; omega, fun t => by dsimp only; rw [e2]; omega, hrl⟩, hq, rB, B1, B2, L1, L2, Cl.mk H.nrow fun m hm => ?_⟩
    have lp := loop m (by omega)
    have cp := cp.at (show 2 ≤ m by omega)
    have g1 := g1.at (show 4 ≤ m by omega)
    have g2 := g2.at (show 4 ≤ m by omega)
    have g3 := g3.at (show 4 ≤ m by omega)
    have d1 := d1.at (show 2 ≤ m by omega)
    have d2 := d2.at (show 2 ≤ m by omega)
    have h1' : ¬ (1 : Int) < (d : Nat) := by omega
    clear k1 k2 k3 k4 k5 k6 dv
    generalize cont r = q1 at *
    generalize cont s1 = q2 at *
    generalize cont s2 = q3 at *
    generalize (d' : Int) = dd at *
    rw [runF_eq _ _ _ rfl]; simp only [F_next_row, b_next_row, ioM_f, ioM_t, startT, mark, List.replicate, List.cons_append, List.nil_append, List.contains_cons, List.contains_nil, icL, icT, icI, icS, icB, icN, icD, Nat.reduceBEq, Nat.reduceSub, Nat.reduceAdd, Bool.true_and, Bool.false_and, Bool.or_false, beq_self_eq_true]
    repeat (rw [evSs_c]; simp [evIo, evSs_n, asg, asgs, frz1, own?, ixN_nat, outs, ofI, divS, gN_cf, gN_io, gN_gl, gN_gd, gN_xr, gN_fr, wipeT_nil, wipeT_cons, cp, lp, g1, g2, g3, d1, d2, h1', j1, j5, j6])
end Mp

/-! the common divisor, the part without squares -/
namespace Mp
open PySem PySem.Spec PyProof.Rows L2
def Wb (C : Nat) : Nat → Nat
  | 0 => C
  | i + 1 => 3 * Wb C i
theorem Wb_pos {C : Nat} (h : 9 ≤ C) : ∀ i, 9 ≤ Wb C i
  | 0 => h
  | i + 1 => by have := Wb_pos h i; show 9 ≤ 3 * Wb C i; omega
theorem Wb_mono {C : Nat} : ∀ {i j : Nat}, i ≤ j → Wb C i ≤ Wb C j := fun {i j} h => by
  induction h with
  | refl => exact Nat.le_refl _
  | step _ ih => exact Nat.le_trans ih (by show _ ≤ 3 * Wb C _; omega)
theorem Wb_grow {C : Nat} (h : 9 ≤ C) (i : Nat) : ∀ d, 1 ≤ d → Wb C i + 1 + (d + 1) * (Wb C (i + 1) + 1) ≤ Wb C (i + 1 + d)
  | 0, z => absurd z (by decide)
  | 1, _ => by
    have := Wb_pos h i
    show Wb C i + 1 + 2 * (3 * Wb C i + 1) ≤ 3 * (3 * Wb C i)
    omega
  | d + 2, _ => by
    have ih := Wb_grow h i (d + 1) (by omega)
    have m1 := Wb_mono (C := C) (show i + 1 ≤ i + 1 + (d + 1) by omega)
    have p := Wb_pos h (i + 1)
    have e : Wb C (i + 1 + (d + 2)) = 3 * Wb C (i + 1 + (d + 1)) := rfl
    have e2 : (d + 2 + 1) * (Wb C (i + 1) + 1) = (d + 1 + 1) * (Wb C (i + 1) + 1) + (Wb C (i + 1) + 1) := by
      rw [Nat.add_mul (d + 2) 1, Nat.one_mul]
    omega
/-- the state of Euclid's rows -/
structure SpI (C N : Nat) (x y : List Int) (o n : Rw3) : Prop where
  po : IsP o.a
  pn : IsP n.a
  pob : IsP o.b
  poc : IsP o.c
  pnb : IsP n.b
  pnc : IsP n.c
  on : o.a ≠ []
  lt : n.a.length < o.a.length
  le : o.a.length ≤ N
  lo : ∀ t, pev o.b t * pev x t + pev o.c t * pev y t = pev o.a t
  ln : ∀ t, pev n.b t * pev x t + pev n.c t * pev y t = pev n.a t
  dv : ∃ c : Int, c ≠ 0 ∧ ∃ a b a' b' : Int → Int, ∀ t, c * pev x t = a t * pev o.a t + b t * pev n.a t ∧ c * pev y t = a' t * pev o.a t + b' t * pev n.a t
  bo : ∀ z ∈ o.a, Bd (Wb C (N - o.a.length)) z
  bn : ∀ z ∈ n.a, Bd (Wb C (N - o.a.length + 1)) z
  bob : ∀ z ∈ o.b, Bd (2 * Wb C (N - o.a.length + 1)) z
  boc : ∀ z ∈ o.c, Bd (2 * Wb C (N - o.a.length + 1)) z
  bnb : ∀ z ∈ n.b, Bd (2 * Wb C (N - o.a.length + 1)) z
  bnc : ∀ z ∈ n.c, Bd (2 * Wb C (N - o.a.length + 1)) z
  l1 : o.b.length ≤ 2 * (N - o.a.length) + 2
  l2 : o.c.length ≤ 2 * (N - o.a.length) + 2
  l3 : n.b.length ≤ 2 * (N - o.a.length) + 2
  l4 : n.c.length ≤ 2 * (N - o.a.length) + 2
theorem sp_next {p : Pr} (H : HPoly p) {C N : Nat} (hC : 9 ≤ C) (hCN : N ≤ 100) (hW : 2 * Wb C N ≤ 134217000) {x y : List Int} {o n : Rw3} (I : SpI C N x y o n) (hn : n.a ≠ []) :
    ∃ m : Rw3, SpI C N x y n m ∧ m.a.length < n.a.length ∧ Cl p 6 123 [o.D, n.D] (m.D, []) := by
  have hn0 : 0 < n.a.length := List.length_pos_iff.mpr hn
  obtain ⟨d, hd⟩ : ∃ d, o.a.length = n.a.length + d ∧ 1 ≤ d := ⟨o.a.length - n.a.length, by have := I.lt; omega, by have := I.lt; omega⟩
  have lt := I.lt
  have le := I.le
  have gr := Wb_grow hC (N - o.a.length) d hd.2
  have ei : N - o.a.length + 1 + d = N - n.a.length + 1 := by omega
  rw [ei] at gr
  have mm : o.a.length + 1 - n.a.length = d + 1 := by omega
  have mm2 : o.a.length + 2 - n.a.length = d + 2 := by omega
  have m1 := Wb_mono (C := C) (show N - n.a.length + 1 ≤ N by omega)
  have m2 := Wb_mono (C := C) (show N - o.a.length + 1 + 1 ≤ N - n.a.length + 1 by omega)
  have e3 : Wb C (N - o.a.length + 1 + 1) = 3 * Wb C (N - o.a.length + 1) := rfl
  have p0 := Wb_pos hC (N - o.a.length)
  have pC : C ≤ Wb C (N - o.a.length + 1) := Wb_mono (C := C) (show 0 ≤ N - o.a.length + 1 by omega)
  have e4 : (d + 2) * (Wb C (N - o.a.length + 1) + 1) = (d + 1) * (Wb C (N - o.a.length + 1) + 1) + (Wb C (N - o.a.length + 1) + 1) := by
    rw [Nat.add_mul (d + 1) 1, Nat.one_mul]
  have e5 := Nat.mul_le_mul_right (Wb C (N - o.a.length + 1)) (show 2 ≤ d + 1 by omega)
  have e6 : (d + 1) * (Wb C (N - o.a.length + 1) + 1) = (d + 1) * Wb C (N - o.a.length + 1) + (d + 1) := by rw [Nat.mul_add, Nat.mul_one]
  obtain ⟨m, q, c, g, R, ql, b0, b1, b2, l1, l2, cl⟩ := nrow_cl H (o := o) (n := n) (bo := Wb C (N - o.a.length)) (bn := Wb C (N - o.a.length + 1)) (v := 2 * Wb C (N - o.a.length + 1)) hn I.pn I.pob I.poc I.pnb I.pnc I.bo I.bn I.bob I.boc I.bnb I.bnc (by omega) (by have := I.l1; have := I.l2; have := I.l3; have := I.l4; omega)
    (Bq := Wb C (N - n.a.length + 1)) (by rw [mm]; omega) (by rw [mm2]; omega) (by rw [mm]; omega)
  refine ⟨m, ⟨I.pn, R.p0, I.pnb, I.pnc, R.p1, R.p2, hn, R.len, by omega, I.ln, fun t => ?_, ?_, ?_, b0, fun z hz => (I.bnb z hz).mono (by omega), fun z hz => (I.bnc z hz).mono (by omega), fun z hz => (b1 z hz).mono (by rw [mm]; omega), fun z hz => (b2 z hz).mono (by rw [mm]; omega), by have := I.l3; omega, by have := I.l4; omega, by have := I.l1; have := I.l3; omega, by have := I.l2; have := I.l4; omega⟩, R.len, cl⟩
  · have h0 := R.i0 t
    have h1 := R.i1 t
    have h2 := R.i2 t
    have a1 := I.lo t
    have a2 := I.ln t
    refine Int.eq_of_mul_eq_mul_left R.d0 ?_
    generalize pev m.a t = A at *
    generalize pev m.b t = B at *
    generalize pev m.c t = D at *
    generalize pev q t = Q at *
    generalize pev x t = X at *
    generalize pev y t = Y at *
    generalize pev o.a t = E at *
    generalize pev o.b t = F at *
    generalize pev o.c t = G at *
    generalize pev n.a t = K at *
    generalize pev n.b t = L at *
    generalize pev n.c t = M at *
    grobner
  · obtain ⟨c1, hc1, a, b, a', b', hh⟩ := I.dv
    refine ⟨c * c1, Int.mul_ne_zero R.c0 hc1, fun t => a t * pev q t + c * b t, fun t => a t * g, fun t => a' t * pev q t + c * b' t, fun t => a' t * g, fun t => ?_⟩
    have h0 := R.i0 t
    obtain ⟨u1, u2⟩ := hh t
    dsimp only
    generalize pev m.a t = A at *
    generalize pev q t = Q at *
    generalize pev x t = X at *
    generalize pev y t = Y at *
    generalize pev o.a t = E at *
    generalize pev n.a t = K at *
    generalize a t = a at *
    generalize b t = b at *
    generalize a' t = a' at *
    generalize b' t = b' at *
    constructor <;> grobner
  · intro z hz
    exact (I.bn z hz).mono (Wb_mono (by omega))
theorem sps_loop {p : Pr} (H : HPoly p) {C N : Nat} (hC : 9 ≤ C) (hCN : N ≤ 100) (hW : 2 * Wb C N ≤ 134217000) {x y : List Int} : ∀ (k : Nat) (o n : Rw3), n.a.length ≤ k → SpI C N x y o n →
    ∃ o' n' : Rw3, SpI C N x y o' n' ∧ n'.a = [] ∧ ∀ m, 6 ≤ m → ∀ f, k < f → whL [0, 1] (evT (gN p m) (.cmp .Gt (.bi .len (.cons (.sub (.v 3) (.k (.int 0))) .nil)) (.k (.int 0)))) (evSs (gN p m) [] b_straight_poly_sum_0) f [none, none, some (false, o.D), some (false, n.D)] = .nx [none, none, some (false, o'.D), some (false, n'.D)]
  | k, o, n, hk, I => by
    by_cases hn : n.a = []
    · refine ⟨o, n, I, hn, fun m hm f hf => ?_⟩
      obtain ⟨f, rfl⟩ := Nat.exists_eq_add_of_le' (show 1 ≤ f by omega)
      unfold whL
      have : evT (gN p m) (.cmp .Gt (.bi .len (.cons (.sub (.v 3) (.k (.int 0))) .nil)) (.k (.int 0))) [none, none, some (false, o.D), some (false, n.D)] = .ok false := by
        have : n.a.length = 0 := by rw [hn]; rfl
        simp [evIo, evSs_n, asg, asgs, frz1, own?, ixN_nat, outs, ofI, divS, gN_cf, gN_io, gN_gl, gN_gd, gN_xr, gN_fr, wipeT_nil, wipeT_cons, this]
      rw [this]
    · have hn0 : 0 < n.a.length := List.length_pos_iff.mpr hn
      obtain ⟨m', I', hl, cl⟩ := sp_next H hC hCN hW I hn
      cases k with
      | zero => omega
      | succ k =>
        obtain ⟨o', n', J, e, run⟩ := sps_loop H hC hCN hW k n m' (by omega) I'
        refine ⟨o', n', J, e, fun m hm f hf => ?_⟩
        obtain ⟨f, rfl⟩ := Nat.exists_eq_add_of_le' (show 1 ≤ f by omega)
        have cl := cl.at hm
        have i1 := io_of H.nrow
        simp only [F_next_row] at i1
        have ct : evT (gN p m) (.cmp .Gt (.bi .len (.cons (.sub (.v 3) (.k (.int 0))) .nil)) (.k (.int 0))) [none, none, some (false, o.D), some (false, n.D)] = .ok true := by
          have h1 : (0 : Int) < (n.a.length : Nat) := by omega
          simp [evIo, evSs_n, asg, asgs, frz1, own?, ixN_nat, outs, ofI, divS, gN_cf, gN_io, gN_gl, gN_gd, gN_xr, gN_fr, wipeT_nil, wipeT_cons, h1, hn, hn0]
        have bd : Out.wp [0, 1] (evSs (gN p m) [] b_straight_poly_sum_0 [none, none, some (false, o.D), some (false, n.D)]) = some [none, none, some (false, n.D), some (false, m'.D)] := by
          generalize o.D = od at *
          generalize n.D = nd at *
          generalize m'.D = md at *
          simp only [b_straight_poly_sum_0]
          repeat (rw [evSs_c]; simp [evIo, evSs_n, asg, asgs, frz1, own?, ixN_nat, outs, ofI, divS, gN_cf, gN_io, gN_gl, gN_gd, gN_xr, gN_fr, wipeT_nil, wipeT_cons, cl, i1])
        obtain ⟨τ2, w1, w2⟩ := wp_ex bd
        unfold whL
        rw [ct]
        have r := run m hm f (by omega)
        rcases w1 with w1 | w1 <;> simp only [w1, w2] <;> exact r
theorem spI_start {C N : Nat} {x y : List Int} (hx : IsP x) (hy : IsP y) (hn : x ≠ []) (hl : y.length < x.length) (hN : x.length ≤ N) (hC : 1 ≤ C) (bx : ∀ z ∈ x, Bd C z) (by_ : ∀ z ∈ y, Bd C z) : SpI C N x y ⟨x, [1], []⟩ ⟨y, [], [1]⟩ := by
  have mono := fun i : Nat => Wb_mono (C := C) (Nat.zero_le i)
  have e0 : Wb C 0 = C := rfl
  have one : ∀ i, ∀ z ∈ [(1 : Int)], Bd (2 * Wb C i) z := fun i z hz => by
    rw [List.mem_singleton.mp hz]
    have := mono i
    have h1 : Bd 1 1 := by unfold Bd; decide
    exact h1.mono (by omega)
  have o1 : IsP [(1 : Int)] := isP_one.mpr (by decide)
  have no : ∀ i, ∀ z ∈ ([] : List Int), Bd (2 * Wb C i) z := fun i z hz => by cases hz
  exact {
    po := hx, pn := hy, pob := o1, poc := isP_nil, pnb := isP_nil, pnc := o1, on := hn, lt := hl, le := hN
    lo := fun t => by simp [pev]
    ln := fun t => by simp [pev]
    dv := ⟨1, by decide, fun _ => 1, fun _ => 0, fun _ => 0, fun _ => 1, fun t => by dsimp only; omega⟩
    bo := fun z hz => (bx z hz).mono (by have := mono (N - x.length); dsimp only; omega)
    bn := fun z hz => (by_ z hz).mono (by have := mono (N - x.length + 1); dsimp only; omega)
    bob := one _, boc := no _, bnb := no _, bnc := one _
    l1 := by simp
    l2 := by simp
    l3 := by simp
    l4 := by simp }
/-- the common divisor of a product kp h R and its cofactor kp h S, R and S coprime -/
theorem cdv_cl {p : Pr} (H : HPoly p) {C N : Nat} (hC : 9 ≤ C) (hN : N ≤ 100) (hW : 2 * Wb C N ≤ 134217000) {x y h R S : List Int} {kp : Int} (hx : IsP x) (hy : IsP y) (hn : x ≠ []) (hl : y.length < x.length) (hxN : x.length ≤ N) (bx : ∀ z ∈ x, Bd C z) (by_ : ∀ z ∈ y, Bd C z)
    (hk : kp ≠ 0) (hh : Nrm h) (fx : ∀ t, pev x t = kp * (pev h t * pev R t)) (fy : ∀ t, pev y t = kp * (pev h t * pev S t)) (cop : Cop (pev R) (pev S)) :
    Cl p 8 125 [iT x, iT y] (iT h, []) := by
  obtain ⟨o, n, I, hne, run⟩ := sps_loop H hC hN hW y.length ⟨x, [1], []⟩ ⟨y, [], [1]⟩ (Nat.le_refl _) (spI_start hx hy hn hl hxN (by omega) bx by_)
  obtain ⟨c, hc, a, b, a', b', hd⟩ := I.dv
  obtain ⟨u, hu, hg⟩ := common_is (a := a) (b := a') hk hc hh.isP hh.1 I.po I.on fx fy cop (fun t => (I.lo t).symm) (fun t => by rw [(hd t).1, hne]; simp [pev]) (fun t => by rw [(hd t).2, hne]; simp [pev])
  have olen : o.a.length ≤ N := I.le
  have hb : ∀ z ∈ h.map (· * u), Bd 134217720 z := fun z hz => by
    rw [← hg] at hz
    exact (I.bo z hz).mono (by have := Wb_mono (C := C) (show N - o.a.length ≤ N by omega); omega)
  have pc := prim_cl H (Nat.le_refl _) hh hu hb (by have := congrArg List.length hg; rw [List.length_map] at this; omega)
  rw [← hg] at pc
  have s1 : Cl p 7 124 [iT x, iT y] (o.D, []) := by
    refine Cl.mk H.sps fun m hm => ?_
    have rn := run m hm (2 ^ 64) (by
      have : y.length < 100 := by omega
      exact Nat.lt_trans this (by decide))
    have s0 : (Rw3.D ⟨x, [1], []⟩) = .tuple [iT x, .tuple [.int 1], .tuple []] := rfl
    have s2 : (Rw3.D ⟨y, [], [1]⟩) = .tuple [iT y, .tuple [], .tuple [.int 1]] := rfl
    rw [s0, s2] at rn
    generalize n.D = nd at *
    generalize o.D = od at *
    rw [runF_eq _ _ _ rfl]; simp only [F_straight_poly_sum, b_straight_poly_sum, ioM_f, ioM_t, startT, mark, List.replicate, List.cons_append, List.nil_append, List.contains_cons, List.contains_nil, icL, icT, icI, icS, icB, icN, icD, Nat.reduceBEq, Nat.reduceSub, Nat.reduceAdd, Bool.true_and, Bool.false_and, Bool.or_false, beq_self_eq_true]
    repeat (rw [evSs_c]; simp [evIo, evSs_n, asg, asgs, frz1, own?, ixN_nat, outs, ofI, divS, gN_cf, gN_io, gN_gl, gN_gd, gN_xr, gN_fr, wipeT_nil, wipeT_cons, gN_wN, H.wn, rn])
  refine Cl.mk H.cdv fun m hm => ?_
  have s1 := s1.at hm
  have pc := pc.at (show 5 ≤ m by omega)
  have i1 := io_of H.sps
  have i2 := io_of H.prim
  simp only [F_straight_poly_sum] at i1
  simp only [F_primitive] at i2
  rw [runF_eq _ _ _ rfl]; simp only [F_common_divisor, b_common_divisor, ioM_f, ioM_t, startT, mark, List.replicate, List.cons_append, List.nil_append, List.contains_cons, List.contains_nil, icL, icT, icI, icS, icB, icN, icD, Nat.reduceBEq, Nat.reduceSub, Nat.reduceAdd, Bool.true_and, Bool.false_and, Bool.or_false, beq_self_eq_true]
  repeat (rw [evSs_c]; simp [evIo, evSs_n, asg, asgs, frz1, own?, ixN_nat, outs, ofI, divS, gN_cf, gN_io, gN_gl, gN_gd, gN_xr, gN_fr, wipeT_nil, wipeT_cons, s1, pc, i1, i2])
theorem sqf1_cl {p : Pr} (H : HPoly p) (c : Int) : Cl p 1 126 [iT [c]] (.tuple [.int 1], []) := by
  refine Cl.mk H.sqf fun m hm => ?_
  rw [runF_eq _ _ _ rfl]; simp only [F_squarefree_part, b_squarefree_part, ioM_f, ioM_t, startT, mark, List.replicate, List.cons_append, List.nil_append, List.contains_cons, List.contains_nil, icL, icT, icI, icS, icB, icN, icD, Nat.reduceBEq, Nat.reduceSub, Nat.reduceAdd, Bool.true_and, Bool.false_and, Bool.or_false, beq_self_eq_true]
  repeat (rw [evSs_c]; simp [evIo, evSs_n, asg, asgs, frz1, own?, ixN_nat, outs, ofI, divS, gN_cf, gN_io, gN_gl, gN_gd, gN_xr, gN_fr, wipeT_nil, wipeT_cons])
/-- the part without squares -/
theorem sqf_cl {p : Pr} (H : HPoly p) {C N : Nat} (hC : 9 ≤ C) (hN : N ≤ 100) (hW : 2 * Wb C N ≤ 134217000) {x h R S : List Int} {kp : Int} (hx : IsP x) (hl : 2 ≤ x.length) (hxN : x.length ≤ N) (bx : ∀ z ∈ x, Bd C z) (bd : ∀ z ∈ pder x, Bd C z)
    (hk : kp ≠ 0) (hh : Nrm h) (hR : Nrm R) (hP : Nrm (pmul R h)) (fx : ∀ t, pev x t = kp * (pev h t * pev R t)) (fy : ∀ t, pev (pder x) t = kp * (pev h t * pev S t)) (cop : Cop (pev R) (pev S)) (bh : ∀ z ∈ h, Bd 60000000 z) (bR : ∀ z ∈ R, Bd 60000000 z) :
    Cl p 9 126 [iT x] (iT R, []) := by
  have hn : x ≠ [] := fun e => by rw [e] at hl; simp at hl
  have C1 : C ≤ 134217720 := by have := Wb_mono (C := C) (Nat.zero_le N); have e0 : Wb C 0 = C := rfl; omega
  have ex : x = (pmul R h).map (· * kp) := isP_uniq hx (isP_scale hP.isP hk) 0 fun t _ => by rw [fx, pev_scale, pev_pmul, Int.mul_comm (pev R t)]
  have pl := pmul_len R h hR.1 hh.1
  have xl : x.length = R.length + h.length - 1 := by
    have := congrArg List.length ex
    rw [List.length_map] at this; omega
  have h1 : 0 < R.length := List.length_pos_iff.mpr hR.1
  have h2 : 0 < h.length := List.length_pos_iff.mpr hh.1
  have pc := prim_cl H C1 hP hk (by rw [← ex]; exact bx) (by omega)
  rw [← ex] at pc
  have dl : (trm (pder x)).length < x.length := by
    rw [← der_trm]
    have := trm_len (dlist x)
    rw [dlist_len] at this
    omega
  have cd := cdv_cl H hC hN hW hx (isP_trm (pder x)) hn dl hxN bx (fun z hz => bd z (trm_mem hz)) hk hh fx (fun t => by rw [pev_trm]; exact fy t) cop
  have dc := deri_cl H x (by omega)
  have E : ExH (pmul R h) h R [] 1 := ⟨hh.1, by have := hh.2.1; omega, hR.isP, isP_nil, by simpa using h2, by decide, fun t => by rw [pev_pmul]; simp [pev], by rw [pl]; omega⟩
  have h1e : h.map (· * (1 : Int)) = h := by simp
  have eq := (exq_cl H E (fun c ⟨a, ha, hc⟩ b hb => by
    rw [h1e] at hb
    rw [Int.mul_one] at hc
    subst hc
    exact mulB (bR _ ha) (bh b hb) (by omega)) (by rw [pl]; omega)).1 R rfl (by simp)
  rw [h1e] at eq
  refine Cl.mk H.sqf fun m hm => ?_
  have pc := pc.at (show 5 ≤ m by omega)
  have cd := cd.at (show 8 ≤ m by omega)
  have dc := dc.at (show 2 ≤ m by omega)
  have eq := eq.at (show 2 ≤ m by omega)
  have i1 := io_of H.prim
  have i2 := io_of H.cdv
  have i3 := io_of H.deri
  have i4 := io_of H.exq
  simp only [F_primitive] at i1
  simp only [F_common_divisor] at i2
  simp only [F_derivative] at i3
  simp only [F_exact_quotient] at i4
  have l1 : ¬ x.length = 1 := by omega
  have l2 : ¬ ((x.length : Nat) : Int) = 1 := by omega
  clear ex E
  generalize pmul R h = P at *
  generalize trm (pder x) = dx at *
  rw [runF_eq _ _ _ rfl]; simp only [F_squarefree_part, b_squarefree_part, ioM_f, ioM_t, startT, mark, List.replicate, List.cons_append, List.nil_append, List.contains_cons, List.contains_nil, icL, icT, icI, icS, icB, icN, icD, Nat.reduceBEq, Nat.reduceSub, Nat.reduceAdd, Bool.true_and, Bool.false_and, Bool.or_false, beq_self_eq_true]
  repeat (rw [evSs_c]; simp [evIo, evSs_n, asg, asgs, frz1, own?, ixN_nat, outs, ofI, divS, gN_cf, gN_io, gN_gl, gN_gd, gN_xr, gN_fr, wipeT_nil, wipeT_cons, pc, cd, dc, eq, i1, i2, i3, i4, l1, l2])
end Mp

/-! k43: the law's own polynomials -/
namespace Mp
open PySem PySem.Spec PyProof.Rows L2
structure H43 (p : Pr) : Prop extends HPoly p where
  row : HRow p
  lpoly : p.fs 127 = some F__law_poly
  ldiv : p.fs 128 = some F__law_divisor
  lpow : p.fs 129 = some F__law_power
  ltim : p.fs 130 = some F__law_times
  lplu : p.fs 131 = some F__law_plus
  lsca : p.fs 132 = some F__law_scaled
  lpri : p.fs 133 = some F__law_primitive
  lisp : p.fs 134 = some F__law_is_poly
  lali : p.fs 135 = some F__law_alike
  ldvs : p.fs 136 = some F__law_division
  lquo : p.fs 137 = some F__law_quotients_hold
  lval : p.fs 138 = some F__law_values_hold
  lpie : p.fs 139 = some F__law_pieces
  lsqu : p.fs 140 = some F__law_squares_hold
/-! ### the law's divisor -/
def gst (e : Nat × Nat) : Nat × Nat := (e.2, e.1 % e.2)
def gm (e : Nat × Nat) : Nat := if e.2 = 0 then 0 else e.1.log2 + e.2.log2 + 1 + (if e.1 ≤ e.2 then e.2.log2 + 2 else 0)
theorem gst_m {e : Nat × Nat} (h : e.2 ≠ 0) : gm (gst e) < gm e := by
  obtain ⟨x, y⟩ := e
  unfold gst gm
  dsimp only at *
  have hl := Nat.mod_lt x (show 0 < y by omega)
  rw [if_neg h]
  by_cases hr : x % y = 0
  · rw [if_pos hr]; omega
  rw [if_neg hr, if_neg (by omega)]
  by_cases hx : x ≤ y
  · rw [if_pos hx]
    have hx2 : x < y := by
      rcases Nat.lt_or_ge x y with z | z
      · exact z
      · have : x = y := by omega
        subst this; simp at hr
    rw [Nat.mod_eq_of_lt hx2]; omega
  · rw [if_neg hx]
    have h1 := Nat.div_add_mod x y
    have h2 : 1 ≤ x / y := Nat.div_pos (by omega) (by omega)
    have h3 := Nat.mul_le_mul_left y h2
    have := log2_half (r := x % y) (o := x) hr (by omega)
    omega
theorem ldiv_cl {p : Pr} (h : p.fs 128 = some F__law_divisor) (hw : p.wN = 2 ^ 64) {B : Nat} (hB : B ≤ 134217720) {x y : Int} (hx : Bd B x) (hy : Bd B y) : Cl p 1 128 [.int x, .int y] (.int (Int.gcd x y : Nat), []) := by
  obtain ⟨e, I, hb, run⟩ := whL_un (fun e : Nat × Nat => [none, none, some (false, .int (e.1 : Nat)), some (false, .int (e.2 : Nat))]) gm (fun e => Nat.gcd e.1 e.2 = Int.gcd x y) (fun e => decide (0 < e.2)) gst (fun e I hb => by
    have hb := of_decide_eq_true hb
    refine ⟨?_, gst_m (by omega)⟩
    unfold gst
    rw [← I]
    dsimp only
    rw [Nat.gcd_comm e.1 e.2, Nat.gcd_rec e.2 e.1, Nat.gcd_comm]) _ (x.natAbs, y.natAbs) (Nat.le_refl _) rfl
  have he : e.2 = 0 := by simpa using hb
  rw [he, Nat.gcd_zero_right] at I
  have hm : gm (x.natAbs, y.natAbs) < 2 ^ 64 := by
    unfold gm
    dsimp only
    split
    · exact Nat.two_pow_pos _
    · rename_i z
      have h1 := log2_bd hy (by omega)
      have h2 : x.natAbs.log2 ≤ B := by
        by_cases z : x = 0
        · subst z; exact Nat.zero_le _
        · exact Nat.le_of_lt (log2_bd hx z)
      split <;> omega
  refine Cl.mk h fun m _ => ?_
  have rn := run (2 ^ 64) [0, 1] (evT (gN p m) (.cmp .Gt (.v 3) (.k (.int 0)))) (evSs (gN p m) [] b__law_divisor_0) hm (fun e I => by simp) (fun e I hb => by
    have hb := of_decide_eq_true hb
    have h1 : (0 : Int) < (e.2 : Nat) := by omega
    have h2 : ((gst e).2 : Int) = (e.1 : Int) % (e.2 : Int) := rfl
    have h3 : (gst e).1 = e.2 := rfl
    simp only [b__law_divisor_0]
    repeat (rw [evSs_c]; simp [evIo, evSs_n, asg, asgs, frz1, own?, ixN_nat, outs, ofI, divS, gN_cf, gN_io, gN_gl, gN_gd, gN_xr, gN_fr, wipeT_nil, wipeT_cons, h1, h2, h3, hb]))
  have a1 : (if x < 0 then -x else x) = ((x.natAbs : Nat) : Int) := by split <;> omega
  have a2 : (if y < 0 then -y else y) = ((y.natAbs : Nat) : Int) := by split <;> omega
  have a1' : biD .abs [.int x] = some (.int ((x.natAbs : Nat) : Int)) := by rw [absI, a1]
  have a2' : biD .abs [.int y] = some (.int ((y.natAbs : Nat) : Int)) := by rw [absI, a2]
  rw [he, I] at rn
  generalize Int.gcd x y = g at *
  generalize x.natAbs = xn at *
  generalize y.natAbs = yn at *
  rw [runF_eq _ _ _ rfl]; simp only [F__law_divisor, b__law_divisor, ioM_f, ioM_t, startT, mark, List.replicate, List.cons_append, List.nil_append, List.contains_cons, List.contains_nil, icL, icT, icI, icS, icB, icN, icD, Nat.reduceBEq, Nat.reduceSub, Nat.reduceAdd, Bool.true_and, Bool.false_and, Bool.or_false, beq_self_eq_true]
  repeat (rw [evSs_c]; simp [evIo, evSs_n, asg, asgs, frz1, own?, ixN_nat, outs, ofI, divS, gN_cf, gN_io, gN_gl, gN_gd, gN_xr, gN_fr, wipeT_nil, wipeT_cons, a1', a2', gN_wN, hw, rn, -absI])
theorem lpow_cl {p : Pr} (h : p.fs 129 = some F__law_power) (b : Int) (n : Nat) (hb : -(2 ^ 64) < b ∧ b < 2 ^ 64) (hn : n ≤ 100000) : Cl p 1 129 [.int b, .int (n : Nat)] (.int (b ^ n), []) := by
  refine Cl.mk h fun m _ => ?_
  have hl := forL_ix (io := []) (dead := [1, 3]) (t := .n 3) (body := evSs (gN p m) [] b__law_power_0) (rngL 0 n) (fun j => [some (false, .int b), none, some (false, .int (b ^ j)), none]) 0 fun i d hd => by
    obtain ⟨hi, rfl⟩ := rng_get hd
    have hm := mulR (i := b ^ i) hb
    rw [Nat.zero_add]
    exact Turn.of rfl (by simp only [b__law_power_0]; repeat (rw [evSs_c]; simp [evIo, evSs_n, asg, asgs, frz1, own?, ixN_nat, outs, ofI, divS, gN_cf, gN_io, gN_gl, gN_gd, gN_xr, gN_fr, wipeT_nil, wipeT_cons, hm, Int.pow_succ]))
  rw [rng_len, Nat.zero_add, Int.pow_zero] at hl
  have hr := rng1 hn
  rw [runF_eq _ _ _ rfl]; simp only [F__law_power, b__law_power, ioM_f, ioM_t, startT, mark, List.replicate, List.cons_append, List.nil_append, List.contains_cons, List.contains_nil, icL, icT, icI, icS, icB, icN, icD, Nat.reduceBEq, Nat.reduceSub, Nat.reduceAdd, Bool.true_and, Bool.false_and, Bool.or_false, beq_self_eq_true]
  repeat (rw [evSs_c]; simp [evIo, evSs_n, asg, asgs, frz1, own?, ixN_nat, outs, ofI, divS, gN_cf, gN_io, gN_gl, gN_gd, gN_xr, gN_fr, wipeT_nil, wipeT_cons, hl, hr])
theorem lsca_cl {p : Pr} (h : p.fs 132 = some F__law_scaled) (xs : List Int) (f : Int) (hz : xs.length ≤ 100000) (hm : ∀ a ∈ xs, mulOk a f = true) : Cl p 1 132 [iT xs, .int f] (iT (xs.map (· * f)), []) := by
  refine Cl.mk h fun m _ => ?_
  have hcomp : evE (gN p m) (.comp (.bin .Mult (.v 2) (.v 1)) (.n 2) (.it (.v 0)) .no [2]) [some (false, iT xs), some (false, .int f), none] = .ok (iL (xs.map (· * f)), []) := by
    have := comp_map (g := gN p m) (τ := [some (false, iT xs), some (false, .int f), none]) (elt := .bin .Mult (.v 2) (.v 1)) (it := .it (.v 0)) (i := 2) (own := [2]) (L := []) xs PyData.int (fun a => .int (a * f)) (by simp) rfl (szs hz) (fun a ha => by
      have := hm a ha
      simp [evIo, evSs_n, asg, asgs, frz1, own?, ixN_nat, outs, ofI, divS, gN_cf, gN_io, gN_gl, gN_gd, gN_xr, gN_fr, wipeT_nil, wipeT_cons, this])
    rw [this]
    unfold iL
    rw [List.map_map]; rfl
  generalize xs.map (· * f) = ds at *
  rw [runF_eq _ _ _ rfl]; simp only [F__law_scaled, b__law_scaled, ioM_f, ioM_t, startT, mark, List.replicate, List.cons_append, List.nil_append, List.contains_cons, List.contains_nil, icL, icT, icI, icS, icB, icN, icD, Nat.reduceBEq, Nat.reduceSub, Nat.reduceAdd, Bool.true_and, Bool.false_and, Bool.or_false, beq_self_eq_true]
  repeat (rw [evSs_c]; simp [evIo, evSs_n, asg, asgs, frz1, own?, ixN_nat, outs, ofI, divS, gN_cf, gN_io, gN_gl, gN_gd, gN_xr, gN_fr, wipeT_nil, wipeT_cons, hcomp, -ev_evE_comp])
/-! ### trimming by taking away the last -/
theorem cut_m1 {α : Type} (xs : List α) : cutD xs none (some (-1)) = xs.dropLast := by
  unfold cutD HT.sIx
  simp only [show (-1 : Int) < 0 by omega, if_true, List.drop_zero, Nat.sub_zero]
  rw [List.dropLast_eq_take]
  congr 1
  omega
theorem trm_drop {r : List Int} (hn : r ≠ []) (h : lead r = 0) : trm r.dropLast = trm r := isP_uniq (isP_trm _) (isP_trm _) 0 fun x _ => by
  rw [pev_trm, pev_trm]
  have hl := List.length_pos_iff.mpr hn
  refine pev_congr _ _ (fun i => ?_) x
  rw [List.dropLast_eq_take, getD_take]
  split
  · rfl
  · by_cases z : i = r.length - 1
    · rw [z, lead_getD, h]
    · rw [getD_out (by omega)]
/-- the loops that trim: the list in slot i of a state -/
theorem trim_loop {g : G} {body : Tau → Out} {dead : List Nat} {k : Nat} (S : List Int → Tau) (hS : ∀ r : List Int, ∀ j : Nat, ∃ τ1, asg [] false (.n k) (.int (j : Nat)) (S r) = some τ1 ∧ Out.wp dead (body τ1) = some (S (if r ≠ [] ∧ lead r = 0 then r.dropLast else r))) (r : List Int) (n : Nat) (h : r.length ≤ n) :
    forL [] dead (.n k) body (rngL 0 n) (S r) = .nx (S (trm r)) := by
  obtain ⟨τ', h1, r', h2, h3, h4⟩ := forL_to (io := []) (dead := dead) (t := .n k) (body := body) (fun j τ => ∃ r' : List Int, τ = S r' ∧ trm r' = trm r ∧ (r'.length + j ≤ n ∨ IsP r')) (rngL 0 n) 0 (S r) ⟨r, rfl, rfl, .inl h⟩ fun i d τ hd hP => by
    obtain ⟨hi, rfl⟩ := rng_get hd
    obtain ⟨r', rfl, e, hl⟩ := hP
    obtain ⟨τ1, a1, a2⟩ := hS r' i
    obtain ⟨τ2, w1, w2⟩ := wp_ex a2
    refine ⟨τ1, a1, τ2, w1, _, w2, ?_, ?_⟩
    · split
      · rename_i z; rw [trm_drop z.1 z.2]; exact e
      · exact e
    · by_cases z : r' ≠ [] ∧ lead r' = 0
      · rw [if_pos z, List.length_dropLast]
        have := List.length_pos_iff.mpr z.1
        rcases hl with hl | hl
        · exact .inl (by omega)
        · exact absurd z.2 ((isP_lead z.1).mp hl)
      · rw [if_neg z]
        refine .inr ?_
        by_cases y : r' = []
        · rw [y]; exact isP_nil
        · exact (isP_lead y).mpr fun w => z ⟨y, w⟩
  rw [h1]
  congr 1
  rw [h2]
  congr 1
  rw [← h3]
  rcases h4 with h4 | h4
  · rw [rng_len] at h4
    have : r' = [] := List.length_eq_zero_iff.mp (by omega)
    rw [this]; rfl
  · exact (trm_isP h4).symm
def polyF (ns : List Int) (pl : Int) (deg : Nat) (bound : Int) : List Int := trm ((rowF ns pl (deg + 1) (2 * bound + 1)).map (· - bound))
theorem lpoly_cl {p : Pr} (H : H43 p) (ns : List Int) (pl : Int) (deg : Nat) (bound : Int) (hd : deg ≤ 50000) (hb : 0 < bound) (hb2 : bound < 500000000) : Cl p 3 127 [.list (ns.map .int), .int pl, .int (deg : Nat), .int bound] (iT (polyF ns pl deg bound), []) := by
  refine Cl.mk H.lpoly fun m hm => ?_
  have hr : callN p m 10 [.list (ns.map .int), .int pl, .int ((deg : Int) + 1), .int (2 * bound + 1)] = _ := (row_cl H.row ns pl (deg + 1) (2 * bound + 1) (by omega) (by omega) (fun x => div0 (by omega))).at hm
  have hlen := rowF_len ns pl (deg + 1) (limit := 2 * bound + 1) (by omega)
  have io := row_io H.row
  have mb := mulL (i := 2) (j := bound) (by decide)
  unfold polyF
  have hcomp : evE (gN p m) (.comp (.bin .Sub (.v 5) (.v 3)) (.n 5) (.it (.call 10 (.cons (.v 0) (.cons (.v 1) (.cons (.bin .Add (.v 2) (.k (.int 1))) (.cons (.bin .Add (.bin .Mult (.k (.int 2)) (.v 3)) (.k (.int 1))) .nil)))))) .no [5]) [some (false, .list (ns.map .int)), some (false, .int pl), some (false, .int (deg : Nat)), some (false, .int bound), none, none, none] = .ok (iL ((rowF ns pl (deg + 1) (2 * bound + 1)).map (· - bound)), []) := by
    generalize rowF ns pl (deg + 1) (2 * bound + 1) = R at *
    have := comp_map (g := gN p m) (τ := [some (false, .list (ns.map .int)), some (false, .int pl), some (false, .int (deg : Nat)), some (false, .int bound), none, none, none]) (elt := .bin .Sub (.v 5) (.v 3)) (it := .it (.call 10 (.cons (.v 0) (.cons (.v 1) (.cons (.bin .Add (.v 2) (.k (.int 1))) (.cons (.bin .Add (.bin .Mult (.k (.int 2)) (.v 3)) (.k (.int 1))) .nil)))))) (i := 5) (own := [5]) (L := []) R PyData.int (fun a => .int (a - bound)) (by simp [evIo, evSs_n, asg, asgs, frz1, own?, ixN_nat, outs, ofI, divS, gN_cf, gN_io, gN_gl, gN_gd, gN_xr, gN_fr, wipeT_nil, wipeT_cons, hr, io, mb]) rfl (szs (by omega)) (fun a ha => by simp [evIo, evSs_n, asg, asgs, frz1, own?, ixN_nat, outs, ofI, divS, gN_cf, gN_io, gN_gl, gN_gd, gN_xr, gN_fr, wipeT_nil, wipeT_cons])
    rw [this]; unfold iL; rw [List.map_map]; rfl
  have lp := trim_loop (g := gN p m) (body := evSs (gN p m) [] b__law_poly_0) (dead := [0, 1, 2, 3, 5, 6]) (k := 6) (fun r => [none, none, none, none, some (true, iL r), none, none]) (fun r j => ⟨_, rfl, by
    by_cases h0 : r = []
    · subst h0
      simp only [b__law_poly_0]
      repeat (rw [evSs_c]; simp [evIo, evSs_n, asg, asgs, frz1, own?, ixN_nat, outs, ofI, divS, gN_cf, gN_io, gN_gl, gN_gd, gN_xr, gN_fr, wipeT_nil, wipeT_cons])
    · have ha := at_last h0
      have h1 : 0 < r.length := List.length_pos_iff.mpr h0
      have h2 : (0 : Int) < (r.length : Nat) := by omega
      by_cases hz : lead r = 0
      · have hc := cut_m1 (r.map PyData.int)
        rw [hz] at ha
        simp only [b__law_poly_0]
        repeat (rw [evSs_c]; simp [evIo, evSs_n, asg, asgs, frz1, own?, ixN_nat, outs, ofI, divS, gN_cf, gN_io, gN_gl, gN_gd, gN_xr, gN_fr, wipeT_nil, wipeT_cons, ha, h0, h1, h2, hz, hc])
      · simp only [b__law_poly_0]
        repeat (rw [evSs_c]; simp [evIo, evSs_n, asg, asgs, frz1, own?, ixN_nat, outs, ofI, divS, gN_cf, gN_io, gN_gl, gN_gd, gN_xr, gN_fr, wipeT_nil, wipeT_cons, ha, h0, h1, h2, hz])⟩) ((rowF ns pl (deg + 1) (2 * bound + 1)).map (· - bound)) (deg + 1) (by rw [List.length_map, hlen]; exact Nat.le_refl _)
  have hrg : rngR1 ((deg : Int) + 1) = .ok (rngL 0 (deg + 1), []) := rng1 (n := deg + 1) (by omega)
  generalize (rowF ns pl (deg + 1) (2 * bound + 1)).map (· - bound) = R at *
  generalize trm R = R' at *
  rw [runF_eq _ _ _ rfl]; simp only [F__law_poly, b__law_poly, ioM_f, ioM_t, startT, mark, List.replicate, List.cons_append, List.nil_append, List.contains_cons, List.contains_nil, icL, icT, icI, icS, icB, icN, icD, Nat.reduceBEq, Nat.reduceSub, Nat.reduceAdd, Bool.true_and, Bool.false_and, Bool.or_false, beq_self_eq_true]
  repeat (rw [evSs_c]; simp [evIo, evSs_n, asg, asgs, frz1, own?, ixN_nat, outs, ofI, divS, gN_cf, gN_io, gN_gl, gN_gd, gN_xr, gN_fr, wipeT_nil, wipeT_cons, hcomp, lp, hrg, -ev_evE_comp])
end Mp

/-! k43: the law's sums, products, primitive parts -/
namespace Mp
open PySem PySem.Spec PyProof.Rows L2
/-- a row's entry j, the inner loop's turn at place 0 -/
structure AdZ (c : Int) (ys row : List Int) (j : Nat) : Prop where
  f1 : atI ((addAt c (ys.take j) row 0).map PyData.int) (j : Int) = some (.int ((addAt c (ys.take j) row 0).getD j 0))
  f2 : ixN (addAt c (ys.take j) row 0).length (j : Int) = some j
  f3 : ((addAt c (ys.take j) row 0).map PyData.int).set j (.int ((addAt c (ys.take j) row 0).getD j 0 + c * ys.getD j 0)) = (addAt c (ys.take (j + 1)) row 0).map PyData.int
theorem adZ {c : Int} {ys row : List Int} {j : Nat} (h : ys.length ≤ row.length) (hj : j < ys.length) : AdZ c ys row j := by
  obtain ⟨f1, f2, f3⟩ := adT (c := c) (k := 0) (ys := ys) (row := row) (by omega) hj
  simp only [Nat.zero_add, Int.natCast_zero, Int.zero_add, Int.ofNat_eq_natCast] at f1 f2 f3
  exact ⟨f1, f2, f3⟩
theorem plus_x {g : G} (xs ys row : List Int) (sg : Int) (h : xs.length ≤ row.length) :
    forL [] [4] (.n 4) (evSs g [] b__law_plus_2) (rngL 0 xs.length) [some (false, iT xs), some (false, iT ys), some (false, .int sg), some (true, iL row), none] = .nx [some (false, iT xs), some (false, iT ys), some (false, .int sg), some (true, iL (addAt 1 xs row 0)), none] := by
  have := forL_ix (io := []) (dead := [4]) (t := .n 4) (body := evSs g [] b__law_plus_2) (rngL 0 xs.length) (fun j => [some (false, iT xs), some (false, iT ys), some (false, .int sg), some (true, iL (addAt 1 (xs.take j) row 0)), none]) 0 fun j d hd => by
    obtain ⟨hj, rfl⟩ := rng_get hd
    rw [Nat.zero_add]
    obtain ⟨f1, f2, f3⟩ := adZ (c := 1) (row := row) h hj
    have ha := at_i hj
    generalize addAt 1 (xs.take j) row 0 = R at *
    generalize addAt 1 (xs.take (j + 1)) row 0 = R' at *
    generalize xs.getD j 0 = b at *
    generalize R.getD j 0 = u at *
    rw [Int.one_mul] at f3
    exact Turn.of rfl (by simp only [b__law_plus_2]; repeat (rw [evSs_c]; simp [evIo, evSs_n, asg, asgs, frz1, own?, ixN_nat, outs, ofI, divS, gN_cf, gN_io, gN_gl, gN_gd, gN_xr, gN_fr, wipeT_nil, wipeT_cons, f1, f2, f3, ha]))
  rw [rng_len, Nat.zero_add, List.take_length, List.take_zero, addAt_nil] at this
  exact this
theorem plus_y {g : G} (xs ys row : List Int) (h : ys.length ≤ row.length) :
    forL [] [0, 4] (.n 4) (evSs g [] b__law_plus_1) (rngL 0 ys.length) [none, some (false, iT ys), some (false, .int 1), some (true, iL row), none] = .nx [none, some (false, iT ys), some (false, .int 1), some (true, iL (addAt 1 ys row 0)), none] := by
  have := forL_ix (io := []) (dead := [0, 4]) (t := .n 4) (body := evSs g [] b__law_plus_1) (rngL 0 ys.length) (fun j => [none, some (false, iT ys), some (false, .int 1), some (true, iL (addAt 1 (ys.take j) row 0)), none]) 0 fun j d hd => by
    obtain ⟨hj, rfl⟩ := rng_get hd
    rw [Nat.zero_add]
    obtain ⟨f1, f2, f3⟩ := adZ (c := 1) (row := row) h hj
    have ha := at_i hj
    generalize addAt 1 (ys.take j) row 0 = R at *
    generalize addAt 1 (ys.take (j + 1)) row 0 = R' at *
    generalize ys.getD j 0 = b at *
    generalize R.getD j 0 = u at *
    have hm := mulL (i := 1) (j := b) (by decide)
    rw [Int.one_mul] at f3
    exact Turn.of rfl (by simp only [b__law_plus_1]; repeat (rw [evSs_c]; simp [evIo, evSs_n, asg, asgs, frz1, own?, ixN_nat, outs, ofI, divS, gN_cf, gN_io, gN_gl, gN_gd, gN_xr, gN_fr, wipeT_nil, wipeT_cons, f1, f2, f3, ha, hm]))
  rw [rng_len, Nat.zero_add, List.take_length, List.take_zero, addAt_nil] at this
  exact this
theorem comp_zeros {g : G} {e : E} {i : Nat} {own : List Nat} {τ : Tau} (n : Nat) (he : EvI g e τ (n : Nat)) (hn : n ≤ 100000) : evE g (.comp (.k (.int 0)) (.n i) (.r1 e) .no own) τ = .ok (iL (List.replicate n 0), []) := by
  have := comp_rng (g := g) (τ := τ) (elt := .k (.int 0)) (e := e) (i := i) (own := own) n (fun _ => .int 0) he hn (fun k _ => by simp [evIo, evSs_n, asg, asgs, frz1, own?, ixN_nat, outs, ofI, divS, gN_cf, gN_io, gN_gl, gN_gd, gN_xr, gN_fr, wipeT_nil, wipeT_cons])
  rw [this]
  unfold iL
  congr 2
  simp [List.map_const']
theorem lplu_cl {p : Pr} (h : p.fs 131 = some F__law_plus) (xs ys : List Int) (hx : xs.length ≤ 100000) (hy : ys.length ≤ 100000) : Cl p 1 131 [iT xs, iT ys, .int 1] (iT (trm (padd xs ys)), []) := by
  refine Cl.mk h fun m hm => ?_
  have hz : evE (gN p m) (.comp (.k (.int 0)) (.n 4) (.r1 (.bi .max (.cons (.bi .len (.cons (.v 0) .nil)) (.cons (.bi .len (.cons (.v 1) .nil)) .nil)))) .no [4]) [some (false, iT xs), some (false, iT ys), some (false, .int 1), none, none] = .ok (iL (List.replicate (max xs.length ys.length) 0), []) := by
    refine comp_zeros (max xs.length ys.length) ?_ (by omega)
    unfold EvI
    have := bi_max xs.length ys.length
    simp [evIo, evSs_n, asg, asgs, frz1, own?, ixN_nat, outs, ofI, divS, gN_cf, gN_io, gN_gl, gN_gd, gN_xr, gN_fr, wipeT_nil, wipeT_cons, this]
  have l1 := plus_x (g := gN p m) xs ys (List.replicate (max xs.length ys.length) 0) 1 (by simp; omega)
  have q1 := addAt_len 1 xs (List.replicate (max xs.length ys.length) 0) 0
  have l2 := plus_y (g := gN p m) xs ys (addAt 1 xs (List.replicate (max xs.length ys.length) 0) 0) (by rw [q1]; simp; omega)
  have q2 := addAt_len 1 ys (addAt 1 xs (List.replicate (max xs.length ys.length) 0) 0) 0
  have ez : trm (addAt 1 ys (addAt 1 xs (List.replicate (max xs.length ys.length) 0) 0) 0) = trm (padd xs ys) := isP_uniq (isP_trm _) (isP_trm _) 0 fun t _ => by
    rw [pev_trm, pev_trm, pev_addAt _ _ _ _ _ (by rw [q1]; simp; omega), pev_addAt _ _ _ _ _ (by simp; omega), pev_zeros, pev_padd]; simp
  have tl := trim_loop (g := gN p m) (body := evSs (gN p m) [] b__law_plus_0) (dead := [0, 1, 2, 4]) (k := 4) (fun r => [none, none, none, some (true, iL r), none]) (fun r j => ⟨_, rfl, by
    by_cases h0 : r = []
    · subst h0
      simp only [b__law_plus_0]
      repeat (rw [evSs_c]; simp [evIo, evSs_n, asg, asgs, frz1, own?, ixN_nat, outs, ofI, divS, gN_cf, gN_io, gN_gl, gN_gd, gN_xr, gN_fr, wipeT_nil, wipeT_cons])
    · have ha := at_last h0
      have h1 : 0 < r.length := List.length_pos_iff.mpr h0
      have h2 : (0 : Int) < (r.length : Nat) := by omega
      by_cases hz : lead r = 0
      · have hc := cut_m1 (r.map PyData.int)
        rw [hz] at ha
        simp only [b__law_plus_0]
        repeat (rw [evSs_c]; simp [evIo, evSs_n, asg, asgs, frz1, own?, ixN_nat, outs, ofI, divS, gN_cf, gN_io, gN_gl, gN_gd, gN_xr, gN_fr, wipeT_nil, wipeT_cons, ha, h0, h1, h2, hz, hc])
      · simp only [b__law_plus_0]
        repeat (rw [evSs_c]; simp [evIo, evSs_n, asg, asgs, frz1, own?, ixN_nat, outs, ofI, divS, gN_cf, gN_io, gN_gl, gN_gd, gN_xr, gN_fr, wipeT_nil, wipeT_cons, ha, h0, h1, h2, hz])⟩) (addAt 1 ys (addAt 1 xs (List.replicate (max xs.length ys.length) 0) 0) 0) (addAt 1 ys (addAt 1 xs (List.replicate (max xs.length ys.length) 0) 0) 0).length (Nat.le_refl _)
  have r1 := rng1 hx
  have r2 := rng1 hy
  have r3 := rng1 (n := (addAt 1 ys (addAt 1 xs (List.replicate (max xs.length ys.length) 0) 0) 0).length) (by rw [q2, q1]; simp; omega)
  rw [ez] at tl
  clear ez q1 q2
  generalize addAt 1 ys (addAt 1 xs (List.replicate (max xs.length ys.length) 0) 0) 0 = R2 at *
  generalize addAt 1 xs (List.replicate (max xs.length ys.length) 0) 0 = R1 at *
  generalize List.replicate (max xs.length ys.length) (0 : Int) = Z at *
  generalize trm (padd xs ys) = R3 at *
  rw [runF_eq _ _ _ rfl]; simp only [F__law_plus, b__law_plus, ioM_f, ioM_t, startT, mark, List.replicate, List.cons_append, List.nil_append, List.contains_cons, List.contains_nil, icL, icT, icI, icS, icB, icN, icD, Nat.reduceBEq, Nat.reduceSub, Nat.reduceAdd, Bool.true_and, Bool.false_and, Bool.or_false, beq_self_eq_true]
  repeat (rw [evSs_c]; simp [evIo, evSs_n, asg, asgs, frz1, own?, ixN_nat, outs, ofI, divS, gN_cf, gN_io, gN_gl, gN_gd, gN_xr, gN_fr, wipeT_nil, wipeT_cons, hz, l1, l2, tl, r1, r2, r3, -ev_evE_comp])
/-! ### products -/
theorem tim_inner {g : G} (xs ys row : List Int) (k : Nat) (hk : k < xs.length) (h : k + ys.length ≤ row.length) (hm : ∀ b ∈ ys, mulOk (xs.getD k 0) b = true) :
    forL [] [3, 5] (.n 5) (evSs g [] b__law_times_1) (rngL 0 ys.length) [some (false, iT xs), some (false, iT ys), some (true, iL row), none, some (false, .int (k : Nat)), none] =
      .nx [some (false, iT xs), some (false, iT ys), some (true, iL (addAt (xs.getD k 0) ys row k)), none, some (false, .int (k : Nat)), none] := by
  have := forL_ix (io := []) (dead := [3, 5]) (t := .n 5) (body := evSs g [] b__law_times_1) (rngL 0 ys.length) (fun j => [some (false, iT xs), some (false, iT ys), some (true, iL (addAt (xs.getD k 0) (ys.take j) row k)), none, some (false, .int (k : Nat)), none]) 0 fun j d hd => by
    obtain ⟨hj, rfl⟩ := rng_get hd
    rw [Nat.zero_add]
    obtain ⟨f1, f2, f3⟩ := adT (c := xs.getD k 0) h hj
    have hm := hm (ys.getD j 0) (getD_mem hj)
    have ha := at_i hk
    have hb := at_i hj
    generalize addAt (xs.getD k 0) (ys.take j) row k = R at *
    generalize addAt (xs.getD k 0) (ys.take (j + 1)) row k = R' at *
    generalize ys.getD j 0 = b at *
    generalize xs.getD k 0 = a at *
    generalize R.getD (k + j) 0 = u at *
    exact Turn.of rfl (by simp only [b__law_times_1]; repeat (rw [evSs_c]; simp [evIo, evSs_n, asg, asgs, frz1, own?, ixN_nat, outs, ofI, divS, gN_cf, gN_io, gN_gl, gN_gd, gN_xr, gN_fr, wipeT_nil, wipeT_cons, f1, f2, f3, hm, ha, hb]))
  rw [rng_len, Nat.zero_add, List.take_length, List.take_zero, addAt_nil] at this
  exact this
def tmR (xs ys : List Int) (j : Nat) : List Int := (List.range j).foldl (fun row k => addAt (xs.getD k 0) ys row k) (List.replicate (xs.length + ys.length - 1) 0)
theorem tmR_len (xs ys : List Int) : ∀ j, (tmR xs ys j).length = xs.length + ys.length - 1
  | 0 => by simp [tmR]
  | j + 1 => by
    have := tmR_len xs ys j
    unfold tmR at *
    rw [fold_succ, addAt_len, this]
theorem tmR_pev {xs ys : List Int} (hy : 0 < ys.length) : ∀ j, j ≤ xs.length → ∀ t, pev (tmR xs ys j) t = pev (xs.take j) t * pev ys t
  | 0, _, t => by simp [tmR, pev_zeros, pev]
  | j + 1, h, t => by
    have ih := tmR_pev (xs := xs) hy j (by omega) t
    have hl := tmR_len xs ys j
    unfold tmR at *
    rw [fold_succ, pev_addAt _ _ _ _ _ (by rw [hl]; omega), ih, pev_take (by omega)]
    generalize pev (xs.take j) t = A
    generalize pev ys t = B
    generalize t ^ j = C
    grobner
theorem tmR_eq {xs ys : List Int} (hx : xs ≠ []) (hy : ys ≠ []) : tmR xs ys xs.length = pmul xs ys := by
  have h2 : 0 < ys.length := List.length_pos_iff.mpr hy
  exact pev_inj 0 (by rw [tmR_len, pmul_len _ _ hx hy]) fun t _ => by rw [tmR_pev h2 _ (Nat.le_refl _), List.take_length, pev_pmul]
theorem ltim_cl {p : Pr} (h : p.fs 130 = some F__law_times) {xs ys : List Int} (hl : xs.length + ys.length ≤ 100000) (hm : ∀ a ∈ xs, ∀ b ∈ ys, mulOk a b = true) : Cl p 1 130 [iT xs, iT ys] (iT (pm xs ys), []) := by
  refine Cl.mk h fun m _ => ?_
  by_cases h0 : xs = [] ∨ ys = []
  · unfold pm
    rw [if_pos h0]
    rcases h0 with rfl | rfl
    · rw [runF_eq _ _ _ rfl]; simp only [F__law_times, b__law_times, ioM_f, ioM_t, startT, mark, List.replicate, List.cons_append, List.nil_append, List.contains_cons, List.contains_nil, icL, icT, icI, icS, icB, icN, icD, Nat.reduceBEq, Nat.reduceSub, Nat.reduceAdd, Bool.true_and, Bool.false_and, Bool.or_false, beq_self_eq_true]
      repeat (rw [evSs_c]; simp [evIo, evSs_n, asg, asgs, frz1, own?, ixN_nat, outs, ofI, divS, gN_cf, gN_io, gN_gl, gN_gd, gN_xr, gN_fr, wipeT_nil, wipeT_cons])
    · by_cases h : xs.length = 0
      · rw [runF_eq _ _ _ rfl]; simp only [F__law_times, b__law_times, ioM_f, ioM_t, startT, mark, List.replicate, List.cons_append, List.nil_append, List.contains_cons, List.contains_nil, icL, icT, icI, icS, icB, icN, icD, Nat.reduceBEq, Nat.reduceSub, Nat.reduceAdd, Bool.true_and, Bool.false_and, Bool.or_false, beq_self_eq_true]
        repeat (rw [evSs_c]; simp [evIo, evSs_n, asg, asgs, frz1, own?, ixN_nat, outs, ofI, divS, gN_cf, gN_io, gN_gl, gN_gd, gN_xr, gN_fr, wipeT_nil, wipeT_cons, h])
      · rw [runF_eq _ _ _ rfl]; simp only [F__law_times, b__law_times, ioM_f, ioM_t, startT, mark, List.replicate, List.cons_append, List.nil_append, List.contains_cons, List.contains_nil, icL, icT, icI, icS, icB, icN, icD, Nat.reduceBEq, Nat.reduceSub, Nat.reduceAdd, Bool.true_and, Bool.false_and, Bool.or_false, beq_self_eq_true]
        repeat (rw [evSs_c]; simp [evIo, evSs_n, asg, asgs, frz1, own?, ixN_nat, outs, ofI, divS, gN_cf, gN_io, gN_gl, gN_gd, gN_xr, gN_fr, wipeT_nil, wipeT_cons, h])
  · unfold pm
    rw [if_neg h0]
    simp only [not_or] at h0
    obtain ⟨n1, n2⟩ := h0
    have h1 : 0 < xs.length := List.length_pos_iff.mpr n1
    have h2 : 0 < ys.length := List.length_pos_iff.mpr n2
    have hz : evE (gN p m) (.comp (.k (.int 0)) (.n 3) (.r1 (.bin .Sub (.bin .Add (.bi .len (.cons (.v 0) .nil)) (.bi .len (.cons (.v 1) .nil))) (.k (.int 1)))) .no [3]) [some (false, iT xs), some (false, iT ys), none, none, none, none] = .ok (iL (tmR xs ys 0), []) := by
      refine comp_zeros (xs.length + ys.length - 1) ?_ (by omega)
      unfold EvI
      have : ((xs.length + ys.length - 1 : Nat) : Int) = (xs.length : Int) + (ys.length : Int) - 1 := by omega
      simp [evIo, evSs_n, asg, asgs, frz1, own?, ixN_nat, outs, ofI, divS, gN_cf, gN_io, gN_gl, gN_gd, gN_xr, gN_fr, wipeT_nil, wipeT_cons, this]
    have lp := forL_ix (io := []) (dead := [3, 4, 5]) (t := .n 4) (body := evSs (gN p m) [] b__law_times_0) (rngL 0 xs.length) (fun j => [some (false, iT xs), some (false, iT ys), some (true, iL (tmR xs ys j)), none, none, none]) 0 fun k d hd => by
      obtain ⟨hk, rfl⟩ := rng_get hd
      rw [Nat.zero_add]
      have hi := tim_inner (g := gN p m) xs ys (tmR xs ys k) k hk (by rw [tmR_len]; omega) (hm _ (getD_mem hk))
      have e : addAt (xs.getD k 0) ys (tmR xs ys k) k = tmR xs ys (k + 1) := by unfold tmR; rw [fold_succ]
      rw [e] at hi
      have hr := rng1 (n := ys.length) (by omega)
      generalize tmR xs ys k = R at *
      generalize tmR xs ys (k + 1) = R' at *
      exact Turn.of rfl (by simp only [b__law_times_0]; repeat (rw [evSs_c]; simp [evIo, evSs_n, asg, asgs, frz1, own?, ixN_nat, outs, ofI, divS, gN_cf, gN_io, gN_gl, gN_gd, gN_xr, gN_fr, wipeT_nil, wipeT_cons, hi, hr]))
    rw [rng_len, Nat.zero_add, tmR_eq n1 n2] at lp
    have hr := rng1 (n := xs.length) (by omega)
    have e1 : ¬ xs.length = 0 := by omega
    have e2 : ¬ ys.length = 0 := by omega
    generalize tmR xs ys 0 = Z at *
    generalize pmul xs ys = R at *
    rw [runF_eq _ _ _ rfl]; simp only [F__law_times, b__law_times, ioM_f, ioM_t, startT, mark, List.replicate, List.cons_append, List.nil_append, List.contains_cons, List.contains_nil, icL, icT, icI, icS, icB, icN, icD, Nat.reduceBEq, Nat.reduceSub, Nat.reduceAdd, Bool.true_and, Bool.false_and, Bool.or_false, beq_self_eq_true]
    repeat (rw [evSs_c]; simp [evIo, evSs_n, asg, asgs, frz1, own?, ixN_nat, outs, ofI, divS, gN_cf, gN_io, gN_gl, gN_gd, gN_xr, gN_fr, wipeT_nil, wipeT_cons, e1, e2, n1, n2, hz, lp, hr, -ev_evE_comp])
/-! ### primitive parts -/
theorem cont_fold (xs : List Int) : cont xs = xs.foldl (fun (g : Nat) a => Int.gcd (g : Int) a) 0 := rfl
theorem lpri_loop {p : Pr} (H : H43 p) {B : Nat} (hB : B ≤ 134217720) {m : Nat} (hm : 1 ≤ m) (xs : List Int) (hb : ∀ a ∈ xs, Bd B a) :
    forL [] [2] (.n 2) (evSs (gN p m) [] b__law_primitive_0) (xs.map .int) [some (false, iT xs), some (false, .int 0), none] = .nx [some (false, iT xs), some (false, .int (cont xs : Nat)), none] := by
  have i1 := io_of H.ldiv
  simp only [F__law_divisor] at i1
  have hl := (forL_fold (io := []) (dead := [2]) (t := .n 2) (body := evSs (gN p m) [] b__law_primitive_0) (fun g : Nat => [some (false, iT xs), some (false, .int (g : Int)), none]) PyData.int (fun g a => Int.gcd (g : Int) a) (fun g => Bd B (g : Int)) xs 0 (Bd.zero B) (fun g a ha hg => ⟨by
    have hc := (ldiv_cl H.ldiv H.wn hB hg (hb a ha)).at hm
    generalize Int.gcd (g : Int) a = d at *
    exact Turn.of rfl (by simp only [b__law_primitive_0]; repeat (rw [evSs_c]; simp [evIo, evSs_n, asg, asgs, frz1, own?, ixN_nat, outs, ofI, divS, gN_cf, gN_io, gN_gl, gN_gd, gN_xr, gN_fr, wipeT_nil, wipeT_cons, hc, i1])), gcd_bd hg (hb a ha)⟩)).1
  simp only [Int.ofNat_eq_natCast, Int.natCast_zero] at hl
  exact hl
theorem lpri0_cl {p : Pr} (H : H43 p) : Cl p 2 133 [iT []] (iT [], []) := by
  refine Cl.mk H.lpri fun m hm => ?_
  have lp := lpri_loop H (Nat.le_refl _) hm [] (by simp)
  have : ((cont [] : Nat) : Int) = 0 := rfl
  rw [this] at lp
  have lp : forL [] [2] (.n 2) (evSs (gN p m) [] b__law_primitive_0) [] [some (false, iT []), some (false, .int 0), none] = .nx [some (false, iT []), some (false, .int 0), none] := lp
  rw [runF_eq _ _ _ rfl]; simp only [F__law_primitive, b__law_primitive, ioM_f, ioM_t, startT, mark, List.replicate, List.cons_append, List.nil_append, List.contains_cons, List.contains_nil, icL, icT, icI, icS, icB, icN, icD, Nat.reduceBEq, Nat.reduceSub, Nat.reduceAdd, Bool.true_and, Bool.false_and, Bool.or_false, beq_self_eq_true]
  repeat (rw [evSs_c]; simp [evIo, evSs_n, asg, asgs, frz1, own?, ixN_nat, outs, ofI, divS, gN_cf, gN_io, gN_gl, gN_gd, gN_xr, gN_fr, wipeT_nil, wipeT_cons, lp])
theorem lpri_cl {p : Pr} (H : H43 p) {B : Nat} (hB : B ≤ 134217720) {g : List Int} {c : Int} (hg : Nrm g) (hc : c ≠ 0) (hb : ∀ a ∈ g.map (· * c), Bd B a) (hz : g.length ≤ 100000) : Cl p 2 133 [iT (g.map (· * c))] (iT g, []) := by
  refine Cl.mk H.lpri fun m hm => ?_
  have lp := lpri_loop H hB hm (g.map (· * c)) hb
  rw [cont_scale hg.2.2 hc] at lp
  have hlast := at_last (xs := g.map (· * c)) (by simpa using hg.1)
  rw [lead_scale] at hlast
  have hcomp := comp_dv (g := gN p m) g c hc hz none
  have hn : ¬ c.natAbs = 0 := by omega
  have hn2 : ¬ ((c.natAbs : Nat) : Int) = 0 := by omega
  have hp := hg.2.1
  generalize g.map (· * c) = ys at *
  generalize lead g = l at *
  by_cases h : c < 0
  · have e1 : ((c.natAbs : Nat) : Int) = -c := by omega
    have e2 : l * c < 0 := Int.mul_neg_of_pos_of_neg hp h
    rw [e1] at lp
    rw [runF_eq _ _ _ rfl]; simp only [F__law_primitive, b__law_primitive, ioM_f, ioM_t, startT, mark, List.replicate, List.cons_append, List.nil_append, List.contains_cons, List.contains_nil, icL, icT, icI, icS, icB, icN, icD, Nat.reduceBEq, Nat.reduceSub, Nat.reduceAdd, Bool.true_and, Bool.false_and, Bool.or_false, beq_self_eq_true]
    repeat (rw [evSs_c]; simp [evIo, evSs_n, asg, asgs, frz1, own?, ixN_nat, outs, ofI, divS, gN_cf, gN_io, gN_gl, gN_gd, gN_xr, gN_fr, wipeT_nil, wipeT_cons, lp, hlast, hcomp, hc, e2, -ev_evE_comp])
  · have e1 : ((c.natAbs : Nat) : Int) = c := by omega
    have e2 : ¬ l * c < 0 := by have := Int.mul_pos hp (show 0 < c by omega); omega
    rw [e1] at lp
    rw [runF_eq _ _ _ rfl]; simp only [F__law_primitive, b__law_primitive, ioM_f, ioM_t, startT, mark, List.replicate, List.cons_append, List.nil_append, List.contains_cons, List.contains_nil, icL, icT, icI, icS, icB, icN, icD, Nat.reduceBEq, Nat.reduceSub, Nat.reduceAdd, Bool.true_and, Bool.false_and, Bool.or_false, beq_self_eq_true]
    repeat (rw [evSs_c]; simp [evIo, evSs_n, asg, asgs, frz1, own?, ixN_nat, outs, ofI, divS, gN_cf, gN_io, gN_gl, gN_gd, gN_xr, gN_fr, wipeT_nil, wipeT_cons, lp, hlast, hcomp, hc, e2, -ev_evE_comp])
/-! ### readings -/
theorem lisp_cl {p : Pr} (h : p.fs 134 = some F__law_is_poly) {xs : List Int} (hx : IsP xs) : Cl p 1 134 [iT xs] (.bool true, []) := by
  refine Cl.mk h fun m _ => ?_
  have lp := forL_same (io := []) (dead := [1]) (t := .n 1) (body := evSs (gN p m) [] b__law_is_poly_0) (τ := [some (false, iT xs), none]) (xs.map .int) fun d hd => by
    obtain ⟨a, _, rfl⟩ := List.mem_map.mp hd
    exact Turn.of rfl (by simp only [b__law_is_poly_0]; repeat (rw [evSs_c]; simp [evIo, evSs_n, asg, asgs, frz1, own?, ixN_nat, outs, ofI, divS, gN_cf, gN_io, gN_gl, gN_gd, gN_xr, gN_fr, wipeT_nil, wipeT_cons, isiD, isT, tyOf]))
  by_cases h0 : xs = []
  · subst h0
    have lp : forL [] [1] (.n 1) (evSs (gN p m) [] b__law_is_poly_0) [] [some (false, iT []), none] = .nx [some (false, iT []), none] := lp
    rw [runF_eq _ _ _ rfl]; simp only [F__law_is_poly, b__law_is_poly, ioM_f, ioM_t, startT, mark, List.replicate, List.cons_append, List.nil_append, List.contains_cons, List.contains_nil, icL, icT, icI, icS, icB, icN, icD, Nat.reduceBEq, Nat.reduceSub, Nat.reduceAdd, Bool.true_and, Bool.false_and, Bool.or_false, beq_self_eq_true]
    repeat (rw [evSs_c]; simp [evIo, evSs_n, asg, asgs, frz1, own?, ixN_nat, outs, ofI, divS, gN_cf, gN_io, gN_gl, gN_gd, gN_xr, gN_fr, wipeT_nil, wipeT_cons, lp, isiD, isT, tyOf])
  · have ha := at_last h0
    have h1 := (isP_lead h0).mp hx
    have h2 : ¬ xs.length = 0 := by have := List.length_pos_iff.mpr h0; omega
    rw [runF_eq _ _ _ rfl]; simp only [F__law_is_poly, b__law_is_poly, ioM_f, ioM_t, startT, mark, List.replicate, List.cons_append, List.nil_append, List.contains_cons, List.contains_nil, icL, icT, icI, icS, icB, icN, icD, Nat.reduceBEq, Nat.reduceSub, Nat.reduceAdd, Bool.true_and, Bool.false_and, Bool.or_false, beq_self_eq_true]
    repeat (rw [evSs_c]; simp [evIo, evSs_n, asg, asgs, frz1, own?, ixN_nat, outs, ofI, divS, gN_cf, gN_io, gN_gl, gN_gd, gN_xr, gN_fr, wipeT_nil, wipeT_cons, lp, isiD, isT, tyOf, ha, h0, h1, h2])
theorem lali_cl {p : Pr} (H : H43 p) {xs : List Int} (hx : IsP xs) : Cl p 2 135 [iT xs, iT xs] (.bool true, []) := by
  refine Cl.mk H.lali fun m hm => ?_
  have h1 := (lisp_cl H.lisp hx).at hm
  have i1 := io_of H.lisp
  simp only [F__law_is_poly] at i1
  have e := eqT_ints xs xs
  rw [decide_eq_true rfl] at e
  rw [runF_eq _ _ _ rfl]; simp only [F__law_alike, b__law_alike, ioM_f, ioM_t, startT, mark, List.replicate, List.cons_append, List.nil_append, List.contains_cons, List.contains_nil, icL, icT, icI, icS, icB, icN, icD, Nat.reduceBEq, Nat.reduceSub, Nat.reduceAdd, Bool.true_and, Bool.false_and, Bool.or_false, beq_self_eq_true]
  repeat (rw [evSs_c]; simp [evIo, evSs_n, asg, asgs, frz1, own?, ixN_nat, outs, ofI, divS, gN_cf, gN_io, gN_gl, gN_gd, gN_xr, gN_fr, wipeT_nil, wipeT_cons, h1, i1, e])
end Mp

/-! k43: divisions and quotients, by the law -/
namespace Mp
open PySem PySem.Spec PyProof.Rows L2
theorem isT_tup (ds : List D) : isiD (.tuple ds) [.b "tuple"] = some true := rfl
/-- the law's division answers with the program's -/
theorem ldvs_cl {p : Pr} (H : H43 p) {x y : List Int} {bx b : Nat} (hx : IsP x) (hy : IsP y) (hn : y ≠ []) (hbx : ∀ a ∈ x, Bd bx a) (hb : ∀ a ∈ y, Bd b a) (hl : x.length + y.length ≤ 80000) (hB : bx + 1 + (x.length + 2 - y.length) * (b + 1) + bx + b ≤ 134217728) :
    ∃ (c : Int) (q r : List Int), 0 < c ∧ IsP q ∧ IsP r ∧ r.length < y.length ∧ (∀ t, c * pev x t = pev q t * pev y t + pev r t) ∧ Bd (bx + 1 + (x.length + 1 - y.length) * (b + 1)) c ∧ Cl p 3 136 [iT x, iT y] (.tuple [.int c, iT q, iT r], []) := by
  have hl0 := (isP_lead hn).mp hy
  have hy0 : 0 < y.length := List.length_pos_iff.mpr hn
  obtain ⟨cp, DB⟩ := pdv_cl H.toHPoly hn hl0 hbx hb hl (by omega)
  have J := pdiv_ok x y hn hl0
  have hrl := J.rest_len hn
  have hs := J.s
  have id : ∀ t, (pdiv x y).s * pev x t = pev (trm (pdiv x y).q) t * pev y t + pev (trm (pdiv x y).r) t := fun t => by rw [pev_trm, pev_trm]; exact J.id t
  have qP := isP_trm (pdiv x y).q
  have rP := isP_trm (pdiv x y).r
  have ql : (trm (pdiv x y).q).length ≤ x.length + 1 - y.length := by have := trm_len (pdiv x y).q; rw [J.ql] at this; exact this
  have qB : ∀ a ∈ trm (pdiv x y).q, Bd (bx + 1 + (x.length + 1 - y.length) * (b + 1)) a := fun a h => DB.q a (trm_mem h)
  have sB := DB.s
  have e1 : (x.length + 2 - y.length) * (b + 1) = (x.length + 1 - y.length) * (b + 1) + (x.length + 2 - y.length - (x.length + 1 - y.length)) * (b + 1) := by
    rw [← Nat.add_mul]; congr 1; omega
  generalize (x.length + 2 - y.length - (x.length + 1 - y.length)) * (b + 1) = w at *
  generalize (x.length + 1 - y.length) * (b + 1) = z at *
  generalize (pdiv x y).s = c at *
  generalize trm (pdiv x y).q = q at *
  generalize trm (pdiv x y).r = r at *
  refine ⟨c, q, r, hs, qP, rP, hrl, id, sB, Cl.mk H.ldvs fun m hm => ?_⟩
  have cp := cp.at hm
  have c1 := (lisp_cl H.lisp (xs := [c]) (isP_one.mpr (by omega))).at (show 1 ≤ m by omega)
  have c2 := (lisp_cl H.lisp qP).at (show 1 ≤ m by omega)
  have c3 := (lisp_cl H.lisp rP).at (show 1 ≤ m by omega)
  have s1 := (lsca_cl H.lsca x c (by omega) fun a ha => mulB (hbx a ha) sB (by omega)).at (show 1 ≤ m by omega)
  have t1 := (ltim_cl H.ltim (xs := q) (ys := y) (by omega) fun a ha b' hb' => mulB (qB a ha) (hb b' hb') (by omega)).at (show 1 ≤ m by omega)
  have pl := pm_len (q := q) (n := y)
  have p1 := (lplu_cl H.lplu (pm q y) r (by omega) (by omega)).at (show 1 ≤ m by omega)
  have e : trm (padd (pm q y) r) = x.map (· * c) := isP_uniq (isP_trm _) (isP_scale hx (by omega)) 0 fun t _ => by rw [pev_trm, pev_padd, pev_pm, pev_scale, id]
  rw [e] at p1
  have i1 := io_of H.pdv
  have i2 := io_of H.lisp
  have i3 := io_of H.lsca
  have i4 := io_of H.lplu
  have i5 := io_of H.ltim
  simp only [F_pseudo_division] at i1
  simp only [F__law_is_poly] at i2
  simp only [F__law_scaled] at i3
  simp only [F__law_plus] at i4
  simp only [F__law_times] at i5
  have eq := eqT_ints (x.map (· * c)) (x.map (· * c))
  rw [decide_eq_true rfl] at eq
  have hc1 : ¬ c < 1 := by omega
  have hrl2 : ¬ y.length ≤ r.length := by omega
  have hrl3 : ¬ ((y.length : Nat) : Int) ≤ ((r.length : Nat) : Int) := by omega
  clear e
  generalize x.map (· * c) = xc at *
  generalize pm q y = qy at *
  have c1 : callN p m 134 [.tuple [.int c]] = R.ok (.bool true, []) := c1
  rw [runF_eq _ _ _ rfl]; simp only [F__law_division, b__law_division, ioM_f, ioM_t, startT, mark, List.replicate, List.cons_append, List.nil_append, List.contains_cons, List.contains_nil, icL, icT, icI, icS, icB, icN, icD, Nat.reduceBEq, Nat.reduceSub, Nat.reduceAdd, Bool.true_and, Bool.false_and, Bool.or_false, beq_self_eq_true]
  repeat (rw [evSs_c]; simp [evIo, evSs_n, asg, asgs, frz1, own?, ixN_nat, outs, ofI, divS, gN_cf, gN_io, gN_gl, gN_gd, gN_xr, gN_fr, wipeT_nil, wipeT_cons, cp, c1, c2, c3, s1, t1, p1, i1, i2, i3, i4, i5, eq, hc1, hrl2, hrl3, isT_tup])
theorem emod_abs {a f : Int} (hf : f ≠ 0) : a % ((f.natAbs : Nat) : Int) = 0 ↔ f ∣ a := by
  rw [← Int.dvd_iff_emod_eq_zero]
  exact Int.natAbs_dvd
theorem flt_ev {g : G} (q : List Int) (f : Int) (hf : f ≠ 0) (hz : q.length ≤ 100000) (a1 a2 a4 a5 a6 a7 a8 : Option (Bool × D)) :
    evE g (.comp (.v 9) (.n 9) (.it (.v 0)) (.yes (.cmp .NotEq (.bin .Mod (.bi .int (.cons (.v 9) .nil)) (.bi .abs (.cons (.v 3) .nil))) (.k (.int 0)))) [9]) [some (false, iT q), a1, a2, some (false, .int f), a4, a5, a6, a7, a8, none] = .ok (iL (q.filter fun a => !decide (f ∣ a)), []) := by
  have hp : (0 : Int) < (f.natAbs : Nat) := by omega
  have ab : biD .abs [.int f] = some (.int ((f.natAbs : Nat) : Int)) := by
    rw [absI]; congr 2; split <;> omega
  have := compL_eq (elt := evE g (.v 9)) (cond := evC g (.yes (.cmp .NotEq (.bin .Mod (.bi .int (.cons (.v 9) .nil)) (.bi .abs (.cons (.v 3) .nil))) (.k (.int 0))))) (t := .n 9) (own := [9]) (τw := [some (false, iT q), a1, a2, some (false, .int f), a4, a5, a6, a7, a8, none]) (g := PyData.int) (f := PyData.int) (p := fun a => !decide (f ∣ a)) q fun a ha => ⟨[some (false, iT q), a1, a2, some (false, .int f), a4, a5, a6, a7, a8, some (false, .int a)], by
    unfold asg; simp, by
      by_cases hd : f ∣ a
      · have e := (emod_abs hf).mpr hd
        generalize ((f.natAbs : Nat) : Int) = k at *
        simp [evIo, evSs_n, asg, asgs, frz1, own?, ixN_nat, outs, ofI, divS, gN_cf, gN_io, gN_gl, gN_gd, gN_xr, gN_fr, wipeT_nil, wipeT_cons, ab, hp, e, hd, -absI]
      · have e : ¬ a % ((f.natAbs : Nat) : Int) = 0 := fun z => hd ((emod_abs hf).mp z)
        generalize ((f.natAbs : Nat) : Int) = k at *
        simp [evIo, evSs_n, asg, asgs, frz1, own?, ixN_nat, outs, ofI, divS, gN_cf, gN_io, gN_gl, gN_gd, gN_xr, gN_fr, wipeT_nil, wipeT_cons, ab, hp, e, hd, -absI], fun _ => by simp [evIo, evSs_n, asg, asgs, frz1, own?, ixN_nat, outs, ofI, divS, gN_cf, gN_io, gN_gl, gN_gd, gN_xr, gN_fr, wipeT_nil, wipeT_cons]⟩
  unfold evE
  rw [show evI g (.it (.v 0)) [some (false, iT q), a1, a2, some (false, .int f), a4, a5, a6, a7, a8, none] = .ok (q.map .int, []) by simp [evIo, evSs_n, asg, asgs, frz1, own?, ixN_nat, outs, ofI, divS, gN_cf, gN_io, gN_gl, gN_gd, gN_xr, gN_fr, wipeT_nil, wipeT_cons]]
  simp only [R.bind_ok, List.length_map, if_pos (szs hz), lkI_nil, frz_nil]
  rw [show wipeT [some (false, iT q), a1, a2, some (false, PyData.int f), a4, a5, a6, a7, a8, none] [9] = [some (false, iT q), a1, a2, some (false, .int f), a4, a5, a6, a7, a8, none] from rfl, this]
  rfl
theorem dv9_ev {g : G} (c : List Int) (f : Int) (hf : f ≠ 0) (hz : c.length ≤ 100000) (a1 a2 a4 a5 a6 a7 a8 : Option (Bool × D)) :
    evE g (.comp (.bin .FloorDiv (.v 9) (.v 3)) (.n 9) (.it (.v 0)) .no [9]) [some (false, iT (c.map (· * f))), a1, a2, some (false, .int f), a4, a5, a6, a7, a8, none] = .ok (iL c, []) := by
  have := comp_map (g := g) (τ := [some (false, iT (c.map (· * f))), a1, a2, some (false, .int f), a4, a5, a6, a7, a8, none]) (elt := .bin .FloorDiv (.v 9) (.v 3)) (it := .it (.v 0)) (i := 9) (own := [9]) (L := []) (c.map (· * f)) PyData.int (fun a => .int (fq a f)) (by simp) rfl (szs (by simpa using hz)) (fun a ha => by
    have := fq_bin (i := a) hf
    simp [evIo, evSs_n, asg, asgs, frz1, own?, ixN_nat, outs, ofI, divS, gN_cf, gN_io, gN_gl, gN_gd, gN_xr, gN_fr, wipeT_nil, wipeT_cons, this, -bDiv])
  rw [this]
  unfold iL
  conv => rhs; rw [← dv_list (xs := c) hf]
  rw [List.map_map, List.map_map, List.map_map]; rfl
/-- all that is asked of q, y, r and a factor -/
theorem lquo_cl {p : Pr} (H : H43 p) {q y r : List Int} {f : Int} (qP : IsP q) (yP : IsP y) (rP : IsP r) (yn : y ≠ []) (hr : r.length < y.length) (hf : f ≠ 0) (hf2 : -(2 ^ 64) < f ∧ f < 2 ^ 64)
    (bq : ∀ a ∈ q, Bd 60 a) (by_ : ∀ a ∈ y, Bd 60 a) (br : ∀ a ∈ r, Bd 60 a) (lq : q.length ≤ 100) (ly : y.length ≤ 100) (byf : ∀ a ∈ y.map (· * f), Bd 130 a) : Cl p 5 137 [iT q, iT y, iT r, .int f] (.bool true, []) := by
  have hl0 := (isP_lead yn).mp yP
  have hy0 : 0 < y.length := List.length_pos_iff.mpr yn
  have small : ∀ {a : Int}, Bd 60 a → -(2 ^ 64) < a ∧ a < 2 ^ 64 := fun {a} h => by
    unfold Bd at h
    have : (2 : Nat) ^ 60 = 1152921504606846976 := by decide
    omega
  have mq : ∀ a ∈ q, ∀ b, mulOk a b = true := fun a ha b => mulL (small (bq a ha))
  have my : ∀ a ∈ y, ∀ b, mulOk a b = true := fun a ha b => mulL (small (by_ a ha))
  have PP := isP_pm qP yP
  have PB : ∀ a ∈ pm q y, Bd 220 a := fun a ha => (pm_bd bq by_ a ha).mono (by omega)
  have pl := pm_len (q := q) (n := y)
  have plx : pm q y = [] ↔ q = [] := by
    unfold pm
    constructor
    · intro h
      split at h
      · rename_i z; exact z.resolve_right yn
      · rename_i z; simp only [not_or] at z; exact absurd h (pmul_ne z.1 z.2)
    · intro h; rw [if_pos (.inl h)]
  have pll : q ≠ [] → (pm q y).length = q.length + y.length - 1 := fun h => by
    unfold pm
    rw [if_neg (by simp [h, yn]), pmul_len q y h yn]
  -- the products
  have t1 := ltim_cl H.ltim (xs := q) (ys := y) (by omega) fun a ha b hb => mq a ha b
  have d1 : Cl p 2 113 [iT q, iT y] (iT (pm q y), []) := by
    have := prod_cl H.toHPoly (xs := q) (ys := y) (by omega) (fun a ha b hb => mq a ha b) qP yP
    unfold pm
    split at this <;> rename_i z
    · rw [if_pos z]; exact this
    · rw [if_neg z]; exact this
  have d2 : Cl p 2 113 [iT y, iT q] (iT (pm q y), []) := by
    have := prod_cl H.toHPoly (xs := y) (ys := q) (by omega) (fun a ha b hb => my a ha b) yP qP
    unfold pm
    split at this <;> rename_i z
    · rw [if_pos z.symm]; exact this
    · have z' := z
      simp only [not_or] at z'
      rw [if_neg (fun w => z w.symm), pmul_comm q y z'.2 z'.1]; exact this
  have al := lali_cl H PP
  -- x
  have xl := trm_len (padd (pm q y) r)
  rw [padd_len] at xl
  have xP := isP_trm (padd (pm q y) r)
  have xe : ∀ t, pev (trm (padd (pm q y) r)) t = pev q t * pev y t + pev r t := fun t => by rw [pev_trm, pev_padd, pev_pm]
  have xB : ∀ a ∈ trm (padd (pm q y) r), Bd 221 a := fun a ha => padd_mem PB (fun a ha => (br a ha).mono (by omega)) a (trm_mem ha)
  have xn : (trm (padd (pm q y) r)).length + 1 - y.length = q.length := by
    by_cases h : q = []
    · have h2 : pm q y = [] := plx.mpr h
      rw [h2]
      have : padd [] r = r := by simp [padd]
      rw [this, trm_isP rP, h]
      simp; omega
    · have h1 := pll h
      have : padd (pm q y) r = padd r (pm q y) := by
        refine ext_getD (by rw [padd_len, padd_len, Nat.max_comm]) fun i => by rw [padd_get, padd_get, Int.add_comm]
      have hq0 : 0 < q.length := List.length_pos_iff.mpr h
      have hlt : r.length < (pm q y).length := by omega
      have isp : IsP (padd r (pm q y)) := by
        unfold IsP
        rw [padd_last r (pm q y) hlt]
        exact PP
      rw [this, trm_isP isp, padd_len]
      omega
  have p1 := lplu_cl H.lplu (pm q y) r (by omega) (by omega)
  generalize hX : trm (padd (pm q y) r) = x at *
  have E1 : ExH x y q r 1 := ⟨yn, hl0, qP, rP, hr, by decide, xe, xn⟩
  have y1 : y.map (· * (1 : Int)) = y := by simp
  have x1 := exq_cl H.toHPoly E1 (fun c ⟨a, ha, hc⟩ b hb => by
    rw [Int.mul_one] at hc
    subst hc
    exact mq c ha b) (by omega)
  rw [y1] at x1
  have hB : 221 + 1 + (x.length + 2 - y.length) * (60 + 1) + 221 + 60 ≤ 134217728 := by
    have : (x.length + 2 - y.length) * (60 + 1) ≤ 1000 * 61 := Nat.mul_le_mul_right _ (by omega)
    omega
  obtain ⟨c, Q, R, c0, QP, RP, Rl, cid, cB, dv⟩ := ldvs_cl H xP yP yn xB by_ (by omega) hB
  have cB2 : Bd 70000 c := cB.mono (by
    have : (x.length + 1 - y.length) * (60 + 1) ≤ 1000 * 61 := Nat.mul_le_mul_right _ (by omega)
    omega)
  have uq := div_uniq (y := y) (a := Q) (r := R) (b := q.map (· * c)) (s := r.map (· * c)) yP yn Rl (by rw [List.length_map]; exact hr) 0 fun t _ => by
    rw [pev_scale, pev_scale, ← cid, xe]
    generalize pev q t = A
    generalize pev y t = B
    generalize pev r t = C
    grobner
  obtain ⟨M, hM⟩ := uq
  have eQ : Q = q.map (· * c) := isP_uniq QP (isP_scale qP (by omega)) M fun t ht => (hM t ht).1
  have eR : R = r.map (· * c) := isP_uniq RP (isP_scale rP (by omega)) M fun t ht => (hM t ht).2
  subst eQ eR
  have s1 := lsca_cl H.lsca q c (by omega) fun a ha => mq a ha c
  have s2 := lsca_cl H.lsca r c (by omega) fun a ha => mulL (small (br a ha))
  have s3 := lsca_cl H.lsca y f (by omega) fun a ha => my a ha f
  have s4 := lsca_cl H.lsca (pm q y) f (by omega) fun a ha => mulR hf2
  -- the wide divisor
  have mw : ∀ c' : Int, (∃ a ∈ q, c' * f = a) → ∀ b ∈ y.map (· * f), mulOk c' b = true := fun c' ⟨a, ha, hc⟩ b hb => by
    refine mulL (small ((bq a ha).of_le ?_))
    rw [← hc, Int.natAbs_mul]
    exact Nat.le_mul_of_pos_right _ (by omega)
  have pn : (pm q y).length + 1 - y.length = q.length := by
    by_cases h : q = []
    · rw [plx.mpr h, h]; simp; omega
    · rw [pll h]; have := List.length_pos_iff.mpr h; omega
  have E2 : ExH (pm q y) y q [] f := ⟨yn, hl0, qP, isP_nil, by simpa using hy0, hf, fun t => by rw [pev_pm]; simp [pev], pn⟩
  have x2 := exq_cl H.toHPoly E2 mw (by omega)
  have E3 : ExH ((pm q y).map (· * f)) y (q.map (· * f)) [] f := by
    refine ⟨yn, hl0, isP_scale qP hf, isP_nil, by simpa using hy0, hf, fun t => ?_, by rw [List.length_map, List.length_map]; exact pn⟩
    rw [pev_scale, pev_scale, pev_pm]
    simp only [pev]
    generalize pev q t = A
    generalize pev y t = B
    grobner
  have x3 := (exq_cl H.toHPoly E3 (fun c' ⟨a, ha, hc⟩ b hb => by
    obtain ⟨a', ha', rfl⟩ := List.mem_map.mp ha
    have : c' = a' := Int.eq_of_mul_eq_mul_right hf hc
    subst this
    exact mq c' ha' b) (by rw [List.length_map]; omega)).1 q rfl rfl
  have aq := lali_cl H qP
  have io1 := io_of H.ltim
  have io2 := io_of H.prod
  have io3 := io_of H.lali
  have io4 := io_of H.lplu
  have io5 := io_of H.exq
  have io6 := io_of H.ldvs
  have io7 := io_of H.lsca
  simp only [F__law_times] at io1
  simp only [F_product_of_polys] at io2
  simp only [F__law_alike] at io3
  simp only [F__law_plus] at io4
  simp only [F_exact_quotient] at io5
  simp only [F__law_division] at io6
  simp only [F__law_scaled] at io7
  have eqq := eqT_ints (q.map (· * c)) (q.map (· * c))
  have eqr := eqT_ints (r.map (· * c)) (r.map (· * c))
  rw [decide_eq_true rfl] at eqq eqr
  -- told, by r
  have told : ∃ d : D, Cl p 2 120 [iT x, iT y] (d, []) ∧ ((r = [] ∧ d = iT q) ∨ (r ≠ [] ∧ d = .none)) := by
    by_cases h : r = []
    · exact ⟨_, x1.1 q h (by simp), .inl ⟨h, rfl⟩⟩
    · exact ⟨_, x1.2 (.inl h), .inr ⟨h, rfl⟩⟩
  obtain ⟨d, td, hd⟩ := told
  clear x1 E1 E2 E3 cid xe hM
  have rn0 : r ≠ [] → (0 : Int) < (r.length : Nat) ∧ 0 < r.length := fun h => by have := List.length_pos_iff.mpr h; omega
  by_cases hall : ∀ a ∈ q, f ∣ a
  · obtain ⟨c', hc'⟩ := dvd_all_iff.mp hall
    have x2 := x2.1 c' rfl hc'
    have c'P : IsP c' := isP_unscale (hc' ▸ qP)
    have ac := lali_cl H c'P
    have hfl : (q.filter fun a => !decide (f ∣ a)) = [] := by
      rw [List.filter_eq_nil_iff]
      intro a ha
      simp [hall a ha]
    refine Cl.mk H.lquo fun m hm => ?_
    have t1 := t1.at (show 1 ≤ m by omega)
    have d1 := d1.at (show 2 ≤ m by omega)
    have d2 := d2.at (show 2 ≤ m by omega)
    have al := al.at (show 2 ≤ m by omega)
    have p1 := p1.at (show 1 ≤ m by omega)
    have td := td.at (show 2 ≤ m by omega)
    have dv := dv.at (show 3 ≤ m by omega)
    have s1 := s1.at (show 1 ≤ m by omega)
    have s2 := s2.at (show 1 ≤ m by omega)
    have s3 := s3.at (show 1 ≤ m by omega)
    have s4 := s4.at (show 1 ≤ m by omega)
    have x2 := x2.at (show 2 ≤ m by omega)
    have x3 := x3.at (show 2 ≤ m by omega)
    have aq := aq.at (show 2 ≤ m by omega)
    have ac := ac.at (show 2 ≤ m by omega)
    have flt := fun a1 a2 a4 a5 a6 a7 a8 => flt_ev (g := gN p m) q f hf (by omega) a1 a2 a4 a5 a6 a7 a8
    have lc : c'.length ≤ 100000 := by have := congrArg List.length hc'; rw [List.length_map] at this; omega
    have dv9 := fun a1 a2 a4 a5 a6 a7 a8 => dv9_ev (g := gN p m) c' f hf lc a1 a2 a4 a5 a6 a7 a8
    rw [hfl] at flt
    rw [← hc'] at dv9
    clear hfl
    generalize (pm q y).map (· * f) = PW at *
    generalize pm q y = P at *
    generalize y.map (· * f) = W at *
    generalize q.map (· * c) = qc at *
    generalize r.map (· * c) = rc at *
    rcases hd with ⟨h1, h2⟩ | ⟨h1, h2⟩
    · subst h2
      have l0 : r.length = 0 := by rw [h1]; rfl
      rw [runF_eq _ _ _ rfl]; simp only [F__law_quotients_hold, b__law_quotients_hold, ioM_f, ioM_t, startT, mark, List.replicate, List.cons_append, List.nil_append, List.contains_cons, List.contains_nil, icL, icT, icI, icS, icB, icN, icD, Nat.reduceBEq, Nat.reduceSub, Nat.reduceAdd, Bool.true_and, Bool.false_and, Bool.or_false, beq_self_eq_true]
      repeat (rw [evSs_c]; simp [evIo, evSs_n, asg, asgs, frz1, own?, ixN_nat, outs, ofI, divS, gN_cf, gN_io, gN_gl, gN_gd, gN_xr, gN_fr, wipeT_nil, wipeT_cons, t1, d1, d2, al, p1, td, dv, s1, s2, s3, s4, x2, x3, aq, ac, flt, dv9, io1, io2, io3, io4, io5, io6, io7, eqq, eqr, l0, isNone, -ev_evE_comp])
    · subst h2
      obtain ⟨r0, r1⟩ := rn0 h1
      rw [runF_eq _ _ _ rfl]; simp only [F__law_quotients_hold, b__law_quotients_hold, ioM_f, ioM_t, startT, mark, List.replicate, List.cons_append, List.nil_append, List.contains_cons, List.contains_nil, icL, icT, icI, icS, icB, icN, icD, Nat.reduceBEq, Nat.reduceSub, Nat.reduceAdd, Bool.true_and, Bool.false_and, Bool.or_false, beq_self_eq_true]
      repeat (rw [evSs_c]; simp [evIo, evSs_n, asg, asgs, frz1, own?, ixN_nat, outs, ofI, divS, gN_cf, gN_io, gN_gl, gN_gd, gN_xr, gN_fr, wipeT_nil, wipeT_cons, t1, d1, d2, al, p1, td, dv, s1, s2, s3, s4, x2, x3, aq, ac, flt, dv9, io1, io2, io3, io4, io5, io6, io7, eqq, eqr, r0, r1, h1, isNone, -ev_evE_comp])
  · have hex : ∃ a ∈ q, ¬ f ∣ a := Classical.byContradiction fun z => hall fun a ha => Classical.byContradiction fun w => z ⟨a, ha, w⟩
    have x2 := x2.2 (.inr hex)
    have hfl : 0 < (q.filter fun a => !decide (f ∣ a)).length := by
      obtain ⟨a, ha, h⟩ := hex
      exact List.length_pos_iff.mpr (List.ne_nil_of_mem (List.mem_filter.mpr ⟨ha, by simp [h]⟩))
    refine Cl.mk H.lquo fun m hm => ?_
    have t1 := t1.at (show 1 ≤ m by omega)
    have d1 := d1.at (show 2 ≤ m by omega)
    have d2 := d2.at (show 2 ≤ m by omega)
    have al := al.at (show 2 ≤ m by omega)
    have p1 := p1.at (show 1 ≤ m by omega)
    have td := td.at (show 2 ≤ m by omega)
    have dv := dv.at (show 3 ≤ m by omega)
    have s1 := s1.at (show 1 ≤ m by omega)
    have s2 := s2.at (show 1 ≤ m by omega)
    have s3 := s3.at (show 1 ≤ m by omega)
    have s4 := s4.at (show 1 ≤ m by omega)
    have x2 := x2.at (show 2 ≤ m by omega)
    have x3 := x3.at (show 2 ≤ m by omega)
    have aq := aq.at (show 2 ≤ m by omega)
    have flt := fun a1 a2 a4 a5 a6 a7 a8 => flt_ev (g := gN p m) q f hf (by omega) a1 a2 a4 a5 a6 a7 a8
    have hfn : (q.filter fun a => !decide (f ∣ a)) ≠ [] := List.length_pos_iff.mp hfl
    have hfl2 : (0 : Int) < ((q.filter fun a => !decide (f ∣ a)).length : Nat) := by omega
    clear hex hall
    generalize (q.filter fun a => !decide (f ∣ a)) = FL at *
    generalize (pm q y).map (· * f) = PW at *
    generalize pm q y = P at *
    generalize y.map (· * f) = W at *
    generalize q.map (· * c) = qc at *
    generalize r.map (· * c) = rc at *
    rcases hd with ⟨h1, h2⟩ | ⟨h1, h2⟩
    · subst h2
      have l0 : r.length = 0 := by rw [h1]; rfl
      rw [runF_eq _ _ _ rfl]; simp only [F__law_quotients_hold, b__law_quotients_hold, ioM_f, ioM_t, startT, mark, List.replicate, List.cons_append, List.nil_append, List.contains_cons, List.contains_nil, icL, icT, icI, icS, icB, icN, icD, Nat.reduceBEq, Nat.reduceSub, Nat.reduceAdd, Bool.true_and, Bool.false_and, Bool.or_false, beq_self_eq_true]
      repeat (rw [evSs_c]; simp [evIo, evSs_n, asg, asgs, frz1, own?, ixN_nat, outs, ofI, divS, gN_cf, gN_io, gN_gl, gN_gd, gN_xr, gN_fr, wipeT_nil, wipeT_cons, t1, d1, d2, al, p1, td, dv, s1, s2, s3, s4, x2, x3, aq, flt, hfl, hfl2, hfn, io1, io2, io3, io4, io5, io6, io7, eqq, eqr, l0, isNone, -ev_evE_comp])
    · subst h2
      obtain ⟨r0, r1⟩ := rn0 h1
      rw [runF_eq _ _ _ rfl]; simp only [F__law_quotients_hold, b__law_quotients_hold, ioM_f, ioM_t, startT, mark, List.replicate, List.cons_append, List.nil_append, List.contains_cons, List.contains_nil, icL, icT, icI, icS, icB, icN, icD, Nat.reduceBEq, Nat.reduceSub, Nat.reduceAdd, Bool.true_and, Bool.false_and, Bool.or_false, beq_self_eq_true]
      repeat (rw [evSs_c]; simp [evIo, evSs_n, asg, asgs, frz1, own?, ixN_nat, outs, ofI, divS, gN_cf, gN_io, gN_gl, gN_gd, gN_xr, gN_fr, wipeT_nil, wipeT_cons, t1, d1, d2, al, p1, td, dv, s1, s2, s3, s4, x2, x3, aq, flt, hfl, hfl2, hfn, io1, io2, io3, io4, io5, io6, io7, eqq, eqr, r0, r1, h1, isNone, -ev_evE_comp])
end Mp

/-! k43: values; products of powers -/
namespace Mp
open PySem PySem.Spec PyProof.Rows L2
theorem Bd.pow {b : Nat} {x : Int} (h : Bd b x) : ∀ k, Bd (b * k + 1) (x ^ k)
  | 0 => by unfold Bd; simp
  | k + 1 => by
    rw [Int.pow_succ]
    exact ((Bd.pow h k).mul h).mono (by rw [Nat.mul_add]; omega)
theorem intsOf_map : ∀ xs : List Int, intsOf (xs.map .int) = some xs
  | [] => rfl
  | x :: xs => by rw [List.map_cons, intsOf, intsOf_map xs]; rfl
theorem sum_ev (xs : List Int) : biD .sum [iL xs] = some (.int xs.sum) := by
  show (intsOf (xs.map .int)).map (fun is => PyData.int is.sum) = _
  rw [intsOf_map]; rfl
theorem sum_mul (t : Int) : ∀ xs : List Int, (xs.map fun a => t * a).sum = t * xs.sum
  | [] => by simp
  | x :: xs => by rw [List.map_cons, List.sum_cons, List.sum_cons, sum_mul t xs, Int.mul_add]
theorem tv_sum (t b : Int) : ∀ xs : List Int, (xs.foldr (fun a s => tvS t b s a) (0, 1)).2 = b ^ xs.length ∧ (xs.foldr (fun a s => tvS t b s a) (0, 1)).1 = ((List.range xs.length).map fun k => xs.getD k 0 * t ^ k * b ^ (xs.length - 1 - k)).sum
  | [] => ⟨by simp, rfl⟩
  | a :: xs => by
    obtain ⟨h1, h2⟩ := tv_sum t b xs
    rw [List.foldr_cons]
    generalize xs.foldr (fun a s => tvS t b s a) (0, 1) = S at *
    obtain ⟨S1, S2⟩ := S
    dsimp only at h1 h2
    subst h1 h2
    refine ⟨?_, ?_⟩
    · show b ^ xs.length * b = _
      rw [List.length_cons, Int.pow_succ]
    · show ((List.range xs.length).map fun k => xs.getD k 0 * t ^ k * b ^ (xs.length - 1 - k)).sum * t + a * b ^ xs.length = _
      rw [List.length_cons, List.range_succ_eq_map, List.map_cons, List.map_map, List.sum_cons]
      have : (List.range xs.length).map ((fun k => (a :: xs).getD k 0 * t ^ k * b ^ (xs.length + 1 - 1 - k)) ∘ Nat.succ) = ((List.range xs.length).map fun k => xs.getD k 0 * t ^ k * b ^ (xs.length - 1 - k)).map fun z => t * z := by
        rw [List.map_map]
        apply List.map_congr_left
        intro k _
        simp only [Function.comp, List.getD_cons_succ, Nat.succ_eq_add_one, Int.pow_succ, Nat.add_sub_cancel]
        rw [show xs.length - (k + 1) = xs.length - 1 - k by omega]
        generalize xs.getD k 0 = u
        generalize t ^ k = v
        generalize b ^ (xs.length - 1 - k) = w
        grobner
      rw [this, sum_mul]
      simp
      rw [Int.mul_comm t]; omega
theorem pev_sum (t : Int) : ∀ xs : List Int, pev xs t = ((List.range xs.length).map fun k => xs.getD k 0 * t ^ k).sum
  | [] => rfl
  | a :: xs => by
    rw [pev, pev_sum t xs, List.length_cons, List.range_succ_eq_map, List.map_cons, List.map_map, List.sum_cons]
    have : (List.range xs.length).map ((fun k => (a :: xs).getD k 0 * t ^ k) ∘ Nat.succ) = ((List.range xs.length).map fun k => xs.getD k 0 * t ^ k).map fun z => t * z := by
      rw [List.map_map]
      apply List.map_congr_left
      intro k _
      simp only [Function.comp, List.getD_cons_succ, Nat.succ_eq_add_one, Int.pow_succ]
      generalize xs.getD k 0 = u
      generalize t ^ k = v
      grobner
    rw [this, sum_mul]
    simp
theorem small7 {t : Int} (h : -99 ≤ t ∧ t ≤ 99) : Bd 7 t ∧ -(2 ^ 64) < t ∧ t < 2 ^ 64 := ⟨by unfold Bd; omega, by omega, by omega⟩
theorem lval_cl {p : Pr} (H : H43 p) {xs : List Int} {pt t b : Int} (hp : -99 ≤ pt ∧ pt ≤ 99) (ht : -99 ≤ t ∧ t ≤ 99) (hb : -99 ≤ b ∧ b ≤ 99) (bx : ∀ a ∈ xs, Bd 60 a) (hl : xs.length ≤ 100) : Cl p 2 138 [iT xs, .int pt, .int t, .int b] (.bool true, []) := by
  refine Cl.mk H.lval fun m hm => ?_
  obtain ⟨p1, p2⟩ := small7 hp
  obtain ⟨t1, t2⟩ := small7 ht
  obtain ⟨b1, b2⟩ := small7 hb
  have sm : ∀ a ∈ xs, -(2 ^ 64) < a ∧ a < 2 ^ 64 := fun a ha => by
    have h := bx a ha
    unfold Bd at h
    have : (2 : Nat) ^ 60 = 1152921504606846976 := by decide
    omega
  have i1 := io_of H.lpow
  have i2 := io_of H.topv
  have i3 := io_of H.valu
  simp only [F__law_power] at i1
  simp only [F_top_value] at i2
  simp only [F_value_of] at i3
  have c1 := (topv_cl H.toHPoly xs t b t2 b2 sm).at (show 1 ≤ m by omega)
  have c2 := (valu_cl H.toHPoly xs pt p2).at (show 1 ≤ m by omega)
  have mx : biD .max [.int ((xs.length : Int) - 1), .int 0] = some (.int ((xs.length - 1 : Nat) : Int)) := by
    rw [bi_max0]; congr 2; omega
  have k1 : ∀ a1 a5 : Option (Bool × D), evE (gN p m) (.comp (.bin .Mult (.bin .Mult (.sub (.v 0) (.v 6)) (.call 129 (.cons (.v 2) (.cons (.v 6) .nil)))) (.call 129 (.cons (.v 3) (.cons (.bin .Sub (.v 4) (.v 6)) .nil)))) (.n 6) (.r1 (.bi .len (.cons (.v 0) .nil))) .no [6]) [some (false, iT xs), a1, some (false, .int t), some (false, .int b), some (false, .int ((xs.length - 1 : Nat) : Int)), a5, none] = .ok (iL ((List.range xs.length).map fun k => xs.getD k 0 * t ^ k * b ^ (xs.length - 1 - k)), []) := fun a1 a5 => by
    have := comp_rng (g := gN p m) (τ := [some (false, iT xs), a1, some (false, .int t), some (false, .int b), some (false, .int ((xs.length - 1 : Nat) : Int)), a5, none]) (elt := .bin .Mult (.bin .Mult (.sub (.v 0) (.v 6)) (.call 129 (.cons (.v 2) (.cons (.v 6) .nil)))) (.call 129 (.cons (.v 3) (.cons (.bin .Sub (.v 4) (.v 6)) .nil)))) (e := .bi .len (.cons (.v 0) .nil)) (i := 6) (own := [6]) xs.length (fun k => .int (xs.getD k 0 * t ^ k * b ^ (xs.length - 1 - k))) (by unfold EvI; simp [evIo, evSs_n, asg, asgs, frz1, own?, ixN_nat, outs, ofI, divS, gN_cf, gN_io, gN_gl, gN_gd, gN_xr, gN_fr, wipeT_nil, wipeT_cons]) (by omega) (fun k hk => by
      have ha := at_i hk
      have w1 := (lpow_cl H.lpow t k t2 (by omega)).at (show 1 ≤ m by omega)
      have w2 := (lpow_cl H.lpow b (xs.length - 1 - k) b2 (by omega)).at (show 1 ≤ m by omega)
      have e : ((xs.length - 1 - k : Nat) : Int) = ((xs.length - 1 : Nat) : Int) - (k : Nat) := by omega
      rw [e] at w2
      have bu := bx _ (getD_mem hk)
      have m1 : mulOk (xs.getD k 0) (t ^ k) = true := mulL (sm _ (getD_mem hk))
      have m2 : mulOk (xs.getD k 0 * t ^ k) (b ^ (xs.length - 1 - k)) = true := mulB (bu.mul (t1.pow k)) (b1.pow _) (by
        have : 7 * k ≤ 7 * 100 := Nat.mul_le_mul_left _ (by omega)
        have : 7 * (xs.length - 1 - k) ≤ 7 * 100 := Nat.mul_le_mul_left _ (by omega)
        omega)
      generalize xs.getD k 0 = u at *
      generalize t ^ k = v at *
      generalize b ^ (xs.length - 1 - k) = w at *
      generalize ((xs.length - 1 : Nat) : Int) = z at *
      simp [evIo, evSs_n, asg, asgs, frz1, own?, ixN_nat, outs, ofI, divS, gN_cf, gN_io, gN_gl, gN_gd, gN_xr, gN_fr, wipeT_nil, wipeT_cons, ha, w1, w2, m1, m2, i1])
    rw [this]
    unfold iL
    rw [List.map_map]; rfl
  have k2 : ∀ a2 a3 a4 a5 : Option (Bool × D), evE (gN p m) (.comp (.bin .Mult (.sub (.v 0) (.v 6)) (.call 129 (.cons (.v 1) (.cons (.v 6) .nil)))) (.n 6) (.r1 (.bi .len (.cons (.v 0) .nil))) .no [6]) [some (false, iT xs), some (false, .int pt), a2, a3, a4, a5, none] = .ok (iL ((List.range xs.length).map fun k => xs.getD k 0 * pt ^ k), []) := fun a2 a3 a4 a5 => by
    have := comp_rng (g := gN p m) (τ := [some (false, iT xs), some (false, .int pt), a2, a3, a4, a5, none]) (elt := .bin .Mult (.sub (.v 0) (.v 6)) (.call 129 (.cons (.v 1) (.cons (.v 6) .nil)))) (e := .bi .len (.cons (.v 0) .nil)) (i := 6) (own := [6]) xs.length (fun k => .int (xs.getD k 0 * pt ^ k)) (by unfold EvI; simp [evIo, evSs_n, asg, asgs, frz1, own?, ixN_nat, outs, ofI, divS, gN_cf, gN_io, gN_gl, gN_gd, gN_xr, gN_fr, wipeT_nil, wipeT_cons]) (by omega) (fun k hk => by
      have ha := at_i hk
      have w1 := (lpow_cl H.lpow pt k p2 (by omega)).at (show 1 ≤ m by omega)
      have m1 : mulOk (xs.getD k 0) (pt ^ k) = true := mulL (sm _ (getD_mem hk))
      generalize xs.getD k 0 = u at *
      generalize pt ^ k = v at *
      simp [evIo, evSs_n, asg, asgs, frz1, own?, ixN_nat, outs, ofI, divS, gN_cf, gN_io, gN_gl, gN_gd, gN_xr, gN_fr, wipeT_nil, wipeT_cons, ha, w1, m1, i1])
    rw [this]
    unfold iL
    rw [List.map_map]; rfl
  have s1 := sum_ev ((List.range xs.length).map fun k => xs.getD k 0 * t ^ k * b ^ (xs.length - 1 - k))
  have s2 := sum_ev ((List.range xs.length).map fun k => xs.getD k 0 * pt ^ k)
  rw [← pev_sum] at s2
  rw [← (tv_sum t b xs).2] at s1
  unfold tvF at c1
  generalize (List.range xs.length).map (fun k => xs.getD k 0 * t ^ k * b ^ (xs.length - 1 - k)) = S1 at *
  generalize (List.range xs.length).map (fun k => xs.getD k 0 * pt ^ k) = S2 at *
  generalize pev xs pt = v2 at *
  generalize (xs.foldr (fun a s => tvS t b s a) (0, 1)).1 = v1 at *
  generalize ((xs.length - 1 : Nat) : Int) = z at *
  rw [runF_eq _ _ _ rfl]; simp only [F__law_values_hold, b__law_values_hold, ioM_f, ioM_t, startT, mark, List.replicate, List.cons_append, List.nil_append, List.contains_cons, List.contains_nil, icL, icT, icI, icS, icB, icN, icD, Nat.reduceBEq, Nat.reduceSub, Nat.reduceAdd, Bool.true_and, Bool.false_and, Bool.or_false, beq_self_eq_true]
  repeat (rw [evSs_c]; simp [evIo, evSs_n, asg, asgs, frz1, own?, ixN_nat, outs, ofI, divS, gN_cf, gN_io, gN_gl, gN_gd, gN_xr, gN_fr, wipeT_nil, wipeT_cons, mx, k1, s1, c1, i2, k2, s2, c2, i3, -ev_evE_comp])
/-! ### sums of sizes -/
def l1 : List Int → Nat
  | [] => 0
  | a :: p => a.natAbs + l1 p
theorem l1_mem : ∀ {p : List Int} {a : Int}, a ∈ p → a.natAbs ≤ l1 p
  | b :: p, a, h => by
    rcases List.mem_cons.mp h with rfl | h
    · simp only [l1]; omega
    · have := l1_mem h
      simp only [l1]; omega
theorem l1_padd : ∀ p q : List Int, l1 (padd p q) ≤ l1 p + l1 q
  | [], q => by simp [padd, l1]
  | a :: p, [] => by simp [padd, l1]
  | a :: p, b :: q => by
    have := l1_padd p q
    simp only [padd, l1]
    omega
theorem l1_scale (c : Int) : ∀ p : List Int, l1 (p.map (· * c)) = l1 p * c.natAbs
  | [] => by simp [l1]
  | a :: p => by simp only [List.map_cons, l1, l1_scale c p, Int.natAbs_mul, Nat.add_mul]
theorem l1_pmul : ∀ p q : List Int, l1 (pmul p q) ≤ l1 p * l1 q
  | [], q => by simp [pmul, l1]
  | [a], q => by rw [pmul, l1_scale]; simp only [l1]; rw [Nat.add_zero, Nat.mul_comm]; exact Nat.le_refl _
  | a :: b :: r, q => by
    have ih := l1_pmul (b :: r) q
    have h := l1_padd (q.map (· * a)) (0 :: pmul (b :: r) q)
    rw [l1_scale] at h
    have e : l1 (0 :: pmul (b :: r) q) = l1 (pmul (b :: r) q) := by simp [l1]
    rw [e] at h
    rw [pmul, show l1 (a :: b :: r) = a.natAbs + l1 (b :: r) from rfl, Nat.add_mul]
    have := Nat.mul_comm a.natAbs (l1 q)
    omega
def mulN (F p : List Int) : Nat → List Int
  | 0 => F
  | e + 1 => pmul (mulN F p e) p
theorem mulN_ok {F p : List Int} (hF : IsP F) (nF : F ≠ []) (hp : IsP p) (np : p ≠ []) : ∀ e, IsP (mulN F p e) ∧ mulN F p e ≠ [] ∧ (mulN F p e).length = F.length + e * (p.length - 1) ∧ (∀ t, pev (mulN F p e) t = pev F t * pev p t ^ e) ∧ l1 (mulN F p e) ≤ l1 F * l1 p ^ e
  | 0 => ⟨hF, nF, by simp [mulN], fun t => by simp [mulN], by simp [mulN]⟩
  | e + 1 => by
    obtain ⟨h1, h2, h3, h4, h5⟩ := mulN_ok hF nF hp np e
    have hl : 0 < p.length := List.length_pos_iff.mpr np
    have hl2 : 0 < F.length := List.length_pos_iff.mpr nF
    refine ⟨isP_pmul h1 hp np, pmul_ne h2 np, ?_, fun t => ?_, ?_⟩
    · rw [mulN, pmul_len _ _ h2 np, h3, Nat.add_mul, Nat.one_mul]; omega
    · rw [mulN, pev_pmul, h4, Int.pow_succ, Int.mul_assoc]
    · have h6 := l1_pmul (mulN F p e) p
      have h7 := Nat.mul_le_mul_right (l1 p) h5
      rw [mulN, Nat.pow_succ, ← Nat.mul_assoc]
      omega
end Mp

/-! k43: products of powers of pieces -/
namespace Mp
open PySem PySem.Spec PyProof.Rows L2
def bump (p : List Int) (e : Nat) : PE → PE
  | [] => []
  | (q, k) :: L => if q = p then (q, k + e) :: L else (q, k) :: bump p e L
abbrev nms (L : PE) : List (List Int) := L.map (·.1)
def addP (p : List Int) (e : Nat) (L : PE) : PE := if e = 0 then L else if p ∈ nms L then bump p e L else L ++ [(p, e)]
def wt (L : PE) : Nat := (L.map (·.2)).sum
theorem bump_nms (p : List Int) (e : Nat) : ∀ L : PE, nms (bump p e L) = nms L
  | [] => rfl
  | (q, k) :: L => by
    rw [bump]
    split
    · rfl
    · show q :: nms (bump p e L) = q :: nms L
      rw [bump_nms p e L]
theorem bump_wt (p : List Int) (e : Nat) : ∀ L : PE, p ∈ nms L → wt (bump p e L) = wt L + e
  | [], h => by cases h
  | (q, k) :: L, h => by
    rw [bump]
    split
    · simp only [wt, List.map_cons, List.sum_cons]; omega
    · rename_i hq
      have ih := bump_wt p e L (by
        rcases List.mem_cons.mp h with z | z
        · exact absurd z.symm hq
        · exact z)
      simp only [wt, List.map_cons, List.sum_cons] at ih ⊢
      omega
theorem bump_lP (p : List Int) (e : Nat) (t : Int) : ∀ L : PE, p ∈ nms L → pev (lP (bump p e L)) t = pev (lP L) t * pev p t ^ e
  | [], h => by cases h
  | (q, k) :: L, h => by
    rw [bump]
    split
    · rename_i hq
      subst hq
      rw [lP, lP, pev_pmul, pev_pmul, pev_pw, pev_pw, Int.pow_add]
      generalize pev q t ^ k = A
      generalize pev q t ^ e = B
      generalize pev (lP L) t = C
      grobner
    · rename_i hq
      have ih := bump_lP p e t L (by
        rcases List.mem_cons.mp h with z | z
        · exact absurd z.symm hq
        · exact z)
      rw [lP, lP, pev_pmul, pev_pmul, ih, Int.mul_assoc]
theorem bump_lR (p : List Int) (e : Nat) : ∀ L : PE, lR (bump p e L) = lR L
  | [] => rfl
  | (q, k) :: L => by
    rw [bump]
    split
    · rfl
    · rw [lR, lR, bump_lR p e L]
theorem bump_mem (p : List Int) (e : Nat) : ∀ (L : PE) (q : List Int × Nat), q ∈ bump p e L → ∃ k, (q.1, k) ∈ L ∧ k ≤ q.2
  | [], q, h => by cases h
  | (r, k) :: L, q, h => by
    rw [bump] at h
    split at h
    · rcases List.mem_cons.mp h with rfl | h
      · exact ⟨k, by simp, by simp⟩
      · exact ⟨q.2, List.mem_cons_of_mem _ h, Nat.le_refl _⟩
    · rcases List.mem_cons.mp h with rfl | h
      · exact ⟨k, by simp, Nat.le_refl _⟩
      · obtain ⟨k', h1, h2⟩ := bump_mem p e L q h
        exact ⟨k', List.mem_cons_of_mem _ h1, h2⟩
theorem app_lP (p : List Int) (e : Nat) (t : Int) : ∀ L : PE, pev (lP (L ++ [(p, e)])) t = pev (lP L) t * pev p t ^ e
  | [] => by simp only [List.nil_append, lP, pev_pmul, pev_pw, pev_one]; omega
  | (q, k) :: L => by rw [List.cons_append, lP, lP, pev_pmul, pev_pmul, app_lP p e t L, Int.mul_assoc]
theorem app_lR (p : List Int) (e : Nat) (t : Int) : ∀ L : PE, pev (lR (L ++ [(p, e)])) t = pev (lR L) t * pev p t
  | [] => by simp only [List.nil_append, lR, pev_pmul, pev_one]; omega
  | (q, k) :: L => by rw [List.cons_append, lR, lR, pev_pmul, pev_pmul, app_lR p e t L, Int.mul_assoc]
/-- the state behind some pieces -/
structure SqI (cand : List (List Int)) (f : Int) (L : PE) (F Dn : List Int) : Prop where
  FP : IsP F
  Fn : F ≠ []
  Fe : ∀ t, pev F t = f * pev (lP L) t
  DP : IsP Dn
  Dnn : Dn ≠ []
  De : ∀ t, pev Dn t = pev (lR L) t
  mem : ∀ q ∈ L, q.1 ∈ cand
  nd : (nms L).Nodup
  pos : ∀ q ∈ L, 0 < q.2
theorem SqI.add {cand : List (List Int)} {f : Int} {L : PE} {F Dn : List Int} (I : SqI cand f L F Dn) {p : List Int} (hp : p ∈ cand) (pP : IsP p) (pn : p ≠ []) (e : Nat) :
    SqI cand f (addP p e L) (mulN F p e) (if 0 < e ∧ p ∉ nms L then pmul Dn p else Dn) ∧ nms (addP p e L) = (if 0 < e ∧ p ∉ nms L then nms L ++ [p] else nms L) ∧ wt (addP p e L) = wt L + e := by
  obtain ⟨m1, m2, m3, m4, m5⟩ := mulN_ok I.FP I.Fn pP pn e
  unfold addP
  by_cases he : e = 0
  · subst he
    rw [if_pos rfl, if_neg (by omega), if_neg (by omega)]
    exact ⟨⟨I.FP, I.Fn, I.Fe, I.DP, I.Dnn, I.De, I.mem, I.nd, I.pos⟩, rfl, rfl⟩
  · rw [if_neg he]
    by_cases hm : p ∈ nms L
    · rw [if_pos hm, if_neg (by simp [hm]), if_neg (by simp [hm])]
      refine ⟨⟨m1, m2, fun t => by rw [m4, I.Fe, bump_lP p e t L hm, Int.mul_assoc], I.DP, I.Dnn, fun t => by rw [bump_lR]; exact I.De t, fun q hq => ?_, by rw [bump_nms]; exact I.nd, fun q hq => ?_⟩, bump_nms _ _ _, bump_wt _ _ _ hm⟩
      · obtain ⟨k, h1, _⟩ := bump_mem p e L q hq
        exact I.mem (q.1, k) h1
      · obtain ⟨k, h1, h2⟩ := bump_mem p e L q hq
        have h3 : 0 < k := I.pos (q.1, k) h1
        omega
    · have hc : 0 < e ∧ p ∉ nms L := ⟨by omega, hm⟩
      rw [if_neg hm, if_pos hc, if_pos hc]
      refine ⟨⟨m1, m2, fun t => by rw [m4, I.Fe, app_lP, Int.mul_assoc], isP_pmul I.DP pP pn, pmul_ne I.Dnn pn, fun t => by rw [pev_pmul, I.De, app_lR], fun q hq => ?_, ?_, fun q hq => ?_⟩, by simp [nms], ?_⟩
      · rcases List.mem_append.mp hq with h | h
        · exact I.mem q h
        · rw [List.mem_singleton.mp h]; exact hp
      · rw [show nms (L ++ [(p, e)]) = nms L ++ [p] by simp [nms]]
        refine List.nodup_append.mpr ⟨I.nd, by simp, fun a ha b hb => ?_⟩
        rw [List.mem_singleton.mp hb]
        rintro rfl
        exact hm ha
      · rcases List.mem_append.mp hq with h | h
        · exact I.pos q h
        · rw [List.mem_singleton.mp h]; dsimp only; omega
      · simp [wt]
theorem sep_of {cand : List (List Int)} (hc : ∀ p ∈ cand, Cop (pev p) (pev (pder p))) (hd : ∀ p ∈ cand, ∀ q ∈ cand, p ≠ q → Cop (pev p) (pev q)) : ∀ {L : PE}, (∀ q ∈ L, q.1 ∈ cand) → (nms L).Nodup → (∀ q ∈ L, 0 < q.2) → Sep L
  | [], _, _, _ => trivial
  | (p, e) :: L, hm, hn, hp => by
    have hn' := List.nodup_cons.mp hn
    refine ⟨hc p (hm (p, e) (by simp)), fun q hq => hd p (hm (p, e) (by simp)) q.1 (hm q (List.mem_cons_of_mem _ hq)) fun z => hn'.1 ?_, hp (p, e) (by simp), sep_of hc hd (fun q hq => hm q (List.mem_cons_of_mem _ hq)) hn'.2 fun q hq => hp q (List.mem_cons_of_mem _ hq)⟩
    have z : p = q.1 := z
    show p ∈ nms L
    rw [z]
    exact List.mem_map.mpr ⟨q, hq, rfl⟩
theorem l1_pw (p : List Int) : ∀ e, l1 (pw p e) ≤ l1 p ^ e
  | 0 => by simp [pw, l1]
  | e + 1 => by
    have h := l1_pmul p (pw p e)
    have h2 := Nat.mul_le_mul_left (l1 p) (l1_pw p e)
    rw [pw, Nat.pow_succ, Nat.mul_comm]
    omega
theorem l1_lH : ∀ {L : PE}, (∀ q ∈ L, l1 q.1 ≤ 32) → l1 (lH L) ≤ 2 ^ (5 * wt L)
  | [], _ => by simp only [lH, l1]; exact Nat.one_le_two_pow
  | (p, e) :: L, h => by
    have ih := l1_lH (L := L) fun q hq => h q (List.mem_cons_of_mem _ hq)
    have h0 : l1 p ≤ 32 := h (p, e) (by simp)
    have h1 := l1_pmul (pw p (e - 1)) (lH L)
    have h2 : l1 p ^ (e - 1) ≤ 2 ^ (5 * e) := by
      refine Nat.le_trans (Nat.pow_le_pow_left h0 _) ?_
      rw [show (32 : Nat) = 2 ^ 5 by decide, ← Nat.pow_mul]
      exact Nat.pow_le_pow_right (by decide) (by omega)
    have h3 := Nat.mul_le_mul (Nat.le_trans (l1_pw p (e - 1)) h2) ih
    have e1 : wt ((p, e) :: L) = e + wt L := by simp [wt]
    rw [lH, e1, Nat.mul_add, Nat.pow_add]
    omega
theorem l1_lR : ∀ {L : PE}, (∀ q ∈ L, l1 q.1 ≤ 32) → (∀ q ∈ L, 0 < q.2) → l1 (lR L) ≤ 2 ^ (5 * wt L)
  | [], _, _ => by simp only [lR, l1]; exact Nat.one_le_two_pow
  | (p, e) :: L, h, hp => by
    have ih := l1_lR (L := L) (fun q hq => h q (List.mem_cons_of_mem _ hq)) fun q hq => hp q (List.mem_cons_of_mem _ hq)
    have h0 : l1 p ≤ 32 := h (p, e) (by simp)
    have he : 0 < e := hp (p, e) (by simp)
    have h1 := l1_pmul p (lR L)
    have h2 : l1 p ≤ 2 ^ (5 * e) := by
      refine Nat.le_trans h0 ?_
      rw [show (32 : Nat) = 2 ^ 5 by decide]
      exact Nat.pow_le_pow_right (by decide) (by omega)
    have h3 := Nat.mul_le_mul h2 ih
    have e1 : wt ((p, e) :: L) = e + wt L := by simp [wt]
    rw [lR, e1, Nat.mul_add, Nat.pow_add]
    omega
theorem bd_l1 {p : List Int} {B : Nat} (h : l1 p < 2 ^ B) : ∀ a ∈ p, Bd B a := fun a ha => Nat.lt_of_le_of_lt (l1_mem ha) h
theorem nrm_lR_mul : ∀ {L : PE}, (∀ q ∈ L, Good q.1) → ∀ {h : List Int}, Nrm h → Nrm (pmul (lR L) h)
  | [], _, h, hh => by
    have e : pmul (lR []) h = h := by
      have l := pmul_len [1] h (by simp) hh.1
      exact pev_inj 0 (by rw [lR]; simp only [List.length_singleton] at l; omega) fun x _ => by rw [lR, pev_pmul, pev_one, Int.one_mul]
    rw [e]; exact hh
  | (p, e) :: L, g, h, hh => by
    have ih := nrm_lR_mul (L := L) (fun q hq => g q (List.mem_cons_of_mem _ hq)) hh
    have gp := g (p, e) (by simp)
    have nr := nrm_lR (L := L) fun q hq => g q (List.mem_cons_of_mem _ hq)
    rw [lR, pmul_assoc p (lR L) h gp.1 nr.1 hh.1]
    exact gp.mul ih
theorem lR_len : ∀ {L : PE}, (∀ q ∈ L, 2 ≤ q.1.length ∧ Good q.1) → L ≠ [] → 2 ≤ (lR L).length
  | [], _, h => absurd rfl h
  | (p, e) :: L, h, _ => by
    have h0 : 2 ≤ p.length ∧ Good p := h (p, e) (by simp)
    have nr := nrm_lR (L := L) fun q hq => (h q (List.mem_cons_of_mem _ hq)).2
    have := List.length_pos_iff.mpr nr.1
    rw [lR, pmul_len _ _ h0.2.1 nr.1]; omega
def ones (L : PE) : PE := L.map fun q => (q.1, 1)
theorem ones_lR : ∀ L : PE, lR (ones L) = lR L
  | [] => rfl
  | (p, e) :: L => by show pmul p (lR (ones L)) = _; rw [ones_lR L]; rfl
theorem ones_lP (t : Int) : ∀ L : PE, pev (lP (ones L)) t = pev (lR L) t
  | [] => rfl
  | (p, e) :: L => by
    show pev (pmul (pw p 1) (lP (ones L))) t = _
    rw [pev_pmul, ones_lP t L, pev_pw, lR, pev_pmul, Int.pow_succ, Int.pow_zero, Int.one_mul]
theorem ones_mem {L : PE} {q : List Int × Nat} (h : q ∈ ones L) : q.1 ∈ nms L ∧ q.2 = 1 := by
  obtain ⟨r, h1, rfl⟩ := List.mem_map.mp h
  exact ⟨List.mem_map.mpr ⟨r, h1, rfl⟩, rfl⟩
theorem ones_nms (L : PE) : nms (ones L) = nms L := by
  unfold ones
  rw [show nms (L.map fun q => (q.1, 1)) = (L.map fun q : List Int × Nat => (q.1, 1)).map (·.1) from rfl, List.map_map]; rfl
theorem der_bd {F : List Int} {B C : Nat} (hF : ∀ a ∈ F, a.natAbs < B) (hl : F.length ≤ 13) (hB : 13 * B ≤ 2 ^ C) : ∀ z ∈ pder F, Bd C z := fun z hz => by
  obtain ⟨i, hi⟩ := List.getElem?_of_mem hz
  have g := pder_get F i
  rw [List.getD_eq_getElem?_getD, hi] at g
  have g : z = ((i : Int) + 1) * F.getD (i + 1) 0 := g
  unfold Bd
  by_cases h : i + 1 < F.length
  · have h1 := hF _ (getD_mem h)
    rw [g, Int.natAbs_mul]
    have h2 : ((i : Int) + 1).natAbs ≤ 13 := by omega
    have h3 := Nat.mul_le_mul h2 (show (F.getD (i + 1) 0).natAbs ≤ B - 1 by omega)
    have h4 : 13 * (B - 1) < 13 * B := by omega
    omega
  · rw [g, getD_out (by omega)]
    simpa using Nat.two_pow_pos C
theorem wb40 : 2 * Wb 40 13 ≤ 134217000 := by decide
/-- the part without squares of such a product -/
theorem sq_main {p : Pr} (H : HPoly p) {cand : List (List Int)} (hc : ∀ p ∈ cand, Cop (pev p) (pev (pder p))) (hd : ∀ p ∈ cand, ∀ q ∈ cand, p ≠ q → Cop (pev p) (pev q)) (hg : ∀ p ∈ cand, 2 ≤ p.length ∧ Good p ∧ l1 p ≤ 32)
    {f : Int} (hf : f ≠ 0) {L : PE} {F Dn : List Int} (I : SqI cand f L F Dn) (hF : l1 F ≤ 46675000000) (hFl : F.length ≤ 13) (hDl : l1 Dn ≤ 46675000000) (hDn : Dn.length ≤ 13) (hw : wt L ≤ 8) :
    Cl p 9 126 [iT F] (iT Dn, []) ∧ Cl p 9 126 [iT Dn] (iT Dn, []) ∧ ∃ g : List Int, Nrm g ∧ F = g.map (· * f) := by
  have hG : ∀ q ∈ L, Good q.1 := fun q hq => (hg _ (I.mem q hq)).2.1
  have S := sep_of hc hd I.mem I.nd I.pos
  have nP := nrm_lP hG
  have nR := nrm_lR hG
  have nH := nrm_lH hG
  have eF : F = (lP L).map (· * f) := isP_uniq I.FP (isP_scale nP.isP hf) 0 fun t _ => by rw [I.Fe, pev_scale]
  have eD : Dn = lR L := isP_uniq I.DP nR.isP 0 fun t _ => I.De t
  have p40 : (46675000000 : Nat) < 2 ^ 40 := by decide
  have p26 : 2 ^ (5 * wt L) < 2 ^ 41 := (Nat.pow_lt_pow_iff_right (by decide)).mpr (by omega)
  have bF := bd_l1 (show l1 F < 2 ^ 40 by omega)
  have bD := bd_l1 (show l1 Dn < 2 ^ 40 by omega)
  have d40 : 13 * 46675000001 ≤ 2 ^ 40 := by decide
  have bdF := der_bd (F := F) (B := 46675000001) (C := 40) (fun a ha => by have := l1_mem ha; omega) hFl d40
  have bdD := der_bd (F := Dn) (B := 46675000001) (C := 40) (fun a ha => by have := l1_mem ha; omega) hDn d40
  have b32 : ∀ q ∈ L, l1 q.1 ≤ 32 := fun q hq => (hg _ (I.mem q hq)).2.2
  have bH : ∀ z ∈ lH L, Bd 60000000 z := fun z hz => (bd_l1 (Nat.lt_of_le_of_lt (l1_lH b32) p26) z hz).mono (by decide)
  have bR : ∀ z ∈ lR L, Bd 60000000 z := fun z hz => (bd_l1 (Nat.lt_of_le_of_lt (l1_lR b32 I.pos) p26) z hz).mono (by decide)
  by_cases hL : L = []
  · subst hL
    have e1 : lP [] = [1] := rfl
    have e2 : lR [] = [1] := rfl
    rw [e1] at eF
    rw [e2] at eD
    have eF' : F = [f] := by rw [eF]; simp
    rw [eF', eD]
    exact ⟨fun n hn => (sqf1_cl H f).at (by omega), fun n hn => (sqf1_cl H 1).at (by omega), [1], nrm_one, by simp⟩
  · have lenR := lR_len (fun q hq => ⟨(hg _ (I.mem q hq)).1, hG q hq⟩) hL
    have lenF : 2 ≤ F.length := by
      have h1 : F = (pmul (lR L) (lH L)).map (· * f) := isP_uniq I.FP (isP_scale (nrm_lR_mul hG nH).isP hf) 0 fun t _ => by
        rw [I.Fe, pev_scale, pev_pmul, lP_eq L t I.pos, Int.mul_comm (pev (lR L) t)]
      have h2 := congrArg List.length h1
      rw [List.length_map, pmul_len _ _ nR.1 nH.1] at h2
      have := List.length_pos_iff.mpr nH.1
      omega
    refine ⟨?_, ?_, lP L, nP, eF⟩
    · have := sqf_cl H (C := 40) (N := 13) (by decide) (by decide) wb40 (x := F) (h := lH L) (R := lR L) (S := lS L) (kp := f) I.FP lenF hFl bF bdF hf nH nR (nrm_lR_mul hG nH) (fun t => by rw [I.Fe, lP_eq L t I.pos]) (fun t => by
        have e : pev (pder F) t = pev (pder ((lP L).map (· * f))) t := by rw [← eF]
        rw [e, pev_pder_scale, lP_der L t I.pos]) S.cop bH bR
      rw [← eD] at this
      exact this
    · have m1 : ∀ q ∈ ones L, q.1 ∈ cand := fun q hq => by
        obtain ⟨r, hr, e⟩ := List.mem_map.mp (ones_mem hq).1
        rw [← e]; exact I.mem r hr
      have p1 : ∀ q ∈ ones L, 0 < q.2 := fun q hq => by rw [(ones_mem hq).2]; decide
      have hG1 : ∀ q ∈ ones L, Good q.1 := fun q hq => (hg _ (m1 q hq)).2.1
      have S1 := sep_of hc hd m1 (by rw [ones_nms]; exact I.nd) p1
      have nH1 := nrm_lH hG1
      have wl : wt (ones L) ≤ wt L := by
        have : ∀ M : PE, (∀ q ∈ M, 0 < q.2) → wt (ones M) ≤ wt M := by
          intro M
          induction M with
          | nil => intro _; exact Nat.le_refl _
          | cons q M ih =>
            intro h
            have h1 := ih fun r hr => h r (List.mem_cons_of_mem _ hr)
            have h2 := h q (by simp)
            simp only [wt, ones, List.map_cons, List.sum_cons] at h1 ⊢
            omega
        exact this L I.pos
      have bH1 : ∀ z ∈ lH (ones L), Bd 60000000 z := fun z hz => (bd_l1 (Nat.lt_of_le_of_lt (l1_lH (L := ones L) fun q hq => (hg _ (m1 q hq)).2.2) (Nat.lt_of_le_of_lt (Nat.pow_le_pow_right (by decide) (show 5 * wt (ones L) ≤ 5 * wt L by omega)) p26)) z hz).mono (by decide)
      have fx : ∀ t, pev Dn t = 1 * (pev (lH (ones L)) t * pev (lR (ones L)) t) := fun t => by
        rw [← lP_eq _ t p1, ones_lP, ← eD, Int.one_mul]
      have fy : ∀ t, pev (pder Dn) t = 1 * (pev (lH (ones L)) t * pev (lS (ones L)) t) := fun t => by
        have e : Dn = lP (ones L) := isP_uniq I.DP (nrm_lP hG1).isP 0 fun t _ => by rw [ones_lP, ← eD]
        rw [← lP_der _ t p1, ← e, Int.one_mul]
      have nR' := nR
      rw [← ones_lR] at nR' bR
      have := sqf_cl H (C := 40) (N := 13) (by decide) (by decide) wb40 (x := Dn) (h := lH (ones L)) (R := lR (ones L)) (S := lS (ones L)) (kp := 1) I.DP (by rw [eD]; exact lenR) hDn bD bdD (by decide) nH1 nR' (nrm_lR_mul hG1 nH1) fx fy S1.cop bH1 bR
      rw [ones_lR, ← eD] at this
      exact this
end Mp

/-! k43: the pieces are coprime -/
namespace Mp
open PySem PySem.Spec PyProof.Rows L2
inductive Pc : List Int → Prop
  | lin {a b : Int} : Int.gcd a b = 1 → 0 < b → b ≤ 6 → -12 ≤ a → a ≤ 12 → Pc [a, b]
  | third {k j : Int} : 3 ≤ k → k ≤ 10 → -3 ≤ j → j ≤ 3 → Pc [k, j, 1]
  | quad {n : Int} : n ∈ [(2 : Int), 3, 5, 6, 7, 10, 11, 13] → Pc [-n, 0, 1]
  | cub {n : Int} : n ∈ [(2 : Int), 3, 4, 5, 6, 7, -2, -5] → Pc [n, 0, 0, 1]
theorem pev2 (a b x : Int) : pev [a, b] x = a + b * x := by simp [pev]; rw [Int.mul_comm]
theorem pev3 (a b c x : Int) : pev [a, b, c] x = a + b * x + c * (x * x) := by simp [pev]; grobner
theorem pev4 (a b c d x : Int) : pev [a, b, c, d] x = a + b * x + c * (x * x) + d * (x * x * x) := by simp [pev]; grobner
theorem lin_ne {a b c d : Int} (h1 : Int.gcd a b = 1) (h2 : Int.gcd c d = 1) (hb : 0 < b) (hd : 0 < d) (e : a * d = c * b) : a = c ∧ b = d := by
  have c1 : Nat.Coprime b.natAbs a.natAbs := Nat.Coprime.symm h1
  have c2 : Nat.Coprime d.natAbs c.natAbs := Nat.Coprime.symm h2
  have e2 : a.natAbs * d.natAbs = c.natAbs * b.natAbs := by rw [← Int.natAbs_mul, ← Int.natAbs_mul, e]
  have d1 : b.natAbs ∣ d.natAbs := c1.dvd_of_dvd_mul_left ⟨c.natAbs, by rw [e2, Nat.mul_comm]⟩
  have d2 : d.natAbs ∣ b.natAbs := c2.dvd_of_dvd_mul_left ⟨a.natAbs, by rw [← e2, Nat.mul_comm]⟩
  have e3 := Nat.dvd_antisymm d1 d2
  have e4 : b = d := by omega
  subst e4
  exact ⟨Int.eq_of_mul_eq_mul_right (by omega) e, rfl⟩
theorem fin_int {lo n : Int} {P : Int → Prop} (h : ∀ i : Fin n.toNat, P (lo + (i.val : Int))) {x : Int} (h1 : lo ≤ x) (h2 : x < lo + n) : P x := by
  have := h ⟨(x - lo).toNat, by omega⟩
  rw [show lo + (((⟨(x - lo).toNat, by omega⟩ : Fin n.toNat).val : Nat) : Int) = x by dsimp only; omega] at this
  exact this
theorem chk1 : ∀ i : Fin 25, ∀ j : Fin 6, ∀ n ∈ [(2 : Int), 3, 5, 6, 7, 10, 11, 13], (-12 + (i.val : Int)) * (-12 + (i.val : Int)) - (1 + (j.val : Int)) * (1 + (j.val : Int)) * n ≠ 0 := by decide +kernel
theorem chk2 : ∀ i : Fin 25, ∀ j : Fin 6, ∀ n ∈ [(2 : Int), 3, 4, 5, 6, 7, -2, -5], (1 + (j.val : Int)) * (1 + (j.val : Int)) * (1 + (j.val : Int)) * n - (-12 + (i.val : Int)) * (-12 + (i.val : Int)) * (-12 + (i.val : Int)) ≠ 0 := by decide +kernel
def D3 (l0 l1 k j : Int) : Int := l1 * l1 * k - l0 * l1 * j + l0 * l0
theorem chk3 : ∀ i : Fin 8, ∀ j : Fin 7, ∀ n ∈ [(2 : Int), 3, 5, 6, 7, 10, 11, 13], D3 (3 + (i.val : Int) + n) (-3 + (j.val : Int)) (3 + (i.val : Int)) (-3 + (j.val : Int)) ≠ 0 := by decide +kernel
theorem chk4 : ∀ i : Fin 8, ∀ j : Fin 7, ∀ n ∈ [(2 : Int), 3, 4, 5, 6, 7, -2, -5], D3 (n + (-3 + (j.val : Int)) * (3 + (i.val : Int))) ((-3 + (j.val : Int)) * (-3 + (j.val : Int)) - (3 + (i.val : Int))) (3 + (i.val : Int)) (-3 + (j.val : Int)) ≠ 0 := by decide +kernel
theorem cop_ll {a b c d : Int} (h1 : Int.gcd a b = 1) (h2 : Int.gcd c d = 1) (hb : 0 < b) (hd : 0 < d) (hne : [a, b] ≠ [c, d]) : Cop (pev [a, b]) (pev [c, d]) :=
  Cop.mk (d * a - b * c) (fun z => hne (by
    obtain ⟨rfl, rfl⟩ := lin_ne h1 h2 hb hd (show a * d = c * b by rw [Int.mul_comm a, Int.mul_comm c]; omega)
    rfl)) (fun _ => d) (fun _ => -b) fun x => by rw [pev2, pev2]; grobner
theorem cop_l3 {a b k j : Int} (D : D3 a b k j ≠ 0) : Cop (pev [a, b]) (pev [k, j, 1]) :=
  Cop.mk (D3 a b k j) D (fun x => -(b * x + (b * j - a))) (fun _ => b * b) fun x => by rw [pev2, pev3]; unfold D3; grobner
theorem d3_pos {a b k j : Int} (hb : 0 < b) (hk : 3 ≤ k) (hj : -3 ≤ j ∧ j ≤ 3) : D3 a b k j ≠ 0 := by
  intro z
  have e : 4 * D3 a b k j = (2 * a - b * j) * (2 * a - b * j) + b * b * (4 * k - j * j) := by unfold D3; grobner
  have s1 : 0 ≤ (2 * a - b * j) * (2 * a - b * j) := by
    rcases Int.le_total 0 (2 * a - b * j) with h | h
    · exact Int.mul_nonneg h h
    · exact Int.mul_nonneg_of_nonpos_of_nonpos h h
  have hjj : j * j ≤ 9 := by
    rcases Int.le_total 0 j with h | h
    · exact Int.le_trans (Int.mul_le_mul hj.2 hj.2 h (by decide)) (by decide)
    · have h2 := Int.mul_le_mul (show -j ≤ 3 by omega) (show -j ≤ 3 by omega) (show 0 ≤ -j by omega) (by decide : (0:Int) ≤ 3)
      rw [Int.neg_mul_neg] at h2
      omega
  have s2 : 0 < b * b * (4 * k - j * j) := Int.mul_pos (Int.mul_pos hb hb) (by omega)
  omega
theorem cop_lc {a b n : Int} (D : b * b * b * n - a * a * a ≠ 0) : Cop (pev [a, b]) (pev [n, 0, 0, 1]) :=
  Cop.mk (b * b * b * n - a * a * a) D (fun x => -(b * b * (x * x) - a * b * x + a * a)) (fun _ => b * b * b) fun x => by rw [pev2, pev4]; grobner
theorem cop_3q {k j n : Int} (D : D3 (k + n) j k j ≠ 0) : Cop (pev [k, j, 1]) (pev [-n, 0, 1]) :=
  Cop.mk (D3 (k + n) j k j) D (fun x => j * j - (j * x + (j * j - (k + n)))) (fun x => j * x + (j * j - (k + n))) fun x => by rw [pev3, pev3]; unfold D3; grobner
theorem cop_3c {k j n : Int} (D : D3 (n + j * k) (j * j - k) k j ≠ 0) : Cop (pev [k, j, 1]) (pev [n, 0, 0, 1]) :=
  Cop.mk (D3 (n + j * k) (j * j - k) k j) D (fun x => (j * j - k) * (j * j - k) + ((j * j - k) * x + ((j * j - k) * j - (n + j * k))) * (x - j)) (fun x => -((j * j - k) * x + ((j * j - k) * j - (n + j * k)))) fun x => by rw [pev3, pev4]; unfold D3; grobner
theorem der2 (a b x : Int) : pev (pder [a, b]) x = b := by simp [pder, padd, pev]
theorem der3 (a b c x : Int) : pev (pder [a, b, c]) x = b + 2 * c * x := by simp [pder, padd, pev]; grobner
theorem der4 (a b c d x : Int) : pev (pder [a, b, c, d]) x = b + 2 * c * x + 3 * d * (x * x) := by simp [pder, padd, pev]; grobner
theorem Pc.self {p : List Int} (h : Pc p) : Cop (pev p) (pev (pder p)) := by
  cases h with
  | @lin a b h1 h2 h3 h4 h5 => exact Cop.mk b (by omega) (fun _ => 0) (fun _ => 1) fun x => by rw [der2]; omega
  | @third k j h1 h2 h3 h4 =>
    refine Cop.mk (4 * k - j * j) ?_ (fun _ => 4) (fun x => -(2 * x + j)) fun x => by rw [der3, pev3]; grobner
    intro z
    have this : j * j ≤ 9 := fin_int (lo := -3) (n := 7) (P := fun j => j * j ≤ 9) (by decide) h3 (by omega)
    omega
  | @quad n h =>
    refine Cop.mk (-2 * n) ?_ (fun _ => 2) (fun x => -x) fun x => by rw [der3, pev3]; grobner
    simp only [List.mem_cons, List.not_mem_nil, or_false] at h
    omega
  | @cub n h =>
    refine Cop.mk (3 * n) ?_ (fun _ => 3) (fun x => -x) fun x => by rw [der4, pev4]; grobner
    simp only [List.mem_cons, List.not_mem_nil, or_false] at h
    omega
theorem lq {a b n : Int} (h2 : 0 < b) (h3 : b ≤ 6) (h4 : -12 ≤ a) (h5 : a ≤ 12) (h : n ∈ [(2 : Int), 3, 5, 6, 7, 10, 11, 13]) : Cop (pev [a, b]) (pev [-n, 0, 1]) := by
  refine cop_l3 (k := -n) (j := 0) ?_
  have := fin_int (lo := -12) (n := 25) (P := fun a => ∀ j : Fin 6, ∀ n ∈ [(2 : Int), 3, 5, 6, 7, 10, 11, 13], a * a - (1 + (j.val : Int)) * (1 + (j.val : Int)) * n ≠ 0) chk1 h4 (by omega)
  have := fin_int (lo := 1) (n := 6) (P := fun b => ∀ n ∈ [(2 : Int), 3, 5, 6, 7, 10, 11, 13], a * a - b * b * n ≠ 0) this (show 1 ≤ b by omega) (by omega) n h
  unfold D3
  intro z
  exact this (by rw [← z]; grobner)
theorem lc {a b n : Int} (h2 : 0 < b) (h3 : b ≤ 6) (h4 : -12 ≤ a) (h5 : a ≤ 12) (h : n ∈ [(2 : Int), 3, 4, 5, 6, 7, -2, -5]) : Cop (pev [a, b]) (pev [n, 0, 0, 1]) := by
  refine cop_lc ?_
  have := fin_int (lo := -12) (n := 25) (P := fun a => ∀ j : Fin 6, ∀ n ∈ [(2 : Int), 3, 4, 5, 6, 7, -2, -5], (1 + (j.val : Int)) * (1 + (j.val : Int)) * (1 + (j.val : Int)) * n - a * a * a ≠ 0) chk2 h4 (by omega)
  exact fin_int (lo := 1) (n := 6) (P := fun b => ∀ n ∈ [(2 : Int), 3, 4, 5, 6, 7, -2, -5], b * b * b * n - a * a * a ≠ 0) this (show 1 ≤ b by omega) (by omega) n h
theorem tq {k j n : Int} (h1 : 3 ≤ k) (h2 : k ≤ 10) (h3 : -3 ≤ j) (h4 : j ≤ 3) (h : n ∈ [(2 : Int), 3, 5, 6, 7, 10, 11, 13]) : Cop (pev [k, j, 1]) (pev [-n, 0, 1]) := by
  refine cop_3q ?_
  have := fin_int (lo := 3) (n := 8) (P := fun k => ∀ j : Fin 7, ∀ n ∈ [(2 : Int), 3, 5, 6, 7, 10, 11, 13], D3 (k + n) (-3 + (j.val : Int)) k (-3 + (j.val : Int)) ≠ 0) chk3 h1 (by omega)
  exact fin_int (lo := -3) (n := 7) (P := fun j => ∀ n ∈ [(2 : Int), 3, 5, 6, 7, 10, 11, 13], D3 (k + n) j k j ≠ 0) this h3 (by omega) n h
theorem tc {k j n : Int} (h1 : 3 ≤ k) (h2 : k ≤ 10) (h3 : -3 ≤ j) (h4 : j ≤ 3) (h : n ∈ [(2 : Int), 3, 4, 5, 6, 7, -2, -5]) : Cop (pev [k, j, 1]) (pev [n, 0, 0, 1]) := by
  refine cop_3c ?_
  have := fin_int (lo := 3) (n := 8) (P := fun k => ∀ j : Fin 7, ∀ n ∈ [(2 : Int), 3, 4, 5, 6, 7, -2, -5], D3 (n + (-3 + (j.val : Int)) * k) ((-3 + (j.val : Int)) * (-3 + (j.val : Int)) - k) k (-3 + (j.val : Int)) ≠ 0) chk4 h1 (by omega)
  exact fin_int (lo := -3) (n := 7) (P := fun j => ∀ n ∈ [(2 : Int), 3, 4, 5, 6, 7, -2, -5], D3 (n + j * k) (j * j - k) k j ≠ 0) this h3 (by omega) n h
theorem Pc.good {p : List Int} (h : Pc p) : 2 ≤ p.length ∧ Good p ∧ l1 p ≤ 32 := by
  cases h with
  | @lin a b h1 h2 h3 h4 h5 => exact ⟨by simp, good_lin h1 h2, by simp only [l1]; omega⟩
  | @third k j h1 h2 h3 h4 => exact ⟨by simp, good_monic (by simp) rfl, by simp only [l1]; omega⟩
  | @quad n h =>
    simp only [List.mem_cons, List.not_mem_nil, or_false] at h
    exact ⟨by simp, good_monic (by simp) rfl, by simp only [l1]; omega⟩
  | @cub n h =>
    simp only [List.mem_cons, List.not_mem_nil, or_false] at h
    exact ⟨by simp, good_monic (by simp) rfl, by simp only [l1]; omega⟩
end Mp

/-! k43: the pieces, the squares -/
namespace Mp
open PySem PySem.Spec PyProof.Rows L2
theorem lin_piece {p : Pr} (H : H43 p) {u v : Int} (h1 : -12 ≤ u) (h2 : u ≤ 12) (h3 : 1 ≤ v) (h4 : v ≤ 6) : ∃ l : List Int, Pc l ∧ l.length = 2 ∧ l1 l ≤ 18 ∧ Cl p 2 133 [.tuple [.int u, .int v]] (iT l, []) := by
  have xP : IsP [u, v] := isP_cons.mpr (isP_one.mpr (by omega))
  obtain ⟨g, c, hc, hg, e⟩ := nrm_ex xP (by simp)
  have hl := congrArg List.length e
  rw [List.length_map] at hl
  match g, hl with
  | [a, b], _ =>
    have e : [u, v] = [a * c, b * c] := e
    injection e with e1 e2
    injection e2 with e2 _
    have hb : 0 < b := hg.2.1
    have hc2 : 0 < c := by
      rcases Int.lt_or_le 0 c with z | z
      · exact z
      · have := Int.mul_nonpos_of_nonneg_of_nonpos (show 0 ≤ b by omega) z; omega
    have hb2 : b ≤ 6 := by
      have : b.natAbs ≤ v.natAbs := by rw [e2, Int.natAbs_mul]; exact Nat.le_mul_of_pos_right _ (by omega)
      omega
    have ha : a.natAbs ≤ u.natAbs := by rw [e1, Int.natAbs_mul]; exact Nat.le_mul_of_pos_right _ (by omega)
    have hgcd : Int.gcd a b = 1 := by
      have := hg.2.2 ((Int.gcd a b : Nat) : Int) fun z hz => by
        simp only [List.mem_cons, List.not_mem_nil, or_false] at hz
        rcases hz with rfl | rfl
        · exact Int.gcd_dvd_left _ _
        · exact Int.gcd_dvd_right _ _
      have h5 : Int.gcd a b ∣ 1 := Int.ofNat_dvd.mp (by simpa using this)
      exact Nat.dvd_one.mp h5
    have bd : ∀ z ∈ [a, b].map (· * c), Bd 10 z := fun z hz => by
      have hz : z ∈ [a * c, b * c] := hz
      rw [← e1, ← e2] at hz
      simp only [List.mem_cons, List.not_mem_nil, or_false] at hz
      unfold Bd
      rcases hz with rfl | rfl <;> omega
    have cl := lpri_cl H (B := 10) (by decide) hg hc bd (by simp)
    have e3 : [a, b].map (· * c) = [u, v] := by rw [e1, e2]; rfl
    rw [e3] at cl
    refine ⟨[a, b], .lin hgcd hb hb2 (by omega) (by omega), rfl, ?_, cl⟩
    simp only [l1]
    omega
theorem list4 {l : List Int} (h : l.length = 4) : ∃ a b c d, l = [a, b, c, d] := by
  match l, h with
  | [a, b, c, d], _ => exact ⟨a, b, c, d, rfl⟩
theorem pick8 {n : Int} (h : Wd 8 n) (x0 x1 x2 x3 x4 x5 x6 x7 : Int) : ∃ z, z ∈ [x0, x1, x2, x3, x4, x5, x6, x7] ∧ atI [PyData.int x0, .int x1, .int x2, .int x3, .int x4, .int x5, .int x6, .int x7] n = some (.int z) := by
  obtain ⟨h0, h1⟩ := h
  have : n = 0 ∨ n = 1 ∨ n = 2 ∨ n = 3 ∨ n = 4 ∨ n = 5 ∨ n = 6 ∨ n = 7 := by omega
  rcases this with rfl | rfl | rfl | rfl | rfl | rfl | rfl | rfl
  · exact ⟨x0, by simp, by simp⟩
  · exact ⟨x1, by simp, by simp⟩
  · exact ⟨x2, by simp, by simp⟩
  · exact ⟨x3, by simp, by simp⟩
  · exact ⟨x4, by simp, by simp⟩
  · exact ⟨x5, by simp, by simp⟩
  · exact ⟨x6, by simp, by simp⟩
  · exact ⟨x7, by simp, by simp⟩
theorem pick4 {n : Int} (h0 : 0 ≤ n) (h1 : n < 4) : ∃ z : Nat, z ≤ 2 ∧ atI [PyData.int 0, .int 0, .int 1, .int 2] n = some (.int (z : Int)) := by
  have : n = 0 ∨ n = 1 ∨ n = 2 ∨ n = 3 := by omega
  rcases this with rfl | rfl | rfl | rfl
  · exact ⟨0, by decide, by simp⟩
  · exact ⟨0, by decide, by simp⟩
  · exact ⟨1, by decide, by simp⟩
  · exact ⟨2, by decide, by simp⟩
theorem Pc.two {l : List Int} (h : Pc l) (hl : l.length = 2) : ∃ a b : Int, l = [a, b] ∧ Int.gcd a b = 1 ∧ 0 < b ∧ b ≤ 6 ∧ -12 ≤ a ∧ a ≤ 12 := by
  cases h with
  | lin h1 h2 h3 h4 h5 => exact ⟨_, _, rfl, h1, h2, h3, h4, h5⟩
  | third _ _ _ _ => simp at hl
  | quad _ => simp at hl
  | cub _ => simp at hl
/-- the four pieces are coprime -/
structure Cop4 (p1 p2 p3 p4 : List Int) : Prop where
  c12 : p1 ≠ p2 → Cop (pev p1) (pev p2)
  c13 : Cop (pev p1) (pev p3)
  c23 : Cop (pev p2) (pev p3)
  c14 : Cop (pev p1) (pev p4)
  c24 : Cop (pev p2) (pev p4)
  c34 : Cop (pev p3) (pev p4)
theorem cop4_q {p1 p2 : List Int} {k j n : Int} (P1 : Pc p1) (P2 : Pc p2) (L1 : p1.length = 2) (L2 : p2.length = 2) (h1 : 3 ≤ k) (h2 : k ≤ 10) (h3 : -3 ≤ j) (h4 : j ≤ 3) (h : n ∈ [(2 : Int), 3, 5, 6, 7, 10, 11, 13]) : Cop4 p1 p2 [k, j, 1] [-n, 0, 1] := by
  obtain ⟨a, b, rfl, u1, u2, u3, u4, u5⟩ := P1.two L1
  obtain ⟨c, d, rfl, w1, w2, w3, w4, w5⟩ := P2.two L2
  exact ⟨cop_ll u1 w1 u2 w2, cop_l3 (d3_pos u2 h1 ⟨h3, h4⟩), cop_l3 (d3_pos w2 h1 ⟨h3, h4⟩), lq u2 u3 u4 u5 h, lq w2 w3 w4 w5 h, tq h1 h2 h3 h4 h⟩
theorem cop4_c {p1 p2 : List Int} {k j n : Int} (P1 : Pc p1) (P2 : Pc p2) (L1 : p1.length = 2) (L2 : p2.length = 2) (h1 : 3 ≤ k) (h2 : k ≤ 10) (h3 : -3 ≤ j) (h4 : j ≤ 3) (h : n ∈ [(2 : Int), 3, 4, 5, 6, 7, -2, -5]) : Cop4 p1 p2 [k, j, 1] [n, 0, 0, 1] := by
  obtain ⟨a, b, rfl, u1, u2, u3, u4, u5⟩ := P1.two L1
  obtain ⟨c, d, rfl, w1, w2, w3, w4, w5⟩ := P2.two L2
  exact ⟨cop_ll u1 w1 u2 w2, cop_l3 (d3_pos u2 h1 ⟨h3, h4⟩), cop_l3 (d3_pos w2 h1 ⟨h3, h4⟩), lc u2 u3 u4 u5 h, lc w2 w3 w4 w5 h, tc h1 h2 h3 h4 h⟩
theorem lpie_cl {p : Pr} (H : H43 p) (ns : List Int) (pl : Int) : ∃ (p1 p2 p3 p4 : List Int) (e1 e2 e3 e4 : Nat), Pc p1 ∧ Pc p2 ∧ Pc p3 ∧ Pc p4 ∧ p1.length = 2 ∧ p2.length = 2 ∧ p3.length = 3 ∧ p4.length ≤ 4 ∧ l1 p1 ≤ 18 ∧ l1 p2 ≤ 18 ∧ l1 p3 ≤ 14 ∧ l1 p4 ≤ 14 ∧ e1 ≤ 3 ∧ e2 ≤ 2 ∧ e3 ≤ 2 ∧ e4 ≤ 1 ∧ Cop4 p1 p2 p3 p4 ∧
    Cl p 3 139 [.list (ns.map .int), .int pl] (.list [.tuple [iT p1, .int (e1 : Nat)], .tuple [iT p2, .int (e2 : Nat)], .tuple [iT p3, .int (e3 : Nat)], .tuple [iT p4, .int (e4 : Nat)]], []) := by
  have r1 := row_cl H.row ns pl 4 25 (by decide) (by decide) (fun x => div0 (by decide))
  have r2 := row_cl H.row ns (pl + 1) 4 8 (by decide) (by decide) (fun x => div0 (by decide))
  have r3 := row_cl H.row ns (pl + 2) 4 12 (by decide) (by decide) (fun x => div0 (by decide))
  have io := row_io H.row
  obtain ⟨a, b, c, d, q1⟩ := list4 (rowF_len ns pl 4 (limit := 25) (by decide))
  obtain ⟨j, k, n, e, q2⟩ := list4 (rowF_len ns (pl + 1) 4 (limit := 8) (by decide))
  obtain ⟨w0, w1, w2, w3, q3⟩ := list4 (rowF_len ns (pl + 2) 4 (limit := 12) (by decide))
  have v1 := rowF_wd ns pl 4 (limit := 25) (by decide)
  have v2 := rowF_wd ns (pl + 1) 4 (limit := 8) (by decide)
  have v3 := rowF_wd ns (pl + 2) 4 (limit := 12) (by decide)
  rw [q1] at r1 v1
  rw [q2] at r2 v2
  rw [q3] at r3 v3
  have va := v1 a (by simp)
  have vb := v1 b (by simp)
  have vj := v2 j (by simp)
  have vk := v2 k (by simp)
  have vn := v2 n (by simp)
  have m6 : ∀ z : Int, 0 ≤ z % 6 ∧ z % 6 < 6 := fun z => ⟨Int.emod_nonneg _ (by decide), Int.emod_lt_of_pos _ (by decide)⟩
  have m7 : ∀ z : Int, 0 ≤ z % 7 ∧ z % 7 < 7 := fun z => ⟨Int.emod_nonneg _ (by decide), Int.emod_lt_of_pos _ (by decide)⟩
  have c6 := m6 c
  have d6 := m6 d
  have j7 := m7 j
  unfold Wd at va vb vk
  obtain ⟨p1, P1, L1, S1, k1⟩ := lin_piece H (u := a - 12) (v := 1 + c % 6) (by omega) (by omega) (by omega) (by omega)
  obtain ⟨p2, P2, L2, S2, k2⟩ := lin_piece H (u := b - 12) (v := 1 + d % 6) (by omega) (by omega) (by omega) (by omega)
  obtain ⟨zq, hq, aq⟩ := pick8 vn 2 3 5 6 7 10 11 13
  obtain ⟨zc, hc, ac⟩ := pick8 vn 2 3 4 5 6 7 (-2) (-5)
  obtain ⟨e3, he3, a3⟩ := pick4 (n := w2 % 4) (Int.emod_nonneg _ (by decide)) (Int.emod_lt_of_pos _ (by decide))
  have f1 : ((w0 % 4).toNat : Int) = w0 % 4 := Int.toNat_of_nonneg (Int.emod_nonneg _ (by decide))
  have f2 : ((w1 % 3).toNat : Int) = w1 % 3 := Int.toNat_of_nonneg (Int.emod_nonneg _ (by decide))
  have f4 : ((w3 % 2).toNat : Int) = w3 % 2 := Int.toNat_of_nonneg (Int.emod_nonneg _ (by decide))
  have g1 : (w0 % 4).toNat ≤ 3 := by have := Int.emod_lt_of_pos w0 (show (0:Int) < 4 by decide); omega
  have g2 : (w1 % 3).toNat ≤ 2 := by have := Int.emod_lt_of_pos w1 (show (0:Int) < 3 by decide); omega
  have g4 : (w3 % 2).toNat ≤ 1 := by have := Int.emod_lt_of_pos w3 (show (0:Int) < 2 by decide); omega
  have i1 := io_of H.lpri
  simp only [F__law_primitive] at i1
  have S3 : l1 [3 + k, j % 7 - 3, 1] ≤ 14 := by simp only [l1]; omega
  have P3 : Pc [3 + k, j % 7 - 3, 1] := .third (by omega) (by omega) (by omega) (by omega)
  clear v1 v2 v3 vj m6 m7 q1 q2 q3
  by_cases he : e % 2 = 0
  · have CC := cop4_c (k := 3 + k) (j := j % 7 - 3) (n := zc) P1 P2 L1 L2 (by omega) (by omega) (by omega) (by omega) hc
    have Sc : l1 [zc, 0, 0, 1] ≤ 14 := by simp only [List.mem_cons, List.not_mem_nil, or_false] at hc; simp only [l1]; omega
    refine ⟨p1, p2, [3 + k, j % 7 - 3, 1], [zc, 0, 0, 1], (w0 % 4).toNat, (w1 % 3).toNat, e3, (w3 % 2).toNat, P1, P2, P3, .cub hc, L1, L2, rfl, by simp, S1, S2, S3, Sc, g1, g2, he3, g4, CC, Cl.mk H.lpie fun m hm => ?_⟩
    rw [f1, f2, f4]
    have r1 := r1.at hm
    have r2 := r2.at hm
    have r3 := r3.at hm
    have k1 := k1.at hm
    have k2 := k2.at hm
    have r1 : callN p m 10 [.list (ns.map .int), .int pl, .int 4, .int 25] = R.ok (.list [.int a, .int b, .int c, .int d], []) := r1
    have r2 : callN p m 10 [.list (ns.map .int), .int (pl + 1), .int 4, .int 8] = R.ok (.list [.int j, .int k, .int n, .int e], []) := r2
    have r3 : callN p m 10 [.list (ns.map .int), .int (pl + 2), .int 4, .int 12] = R.ok (.list [.int w0, .int w1, .int w2, .int w3], []) := r3
    rw [runF_eq _ _ _ rfl]; simp only [F__law_pieces, b__law_pieces, ioM_f, ioM_t, startT, mark, List.replicate, List.cons_append, List.nil_append, List.contains_cons, List.contains_nil, icL, icT, icI, icS, icB, icN, icD, Nat.reduceBEq, Nat.reduceSub, Nat.reduceAdd, Bool.true_and, Bool.false_and, Bool.or_false, beq_self_eq_true]
    repeat (rw [evSs_c]; simp [evIo, evSs_n, asg, asgs, frz1, own?, ixN_nat, outs, ofI, divS, gN_cf, gN_io, gN_gl, gN_gd, gN_xr, gN_fr, wipeT_nil, wipeT_cons, r1, r2, r3, k1, k2, io, i1, aq, ac, a3, he])
  · have CC := cop4_q (k := 3 + k) (j := j % 7 - 3) (n := zq) P1 P2 L1 L2 (by omega) (by omega) (by omega) (by omega) hq
    have Sc : l1 [-zq, 0, 1] ≤ 14 := by simp only [List.mem_cons, List.not_mem_nil, or_false] at hq; simp only [l1]; omega
    refine ⟨p1, p2, [3 + k, j % 7 - 3, 1], [-zq, 0, 1], (w0 % 4).toNat, (w1 % 3).toNat, e3, (w3 % 2).toNat, P1, P2, P3, .quad hq, L1, L2, rfl, by simp, S1, S2, S3, Sc, g1, g2, he3, g4, CC, Cl.mk H.lpie fun m hm => ?_⟩
    rw [f1, f2, f4]
    have r1 := r1.at hm
    have r2 := r2.at hm
    have r3 := r3.at hm
    have k1 := k1.at hm
    have k2 := k2.at hm
    have r1 : callN p m 10 [.list (ns.map .int), .int pl, .int 4, .int 25] = R.ok (.list [.int a, .int b, .int c, .int d], []) := r1
    have r2 : callN p m 10 [.list (ns.map .int), .int (pl + 1), .int 4, .int 8] = R.ok (.list [.int j, .int k, .int n, .int e], []) := r2
    have r3 : callN p m 10 [.list (ns.map .int), .int (pl + 2), .int 4, .int 12] = R.ok (.list [.int w0, .int w1, .int w2, .int w3], []) := r3
    rw [runF_eq _ _ _ rfl]; simp only [F__law_pieces, b__law_pieces, ioM_f, ioM_t, startT, mark, List.replicate, List.cons_append, List.nil_append, List.contains_cons, List.contains_nil, icL, icT, icI, icS, icB, icN, icD, Nat.reduceBEq, Nat.reduceSub, Nat.reduceAdd, Bool.true_and, Bool.false_and, Bool.or_false, beq_self_eq_true]
    repeat (rw [evSs_c]; simp [evIo, evSs_n, asg, asgs, frz1, own?, ixN_nat, outs, ofI, divS, gN_cf, gN_io, gN_gl, gN_gd, gN_xr, gN_fr, wipeT_nil, wipeT_cons, r1, r2, r3, k1, k2, io, i1, aq, ac, a3, he])
end Mp

/-! k43: the squares -/
namespace Mp
open PySem PySem.Spec PyProof.Rows L2
def sqS (F Dn : List Int) (U : List (List Int)) : Tau := [none, none, some (false, iT F), some (false, iT Dn), some (true, .list (U.map fun l => iT l)), none, none, none]
theorem sq_inner {p : Pr} (H : H43 p) {m : Nat} (hm : 1 ≤ m) {F : List Int} (pc : List Int) (Dn : D) (U : D) (e : Nat) (hF : F ≠ []) (hp : pc ≠ []) (hFP : IsP F) (hpP : IsP pc) (he : e ≤ 3) (hl : F.length ≤ 100 ∧ pc.length ≤ 4) (hpb : ∀ b ∈ pc, -(2 ^ 64) < b ∧ b < 2 ^ 64) :
    forL [] [0, 1, 7] (.n 7) (evSs (gN p m) [] b__law_squares_hold_1) (rngL 0 e) [none, none, some (false, iT F), some (false, Dn), some (true, U), some (false, iT pc), some (false, .int (e : Nat)), none] =
      .nx [none, none, some (false, iT (mulN F pc e)), some (false, Dn), some (true, U), some (false, iT pc), some (false, .int (e : Nat)), none] := by
  have i1 := io_of H.ltim
  simp only [F__law_times] at i1
  have := forL_ix (io := []) (dead := [0, 1, 7]) (t := .n 7) (body := evSs (gN p m) [] b__law_squares_hold_1) (rngL 0 e) (fun j => [none, none, some (false, iT (mulN F pc j)), some (false, Dn), some (true, U), some (false, iT pc), some (false, .int (e : Nat)), none]) 0 fun j d hd => by
    obtain ⟨hj, rfl⟩ := rng_get hd
    rw [Nat.zero_add]
    obtain ⟨q1, q2, q3, q4, q5⟩ := mulN_ok hFP hF hpP hp j
    have hjl : j * (pc.length - 1) ≤ 3 * 3 := Nat.mul_le_mul (by omega) (by omega)
    have ct := (ltim_cl H.ltim (xs := mulN F pc j) (ys := pc) (by omega) fun a _ b hb => mulR (hpb b hb)).at hm
    have e1 : pm (mulN F pc j) pc = mulN F pc (j + 1) := by unfold pm; rw [if_neg (by simp [q2, hp])]; rfl
    rw [e1] at ct
    generalize mulN F pc j = R at *
    generalize mulN F pc (j + 1) = R' at *
    exact Turn.of rfl (by simp only [b__law_squares_hold_1]; repeat (rw [evSs_c]; simp [evIo, evSs_n, asg, asgs, frz1, own?, ixN_nat, outs, ofI, divS, gN_cf, gN_io, gN_gl, gN_gd, gN_xr, gN_fr, wipeT_nil, wipeT_cons, ct, i1]))
  rw [rng_len, Nat.zero_add] at this
  exact this
theorem any_T (pc : List Int) : ∀ U : List (List Int), ((U.map fun l => iT l).any fun d => PyData.eqv d (iT pc)) = decide (pc ∈ U)
  | [] => by simp
  | u :: U => by
    rw [List.map_cons, List.any_cons, any_T pc U, eqv_tints]
    by_cases h : u = pc
    · subst h; simp
    · have h' : ¬ pc = u := fun z => h z.symm
      simp [h, h']
theorem in_T {pc : List Int} {U : List (List Int)} : inD (iT pc) (.list (U.map fun l => iT l)) = some (decide (pc ∈ U)) := by
  have s1 : SeqAt.shaped (iT pc) = true := (Sh.tup (Sh.ints pc)).shaped (by decide)
  have s2 : SeqAt.shaped (.list (U.map fun l => iT l)) = true := (Sh.lst (n := 1) fun d hd => by
    obtain ⟨l, _, rfl⟩ := List.mem_map.mp hd
    exact Sh.tup (Sh.ints l)).shaped (by decide)
  rw [inL, show flatD (iT pc) = false from rfl, s1, s2, any_T]
  rfl
theorem sq_turn {p : Pr} (H : H43 p) {m : Nat} (hm : 1 ≤ m) {F Dn pc : List Int} (U : List (List Int)) (e : Nat) (hF : F ≠ []) (hp : pc ≠ []) (hFP : IsP F) (hpP : IsP pc) (hD : Dn ≠ []) (he : e ≤ 3) (hl : F.length ≤ 100 ∧ pc.length ≤ 4 ∧ Dn.length ≤ 100) (hpb : ∀ b ∈ pc, -(2 ^ 64) < b ∧ b < 2 ^ 64) (hU : U.length ≤ 100) :
    Turn [] [0, 1, 5, 6, 7] (.tup [5, 6]) (evSs (gN p m) [] b__law_squares_hold_0) (.tuple [iT pc, .int (e : Nat)]) (sqS F Dn U) (sqS (mulN F pc e) (if 0 < e ∧ pc ∉ U then pmul Dn pc else Dn) (if 0 < e ∧ pc ∉ U then U ++ [pc] else U)) := by
  have i1 := io_of H.ltim
  simp only [F__law_times] at i1
  have inn := sq_inner H hm pc (iT Dn) (.list (U.map fun l => iT l)) e hF hp hFP hpP he ⟨hl.1, hl.2.1⟩ hpb
  have hr := rng1 (n := e) (by omega)
  have hin := in_T (pc := pc) (U := U)
  have hz : (U.map fun l => iT l).length < sizeLine := szl (by simp; omega)
  have hz2 : U.length < sizeLine := szl (by omega)
  have ct := (ltim_cl H.ltim (xs := Dn) (ys := pc) (by omega) fun a _ b hb => mulR (hpb b hb)).at hm
  have e1 : pm Dn pc = pmul Dn pc := by unfold pm; rw [if_neg (by simp [hD, hp])]
  rw [e1] at ct
  generalize mulN F pc e = F' at *
  unfold sqS
  by_cases h0 : 0 < e
  · have h0' : (0 : Int) < (e : Nat) := by omega
    by_cases h1 : pc ∈ U
    · rw [if_neg (by simp [h1]), if_neg (by simp [h1])]
      rw [decide_eq_true h1] at hin
      generalize (U.map fun l => iT l) = UD at *
      exact Turn.of rfl (by simp only [b__law_squares_hold_0]; repeat (rw [evSs_c]; simp [evIo, evSs_n, asg, asgs, frz1, own?, ixN_nat, outs, ofI, divS, gN_cf, gN_io, gN_gl, gN_gd, gN_xr, gN_fr, wipeT_nil, wipeT_cons, inn, hr, hin, h0, h0', -inL]))
    · rw [if_pos ⟨h0, h1⟩, if_pos ⟨h0, h1⟩]
      rw [decide_eq_false h1] at hin
      have eU : (U ++ [pc]).map (fun l => iT l) = (U.map fun l => iT l) ++ [iT pc] := by simp
      rw [eU]
      clear eU
      generalize (U.map fun l => iT l) = UD at *
      generalize pmul Dn pc = Dn' at *
      exact Turn.of rfl (by simp only [b__law_squares_hold_0]; repeat (rw [evSs_c]; simp [evIo, evSs_n, asg, asgs, frz1, own?, ixN_nat, outs, ofI, divS, gN_cf, gN_io, gN_gl, gN_gd, gN_xr, gN_fr, wipeT_nil, wipeT_cons, inn, hr, hin, h0, h0', hz, ct, i1, -inL]))
  · have h0' : ¬ (0 : Int) < (e : Nat) := by omega
    rw [if_neg (by omega), if_neg (by omega)]
    generalize (U.map fun l => iT l) = UD at *
    exact Turn.of rfl (by simp only [b__law_squares_hold_0]; repeat (rw [evSs_c]; simp [evIo, evSs_n, asg, asgs, frz1, own?, ixN_nat, outs, ofI, divS, gN_cf, gN_io, gN_gl, gN_gd, gN_xr, gN_fr, wipeT_nil, wipeT_cons, inn, hr, h0, h0']))
theorem Pc.isP {l : List Int} (h : Pc l) : IsP l := h.good.2.1.nrm.isP
theorem Pc.ne {l : List Int} (h : Pc l) : l ≠ [] := h.good.2.1.1
theorem Pc.small {l : List Int} (h : Pc l) : ∀ b ∈ l, -(2 ^ 64) < b ∧ b < 2 ^ 64 := fun b hb => by
  have h1 := l1_mem hb
  have h2 := h.good.2.2
  omega
/-- one piece more: the lists' sizes -/
theorem sz_next {Dn pc : List Int} {U : List (List Int)} {e : Nat} (hp : Pc pc) (hD : Dn ≠ []) (hl1 : 1 ≤ l1 pc) : l1 (if 0 < e ∧ pc ∉ U then pmul Dn pc else Dn) ≤ l1 Dn * l1 pc ∧ (if 0 < e ∧ pc ∉ U then pmul Dn pc else Dn).length ≤ Dn.length + (if e = 0 then 0 else pc.length - 1) := by
  split
  · rename_i h
    have := List.length_pos_iff.mpr hD
    have := List.length_pos_iff.mpr hp.ne
    refine ⟨l1_pmul _ _, ?_⟩
    rw [pmul_len _ _ hD hp.ne, if_neg (by omega)]; omega
  · exact ⟨Nat.le_mul_of_pos_right _ (by omega), by omega⟩
theorem Pc.l1_pos {l : List Int} (h : Pc l) : 1 ≤ l1 l := by
  have h1 := (isP_lead h.ne).mp h.isP
  have h2 := l1_mem (List.mem_of_getLast? (lead_q h.ne))
  omega
theorem pow_bd {a b e n : Nat} (h : a ≤ b) (he : e ≤ n) (hb : 1 ≤ b) : a ^ e ≤ b ^ n := Nat.le_trans (Nat.pow_le_pow_left h e) (Nat.pow_le_pow_right hb he)
theorem lsqu_cl {p : Pr} (H : H43 p) {p1 p2 p3 p4 : List Int} {e1 e2 e3 e4 : Nat} (P1 : Pc p1) (P2 : Pc p2) (P3 : Pc p3) (P4 : Pc p4) (L1 : p1.length = 2) (L2 : p2.length = 2) (L3 : p3.length = 3) (L4 : p4.length ≤ 4) (S1 : l1 p1 ≤ 18) (S2 : l1 p2 ≤ 18) (S3 : l1 p3 ≤ 14) (S4 : l1 p4 ≤ 14) (E1 : e1 ≤ 3) (E2 : e2 ≤ 2) (E3 : e3 ≤ 2) (E4 : e4 ≤ 1)
    (hne : p1 ≠ p2 → Cop (pev p1) (pev p2)) (h13 : Cop (pev p1) (pev p3)) (h23 : Cop (pev p2) (pev p3)) (h14 : Cop (pev p1) (pev p4)) (h24 : Cop (pev p2) (pev p4)) (h34 : Cop (pev p3) (pev p4)) {f : Int} (hf : f ≠ 0) (hf9 : f.natAbs ≤ 9) :
    Cl p 10 140 [.list [.tuple [iT p1, .int (e1 : Nat)], .tuple [iT p2, .int (e2 : Nat)], .tuple [iT p3, .int (e3 : Nat)], .tuple [iT p4, .int (e4 : Nat)]], .int f] (.bool true, []) := by
  have hc : ∀ q ∈ [p1, p2, p3, p4], Pc q := fun q hq => by
    simp only [List.mem_cons, List.not_mem_nil, or_false] at hq
    rcases hq with rfl | rfl | rfl | rfl <;> assumption
  have hd : ∀ q ∈ [p1, p2, p3, p4], ∀ r ∈ [p1, p2, p3, p4], q ≠ r → Cop (pev q) (pev r) := fun q hq r hr hn => by
    simp only [List.mem_cons, List.not_mem_nil, or_false] at hq hr
    rcases hq with rfl | rfl | rfl | rfl <;> rcases hr with rfl | rfl | rfl | rfl <;> first
      | exact absurd rfl hn
      | exact hne hn
      | exact (hne (Ne.symm hn)).symm
      | assumption
      | exact Cop.symm h13
      | exact Cop.symm h23
      | exact Cop.symm h14
      | exact Cop.symm h24
      | exact Cop.symm h34
  have I0 : SqI [p1, p2, p3, p4] f [] [f] [1] := ⟨isP_one.mpr hf, by simp, fun t => by rw [show lP [] = [1] from rfl, pev_one]; simp [pev], isP_one.mpr (by decide), by simp, fun t => rfl, by simp, by simp [nms], by simp⟩
  obtain ⟨I1, N1, W1⟩ := I0.add (p := p1) (by simp) P1.isP P1.ne e1
  obtain ⟨I2, N2, W2⟩ := I1.add (p := p2) (by simp) P2.isP P2.ne e2
  obtain ⟨I3, N3, W3⟩ := I2.add (p := p3) (by simp) P3.isP P3.ne e3
  obtain ⟨I4, N4, W4⟩ := I3.add (p := p4) (by simp) P4.isP P4.ne e4
  obtain ⟨_, _, g1, _, b1⟩ := mulN_ok I0.FP I0.Fn P1.isP P1.ne e1
  obtain ⟨_, _, g2, _, b2⟩ := mulN_ok I1.FP I1.Fn P2.isP P2.ne e2
  obtain ⟨_, _, g3, _, b3⟩ := mulN_ok I2.FP I2.Fn P3.isP P3.ne e3
  obtain ⟨_, _, g4, _, b4⟩ := mulN_ok I3.FP I3.Fn P4.isP P4.ne e4
  obtain ⟨u1, v1⟩ := sz_next (U := nms []) (e := e1) P1 I0.Dnn P1.l1_pos
  obtain ⟨u2, v2⟩ := sz_next (U := nms (addP p1 e1 [])) (e := e2) P2 I1.Dnn P2.l1_pos
  obtain ⟨u3, v3⟩ := sz_next (U := nms (addP p2 e2 (addP p1 e1 []))) (e := e3) P3 I2.Dnn P3.l1_pos
  obtain ⟨u4, v4⟩ := sz_next (U := nms (addP p3 e3 (addP p2 e2 (addP p1 e1 [])))) (e := e4) P4 I3.Dnn P4.l1_pos
  generalize addP p4 e4 (addP p3 e3 (addP p2 e2 (addP p1 e1 []))) = A4 at *
  generalize addP p3 e3 (addP p2 e2 (addP p1 e1 [])) = A3 at *
  generalize addP p2 e2 (addP p1 e1 []) = A2 at *
  generalize addP p1 e1 [] = A1 at *
  have k1 : (nms A1).length ≤ 1 := by rw [N1]; split <;> simp
  have k2 : (nms A2).length ≤ 2 := by
    rw [N2]
    split
    · rw [List.length_append, List.length_singleton]; omega
    · omega
  have k3 : (nms A3).length ≤ 3 := by
    rw [N3]
    split
    · rw [List.length_append, List.length_singleton]; omega
    · omega
  have hq1 : e1 * (p1.length - 1) ≤ 3 := by rw [L1]; omega
  have hq2 : e2 * (p2.length - 1) ≤ 2 := by rw [L2]; omega
  have hq3 : e3 * (p3.length - 1) ≤ 4 := by rw [L3]; omega
  have hq4 : e4 * (p4.length - 1) ≤ 3 := Nat.le_trans (Nat.mul_le_mul E4 (show p4.length - 1 ≤ 3 by omega)) (by decide)
  have f0 : ([f] : List Int).length = 1 := rfl
  have d0 : ([1] : List Int).length = 1 := rfl
  have c1 : l1 [f] ≤ 9 := by simp only [l1]; omega
  have c2 : l1 [(1 : Int)] = 1 := rfl
  have w1 : l1 p1 ^ e1 ≤ 18 ^ 3 := pow_bd S1 E1 (by decide)
  have w2 : l1 p2 ^ e2 ≤ 18 ^ 2 := pow_bd S2 E2 (by decide)
  have w3 : l1 p3 ^ e3 ≤ 14 ^ 2 := pow_bd S3 E3 (by decide)
  have w4 : l1 p4 ^ e4 ≤ 14 ^ 1 := pow_bd S4 E4 (by decide)
  have B4 : l1 (mulN (mulN (mulN (mulN [f] p1 e1) p2 e2) p3 e3) p4 e4) ≤ 46675000000 := by
    have x1 := Nat.le_trans b1 (Nat.mul_le_mul c1 w1)
    have x2 := Nat.le_trans b2 (Nat.mul_le_mul x1 w2)
    have x3 := Nat.le_trans b3 (Nat.mul_le_mul x2 w3)
    have x4 := Nat.le_trans b4 (Nat.mul_le_mul x3 w4)
    exact Nat.le_trans x4 (by decide)
  have t1 := fun m (hm : 1 ≤ m) => sq_turn H hm (F := [f]) (Dn := [1]) (pc := p1) (nms []) e1 I0.Fn P1.ne I0.FP P1.isP I0.Dnn E1 (by omega) P1.small (by simp)
  rw [← N1] at t1
  generalize mulN [f] p1 e1 = F1 at *
  generalize (if 0 < e1 ∧ p1 ∉ nms [] then pmul [1] p1 else [1]) = D1 at *
  have vv1 : D1.length ≤ 2 := by split at v1 <;> omega
  have t2 := fun m (hm : 1 ≤ m) => sq_turn H hm (F := F1) (Dn := D1) (pc := p2) (nms A1) e2 I1.Fn P2.ne I1.FP P2.isP I1.Dnn (by omega) (by omega) P2.small (by omega)
  rw [← N2] at t2
  generalize mulN F1 p2 e2 = F2 at *
  generalize (if 0 < e2 ∧ p2 ∉ nms A1 then pmul D1 p2 else D1) = D2 at *
  have vv2 : D2.length ≤ 3 := by split at v2 <;> omega
  have t3 := fun m (hm : 1 ≤ m) => sq_turn H hm (F := F2) (Dn := D2) (pc := p3) (nms A2) e3 I2.Fn P3.ne I2.FP P3.isP I2.Dnn (by omega) (by omega) P3.small (by omega)
  rw [← N3] at t3
  generalize mulN F2 p3 e3 = F3 at *
  generalize (if 0 < e3 ∧ p3 ∉ nms A2 then pmul D2 p3 else D2) = D3' at *
  have vv3 : D3'.length ≤ 5 := by split at v3 <;> omega
  have t4 := fun m (hm : 1 ≤ m) => sq_turn H hm (F := F3) (Dn := D3') (pc := p4) (nms A3) e4 I3.Fn P4.ne I3.FP P4.isP I3.Dnn (by omega) (by omega) P4.small (by omega)
  rw [← N4] at t4
  generalize mulN F3 p4 e4 = F4 at *
  generalize (if 0 < e4 ∧ p4 ∉ nms A3 then pmul D3' p4 else D3') = D4 at *
  have vv4 : D4.length ≤ 8 := by split at v4 <;> omega
  have BD : l1 D4 ≤ 46675000000 := by
    have x1 := Nat.le_trans u1 (Nat.mul_le_mul (Nat.le_of_eq c2) S1)
    have x2 := Nat.le_trans u2 (Nat.mul_le_mul x1 S2)
    have x3 := Nat.le_trans u3 (Nat.mul_le_mul x2 S3)
    have x4 := Nat.le_trans u4 (Nat.mul_le_mul x3 S4)
    exact Nat.le_trans x4 (by decide)
  have w0 : wt [] = 0 := rfl
  obtain ⟨s1, s2, g, hg, eg⟩ := sq_main H.toHPoly (fun q hq => (hc q hq).self) hd (fun q hq => (hc q hq).good) hf I4 B4 (by omega) BD (by omega) (by omega)
  have bF : ∀ a ∈ g.map (· * f), Bd 40 a := by rw [← eg]; exact bd_l1 (Nat.lt_of_le_of_lt B4 (by decide))
  have gl : g.length ≤ 100000 := by have := congrArg List.length eg; rw [List.length_map] at this; omega
  have pr1 := prim_cl H.toHPoly (B := 40) (by decide) hg hf bF gl
  have pr2 := lpri_cl H (B := 40) (by decide) hg hf bF gl
  rw [← eg] at pr1 pr2
  have al1 := lali_cl H I4.DP
  have al2 := lali_cl H hg.isP
  refine Cl.mk H.lsqu fun m hm => ?_
  have t1 := t1 m (by omega)
  have t2 := t2 m (by omega)
  have t3 := t3 m (by omega)
  have t4 := t4 m (by omega)
  have lp : forL [] [0, 1, 5, 6, 7] (.tup [5, 6]) (evSs (gN p m) [] b__law_squares_hold_0) [.tuple [iT p1, .int (e1 : Nat)], .tuple [iT p2, .int (e2 : Nat)], .tuple [iT p3, .int (e3 : Nat)], .tuple [iT p4, .int (e4 : Nat)]] (sqS [f] [1] (nms [])) = .nx (sqS F4 D4 (nms A4)) := by
    rw [forL_cons t1, forL_cons t2, forL_cons t3, forL_cons t4]; rfl
  have s1 := s1.at hm
  have s2 := s2.at hm
  have pr1 := pr1.at (show 5 ≤ m by omega)
  have pr2 := pr2.at (show 2 ≤ m by omega)
  have al1 := al1.at (show 2 ≤ m by omega)
  have al2 := al2.at (show 2 ≤ m by omega)
  have i1 := io_of H.sqf
  have i2 := io_of H.lali
  have i3 := io_of H.prim
  have i4 := io_of H.lpri
  simp only [F_squarefree_part] at i1
  simp only [F__law_alike] at i2
  simp only [F_primitive] at i3
  simp only [F__law_primitive] at i4
  have lp : forL [] [0, 1, 5, 6, 7] (.tup [5, 6]) (evSs (gN p m) [] b__law_squares_hold_0) [.tuple [iT p1, .int (e1 : Nat)], .tuple [iT p2, .int (e2 : Nat)], .tuple [iT p3, .int (e3 : Nat)], .tuple [iT p4, .int (e4 : Nat)]] [none, none, some (false, .tuple [.int f]), some (false, .tuple [.int 1]), some (true, .list []), none, none, none] = .nx (sqS F4 D4 (nms A4)) := lp
  unfold sqS at lp
  clear t1 t2 t3 t4 eg
  generalize (nms A4).map (fun l => iT l) = UD at *
  rw [runF_eq _ _ _ rfl]; simp only [F__law_squares_hold, b__law_squares_hold, ioM_f, ioM_t, startT, mark, List.replicate, List.cons_append, List.nil_append, List.contains_cons, List.contains_nil, icL, icT, icI, icS, icB, icN, icD, Nat.reduceBEq, Nat.reduceSub, Nat.reduceAdd, Bool.true_and, Bool.false_and, Bool.or_false, beq_self_eq_true]
  repeat (rw [evSs_c]; simp [evIo, evSs_n, asg, asgs, frz1, own?, ixN_nat, outs, ofI, divS, gN_cf, gN_io, gN_gl, gN_gd, gN_xr, gN_fr, wipeT_nil, wipeT_cons, lp, s1, s2, pr1, pr2, al1, al2, i1, i2, i3, i4])
end Mp

/-! k43: the law -/
namespace Mp
open PySem PySem.Spec PyProof.Rows L2
theorem evSs_step {g : G} {io : List Nat} {s : S} {ss : Ss} {τ τ' : Tau} (h : evS g io s τ = .nx τ') : evSs g io (.cons s ss) τ = evSs g io ss τ' := by rw [evSs_c, h, Out.seq_nx]
theorem pick6 {n : Int} (h : Wd 6 n) (x0 x1 x2 x3 x4 x5 : Int) : ∃ z, z ∈ [x0, x1, x2, x3, x4, x5] ∧ atI [PyData.int x0, .int x1, .int x2, .int x3, .int x4, .int x5] n = some (.int z) := by
  obtain ⟨h0, h1⟩ := h
  have : n = 0 ∨ n = 1 ∨ n = 2 ∨ n = 3 ∨ n = 4 ∨ n = 5 := by omega
  rcases this with rfl | rfl | rfl | rfl | rfl | rfl
  · exact ⟨x0, by simp, by simp⟩
  · exact ⟨x1, by simp, by simp⟩
  · exact ⟨x2, by simp, by simp⟩
  · exact ⟨x3, by simp, by simp⟩
  · exact ⟨x4, by simp, by simp⟩
  · exact ⟨x5, by simp, by simp⟩
theorem polyF_ok (ns : List Int) (pl : Int) (deg : Nat) {bound : Int} (hb : 0 < bound) (hb2 : bound ≤ 100000000) : IsP (polyF ns pl deg bound) ∧ (polyF ns pl deg bound).length ≤ deg + 1 ∧ ∀ a ∈ polyF ns pl deg bound, a.natAbs ≤ 100000000 := by
  unfold polyF
  refine ⟨isP_trm _, ?_, fun a ha => ?_⟩
  · have := trm_len ((rowF ns pl (deg + 1) (2 * bound + 1)).map (· - bound))
    rw [List.length_map, rowF_len _ _ _ (by omega)] at this
    exact this
  · obtain ⟨b, hb', rfl⟩ := List.mem_map.mp (trm_mem ha)
    have := rowF_wd ns pl (deg + 1) (limit := 2 * bound + 1) (by omega) b hb'
    unfold Wd at this
    omega
theorem bd8 {a : Int} (h : a.natAbs ≤ 100000000) : Bd 27 a := by unfold Bd; omega
theorem none_T (xs : List Int) : isNone (iT xs) = false := rfl
theorem law43 {p : Pr} (H : H43 p) (hlaw : p.fs 141 = some F_law__v6) (ns : List Int) : Cl p 12 141 [.list (ns.map .int)] (.bool true, []) := by
  refine Cl.mk hlaw fun m hm => ?_
  have key : ∃ τ, evSs (gN p m) [] F_law__v6.body (startT F_law__v6 [.list (ns.map .int)]) = .ret τ (.bool true) := by
    have one := fun (pl limit : Int) (h0 : 0 < limit) => (one_cl H.row ns pl limit h0 (fun x => div0 h0)).at (show 3 ≤ m by omega)
    have owd := fun (pl limit : Int) (h0 : 0 < limit) => oneF_wd ns pl (limit := limit) h0
    have i1 := io_of H.row.one
    have i2 := io_of H.lpoly
    have i3 := io_of H.lsca
    have i4 := io_of H.lquo
    have i5 := io_of H.ldvs
    have i6 := io_of H.lali
    have i7 := io_of H.prim
    have i8 := io_of H.lpri
    have i9 := io_of H.lval
    have ia := io_of H.lpie
    have ib := io_of H.lsqu
    simp only [F__law_one] at i1
    simp only [F__law_poly] at i2
    simp only [F__law_scaled] at i3
    simp only [F__law_quotients_hold] at i4
    simp only [F__law_division] at i5
    simp only [F__law_alike] at i6
    simp only [F_primitive] at i7
    simp only [F__law_primitive] at i8
    simp only [F__law_values_hold] at i9
    simp only [F__law_pieces] at ia
    simp only [F__law_squares_hold] at ib
    have pw : powOk 10 8 = true := by decide
    -- the bound
    obtain ⟨b, hb, a0⟩ := pick6 (owd 0 6 (by decide)) 1 3 9 9 99 100000000
    have hb0 : 0 < b ∧ b ≤ 100000000 := by
      simp only [List.mem_cons, List.not_mem_nil, or_false] at hb
      omega
    clear hb
    obtain ⟨d1, hd1, a1⟩ := pick8 (owd 2 8 (by decide)) 0 1 1 2 2 3 4 6
    obtain ⟨n1, rfl, hn1⟩ : ∃ n : Nat, d1 = (n : Int) ∧ n ≤ 6 := by
      simp only [List.mem_cons, List.not_mem_nil, or_false] at hd1
      exact ⟨d1.toNat, by omega, by omega⟩
    obtain ⟨d2, hd2, a2⟩ := pick6 (owd 5 6 (by decide)) 0 1 2 2 3 4
    obtain ⟨n2, rfl, hn2⟩ : ∃ n : Nat, d2 = (n : Int) ∧ n ≤ 4 := by
      simp only [List.mem_cons, List.not_mem_nil, or_false] at hd2
      exact ⟨d2.toNat, by omega, by omega⟩
    clear hd1 hd2
    obtain ⟨yP, yL, yB⟩ := polyF_ok ns 1 n1 hb0.1 hb0.2
    obtain ⟨qP, qL, qB⟩ := polyF_ok ns 4 n2 hb0.1 hb0.2
    have cy := (lpoly_cl H ns 1 n1 b (by omega) hb0.1 (by omega)).at (show 3 ≤ m by omega)
    have cq := (lpoly_cl H ns 4 n2 b (by omega) hb0.1 (by omega)).at (show 3 ≤ m by omega)
    have w3 := owd 3 b hb0.1
    have o0 := one 0 6 (by decide)
    have o2 := one 2 8 (by decide)
    have o3 := one 3 b hb0.1
    have o5 := one 5 6 (by decide)
    have o6 := one 6 2 (by decide)
    have o8 := one 8 9 (by decide)
    have o9 := one 9 2 (by decide)
    have o10 := one 10 3 (by decide)
    have o12 := one 12 7 (by decide)
    have o13 := one 13 199 (by decide)
    have o14 := one 14 199 (by decide)
    have o15 := one 15 99 (by decide)
    have w8 := owd 8 9 (by decide)
    have w12 := owd 12 7 (by decide)
    have w13 := owd 13 199 (by decide)
    have w14 := owd 14 199 (by decide)
    have w15 := owd 15 99 (by decide)
    generalize hX12 : oneF ns 12 7 = x12 at *
    obtain ⟨n3, rfl, hn3⟩ : ∃ n : Nat, x12 = (n : Int) ∧ n ≤ 6 := ⟨x12.toNat, by unfold Wd at w12; omega, by unfold Wd at w12; omega⟩
    obtain ⟨xP, xL, xB⟩ := polyF_ok ns 11 n3 (bound := 999) (by decide) (by decide)
    have cx := (lpoly_cl H ns 11 n3 999 (by omega) (by decide) (by decide)).at (show 3 ≤ m by omega)
    have cr := fun n (h : n ≤ 6) => (lpoly_cl H ns 7 n b (by omega) hb0.1 (by omega)).at (show 3 ≤ m by omega)
    have rF := fun n => polyF_ok ns 7 n hb0.1 hb0.2
    generalize polyF ns 11 n3 999 = x at *
    generalize polyF ns 1 n1 b = y0 at *
    generalize polyF ns 4 n2 b = q0 at *
    generalize oneF ns 0 6 = z0 at *
    generalize oneF ns 2 8 = z2 at *
    generalize oneF ns 3 b = z3 at *
    generalize oneF ns 5 6 = z5 at *
    generalize oneF ns 6 2 = z6 at *
    generalize oneF ns 8 9 = z8 at *
    generalize oneF ns 9 2 = z9 at *
    generalize oneF ns 10 3 = z10 at *
    generalize oneF ns 13 199 = z13 at *
    generalize oneF ns 14 199 = z14 at *
    generalize oneF ns 15 99 = z15 at *
    unfold Wd at w3 w8 w13 w14 w15
    simp only [F_law__v6, b_law__v6, startT, mark, List.replicate, List.cons_append, List.nil_append, List.contains_nil, Bool.false_and, Nat.reduceSub]
    generalize hs : PyData.list (ns.map .int) = sc at *
    -- bound, y, q, r, factor
    rw [evSs_step (τ' := [some (false, sc), some (false, .int b), none, none, none, none, none, none, none, none, none])]
    rotate_left
    · simp [evIo, evSs_n, asg, asgs, frz1, own?, ixN_nat, outs, ofI, divS, gN_cf, gN_io, gN_gl, gN_gd, gN_xr, gN_fr, wipeT_nil, wipeT_cons, o0, i1, a0, pw]
    rw [evSs_step (τ' := [some (false, sc), some (false, .int b), some (false, iT y0), none, none, none, none, none, none, none, none])]
    rotate_left
    · simp [evIo, evSs_n, asg, asgs, frz1, own?, ixN_nat, outs, ofI, divS, gN_cf, gN_io, gN_gl, gN_gd, gN_xr, gN_fr, wipeT_nil, wipeT_cons, o2, i1, a1, cy, i2]
    obtain ⟨Y, YP, Yn, YL, YB, YC⟩ : ∃ Y : List Int, IsP Y ∧ Y ≠ [] ∧ Y.length ≤ 7 ∧ (∀ a ∈ Y, a.natAbs ≤ 100000000) ∧ ((y0 = [] ∧ Y = [1 + z3]) ∨ (y0 ≠ [] ∧ Y = y0)) := by
      by_cases h : y0 = []
      · exact ⟨[1 + z3], isP_one.mpr (by omega), by simp, by simp, by simp; omega, .inl ⟨h, rfl⟩⟩
      · exact ⟨y0, yP, h, by omega, yB, .inr ⟨h, rfl⟩⟩
    rw [evSs_step (τ' := [some (false, sc), some (false, .int b), some (false, iT Y), none, none, none, none, none, none, none, none])]
    rotate_left
    · rcases YC with ⟨h1, h2⟩ | ⟨h1, h2⟩
      · subst h1 h2
        simp [evIo, evSs_n, asg, asgs, frz1, own?, ixN_nat, outs, ofI, divS, gN_cf, gN_io, gN_gl, gN_gd, gN_xr, gN_fr, wipeT_nil, wipeT_cons, o3, i1, evSs_c]
      · subst h2
        have l0 : ¬ Y.length = 0 := by have := List.length_pos_iff.mpr h1; omega
        simp [evIo, evSs_n, asg, asgs, frz1, own?, ixN_nat, outs, ofI, divS, gN_cf, gN_io, gN_gl, gN_gd, gN_xr, gN_fr, wipeT_nil, wipeT_cons, l0, h1]
    rw [evSs_step (τ' := [some (false, sc), some (false, .int b), some (false, iT Y), some (false, iT q0), none, none, none, none, none, none, none])]
    rotate_left
    · simp [evIo, evSs_n, asg, asgs, frz1, own?, ixN_nat, outs, ofI, divS, gN_cf, gN_io, gN_gl, gN_gd, gN_xr, gN_fr, wipeT_nil, wipeT_cons, o5, i1, a2, cq, i2]
    rw [evSs_step (τ' := [some (false, sc), some (false, .int b), some (false, iT Y), some (false, iT q0), some (false, iT []), none, none, none, none, none, none])]
    rotate_left
    · simp [evIo, evSs_n, asg, asgs, frz1, own?, ixN_nat, outs, ofI, divS, gN_cf, gN_io, gN_gl, gN_gd, gN_xr, gN_fr, wipeT_nil, wipeT_cons]
    have Yl : 0 < Y.length := List.length_pos_iff.mpr Yn
    obtain ⟨R, RP, RL, RB, RC⟩ : ∃ R : List Int, IsP R ∧ R.length < Y.length ∧ (∀ a ∈ R, a.natAbs ≤ 100000000) ∧ (((1 < Y.length ∧ z6 = 0) ∧ R = polyF ns 7 (Y.length - 2) b) ∨ (¬ (1 < Y.length ∧ z6 = 0) ∧ R = [])) := by
      by_cases h : 1 < Y.length ∧ z6 = 0
      · obtain ⟨h1, h2, h3⟩ := rF (Y.length - 2)
        exact ⟨_, h1, by omega, h3, .inl ⟨h, rfl⟩⟩
      · exact ⟨[], isP_nil, by simpa using Yl, by simp, .inr ⟨h, rfl⟩⟩
    rw [evSs_step (τ' := [some (false, sc), some (false, .int b), some (false, iT Y), some (false, iT q0), some (false, iT R), none, none, none, none, none, none])]
    rotate_left
    · rcases RC with ⟨⟨h1, h2⟩, h3⟩ | ⟨h1, h2⟩
      · have cr := cr (Y.length - 2) (by omega)
        rw [← h3, show ((Y.length - 2 : Nat) : Int) = (Y.length : Int) - 2 by omega] at cr
        have h4 : (1 : Int) < (Y.length : Nat) := by omega
        simp [evIo, evSs_n, asg, asgs, frz1, own?, ixN_nat, outs, ofI, divS, gN_cf, gN_io, gN_gl, gN_gd, gN_xr, gN_fr, wipeT_nil, wipeT_cons, o6, i1, h1, h2, h4, cr, i2, evSs_c]
      · subst h2
        by_cases h3 : 1 < Y.length
        · have h4 : (1 : Int) < (Y.length : Nat) := by omega
          have h5 : ¬ z6 = 0 := fun z => h1 ⟨h3, z⟩
          simp [evIo, evSs_n, asg, asgs, frz1, own?, ixN_nat, outs, ofI, divS, gN_cf, gN_io, gN_gl, gN_gd, gN_xr, gN_fr, wipeT_nil, wipeT_cons, o6, i1, h3, h4, h5]
        · have h4 : ¬ (1 : Int) < (Y.length : Nat) := by omega
          simp [evIo, evSs_n, asg, asgs, frz1, own?, ixN_nat, outs, ofI, divS, gN_cf, gN_io, gN_gl, gN_gd, gN_xr, gN_fr, wipeT_nil, wipeT_cons, o6, i1, h3, h4]
    clear RC YC
    rw [evSs_step (τ' := [some (false, sc), some (false, .int b), some (false, iT Y), some (false, iT q0), some (false, iT R), some (false, .int (1 + z8)), none, none, none, none, none])]
    rotate_left
    · simp [evIo, evSs_n, asg, asgs, frz1, own?, ixN_nat, outs, ofI, divS, gN_cf, gN_io, gN_gl, gN_gd, gN_xr, gN_fr, wipeT_nil, wipeT_cons, o8, i1]
    obtain ⟨f, hf, hf9, fC⟩ : ∃ f : Int, f ≠ 0 ∧ f.natAbs ≤ 9 ∧ ((z9 = 0 ∧ f = -(1 + z8)) ∨ (z9 ≠ 0 ∧ f = 1 + z8)) := by
      by_cases h : z9 = 0
      · exact ⟨_, by omega, by omega, .inl ⟨h, rfl⟩⟩
      · exact ⟨_, by omega, by omega, .inr ⟨h, rfl⟩⟩
    rw [evSs_step (τ' := [some (false, sc), some (false, .int b), some (false, iT Y), some (false, iT q0), some (false, iT R), some (false, .int f), none, none, none, none, none])]
    rotate_left
    · rcases fC with ⟨h1, h2⟩ | ⟨h1, h2⟩
      · subst h2
        simp [evIo, evSs_n, asg, asgs, frz1, own?, ixN_nat, outs, ofI, divS, gN_cf, gN_io, gN_gl, gN_gd, gN_xr, gN_fr, wipeT_nil, wipeT_cons, o9, i1, h1, evSs_c]
      · subst h2
        simp [evIo, evSs_n, asg, asgs, frz1, own?, ixN_nat, outs, ofI, divS, gN_cf, gN_io, gN_gl, gN_gd, gN_xr, gN_fr, wipeT_nil, wipeT_cons, o9, i1, h1]
    clear fC
    have f64 : -(2 ^ 64) < f ∧ f < 2 ^ 64 := by omega
    have sc1 := (lsca_cl H.lsca q0 f (by omega) fun a _ => mulR f64).at (show 1 ≤ m by omega)
    obtain ⟨Q, QP, QL, QB, QC⟩ : ∃ Q : List Int, IsP Q ∧ Q.length ≤ 5 ∧ (∀ a ∈ Q, Bd 60 a) ∧ ((z10 = 0 ∧ Q = q0.map (· * f)) ∨ (z10 ≠ 0 ∧ Q = q0)) := by
      by_cases h : z10 = 0
      · refine ⟨_, isP_scale qP hf, by rw [List.length_map]; omega, fun a ha => ?_, .inl ⟨h, rfl⟩⟩
        exact ((bd_map (fun z hz => bd8 (qB z hz)) (show Bd 4 f by unfold Bd; omega)) a ha).mono (by decide)
      · exact ⟨q0, qP, by omega, fun a ha => (bd8 (qB a ha)).mono (by decide), .inr ⟨h, rfl⟩⟩
    rw [evSs_step (τ' := [some (false, sc), some (false, .int b), some (false, iT Y), some (false, iT Q), some (false, iT R), some (false, .int f), none, none, none, none, none])]
    rotate_left
    · rcases QC with ⟨h1, h2⟩ | ⟨h1, h2⟩
      · subst h2
        generalize q0.map (· * f) = qf at *
        simp [evIo, evSs_n, asg, asgs, frz1, own?, ixN_nat, outs, ofI, divS, gN_cf, gN_io, gN_gl, gN_gd, gN_xr, gN_fr, wipeT_nil, wipeT_cons, o10, i1, h1, sc1, i3, evSs_c]
      · subst h2
        simp [evIo, evSs_n, asg, asgs, frz1, own?, ixN_nat, outs, ofI, divS, gN_cf, gN_io, gN_gl, gN_gd, gN_xr, gN_fr, wipeT_nil, wipeT_cons, o10, i1, h1]
    clear QC
    have YB60 : ∀ a ∈ Y, Bd 60 a := fun a ha => (bd8 (YB a ha)).mono (by decide)
    have xB60 : ∀ a ∈ x, Bd 60 a := fun a ha => (bd8 (xB a ha)).mono (by decide)
    have f4 : Bd 4 f := by unfold Bd; omega
    have qh := (lquo_cl H (q := Q) (y := Y) (r := R) (f := f) QP YP RP Yn RL hf f64 QB YB60 (fun a ha => (bd8 (RB a ha)).mono (by decide)) (by omega) (by omega) (fun a ha => ((bd_map YB60 f4) a ha).mono (by decide))).at (show 5 ≤ m by omega)
    obtain ⟨c, dq, dr, _, _, _, _, _, _, dvc⟩ := ldvs_cl H (x := x) (y := Y) (bx := 60) (b := 60) xP YP Yn xB60 YB60 (by omega) (by
      have : (x.length + 2 - Y.length) * (60 + 1) ≤ 100 * 61 := Nat.mul_le_mul_right _ (by omega)
      omega)
    have dvc := dvc.at (show 3 ≤ m by omega)
    have sc2 := (lsca_cl H.lsca x f (by omega) fun a _ => mulR f64).at (show 1 ≤ m by omega)
    have prs : ∃ g : List Int, callN p m 119 [iT (x.map (· * f))] = .ok (iT g, []) ∧ callN p m 133 [iT x] = .ok (iT g, []) ∧ callN p m 135 [iT g, iT g] = .ok (.bool true, []) := by
      by_cases hx0 : x = []
      · subst hx0
        exact ⟨[], (prim0_cl H.toHPoly).at (by omega), (lpri0_cl H).at (by omega), (lali_cl H isP_nil).at (by omega)⟩
      · obtain ⟨g, c1, hc1, hg, eg⟩ := nrm_ex xP hx0
        have e2 : x.map (· * f) = g.map (· * (c1 * f)) := by
          rw [eg, List.map_map]
          apply List.map_congr_left
          intro a _
          simp [Int.mul_assoc]
        have gl : g.length ≤ 100000 := by have := congrArg List.length eg; rw [List.length_map] at this; omega
        have p1 := prim_cl H.toHPoly (B := 64) (by decide) hg (Int.mul_ne_zero hc1 hf) (by rw [← e2]; exact bd_map xB60 f4) gl
        have p2 := lpri_cl H (B := 60) (by decide) hg hc1 (by rw [← eg]; exact xB60) gl
        rw [← e2] at p1
        rw [← eg] at p2
        exact ⟨g, p1.at (by omega), p2.at (by omega), (lali_cl H hg.isP).at (by omega)⟩
    obtain ⟨g, pr1, pr2, pr3⟩ := prs
    have pr0 := (prim0_cl H.toHPoly).at (show 1 ≤ m by omega)
    have pr0 : callN p m 119 [.tuple []] = .ok (.tuple [], []) := pr0
    have v1 := (lval_cl H (xs := x) (pt := z13 - 99) (t := z14 - 99) (b := 1 + z15) (by omega) (by omega) (by omega) xB60 (by omega)).at (show 2 ≤ m by omega)
    have v2 := (lval_cl H (xs := Y) (pt := z13 - 99) (t := z14 - 99) (b := 1 + z15) (by omega) (by omega) (by omega) YB60 (by omega)).at (show 2 ≤ m by omega)
    have v3 := (lval_cl H (xs := Q) (pt := z13 - 99) (t := z14 - 99) (b := 1 + z15) (by omega) (by omega) (by omega) QB (by omega)).at (show 2 ≤ m by omega)
    have v4 := (lval_cl H (xs := []) (pt := z13 - 99) (t := z14 - 99) (b := 1 + z15) (by omega) (by omega) (by omega) (by simp) (by simp)).at (show 2 ≤ m by omega)
    obtain ⟨p1, p2, p3, p4, e1, e2, e3, e4, P1, P2, P3, P4, L1, L2, L3, L4, S1, S2, S3, S4, E1, E2, E3, E4, CC, pie⟩ := lpie_cl H ns 16
    have sq := (lsqu_cl H P1 P2 P3 P4 L1 L2 L3 L4 S1 S2 S3 S4 E1 E2 E3 E4 CC.c12 CC.c13 CC.c23 CC.c14 CC.c24 CC.c34 hf hf9).at (show 10 ≤ m by omega)
    have pie := pie.at (show 3 ≤ m by omega)
    rw [hs] at pie
    generalize (PyData.list [.tuple [iT p1, .int (e1 : Nat)], .tuple [iT p2, .int (e2 : Nat)], .tuple [iT p3, .int (e3 : Nat)], .tuple [iT p4, .int (e4 : Nat)]]) = PL at *
    have e0 := eqT_ints [] []
    rw [decide_eq_true rfl] at e0
    have e0 : eqD (.tuple []) (.tuple []) = some true := e0
    have v4 : callN p m 138 [.tuple [], .int (z13 - 99), .int (z14 - 99), .int (1 + z15)] = .ok (.bool true, []) := v4
    have lp : forL [] [1, 2, 3, 4, 6, 10] (.n 10) (evSs (gN p m) [] b_law__v6_0) [iT x, iT Y, iT Q, .tuple []] [some (false, sc), none, none, none, none, some (false, .int f), none, some (false, .int (z13 - 99)), some (false, .int (z14 - 99)), some (false, .int (1 + z15)), none] = .nx [some (false, sc), none, none, none, none, some (false, .int f), none, some (false, .int (z13 - 99)), some (false, .int (z14 - 99)), some (false, .int (1 + z15)), none] := by
      refine forL_same _ fun d hd => ?_
      simp only [List.mem_cons, List.not_mem_nil, or_false] at hd
      rcases hd with rfl | rfl | rfl | rfl
      · exact Turn.of rfl (by simp only [b_law__v6_0]; repeat (rw [evSs_c]; simp [evIo, evSs_n, asg, asgs, frz1, own?, ixN_nat, outs, ofI, divS, gN_cf, gN_io, gN_gl, gN_gd, gN_xr, gN_fr, wipeT_nil, wipeT_cons, v1, i9]))
      · exact Turn.of rfl (by simp only [b_law__v6_0]; repeat (rw [evSs_c]; simp [evIo, evSs_n, asg, asgs, frz1, own?, ixN_nat, outs, ofI, divS, gN_cf, gN_io, gN_gl, gN_gd, gN_xr, gN_fr, wipeT_nil, wipeT_cons, v2, i9]))
      · exact Turn.of rfl (by simp only [b_law__v6_0]; repeat (rw [evSs_c]; simp [evIo, evSs_n, asg, asgs, frz1, own?, ixN_nat, outs, ofI, divS, gN_cf, gN_io, gN_gl, gN_gd, gN_xr, gN_fr, wipeT_nil, wipeT_cons, v3, i9]))
      · exact Turn.of rfl (by simp only [b_law__v6_0]; repeat (rw [evSs_c]; simp [evIo, evSs_n, asg, asgs, frz1, own?, ixN_nat, outs, ofI, divS, gN_cf, gN_io, gN_gl, gN_gd, gN_xr, gN_fr, wipeT_nil, wipeT_cons, v4, i9]))
    clear v1 v2 v3 v4
    generalize x.map (· * f) = xf at *
    repeat (rw [evSs_c]; simp [evIo, evSs_n, asg, asgs, frz1, own?, ixN_nat, outs, ofI, divS, gN_cf, gN_io, gN_gl, gN_gd, gN_xr, gN_fr, wipeT_nil, wipeT_cons, qh, i4, o12, i1, cx, i2, dvc, i5, sc2, i3, pr1, i7, pr2, i8, pr3, i6, o13, o14, o15, lp, pr0, e0, pie, ia, sq, ib, isNone])
  obtain ⟨τ, h⟩ := key
  exact run_ret rfl rfl h
end Mp

/-! the core text of k43, printed by mp.py: its defs together -/
namespace Mp
open PySem PySem.Spec PyProof.Rows L2
def topS (i : Nat) : Stmt := PySem.Challenge.pw_swornspire_k43_divisions_and_squares.main.body.getD i (.Pass ⟨0, 0, 0, 0⟩)
def glD : Nat → Option D
  | _ => none
def gdD : Nat → Option (List (Str × D))
  | _ => none
def fsD : Nat → Option Fn
  | 9 => some F__law_cell
  | 10 => some F__law_row
  | 11 => some F__law_one
  | 107 => some F_straight_sum
  | 108 => some F_divisor_of
  | 109 => some F_divisor_of_all
  | 110 => some F_trimmed
  | 111 => some F_coefficient
  | 112 => some F_difference_of_polys
  | 113 => some F_product_of_polys
  | 114 => some F_scaled_poly
  | 115 => some F_derivative
  | 116 => some F_value_of
  | 117 => some F_top_value
  | 118 => some F_content
  | 119 => some F_primitive
  | 120 => some F_exact_quotient
  | 121 => some F_pseudo_division
  | 122 => some F_divided_by
  | 123 => some F_next_row
  | 124 => some F_straight_poly_sum
  | 125 => some F_common_divisor
  | 126 => some F_squarefree_part
  | 127 => some F__law_poly
  | 128 => some F__law_divisor
  | 129 => some F__law_power
  | 130 => some F__law_times
  | 131 => some F__law_plus
  | 132 => some F__law_scaled
  | 133 => some F__law_primitive
  | 134 => some F__law_is_poly
  | 135 => some F__law_alike
  | 136 => some F__law_division
  | 137 => some F__law_quotients_hold
  | 138 => some F__law_values_hold
  | 139 => some F__law_pieces
  | 140 => some F__law_squares_hold
  | 141 => some F_law__v6
  | _ => none
def tsD : Nat → Option (Fn × Tr)
  | _ => none
def xcsD : List (Str × (Nat × Str)) := []
def prog : Pr := ⟨fsD, glD, 2 ^ 64, gdD, xcsD, tsD, none, none⟩
def d_straight_sum : DefT := ⟨"straight_sum", 107, topS 1, ["x", "y", "old", "new", "old_s", "new_s", "old_t", "new_t", "quotient"], ["x", "y"], "straight_sum", none⟩
def d_divisor_of : DefT := ⟨"divisor_of", 108, topS 2, ["x", "y"], ["x", "y"], "divisor_of", none⟩
def d_divisor_of_all : DefT := ⟨"divisor_of_all", 109, topS 3, ["numbers", "result", "number"], ["numbers"], "divisor_of_all", none⟩
def d_trimmed : DefT := ⟨"trimmed", 110, topS 5, ["numbers", "end"], ["numbers"], "trimmed", none⟩
def d_coefficient : DefT := ⟨"coefficient", 111, topS 7, ["poly", "place"], ["poly", "place"], "coefficient", none⟩
def d_difference_of_polys : DefT := ⟨"difference_of_polys", 112, topS 8, ["x", "y", "many", "place"], ["x", "y"], "difference_of_polys", none⟩
def d_product_of_polys : DefT := ⟨"product_of_polys", 113, topS 9, ["x", "y", "numbers", "low", "a", "place", "b"], ["x", "y"], "product_of_polys", none⟩
def d_scaled_poly : DefT := ⟨"scaled_poly", 114, topS 10, ["x", "factor", "number"], ["x", "factor"], "scaled_poly", none⟩
def d_derivative : DefT := ⟨"derivative", 115, topS 11, ["x", "place", "number"], ["x"], "derivative", none⟩
def d_value_of : DefT := ⟨"value_of", 116, topS 12, ["x", "point", "total", "number"], ["x", "point"], "value_of", none⟩
def d_top_value : DefT := ⟨"top_value", 117, topS 13, ["x", "point", "total", "power", "number"], ["x", "point"], "top_value", none⟩
def d_content : DefT := ⟨"content", 118, topS 14, ["x"], ["x"], "content", none⟩
def d_primitive : DefT := ⟨"primitive", 119, topS 15, ["x", "divisor", "number"], ["x"], "primitive", none⟩
def d_exact_quotient : DefT := ⟨"exact_quotient", 120, topS 16, ["x", "y", "rest", "quotient", "place", "top", "factor", "low", "number"], ["x", "y"], "exact_quotient", none⟩
def d_pseudo_division : DefT := ⟨"pseudo_division", 121, topS 17, ["x", "y", "rest", "many", "quotient", "size", "sign", "scale", "place", "top", "number", "low"], ["x", "y"], "pseudo_division", none⟩
def d_divided_by : DefT := ⟨"divided_by", 122, topS 19, ["poly", "divisor", "number"], ["poly", "divisor"], "divided_by", none⟩
def d_next_row : DefT := ⟨"next_row", 123, topS 20, ["old", "new", "scale", "quotient", "rest", "row", "place", "first", "divisor", "part"], ["old", "new"], "next_row", none⟩
def d_straight_poly_sum : DefT := ⟨"straight_poly_sum", 124, topS 21, ["x", "y", "old", "new"], ["x", "y"], "straight_poly_sum", none⟩
def d_common_divisor : DefT := ⟨"common_divisor", 125, topS 22, ["x", "y"], ["x", "y"], "common_divisor", none⟩
def d_squarefree_part : DefT := ⟨"squarefree_part", 126, topS 23, ["x"], ["x"], "squarefree_part", none⟩
def d__law_cell : DefT := ⟨"_law_cell", 9, topS 25, ["script", "place", "cell"], ["script", "place"], "_law_cell", none⟩
def d__law_row : DefT := ⟨"_law_row", 10, topS 26, ["script", "place", "many", "limit", "number", "row", "rest", "k", "mixed"], ["script", "place", "many", "limit"], "_law_row", none⟩
def d__law_one : DefT := ⟨"_law_one", 11, topS 27, ["script", "place", "limit"], ["script", "place", "limit"], "_law_one", none⟩
def d__law_poly : DefT := ⟨"_law_poly", 127, topS 28, ["script", "place", "degree", "bound", "row", "number", "k"], ["script", "place", "degree", "bound"], "_law_poly", none⟩
def d__law_divisor : DefT := ⟨"_law_divisor", 128, topS 29, ["a", "b", "x", "y"], ["a", "b"], "_law_divisor", none⟩
def d__law_power : DefT := ⟨"_law_power", 129, topS 30, ["base", "exponent", "result", "k"], ["base", "exponent"], "_law_power", none⟩
def d__law_times : DefT := ⟨"_law_times", 130, topS 31, ["x", "y", "row", "k", "i", "j"], ["x", "y"], "_law_times", none⟩
def d__law_plus : DefT := ⟨"_law_plus", 131, topS 32, ["x", "y", "sign", "row", "k"], ["x", "y", "sign"], "_law_plus", none⟩
def d__law_scaled : DefT := ⟨"_law_scaled", 132, topS 33, ["x", "factor", "number"], ["x", "factor"], "_law_scaled", none⟩
def d__law_primitive : DefT := ⟨"_law_primitive", 133, topS 34, ["x", "divisor", "number"], ["x"], "_law_primitive", none⟩
def d__law_is_poly : DefT := ⟨"_law_is_poly", 134, topS 35, ["value", "number"], ["value"], "_law_is_poly", none⟩
def d__law_alike : DefT := ⟨"_law_alike", 135, topS 36, ["told", "due"], ["told", "due"], "_law_alike", none⟩
def d__law_division : DefT := ⟨"_law_division", 136, topS 37, ["x", "y", "told", "c", "q", "r"], ["x", "y"], "_law_division", none⟩
def d__law_quotients_hold : DefT := ⟨"_law_quotients_hold", 137, topS 38, ["q", "y", "r", "factor", "product", "x", "told", "division", "wide", "number"], ["q", "y", "r", "factor"], "_law_quotients_hold", none⟩
def d__law_values_hold : DefT := ⟨"_law_values_hold", 138, topS 39, ["x", "point", "top", "bottom", "degree", "due", "k"], ["x", "point", "top", "bottom"], "_law_values_hold", none⟩
def d__law_pieces : DefT := ⟨"_law_pieces", 139, topS 40, ["script", "place", "a", "b", "c", "d", "first", "second", "j", "k", "n", "e", "third", "fourth", "powers"], ["script", "place"], "_law_pieces", none⟩
def d__law_squares_hold : DefT := ⟨"_law_squares_hold", 140, topS 41, ["pieces", "factor", "product", "due", "used", "piece", "exponent", "k"], ["pieces", "factor"], "_law_squares_hold", none⟩
def d_law : DefT := ⟨"law", 141, topS 42, ["script", "bound", "y", "q", "r", "factor", "x", "point", "top", "bottom", "value"], ["script"], "law", none⟩
def defs : List DefT := [d_straight_sum, d_divisor_of, d_divisor_of_all, d_trimmed, d_coefficient, d_difference_of_polys, d_product_of_polys, d_scaled_poly, d_derivative, d_value_of, d_top_value, d_content, d_primitive, d_exact_quotient, d_pseudo_division, d_divided_by, d_next_row, d_straight_poly_sum, d_common_divisor, d_squarefree_part, d__law_cell, d__law_row, d__law_one, d__law_poly, d__law_divisor, d__law_power, d__law_times, d__law_plus, d__law_scaled, d__law_primitive, d__law_is_poly, d__law_alike, d__law_division, d__law_quotients_hold, d__law_values_hold, d__law_pieces, d__law_squares_hold, d_law]
def gls : List (Str × Nat) := []
def gds : List (Str × Nat) := []
def bis : List Str := ["abs", "any", "bool", "enumerate", "int", "isinstance", "len", "list", "max", "range", "reversed", "sum", "tuple"]
theorem sc_straight_sum : FnScope d_straight_sum.N d_straight_sum.ps (defScope d_straight_sum.st) := ⟨by kernel_rfl, by kernel_rfl, by kernel_rfl, by decide +kernel, by decide +kernel, by decide +kernel, by decide +kernel⟩
theorem bind_straight_sum : ∀ (kV doc pm : Value) (an : Option Addr) (cdv ct : Value) (us : List Value), us.length = d_straight_sum.ps.length → bindArgs (PySem.W.fnOf d_straight_sum.x d_straight_sum.q (defArgs d_straight_sum.st) (defBody d_straight_sum.st) (defScope d_straight_sum.st) .none kV doc pm an cdv ct) ⟨us, []⟩ = pure (d_straight_sum.ps.zip us) := fun _ _ _ _ _ _ us hl => match us, hl with | [_, _], _ => rfl
theorem code_straight_sum : b_straight_sum.strip = ssOf (cS (cfgOf defs gls bis gds prog d_straight_sum) eF (defScope d_straight_sum.st)) (defBody d_straight_sum.st) := by kernel_rfl
theorem ok_straight_sum : DefOk defs gls bis gds prog d_straight_sum := ⟨sc_straight_sum, bind_straight_sum, .inl ⟨F_straight_sum, rfl, rfl, rfl, code_straight_sum⟩⟩
theorem sc_divisor_of : FnScope d_divisor_of.N d_divisor_of.ps (defScope d_divisor_of.st) := ⟨by kernel_rfl, by kernel_rfl, by kernel_rfl, by decide +kernel, by decide +kernel, by decide +kernel, by decide +kernel⟩
theorem bind_divisor_of : ∀ (kV doc pm : Value) (an : Option Addr) (cdv ct : Value) (us : List Value), us.length = d_divisor_of.ps.length → bindArgs (PySem.W.fnOf d_divisor_of.x d_divisor_of.q (defArgs d_divisor_of.st) (defBody d_divisor_of.st) (defScope d_divisor_of.st) .none kV doc pm an cdv ct) ⟨us, []⟩ = pure (d_divisor_of.ps.zip us) := fun _ _ _ _ _ _ us hl => match us, hl with | [_, _], _ => rfl
theorem code_divisor_of : b_divisor_of.strip = ssOf (cS (cfgOf defs gls bis gds prog d_divisor_of) eF (defScope d_divisor_of.st)) (defBody d_divisor_of.st) := by kernel_rfl
theorem ok_divisor_of : DefOk defs gls bis gds prog d_divisor_of := ⟨sc_divisor_of, bind_divisor_of, .inl ⟨F_divisor_of, rfl, rfl, rfl, code_divisor_of⟩⟩
theorem sc_divisor_of_all : FnScope d_divisor_of_all.N d_divisor_of_all.ps (defScope d_divisor_of_all.st) := ⟨by kernel_rfl, by kernel_rfl, by kernel_rfl, by decide +kernel, by decide +kernel, by decide +kernel, by decide +kernel⟩
theorem bind_divisor_of_all : ∀ (kV doc pm : Value) (an : Option Addr) (cdv ct : Value) (us : List Value), us.length = d_divisor_of_all.ps.length → bindArgs (PySem.W.fnOf d_divisor_of_all.x d_divisor_of_all.q (defArgs d_divisor_of_all.st) (defBody d_divisor_of_all.st) (defScope d_divisor_of_all.st) .none kV doc pm an cdv ct) ⟨us, []⟩ = pure (d_divisor_of_all.ps.zip us) := fun _ _ _ _ _ _ us hl => match us, hl with | [_], _ => rfl
theorem code_divisor_of_all : b_divisor_of_all.strip = ssOf (cS (cfgOf defs gls bis gds prog d_divisor_of_all) eF (defScope d_divisor_of_all.st)) (defBody d_divisor_of_all.st) := by kernel_rfl
theorem ok_divisor_of_all : DefOk defs gls bis gds prog d_divisor_of_all := ⟨sc_divisor_of_all, bind_divisor_of_all, .inl ⟨F_divisor_of_all, rfl, rfl, rfl, code_divisor_of_all⟩⟩
theorem sc_trimmed : FnScope d_trimmed.N d_trimmed.ps (defScope d_trimmed.st) := ⟨by kernel_rfl, by kernel_rfl, by kernel_rfl, by decide +kernel, by decide +kernel, by decide +kernel, by decide +kernel⟩
theorem bind_trimmed : ∀ (kV doc pm : Value) (an : Option Addr) (cdv ct : Value) (us : List Value), us.length = d_trimmed.ps.length → bindArgs (PySem.W.fnOf d_trimmed.x d_trimmed.q (defArgs d_trimmed.st) (defBody d_trimmed.st) (defScope d_trimmed.st) .none kV doc pm an cdv ct) ⟨us, []⟩ = pure (d_trimmed.ps.zip us) := fun _ _ _ _ _ _ us hl => match us, hl with | [_], _ => rfl
theorem code_trimmed : b_trimmed.strip = ssOf (cS (cfgOf defs gls bis gds prog d_trimmed) eF (defScope d_trimmed.st)) (defBody d_trimmed.st) := by kernel_rfl
theorem ok_trimmed : DefOk defs gls bis gds prog d_trimmed := ⟨sc_trimmed, bind_trimmed, .inl ⟨F_trimmed, rfl, rfl, rfl, code_trimmed⟩⟩
theorem sc_coefficient : FnScope d_coefficient.N d_coefficient.ps (defScope d_coefficient.st) := ⟨by kernel_rfl, by kernel_rfl, by kernel_rfl, by decide +kernel, by decide +kernel, by decide +kernel, by decide +kernel⟩
theorem bind_coefficient : ∀ (kV doc pm : Value) (an : Option Addr) (cdv ct : Value) (us : List Value), us.length = d_coefficient.ps.length → bindArgs (PySem.W.fnOf d_coefficient.x d_coefficient.q (defArgs d_coefficient.st) (defBody d_coefficient.st) (defScope d_coefficient.st) .none kV doc pm an cdv ct) ⟨us, []⟩ = pure (d_coefficient.ps.zip us) := fun _ _ _ _ _ _ us hl => match us, hl with | [_, _], _ => rfl
theorem code_coefficient : b_coefficient.strip = ssOf (cS (cfgOf defs gls bis gds prog d_coefficient) eF (defScope d_coefficient.st)) (defBody d_coefficient.st) := by kernel_rfl
theorem ok_coefficient : DefOk defs gls bis gds prog d_coefficient := ⟨sc_coefficient, bind_coefficient, .inl ⟨F_coefficient, rfl, rfl, rfl, code_coefficient⟩⟩
theorem sc_difference_of_polys : FnScope d_difference_of_polys.N d_difference_of_polys.ps (defScope d_difference_of_polys.st) := ⟨by kernel_rfl, by kernel_rfl, by kernel_rfl, by decide +kernel, by decide +kernel, by decide +kernel, by decide +kernel⟩
theorem bind_difference_of_polys : ∀ (kV doc pm : Value) (an : Option Addr) (cdv ct : Value) (us : List Value), us.length = d_difference_of_polys.ps.length → bindArgs (PySem.W.fnOf d_difference_of_polys.x d_difference_of_polys.q (defArgs d_difference_of_polys.st) (defBody d_difference_of_polys.st) (defScope d_difference_of_polys.st) .none kV doc pm an cdv ct) ⟨us, []⟩ = pure (d_difference_of_polys.ps.zip us) := fun _ _ _ _ _ _ us hl => match us, hl with | [_, _], _ => rfl
theorem code_difference_of_polys : b_difference_of_polys.strip = ssOf (cS (cfgOf defs gls bis gds prog d_difference_of_polys) eF (defScope d_difference_of_polys.st)) (defBody d_difference_of_polys.st) := by kernel_rfl
theorem ok_difference_of_polys : DefOk defs gls bis gds prog d_difference_of_polys := ⟨sc_difference_of_polys, bind_difference_of_polys, .inl ⟨F_difference_of_polys, rfl, rfl, rfl, code_difference_of_polys⟩⟩
theorem sc_product_of_polys : FnScope d_product_of_polys.N d_product_of_polys.ps (defScope d_product_of_polys.st) := ⟨by kernel_rfl, by kernel_rfl, by kernel_rfl, by decide +kernel, by decide +kernel, by decide +kernel, by decide +kernel⟩
theorem bind_product_of_polys : ∀ (kV doc pm : Value) (an : Option Addr) (cdv ct : Value) (us : List Value), us.length = d_product_of_polys.ps.length → bindArgs (PySem.W.fnOf d_product_of_polys.x d_product_of_polys.q (defArgs d_product_of_polys.st) (defBody d_product_of_polys.st) (defScope d_product_of_polys.st) .none kV doc pm an cdv ct) ⟨us, []⟩ = pure (d_product_of_polys.ps.zip us) := fun _ _ _ _ _ _ us hl => match us, hl with | [_, _], _ => rfl
theorem code_product_of_polys : b_product_of_polys.strip = ssOf (cS (cfgOf defs gls bis gds prog d_product_of_polys) eF (defScope d_product_of_polys.st)) (defBody d_product_of_polys.st) := by kernel_rfl
theorem ok_product_of_polys : DefOk defs gls bis gds prog d_product_of_polys := ⟨sc_product_of_polys, bind_product_of_polys, .inl ⟨F_product_of_polys, rfl, rfl, rfl, code_product_of_polys⟩⟩
theorem sc_scaled_poly : FnScope d_scaled_poly.N d_scaled_poly.ps (defScope d_scaled_poly.st) := ⟨by kernel_rfl, by kernel_rfl, by kernel_rfl, by decide +kernel, by decide +kernel, by decide +kernel, by decide +kernel⟩
theorem bind_scaled_poly : ∀ (kV doc pm : Value) (an : Option Addr) (cdv ct : Value) (us : List Value), us.length = d_scaled_poly.ps.length → bindArgs (PySem.W.fnOf d_scaled_poly.x d_scaled_poly.q (defArgs d_scaled_poly.st) (defBody d_scaled_poly.st) (defScope d_scaled_poly.st) .none kV doc pm an cdv ct) ⟨us, []⟩ = pure (d_scaled_poly.ps.zip us) := fun _ _ _ _ _ _ us hl => match us, hl with | [_, _], _ => rfl
theorem code_scaled_poly : b_scaled_poly.strip = ssOf (cS (cfgOf defs gls bis gds prog d_scaled_poly) eF (defScope d_scaled_poly.st)) (defBody d_scaled_poly.st) := by kernel_rfl
theorem ok_scaled_poly : DefOk defs gls bis gds prog d_scaled_poly := ⟨sc_scaled_poly, bind_scaled_poly, .inl ⟨F_scaled_poly, rfl, rfl, rfl, code_scaled_poly⟩⟩
theorem sc_derivative : FnScope d_derivative.N d_derivative.ps (defScope d_derivative.st) := ⟨by kernel_rfl, by kernel_rfl, by kernel_rfl, by decide +kernel, by decide +kernel, by decide +kernel, by decide +kernel⟩
theorem bind_derivative : ∀ (kV doc pm : Value) (an : Option Addr) (cdv ct : Value) (us : List Value), us.length = d_derivative.ps.length → bindArgs (PySem.W.fnOf d_derivative.x d_derivative.q (defArgs d_derivative.st) (defBody d_derivative.st) (defScope d_derivative.st) .none kV doc pm an cdv ct) ⟨us, []⟩ = pure (d_derivative.ps.zip us) := fun _ _ _ _ _ _ us hl => match us, hl with | [_], _ => rfl
theorem code_derivative : b_derivative.strip = ssOf (cS (cfgOf defs gls bis gds prog d_derivative) eF (defScope d_derivative.st)) (defBody d_derivative.st) := by kernel_rfl
theorem ok_derivative : DefOk defs gls bis gds prog d_derivative := ⟨sc_derivative, bind_derivative, .inl ⟨F_derivative, rfl, rfl, rfl, code_derivative⟩⟩
theorem sc_value_of : FnScope d_value_of.N d_value_of.ps (defScope d_value_of.st) := ⟨by kernel_rfl, by kernel_rfl, by kernel_rfl, by decide +kernel, by decide +kernel, by decide +kernel, by decide +kernel⟩
theorem bind_value_of : ∀ (kV doc pm : Value) (an : Option Addr) (cdv ct : Value) (us : List Value), us.length = d_value_of.ps.length → bindArgs (PySem.W.fnOf d_value_of.x d_value_of.q (defArgs d_value_of.st) (defBody d_value_of.st) (defScope d_value_of.st) .none kV doc pm an cdv ct) ⟨us, []⟩ = pure (d_value_of.ps.zip us) := fun _ _ _ _ _ _ us hl => match us, hl with | [_, _], _ => rfl
theorem code_value_of : b_value_of.strip = ssOf (cS (cfgOf defs gls bis gds prog d_value_of) eF (defScope d_value_of.st)) (defBody d_value_of.st) := by kernel_rfl
theorem ok_value_of : DefOk defs gls bis gds prog d_value_of := ⟨sc_value_of, bind_value_of, .inl ⟨F_value_of, rfl, rfl, rfl, code_value_of⟩⟩
theorem sc_top_value : FnScope d_top_value.N d_top_value.ps (defScope d_top_value.st) := ⟨by kernel_rfl, by kernel_rfl, by kernel_rfl, by decide +kernel, by decide +kernel, by decide +kernel, by decide +kernel⟩
theorem bind_top_value : ∀ (kV doc pm : Value) (an : Option Addr) (cdv ct : Value) (us : List Value), us.length = d_top_value.ps.length → bindArgs (PySem.W.fnOf d_top_value.x d_top_value.q (defArgs d_top_value.st) (defBody d_top_value.st) (defScope d_top_value.st) .none kV doc pm an cdv ct) ⟨us, []⟩ = pure (d_top_value.ps.zip us) := fun _ _ _ _ _ _ us hl => match us, hl with | [_, _], _ => rfl
theorem code_top_value : b_top_value.strip = ssOf (cS (cfgOf defs gls bis gds prog d_top_value) eF (defScope d_top_value.st)) (defBody d_top_value.st) := by kernel_rfl
theorem ok_top_value : DefOk defs gls bis gds prog d_top_value := ⟨sc_top_value, bind_top_value, .inl ⟨F_top_value, rfl, rfl, rfl, code_top_value⟩⟩
theorem sc_content : FnScope d_content.N d_content.ps (defScope d_content.st) := ⟨by kernel_rfl, by kernel_rfl, by kernel_rfl, by decide +kernel, by decide +kernel, by decide +kernel, by decide +kernel⟩
theorem bind_content : ∀ (kV doc pm : Value) (an : Option Addr) (cdv ct : Value) (us : List Value), us.length = d_content.ps.length → bindArgs (PySem.W.fnOf d_content.x d_content.q (defArgs d_content.st) (defBody d_content.st) (defScope d_content.st) .none kV doc pm an cdv ct) ⟨us, []⟩ = pure (d_content.ps.zip us) := fun _ _ _ _ _ _ us hl => match us, hl with | [_], _ => rfl
theorem code_content : b_content.strip = ssOf (cS (cfgOf defs gls bis gds prog d_content) eF (defScope d_content.st)) (defBody d_content.st) := by kernel_rfl
theorem ok_content : DefOk defs gls bis gds prog d_content := ⟨sc_content, bind_content, .inl ⟨F_content, rfl, rfl, rfl, code_content⟩⟩
theorem sc_primitive : FnScope d_primitive.N d_primitive.ps (defScope d_primitive.st) := ⟨by kernel_rfl, by kernel_rfl, by kernel_rfl, by decide +kernel, by decide +kernel, by decide +kernel, by decide +kernel⟩
theorem bind_primitive : ∀ (kV doc pm : Value) (an : Option Addr) (cdv ct : Value) (us : List Value), us.length = d_primitive.ps.length → bindArgs (PySem.W.fnOf d_primitive.x d_primitive.q (defArgs d_primitive.st) (defBody d_primitive.st) (defScope d_primitive.st) .none kV doc pm an cdv ct) ⟨us, []⟩ = pure (d_primitive.ps.zip us) := fun _ _ _ _ _ _ us hl => match us, hl with | [_], _ => rfl
theorem code_primitive : b_primitive.strip = ssOf (cS (cfgOf defs gls bis gds prog d_primitive) eF (defScope d_primitive.st)) (defBody d_primitive.st) := by kernel_rfl
theorem ok_primitive : DefOk defs gls bis gds prog d_primitive := ⟨sc_primitive, bind_primitive, .inl ⟨F_primitive, rfl, rfl, rfl, code_primitive⟩⟩
theorem sc_exact_quotient : FnScope d_exact_quotient.N d_exact_quotient.ps (defScope d_exact_quotient.st) := ⟨by kernel_rfl, by kernel_rfl, by kernel_rfl, by decide +kernel, by decide +kernel, by decide +kernel, by decide +kernel⟩
theorem bind_exact_quotient : ∀ (kV doc pm : Value) (an : Option Addr) (cdv ct : Value) (us : List Value), us.length = d_exact_quotient.ps.length → bindArgs (PySem.W.fnOf d_exact_quotient.x d_exact_quotient.q (defArgs d_exact_quotient.st) (defBody d_exact_quotient.st) (defScope d_exact_quotient.st) .none kV doc pm an cdv ct) ⟨us, []⟩ = pure (d_exact_quotient.ps.zip us) := fun _ _ _ _ _ _ us hl => match us, hl with | [_, _], _ => rfl
theorem code_exact_quotient : b_exact_quotient.strip = ssOf (cS (cfgOf defs gls bis gds prog d_exact_quotient) eF (defScope d_exact_quotient.st)) (defBody d_exact_quotient.st) := by kernel_rfl
theorem ok_exact_quotient : DefOk defs gls bis gds prog d_exact_quotient := ⟨sc_exact_quotient, bind_exact_quotient, .inl ⟨F_exact_quotient, rfl, rfl, rfl, code_exact_quotient⟩⟩
theorem sc_pseudo_division : FnScope d_pseudo_division.N d_pseudo_division.ps (defScope d_pseudo_division.st) := ⟨by kernel_rfl, by kernel_rfl, by kernel_rfl, by decide +kernel, by decide +kernel, by decide +kernel, by decide +kernel⟩
theorem bind_pseudo_division : ∀ (kV doc pm : Value) (an : Option Addr) (cdv ct : Value) (us : List Value), us.length = d_pseudo_division.ps.length → bindArgs (PySem.W.fnOf d_pseudo_division.x d_pseudo_division.q (defArgs d_pseudo_division.st) (defBody d_pseudo_division.st) (defScope d_pseudo_division.st) .none kV doc pm an cdv ct) ⟨us, []⟩ = pure (d_pseudo_division.ps.zip us) := fun _ _ _ _ _ _ us hl => match us, hl with | [_, _], _ => rfl
theorem code_pseudo_division : b_pseudo_division.strip = ssOf (cS (cfgOf defs gls bis gds prog d_pseudo_division) eF (defScope d_pseudo_division.st)) (defBody d_pseudo_division.st) := by kernel_rfl
theorem ok_pseudo_division : DefOk defs gls bis gds prog d_pseudo_division := ⟨sc_pseudo_division, bind_pseudo_division, .inl ⟨F_pseudo_division, rfl, rfl, rfl, code_pseudo_division⟩⟩
theorem sc_divided_by : FnScope d_divided_by.N d_divided_by.ps (defScope d_divided_by.st) := ⟨by kernel_rfl, by kernel_rfl, by kernel_rfl, by decide +kernel, by decide +kernel, by decide +kernel, by decide +kernel⟩
theorem bind_divided_by : ∀ (kV doc pm : Value) (an : Option Addr) (cdv ct : Value) (us : List Value), us.length = d_divided_by.ps.length → bindArgs (PySem.W.fnOf d_divided_by.x d_divided_by.q (defArgs d_divided_by.st) (defBody d_divided_by.st) (defScope d_divided_by.st) .none kV doc pm an cdv ct) ⟨us, []⟩ = pure (d_divided_by.ps.zip us) := fun _ _ _ _ _ _ us hl => match us, hl with | [_, _], _ => rfl
theorem code_divided_by : b_divided_by.strip = ssOf (cS (cfgOf defs gls bis gds prog d_divided_by) eF (defScope d_divided_by.st)) (defBody d_divided_by.st) := by kernel_rfl
theorem ok_divided_by : DefOk defs gls bis gds prog d_divided_by := ⟨sc_divided_by, bind_divided_by, .inl ⟨F_divided_by, rfl, rfl, rfl, code_divided_by⟩⟩
theorem sc_next_row : FnScope d_next_row.N d_next_row.ps (defScope d_next_row.st) := ⟨by kernel_rfl, by kernel_rfl, by kernel_rfl, by decide +kernel, by decide +kernel, by decide +kernel, by decide +kernel⟩
theorem bind_next_row : ∀ (kV doc pm : Value) (an : Option Addr) (cdv ct : Value) (us : List Value), us.length = d_next_row.ps.length → bindArgs (PySem.W.fnOf d_next_row.x d_next_row.q (defArgs d_next_row.st) (defBody d_next_row.st) (defScope d_next_row.st) .none kV doc pm an cdv ct) ⟨us, []⟩ = pure (d_next_row.ps.zip us) := fun _ _ _ _ _ _ us hl => match us, hl with | [_, _], _ => rfl
theorem code_next_row : b_next_row.strip = ssOf (cS (cfgOf defs gls bis gds prog d_next_row) eF (defScope d_next_row.st)) (defBody d_next_row.st) := by kernel_rfl
theorem ok_next_row : DefOk defs gls bis gds prog d_next_row := ⟨sc_next_row, bind_next_row, .inl ⟨F_next_row, rfl, rfl, rfl, code_next_row⟩⟩
theorem sc_straight_poly_sum : FnScope d_straight_poly_sum.N d_straight_poly_sum.ps (defScope d_straight_poly_sum.st) := ⟨by kernel_rfl, by kernel_rfl, by kernel_rfl, by decide +kernel, by decide +kernel, by decide +kernel, by decide +kernel⟩
theorem bind_straight_poly_sum : ∀ (kV doc pm : Value) (an : Option Addr) (cdv ct : Value) (us : List Value), us.length = d_straight_poly_sum.ps.length → bindArgs (PySem.W.fnOf d_straight_poly_sum.x d_straight_poly_sum.q (defArgs d_straight_poly_sum.st) (defBody d_straight_poly_sum.st) (defScope d_straight_poly_sum.st) .none kV doc pm an cdv ct) ⟨us, []⟩ = pure (d_straight_poly_sum.ps.zip us) := fun _ _ _ _ _ _ us hl => match us, hl with | [_, _], _ => rfl
theorem code_straight_poly_sum : b_straight_poly_sum.strip = ssOf (cS (cfgOf defs gls bis gds prog d_straight_poly_sum) eF (defScope d_straight_poly_sum.st)) (defBody d_straight_poly_sum.st) := by kernel_rfl
theorem ok_straight_poly_sum : DefOk defs gls bis gds prog d_straight_poly_sum := ⟨sc_straight_poly_sum, bind_straight_poly_sum, .inl ⟨F_straight_poly_sum, rfl, rfl, rfl, code_straight_poly_sum⟩⟩
theorem sc_common_divisor : FnScope d_common_divisor.N d_common_divisor.ps (defScope d_common_divisor.st) := ⟨by kernel_rfl, by kernel_rfl, by kernel_rfl, by decide +kernel, by decide +kernel, by decide +kernel, by decide +kernel⟩
theorem bind_common_divisor : ∀ (kV doc pm : Value) (an : Option Addr) (cdv ct : Value) (us : List Value), us.length = d_common_divisor.ps.length → bindArgs (PySem.W.fnOf d_common_divisor.x d_common_divisor.q (defArgs d_common_divisor.st) (defBody d_common_divisor.st) (defScope d_common_divisor.st) .none kV doc pm an cdv ct) ⟨us, []⟩ = pure (d_common_divisor.ps.zip us) := fun _ _ _ _ _ _ us hl => match us, hl with | [_, _], _ => rfl
theorem code_common_divisor : b_common_divisor.strip = ssOf (cS (cfgOf defs gls bis gds prog d_common_divisor) eF (defScope d_common_divisor.st)) (defBody d_common_divisor.st) := by kernel_rfl
theorem ok_common_divisor : DefOk defs gls bis gds prog d_common_divisor := ⟨sc_common_divisor, bind_common_divisor, .inl ⟨F_common_divisor, rfl, rfl, rfl, code_common_divisor⟩⟩
theorem sc_squarefree_part : FnScope d_squarefree_part.N d_squarefree_part.ps (defScope d_squarefree_part.st) := ⟨by kernel_rfl, by kernel_rfl, by kernel_rfl, by decide +kernel, by decide +kernel, by decide +kernel, by decide +kernel⟩
theorem bind_squarefree_part : ∀ (kV doc pm : Value) (an : Option Addr) (cdv ct : Value) (us : List Value), us.length = d_squarefree_part.ps.length → bindArgs (PySem.W.fnOf d_squarefree_part.x d_squarefree_part.q (defArgs d_squarefree_part.st) (defBody d_squarefree_part.st) (defScope d_squarefree_part.st) .none kV doc pm an cdv ct) ⟨us, []⟩ = pure (d_squarefree_part.ps.zip us) := fun _ _ _ _ _ _ us hl => match us, hl with | [_], _ => rfl
theorem code_squarefree_part : b_squarefree_part.strip = ssOf (cS (cfgOf defs gls bis gds prog d_squarefree_part) eF (defScope d_squarefree_part.st)) (defBody d_squarefree_part.st) := by kernel_rfl
theorem ok_squarefree_part : DefOk defs gls bis gds prog d_squarefree_part := ⟨sc_squarefree_part, bind_squarefree_part, .inl ⟨F_squarefree_part, rfl, rfl, rfl, code_squarefree_part⟩⟩
theorem sc__law_cell : FnScope d__law_cell.N d__law_cell.ps (defScope d__law_cell.st) := ⟨by kernel_rfl, by kernel_rfl, by kernel_rfl, by decide +kernel, by decide +kernel, by decide +kernel, by decide +kernel⟩
theorem bind__law_cell : ∀ (kV doc pm : Value) (an : Option Addr) (cdv ct : Value) (us : List Value), us.length = d__law_cell.ps.length → bindArgs (PySem.W.fnOf d__law_cell.x d__law_cell.q (defArgs d__law_cell.st) (defBody d__law_cell.st) (defScope d__law_cell.st) .none kV doc pm an cdv ct) ⟨us, []⟩ = pure (d__law_cell.ps.zip us) := fun _ _ _ _ _ _ us hl => match us, hl with | [_, _], _ => rfl
theorem code__law_cell : b__law_cell.strip = ssOf (cS (cfgOf defs gls bis gds prog d__law_cell) eF (defScope d__law_cell.st)) (defBody d__law_cell.st) := by kernel_rfl
theorem ok__law_cell : DefOk defs gls bis gds prog d__law_cell := ⟨sc__law_cell, bind__law_cell, .inl ⟨F__law_cell, rfl, rfl, rfl, code__law_cell⟩⟩
theorem sc__law_row : FnScope d__law_row.N d__law_row.ps (defScope d__law_row.st) := ⟨by kernel_rfl, by kernel_rfl, by kernel_rfl, by decide +kernel, by decide +kernel, by decide +kernel, by decide +kernel⟩
theorem bind__law_row : ∀ (kV doc pm : Value) (an : Option Addr) (cdv ct : Value) (us : List Value), us.length = d__law_row.ps.length → bindArgs (PySem.W.fnOf d__law_row.x d__law_row.q (defArgs d__law_row.st) (defBody d__law_row.st) (defScope d__law_row.st) .none kV doc pm an cdv ct) ⟨us, []⟩ = pure (d__law_row.ps.zip us) := fun _ _ _ _ _ _ us hl => match us, hl with | [_, _, _, _], _ => rfl
theorem code__law_row : b__law_row.strip = ssOf (cS (cfgOf defs gls bis gds prog d__law_row) eF (defScope d__law_row.st)) (defBody d__law_row.st) := by kernel_rfl
theorem ok__law_row : DefOk defs gls bis gds prog d__law_row := ⟨sc__law_row, bind__law_row, .inl ⟨F__law_row, rfl, rfl, rfl, code__law_row⟩⟩
theorem sc__law_one : FnScope d__law_one.N d__law_one.ps (defScope d__law_one.st) := ⟨by kernel_rfl, by kernel_rfl, by kernel_rfl, by decide +kernel, by decide +kernel, by decide +kernel, by decide +kernel⟩
theorem bind__law_one : ∀ (kV doc pm : Value) (an : Option Addr) (cdv ct : Value) (us : List Value), us.length = d__law_one.ps.length → bindArgs (PySem.W.fnOf d__law_one.x d__law_one.q (defArgs d__law_one.st) (defBody d__law_one.st) (defScope d__law_one.st) .none kV doc pm an cdv ct) ⟨us, []⟩ = pure (d__law_one.ps.zip us) := fun _ _ _ _ _ _ us hl => match us, hl with | [_, _, _], _ => rfl
theorem code__law_one : b__law_one.strip = ssOf (cS (cfgOf defs gls bis gds prog d__law_one) eF (defScope d__law_one.st)) (defBody d__law_one.st) := by kernel_rfl
theorem ok__law_one : DefOk defs gls bis gds prog d__law_one := ⟨sc__law_one, bind__law_one, .inl ⟨F__law_one, rfl, rfl, rfl, code__law_one⟩⟩
theorem sc__law_poly : FnScope d__law_poly.N d__law_poly.ps (defScope d__law_poly.st) := ⟨by kernel_rfl, by kernel_rfl, by kernel_rfl, by decide +kernel, by decide +kernel, by decide +kernel, by decide +kernel⟩
theorem bind__law_poly : ∀ (kV doc pm : Value) (an : Option Addr) (cdv ct : Value) (us : List Value), us.length = d__law_poly.ps.length → bindArgs (PySem.W.fnOf d__law_poly.x d__law_poly.q (defArgs d__law_poly.st) (defBody d__law_poly.st) (defScope d__law_poly.st) .none kV doc pm an cdv ct) ⟨us, []⟩ = pure (d__law_poly.ps.zip us) := fun _ _ _ _ _ _ us hl => match us, hl with | [_, _, _, _], _ => rfl
theorem code__law_poly : b__law_poly.strip = ssOf (cS (cfgOf defs gls bis gds prog d__law_poly) eF (defScope d__law_poly.st)) (defBody d__law_poly.st) := by kernel_rfl
theorem ok__law_poly : DefOk defs gls bis gds prog d__law_poly := ⟨sc__law_poly, bind__law_poly, .inl ⟨F__law_poly, rfl, rfl, rfl, code__law_poly⟩⟩
theorem sc__law_divisor : FnScope d__law_divisor.N d__law_divisor.ps (defScope d__law_divisor.st) := ⟨by kernel_rfl, by kernel_rfl, by kernel_rfl, by decide +kernel, by decide +kernel, by decide +kernel, by decide +kernel⟩
theorem bind__law_divisor : ∀ (kV doc pm : Value) (an : Option Addr) (cdv ct : Value) (us : List Value), us.length = d__law_divisor.ps.length → bindArgs (PySem.W.fnOf d__law_divisor.x d__law_divisor.q (defArgs d__law_divisor.st) (defBody d__law_divisor.st) (defScope d__law_divisor.st) .none kV doc pm an cdv ct) ⟨us, []⟩ = pure (d__law_divisor.ps.zip us) := fun _ _ _ _ _ _ us hl => match us, hl with | [_, _], _ => rfl
theorem code__law_divisor : b__law_divisor.strip = ssOf (cS (cfgOf defs gls bis gds prog d__law_divisor) eF (defScope d__law_divisor.st)) (defBody d__law_divisor.st) := by kernel_rfl
theorem ok__law_divisor : DefOk defs gls bis gds prog d__law_divisor := ⟨sc__law_divisor, bind__law_divisor, .inl ⟨F__law_divisor, rfl, rfl, rfl, code__law_divisor⟩⟩
theorem sc__law_power : FnScope d__law_power.N d__law_power.ps (defScope d__law_power.st) := ⟨by kernel_rfl, by kernel_rfl, by kernel_rfl, by decide +kernel, by decide +kernel, by decide +kernel, by decide +kernel⟩
theorem bind__law_power : ∀ (kV doc pm : Value) (an : Option Addr) (cdv ct : Value) (us : List Value), us.length = d__law_power.ps.length → bindArgs (PySem.W.fnOf d__law_power.x d__law_power.q (defArgs d__law_power.st) (defBody d__law_power.st) (defScope d__law_power.st) .none kV doc pm an cdv ct) ⟨us, []⟩ = pure (d__law_power.ps.zip us) := fun _ _ _ _ _ _ us hl => match us, hl with | [_, _], _ => rfl
theorem code__law_power : b__law_power.strip = ssOf (cS (cfgOf defs gls bis gds prog d__law_power) eF (defScope d__law_power.st)) (defBody d__law_power.st) := by kernel_rfl
theorem ok__law_power : DefOk defs gls bis gds prog d__law_power := ⟨sc__law_power, bind__law_power, .inl ⟨F__law_power, rfl, rfl, rfl, code__law_power⟩⟩
theorem sc__law_times : FnScope d__law_times.N d__law_times.ps (defScope d__law_times.st) := ⟨by kernel_rfl, by kernel_rfl, by kernel_rfl, by decide +kernel, by decide +kernel, by decide +kernel, by decide +kernel⟩
theorem bind__law_times : ∀ (kV doc pm : Value) (an : Option Addr) (cdv ct : Value) (us : List Value), us.length = d__law_times.ps.length → bindArgs (PySem.W.fnOf d__law_times.x d__law_times.q (defArgs d__law_times.st) (defBody d__law_times.st) (defScope d__law_times.st) .none kV doc pm an cdv ct) ⟨us, []⟩ = pure (d__law_times.ps.zip us) := fun _ _ _ _ _ _ us hl => match us, hl with | [_, _], _ => rfl
theorem code__law_times : b__law_times.strip = ssOf (cS (cfgOf defs gls bis gds prog d__law_times) eF (defScope d__law_times.st)) (defBody d__law_times.st) := by kernel_rfl
theorem ok__law_times : DefOk defs gls bis gds prog d__law_times := ⟨sc__law_times, bind__law_times, .inl ⟨F__law_times, rfl, rfl, rfl, code__law_times⟩⟩
theorem sc__law_plus : FnScope d__law_plus.N d__law_plus.ps (defScope d__law_plus.st) := ⟨by kernel_rfl, by kernel_rfl, by kernel_rfl, by decide +kernel, by decide +kernel, by decide +kernel, by decide +kernel⟩
theorem bind__law_plus : ∀ (kV doc pm : Value) (an : Option Addr) (cdv ct : Value) (us : List Value), us.length = d__law_plus.ps.length → bindArgs (PySem.W.fnOf d__law_plus.x d__law_plus.q (defArgs d__law_plus.st) (defBody d__law_plus.st) (defScope d__law_plus.st) .none kV doc pm an cdv ct) ⟨us, []⟩ = pure (d__law_plus.ps.zip us) := fun _ _ _ _ _ _ us hl => match us, hl with | [_, _, _], _ => rfl
theorem code__law_plus : b__law_plus.strip = ssOf (cS (cfgOf defs gls bis gds prog d__law_plus) eF (defScope d__law_plus.st)) (defBody d__law_plus.st) := by kernel_rfl
theorem ok__law_plus : DefOk defs gls bis gds prog d__law_plus := ⟨sc__law_plus, bind__law_plus, .inl ⟨F__law_plus, rfl, rfl, rfl, code__law_plus⟩⟩
theorem sc__law_scaled : FnScope d__law_scaled.N d__law_scaled.ps (defScope d__law_scaled.st) := ⟨by kernel_rfl, by kernel_rfl, by kernel_rfl, by decide +kernel, by decide +kernel, by decide +kernel, by decide +kernel⟩
theorem bind__law_scaled : ∀ (kV doc pm : Value) (an : Option Addr) (cdv ct : Value) (us : List Value), us.length = d__law_scaled.ps.length → bindArgs (PySem.W.fnOf d__law_scaled.x d__law_scaled.q (defArgs d__law_scaled.st) (defBody d__law_scaled.st) (defScope d__law_scaled.st) .none kV doc pm an cdv ct) ⟨us, []⟩ = pure (d__law_scaled.ps.zip us) := fun _ _ _ _ _ _ us hl => match us, hl with | [_, _], _ => rfl
theorem code__law_scaled : b__law_scaled.strip = ssOf (cS (cfgOf defs gls bis gds prog d__law_scaled) eF (defScope d__law_scaled.st)) (defBody d__law_scaled.st) := by kernel_rfl
theorem ok__law_scaled : DefOk defs gls bis gds prog d__law_scaled := ⟨sc__law_scaled, bind__law_scaled, .inl ⟨F__law_scaled, rfl, rfl, rfl, code__law_scaled⟩⟩
theorem sc__law_primitive : FnScope d__law_primitive.N d__law_primitive.ps (defScope d__law_primitive.st) := ⟨by kernel_rfl, by kernel_rfl, by kernel_rfl, by decide +kernel, by decide +kernel, by decide +kernel, by decide +kernel⟩
theorem bind__law_primitive : ∀ (kV doc pm : Value) (an : Option Addr) (cdv ct : Value) (us : List Value), us.length = d__law_primitive.ps.length → bindArgs (PySem.W.fnOf d__law_primitive.x d__law_primitive.q (defArgs d__law_primitive.st) (defBody d__law_primitive.st) (defScope d__law_primitive.st) .none kV doc pm an cdv ct) ⟨us, []⟩ = pure (d__law_primitive.ps.zip us) := fun _ _ _ _ _ _ us hl => match us, hl with | [_], _ => rfl
theorem code__law_primitive : b__law_primitive.strip = ssOf (cS (cfgOf defs gls bis gds prog d__law_primitive) eF (defScope d__law_primitive.st)) (defBody d__law_primitive.st) := by kernel_rfl
theorem ok__law_primitive : DefOk defs gls bis gds prog d__law_primitive := ⟨sc__law_primitive, bind__law_primitive, .inl ⟨F__law_primitive, rfl, rfl, rfl, code__law_primitive⟩⟩
theorem sc__law_is_poly : FnScope d__law_is_poly.N d__law_is_poly.ps (defScope d__law_is_poly.st) := ⟨by kernel_rfl, by kernel_rfl, by kernel_rfl, by decide +kernel, by decide +kernel, by decide +kernel, by decide +kernel⟩
theorem bind__law_is_poly : ∀ (kV doc pm : Value) (an : Option Addr) (cdv ct : Value) (us : List Value), us.length = d__law_is_poly.ps.length → bindArgs (PySem.W.fnOf d__law_is_poly.x d__law_is_poly.q (defArgs d__law_is_poly.st) (defBody d__law_is_poly.st) (defScope d__law_is_poly.st) .none kV doc pm an cdv ct) ⟨us, []⟩ = pure (d__law_is_poly.ps.zip us) := fun _ _ _ _ _ _ us hl => match us, hl with | [_], _ => rfl
theorem code__law_is_poly : b__law_is_poly.strip = ssOf (cS (cfgOf defs gls bis gds prog d__law_is_poly) eF (defScope d__law_is_poly.st)) (defBody d__law_is_poly.st) := by kernel_rfl
theorem ok__law_is_poly : DefOk defs gls bis gds prog d__law_is_poly := ⟨sc__law_is_poly, bind__law_is_poly, .inl ⟨F__law_is_poly, rfl, rfl, rfl, code__law_is_poly⟩⟩
theorem sc__law_alike : FnScope d__law_alike.N d__law_alike.ps (defScope d__law_alike.st) := ⟨by kernel_rfl, by kernel_rfl, by kernel_rfl, by decide +kernel, by decide +kernel, by decide +kernel, by decide +kernel⟩
theorem bind__law_alike : ∀ (kV doc pm : Value) (an : Option Addr) (cdv ct : Value) (us : List Value), us.length = d__law_alike.ps.length → bindArgs (PySem.W.fnOf d__law_alike.x d__law_alike.q (defArgs d__law_alike.st) (defBody d__law_alike.st) (defScope d__law_alike.st) .none kV doc pm an cdv ct) ⟨us, []⟩ = pure (d__law_alike.ps.zip us) := fun _ _ _ _ _ _ us hl => match us, hl with | [_, _], _ => rfl
theorem code__law_alike : b__law_alike.strip = ssOf (cS (cfgOf defs gls bis gds prog d__law_alike) eF (defScope d__law_alike.st)) (defBody d__law_alike.st) := by kernel_rfl
theorem ok__law_alike : DefOk defs gls bis gds prog d__law_alike := ⟨sc__law_alike, bind__law_alike, .inl ⟨F__law_alike, rfl, rfl, rfl, code__law_alike⟩⟩
theorem sc__law_division : FnScope d__law_division.N d__law_division.ps (defScope d__law_division.st) := ⟨by kernel_rfl, by kernel_rfl, by kernel_rfl, by decide +kernel, by decide +kernel, by decide +kernel, by decide +kernel⟩
theorem bind__law_division : ∀ (kV doc pm : Value) (an : Option Addr) (cdv ct : Value) (us : List Value), us.length = d__law_division.ps.length → bindArgs (PySem.W.fnOf d__law_division.x d__law_division.q (defArgs d__law_division.st) (defBody d__law_division.st) (defScope d__law_division.st) .none kV doc pm an cdv ct) ⟨us, []⟩ = pure (d__law_division.ps.zip us) := fun _ _ _ _ _ _ us hl => match us, hl with | [_, _], _ => rfl
theorem code__law_division : b__law_division.strip = ssOf (cS (cfgOf defs gls bis gds prog d__law_division) eF (defScope d__law_division.st)) (defBody d__law_division.st) := by kernel_rfl
theorem ok__law_division : DefOk defs gls bis gds prog d__law_division := ⟨sc__law_division, bind__law_division, .inl ⟨F__law_division, rfl, rfl, rfl, code__law_division⟩⟩
theorem sc__law_quotients_hold : FnScope d__law_quotients_hold.N d__law_quotients_hold.ps (defScope d__law_quotients_hold.st) := ⟨by kernel_rfl, by kernel_rfl, by kernel_rfl, by decide +kernel, by decide +kernel, by decide +kernel, by decide +kernel⟩
theorem bind__law_quotients_hold : ∀ (kV doc pm : Value) (an : Option Addr) (cdv ct : Value) (us : List Value), us.length = d__law_quotients_hold.ps.length → bindArgs (PySem.W.fnOf d__law_quotients_hold.x d__law_quotients_hold.q (defArgs d__law_quotients_hold.st) (defBody d__law_quotients_hold.st) (defScope d__law_quotients_hold.st) .none kV doc pm an cdv ct) ⟨us, []⟩ = pure (d__law_quotients_hold.ps.zip us) := fun _ _ _ _ _ _ us hl => match us, hl with | [_, _, _, _], _ => rfl
theorem code__law_quotients_hold : b__law_quotients_hold.strip = ssOf (cS (cfgOf defs gls bis gds prog d__law_quotients_hold) eF (defScope d__law_quotients_hold.st)) (defBody d__law_quotients_hold.st) := by kernel_rfl
theorem ok__law_quotients_hold : DefOk defs gls bis gds prog d__law_quotients_hold := ⟨sc__law_quotients_hold, bind__law_quotients_hold, .inl ⟨F__law_quotients_hold, rfl, rfl, rfl, code__law_quotients_hold⟩⟩
theorem sc__law_values_hold : FnScope d__law_values_hold.N d__law_values_hold.ps (defScope d__law_values_hold.st) := ⟨by kernel_rfl, by kernel_rfl, by kernel_rfl, by decide +kernel, by decide +kernel, by decide +kernel, by decide +kernel⟩
theorem bind__law_values_hold : ∀ (kV doc pm : Value) (an : Option Addr) (cdv ct : Value) (us : List Value), us.length = d__law_values_hold.ps.length → bindArgs (PySem.W.fnOf d__law_values_hold.x d__law_values_hold.q (defArgs d__law_values_hold.st) (defBody d__law_values_hold.st) (defScope d__law_values_hold.st) .none kV doc pm an cdv ct) ⟨us, []⟩ = pure (d__law_values_hold.ps.zip us) := fun _ _ _ _ _ _ us hl => match us, hl with | [_, _, _, _], _ => rfl
theorem code__law_values_hold : b__law_values_hold.strip = ssOf (cS (cfgOf defs gls bis gds prog d__law_values_hold) eF (defScope d__law_values_hold.st)) (defBody d__law_values_hold.st) := by kernel_rfl
theorem ok__law_values_hold : DefOk defs gls bis gds prog d__law_values_hold := ⟨sc__law_values_hold, bind__law_values_hold, .inl ⟨F__law_values_hold, rfl, rfl, rfl, code__law_values_hold⟩⟩
theorem sc__law_pieces : FnScope d__law_pieces.N d__law_pieces.ps (defScope d__law_pieces.st) := ⟨by kernel_rfl, by kernel_rfl, by kernel_rfl, by decide +kernel, by decide +kernel, by decide +kernel, by decide +kernel⟩
theorem bind__law_pieces : ∀ (kV doc pm : Value) (an : Option Addr) (cdv ct : Value) (us : List Value), us.length = d__law_pieces.ps.length → bindArgs (PySem.W.fnOf d__law_pieces.x d__law_pieces.q (defArgs d__law_pieces.st) (defBody d__law_pieces.st) (defScope d__law_pieces.st) .none kV doc pm an cdv ct) ⟨us, []⟩ = pure (d__law_pieces.ps.zip us) := fun _ _ _ _ _ _ us hl => match us, hl with | [_, _], _ => rfl
theorem code__law_pieces : b__law_pieces.strip = ssOf (cS (cfgOf defs gls bis gds prog d__law_pieces) eF (defScope d__law_pieces.st)) (defBody d__law_pieces.st) := by kernel_rfl
theorem ok__law_pieces : DefOk defs gls bis gds prog d__law_pieces := ⟨sc__law_pieces, bind__law_pieces, .inl ⟨F__law_pieces, rfl, rfl, rfl, code__law_pieces⟩⟩
theorem sc__law_squares_hold : FnScope d__law_squares_hold.N d__law_squares_hold.ps (defScope d__law_squares_hold.st) := ⟨by kernel_rfl, by kernel_rfl, by kernel_rfl, by decide +kernel, by decide +kernel, by decide +kernel, by decide +kernel⟩
theorem bind__law_squares_hold : ∀ (kV doc pm : Value) (an : Option Addr) (cdv ct : Value) (us : List Value), us.length = d__law_squares_hold.ps.length → bindArgs (PySem.W.fnOf d__law_squares_hold.x d__law_squares_hold.q (defArgs d__law_squares_hold.st) (defBody d__law_squares_hold.st) (defScope d__law_squares_hold.st) .none kV doc pm an cdv ct) ⟨us, []⟩ = pure (d__law_squares_hold.ps.zip us) := fun _ _ _ _ _ _ us hl => match us, hl with | [_, _], _ => rfl
theorem code__law_squares_hold : b__law_squares_hold.strip = ssOf (cS (cfgOf defs gls bis gds prog d__law_squares_hold) eF (defScope d__law_squares_hold.st)) (defBody d__law_squares_hold.st) := by kernel_rfl
theorem ok__law_squares_hold : DefOk defs gls bis gds prog d__law_squares_hold := ⟨sc__law_squares_hold, bind__law_squares_hold, .inl ⟨F__law_squares_hold, rfl, rfl, rfl, code__law_squares_hold⟩⟩
theorem sc_law : FnScope d_law.N d_law.ps (defScope d_law.st) := ⟨by kernel_rfl, by kernel_rfl, by kernel_rfl, by decide +kernel, by decide +kernel, by decide +kernel, by decide +kernel⟩
theorem bind_law : ∀ (kV doc pm : Value) (an : Option Addr) (cdv ct : Value) (us : List Value), us.length = d_law.ps.length → bindArgs (PySem.W.fnOf d_law.x d_law.q (defArgs d_law.st) (defBody d_law.st) (defScope d_law.st) .none kV doc pm an cdv ct) ⟨us, []⟩ = pure (d_law.ps.zip us) := fun _ _ _ _ _ _ us hl => match us, hl with | [_], _ => rfl
theorem code_law : b_law__v6.strip = ssOf (cS (cfgOf defs gls bis gds prog d_law) eF (defScope d_law.st)) (defBody d_law.st) := by kernel_rfl
theorem ok_law : DefOk defs gls bis gds prog d_law := ⟨sc_law, bind_law, .inl ⟨F_law__v6, rfl, rfl, rfl, code_law⟩⟩
theorem oks : ∀ d ∈ defs, DefOk defs gls bis gds prog d := by
  intro d hd
  simp only [defs, List.mem_cons, List.not_mem_nil, or_false] at hd
  rcases hd with rfl | rfl | rfl | rfl | rfl | rfl | rfl | rfl | rfl | rfl | rfl | rfl | rfl | rfl | rfl | rfl | rfl | rfl | rfl | rfl | rfl | rfl | rfl | rfl | rfl | rfl | rfl | rfl | rfl | rfl | rfl | rfl | rfl | rfl | rfl | rfl | rfl | rfl
  · exact ok_straight_sum
  · exact ok_divisor_of
  · exact ok_divisor_of_all
  · exact ok_trimmed
  · exact ok_coefficient
  · exact ok_difference_of_polys
  · exact ok_product_of_polys
  · exact ok_scaled_poly
  · exact ok_derivative
  · exact ok_value_of
  · exact ok_top_value
  · exact ok_content
  · exact ok_primitive
  · exact ok_exact_quotient
  · exact ok_pseudo_division
  · exact ok_divided_by
  · exact ok_next_row
  · exact ok_straight_poly_sum
  · exact ok_common_divisor
  · exact ok_squarefree_part
  · exact ok__law_cell
  · exact ok__law_row
  · exact ok__law_one
  · exact ok__law_poly
  · exact ok__law_divisor
  · exact ok__law_power
  · exact ok__law_times
  · exact ok__law_plus
  · exact ok__law_scaled
  · exact ok__law_primitive
  · exact ok__law_is_poly
  · exact ok__law_alike
  · exact ok__law_division
  · exact ok__law_quotients_hold
  · exact ok__law_values_hold
  · exact ok__law_pieces
  · exact ok__law_squares_hold
  · exact ok_law
end Mp

/-! k43: the program's defs are those -/
namespace Mp
open PySem PySem.Spec PyProof.Rows L2
theorem h43 : H43 prog := { wn := rfl, ss := rfl, dvo := rfl, dva := rfl, trim := rfl, coef := rfl, diff := rfl, prod := rfl, scal := rfl, deri := rfl, valu := rfl, topv := rfl, cont := rfl, prim := rfl, exq := rfl, pdv := rfl, dby := rfl, nrow := rfl, sps := rfl, cdv := rfl, sqf := rfl, row := ⟨rfl, ⟨false, rfl⟩, rfl⟩, lpoly := rfl, ldiv := rfl, lpow := rfl, ltim := rfl, lplu := rfl, lsca := rfl, lpri := rfl, lisp := rfl, lali := rfl, ldvs := rfl, lquo := rfl, lval := rfl, lpie := rfl, lsqu := rfl }
theorem law_true : ∀ ns : List Int, ns.length ≤ 63 → (∀ z ∈ ns, Builtin.Int.intBits z ≤ 1048576) → callN prog 12 d_law.no [.list (ns.map .int)] = .ok (.bool true, []) := fun ns _ _ => (law43 h43 rfl ns).at (Nat.le_refl 12)
end Mp

open PySem PySem.W PyProof.Rows
set_option maxHeartbeats 0 in
theorem PySem.Challenge.cw_swornspire_k43_divisions_and_squares_holds : PySem.Challenge.rw_swornspire_k43_divisions_and_squares.Holds := by
  w_on; o_law; k_head; (case hw => w_witness2)
  k_fill
  refine Mp.walk_mp (l := PySem.Challenge.rw_swornspire_k43_divisions_and_squares) (n := 63) (m := 12) (p := Mp.prog) (dL := Mp.d_law) rfl (by decide) rfl ⟨rfl, by decide, by decide⟩ (fun w h Y => PySem.W.kIn_of Y) Mp.oks (by simp [Mp.defs]) rfl rfl rfl rfl ?hat ?hbi ?hgl ?hgd ?hxc ?hhd ?hcl ?hmt ?hmk (by decide) rfl Mp.law_true
  case hat =>
    intro w d hd
    simp only [Mp.defs, List.mem_cons, List.not_mem_nil, or_false] at hd
    rcases hd with rfl | rfl | rfl | rfl | rfl | rfl | rfl | rfl | rfl | rfl | rfl | rfl | rfl | rfl | rfl | rfl | rfl | rfl | rfl | rfl | rfl | rfl | rfl | rfl | rfl | rfl | rfl | rfl | rfl | rfl | rfl | rfl | rfl | rfl | rfl | rfl | rfl | rfl
    all_goals (refine' Mp.mkDef ?a ?l ?c ?k; (case a => k_is); (case l => k_is); (case c => k_is); (case k => k_is))
  case hbi =>
    intro w x hx
    simp only [Mp.bis, List.contains_cons, List.contains_nil, Bool.or_eq_true, beq_iff_eq, Bool.or_false] at hx
    rcases hx with rfl | rfl | rfl | rfl | rfl | rfl | rfl | rfl | rfl | rfl | rfl | rfl | rfl
    all_goals k_is
  case hgl =>
    intro w i x hx
    have hx := Mp.noOf_get hx
    simp only [Mp.gls, List.mem_cons, List.not_mem_nil, or_false, Prod.mk.injEq] at hx
  case hgd =>
    intro w i x hx
    have hx := Mp.noOf_get hx
    simp only [Mp.gds, List.mem_cons, List.not_mem_nil, or_false, Prod.mk.injEq] at hx
  case hxc =>
    intro w x q f hx
    cases hx
  case hhd =>
    intro w d hd F t ht
    simp only [Mp.defs, List.mem_cons, List.not_mem_nil, or_false] at hd
    rcases hd with rfl | rfl | rfl | rfl | rfl | rfl | rfl | rfl | rfl | rfl | rfl | rfl | rfl | rfl | rfl | rfl | rfl | rfl | rfl | rfl | rfl | rfl | rfl | rfl | rfl | rfl | rfl | rfl | rfl | rfl | rfl | rfl | rfl | rfl | rfl | rfl | rfl | rfl
    · cases ht
    · cases ht
    · cases ht
    · cases ht
    · cases ht
    · cases ht
    · cases ht
    · cases ht
    · cases ht
    · cases ht
    · cases ht
    · cases ht
    · cases ht
    · cases ht
    · cases ht
    · cases ht
    · cases ht
    · cases ht
    · cases ht
    · cases ht
    · cases ht
    · cases ht
    · cases ht
    · cases ht
    · cases ht
    · cases ht
    · cases ht
    · cases ht
    · cases ht
    · cases ht
    · cases ht
    · cases ht
    · cases ht
    · cases ht
    · cases ht
    · cases ht
    · cases ht
    · cases ht
  case hcl => intro w x fl hx; cases hx
  case hmt =>
    intro d hd c hc
    simp only [Mp.defs, List.mem_cons, List.not_mem_nil, or_false] at hd
    rcases hd with rfl | rfl | rfl | rfl | rfl | rfl | rfl | rfl | rfl | rfl | rfl | rfl | rfl | rfl | rfl | rfl | rfl | rfl | rfl | rfl | rfl | rfl | rfl | rfl | rfl | rfl | rfl | rfl | rfl | rfl | rfl | rfl | rfl | rfl | rfl | rfl | rfl | rfl
    all_goals cases hc
  case hmk => intro w x f1 f2 hx; cases hx

