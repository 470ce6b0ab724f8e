import PyProof.Rows.All
import Wide.All
import OpenK.AllK
import Wide.FinOn
import HandS.ForMost
import HandS.ForExc
import HandS.Wide
import HandS.WideBits
import HandS.TupAny
import HandS.Rev
import HandS.Conv
import HandS.Flow
import HandS.Defaults
import HandS.Style
import HandS.SortInts
import HandS.IsInst
import HandS.EndBits
import HandS.ExcInit
import HandS.ExcField
import HandS.ExcIs
import HandS.TryMany
import HandS.WordsExc
import KE.KExcSuper
import KE.KSuper
import HandS.More
import KE.GoesEnum
import HandS.Iter
import HandS.NoneIn
import PySem.Challenge.RW_swornspire_k19_table_of_roads_is_least
set_option Elab.async false
set_option linter.all false
set_option maxRecDepth 100000
/-! MiniPy, part A: data, what a value denotes, heaps without the owned lists. -/
namespace Mp
open PySem PySem.Spec PyProof.Rows L2

abbrev D := PyData

/-! ### what a value denotes -/
/-- a list that is read: tracked, or a part of what never changes -/
def LsR (K : PySem.W.Frag) (H : Hp) (a : Addr) (vs : List V) : Prop := Rd H a (.lst vs) ∨
  ∃ (its : List Value) (n : Nat), K.lookup a = some { cls := .type "list", data := .seq its.toArray n } ∧ its.length ≤ sizeLine ∧ Vals vs its
theorem LsR.sq {K : PySem.W.Frag} {H : Hp} {a : Addr} {vs : List V} (h : LsR K H a vs) : SqL K H a vs := by
  rcases h with h | ⟨its, n, h1, h2, h3⟩
  · exact .inl h
  · exact .inr ⟨_, its.toArray, n, h1, rfl, rfl, rfl, by simpa using h2, by simpa using h3⟩
mutual
inductive Dn (K : PySem.W.Frag) (H : Hp) : V → D → Prop
  | non : Dn K H .non .none
  | bl (b : Bool) : Dn K H (.bl b) (.bool b)
  | int (i : Int) : Dn K H (.int i) (.int i)
  | str (x : Str) : Dn K H (.str x) (.str x)
  | lst {a : Addr} {vs : List V} {ds : List D} : LsR K H a vs → DnAll K H vs ds → Dn K H (.ref a) (.list ds)
  | tup {a : Addr} {vs : List V} {ds : List D} : SqT K H a vs → DnAll K H vs ds → Dn K H (.ref a) (.tuple ds)
  | dct {a : Addr} {kvs : List (Key × V)} {kds : List (D × D)} : Rd H a (.dK kvs) → DnKV K H kvs kds → Dn K H (.ref a) (.dict kds)
inductive DnAll (K : PySem.W.Frag) (H : Hp) : List V → List D → Prop
  | nil : DnAll K H [] []
  | cons {v : V} {vs : List V} {d : D} {ds : List D} : Dn K H v d → DnAll K H vs ds → DnAll K H (v :: vs) (d :: ds)
inductive DnKV (K : PySem.W.Frag) (H : Hp) : List (Key × V) → List (D × D) → Prop
  | nil : DnKV K H [] []
  | int {i : Int} {v : V} {kvs : List (Key × V)} {d : D} {kds : List (D × D)} : Dn K H v d → DnKV K H kvs kds → DnKV K H ((.inl i, v) :: kvs) ((.int i, d) :: kds)
  | str {x : Str} {v : V} {kvs : List (Key × V)} {d : D} {kds : List (D × D)} : Dn K H v d → DnKV K H kvs kds → DnKV K H ((.inr x, v) :: kvs) ((.str x, d) :: kds)
end

theorem Same.seqT {K : PySem.W.Frag} {H H' : Hp} {a : Addr} {xs : List V} (e : Same H H') (h : SqT K H a xs) : SqT K H' a xs := by
  rcases h with (h | ⟨o, h⟩) | h
  · exact .inl (.inl (e _ _ h))
  · exact .inl (.inr ⟨o, e _ _ h⟩)
  · exact .inr h
theorem Same.rd {H H' : Hp} {a : Addr} {u : HO} (e : Same H H') (h : Rd H a u) : Rd H' a u := by
  rcases h with h | ⟨o, h⟩
  · exact .inl (e _ _ h)
  · exact .inr ⟨o, e _ _ h⟩
theorem Same.ls {K : PySem.W.Frag} {H H' : Hp} {a : Addr} {vs : List V} (e : Same H H') (h : LsR K H a vs) : LsR K H' a vs := by
  rcases h with h | h
  · exact .inl (Same.rd e h)
  · exact .inr h

section
variable {K : PySem.W.Frag} {H H' : Hp}
mutual
theorem Dn.mono (e : Same H H') : ∀ (d : D) {v : V}, Dn K H v d → Dn K H' v d
  | .none, _, h => by cases h; exact .non
  | .bool _, _, h => by cases h; exact .bl _
  | .int _, _, h => by cases h; exact .int _
  | .str _, _, h => by cases h; exact .str _
  | .list ds, _, h => by cases h with | lst h1 h2 => exact .lst (Same.ls e h1) (DnAll.mono e ds h2)
  | .tuple ds, _, h => by cases h with | tup h1 h2 => exact .tup (Same.seqT e h1) (DnAll.mono e ds h2)
  | .dict kds, _, h => by cases h with | dct h1 h2 => exact .dct (Same.rd e h1) (DnKV.mono e kds h2)
theorem DnAll.mono (e : Same H H') : ∀ (ds : List D) {vs : List V}, DnAll K H vs ds → DnAll K H' vs ds
  | [], _, h => by cases h; exact .nil
  | d :: ds, _, h => by cases h with | cons h1 h2 => exact .cons (Dn.mono e d h1) (DnAll.mono e ds h2)
theorem DnKV.mono (e : Same H H') : ∀ (kds : List (D × D)) {kvs : List (Key × V)}, DnKV K H kvs kds → DnKV K H' kvs kds
  | [], _, h => by cases h; exact .nil
  | (k, d) :: kds, _, h => by
    cases h with
    | int h1 h2 => exact .int (Dn.mono e d h1) (DnKV.mono e kds h2)
    | str h1 h2 => exact .str (Dn.mono e d h1) (DnKV.mono e kds h2)
end
theorem DnAll.length {vs : List V} {ds : List D} (h : DnAll K H vs ds) : vs.length = ds.length := by
  induction vs generalizing ds with
  | nil => cases h; rfl
  | cons v vs ih => cases h with | cons _ h2 => simp [ih h2]
theorem DnAll.get {vs : List V} {ds : List D} (h : DnAll K H vs ds) {i : Nat} {d : D} (e : ds[i]? = some d) : ∃ v, vs[i]? = some v ∧ Dn K H v d := by
  induction vs generalizing ds i with
  | nil => cases h; simp at e
  | cons v vs ih =>
    cases h with
    | cons h1 h2 =>
      cases i with
      | zero => simp at e; subst e; exact ⟨v, rfl, h1⟩
      | succ i => simpa using ih h2 (by simpa using e)
theorem DnAll.get' {vs : List V} {ds : List D} (h : DnAll K H vs ds) {i : Nat} {v : V} (e : vs[i]? = some v) : ∃ d, ds[i]? = some d ∧ Dn K H v d := by
  induction vs generalizing ds i with
  | nil => simp at e
  | cons w vs ih =>
    cases h with
    | cons h1 h2 =>
      cases i with
      | zero => simp at e; subst e; exact ⟨_, rfl, h1⟩
      | succ i => simpa using ih h2 (by simpa using e)
theorem DnAll.append {vs ws : List V} {ds es : List D} (h : DnAll K H vs ds) (h' : DnAll K H ws es) : DnAll K H (vs ++ ws) (ds ++ es) := by
  induction vs generalizing ds with
  | nil => cases h; exact h'
  | cons v vs ih => cases h with | cons h1 h2 => exact .cons h1 (ih h2)
theorem DnAll.take {vs : List V} {ds : List D} (h : DnAll K H vs ds) (n : Nat) : DnAll K H (vs.take n) (ds.take n) := by
  induction vs generalizing ds n with
  | nil => cases h; simp; exact .nil
  | cons v vs ih =>
    cases h with
    | cons h1 h2 =>
      cases n with
      | zero => simp; exact .nil
      | succ n => simpa using .cons h1 (ih h2 n)
theorem DnAll.drop {vs : List V} {ds : List D} (h : DnAll K H vs ds) (n : Nat) : DnAll K H (vs.drop n) (ds.drop n) := by
  induction vs generalizing ds n with
  | nil => cases h; simp; exact .nil
  | cons v vs ih =>
    cases h with
    | cons h1 h2 =>
      cases n with
      | zero => exact .cons h1 h2
      | succ n => simpa using ih h2 n
theorem DnAll.set {vs : List V} {ds : List D} (h : DnAll K H vs ds) {v : V} {d : D} (hv : Dn K H v d) (n : Nat) : DnAll K H (vs.set n v) (ds.set n d) := by
  induction vs generalizing ds n with
  | nil => cases h; simp; exact .nil
  | cons w vs ih =>
    cases h with
    | cons h1 h2 =>
      cases n with
      | zero => exact .cons hv h2
      | succ n => simpa using .cons h1 (ih h2 n)
theorem DnAll.reverse {vs : List V} {ds : List D} (h : DnAll K H vs ds) : DnAll K H vs.reverse ds.reverse := by
  induction vs generalizing ds with
  | nil => cases h; exact .nil
  | cons w vs ih =>
    cases h with
    | cons h1 h2 => simpa using (ih h2).append (.cons h1 .nil)
theorem DnAll.rep {vs : List V} {ds : List D} (h : DnAll K H vs ds) : ∀ n : Nat, DnAll K H (List.replicate n vs).flatten (List.replicate n ds).flatten
  | 0 => .nil
  | n + 1 => by
    rw [List.replicate_succ, List.replicate_succ, List.flatten_cons, List.flatten_cons]
    exact h.append (DnAll.rep h n)
theorem DnAll.dropLast {vs : List V} {ds : List D} (h : DnAll K H vs ds) : DnAll K H vs.dropLast ds.dropLast := by
  rw [List.dropLast_eq_take, List.dropLast_eq_take, h.length]; exact h.take _
theorem DnAll.eraseIdx {vs : List V} {ds : List D} (h : DnAll K H vs ds) : ∀ n : Nat, DnAll K H (vs.eraseIdx n) (ds.eraseIdx n) := by
  induction vs generalizing ds with
  | nil => intro n; cases h; simp; exact .nil
  | cons w vs ih =>
    intro n
    cases h with
    | cons h1 h2 =>
      cases n with
      | zero => exact h2
      | succ n => simpa using .cons h1 (ih h2 n)
theorem DnAll.ints {vs : List V} : ∀ {ns : List Int}, DnAll K H vs (ns.map PyData.int) → vs = ns.map V.int := by
  induction vs with
  | nil => intro ns h; cases ns with | nil => rfl | cons _ _ => cases h
  | cons v vs ih =>
    intro ns h
    cases ns with
    | nil => cases h
    | cons n ns => cases h with | cons h1 h2 => cases h1; rw [ih h2]; rfl
theorem DnAll.of_ints : ∀ (ns : List Int), DnAll K H (ns.map V.int) (ns.map PyData.int)
  | [] => .nil
  | n :: ns => .cons (.int n) (DnAll.of_ints ns)
end

/-! ### data without lists and dicts -/
mutual
def noL : D → Bool
  | .list _ => false
  | .dict _ => false
  | .tuple ds => noLs ds
  | .none => true
  | .bool _ => true
  | .int _ => true
  | .str _ => true
def noLs : List D → Bool
  | [] => true
  | d :: ds => noL d && noLs ds
end

/-! ### the heap without some addresses -/
open Classical in
noncomputable def wo (P : Addr → Prop) (H : Hp) : Hp := fun a => if P a then none else H a
theorem wo_some {P : Addr → Prop} {H : Hp} {a : Addr} {o : HO} : wo P H a = some o ↔ ¬ P a ∧ H a = some o := by
  unfold wo
  by_cases h : P a
  · simp [h]
  · simp [h]
theorem wo_same {P : Addr → Prop} {H H' : Hp} (e : Same H H') : Same (wo P H) (wo P H') := fun a o h => by
  rw [wo_some] at h ⊢; exact ⟨h.1, e _ _ h.2⟩
theorem wo_sub {P P' : Addr → Prop} {H : Hp} (e : ∀ a, P a → P' a) : Same (wo P' H) (wo P H) := fun a o h => by
  rw [wo_some] at h ⊢; exact ⟨fun z => h.1 (e a z), h.2⟩
theorem wo_all {P : Addr → Prop} {H : Hp} : Same (wo P H) H := fun a o h => (wo_some.mp h).2
theorem wo_gen {P P' : Addr → Prop} {H H' : Hp} (e : ∀ a o, ¬ P a → H a = some o → ¬ P' a ∧ H' a = some o) : Same (wo P H) (wo P' H') := fun a o h => by
  rw [wo_some] at h ⊢; exact e a o h.1 h.2
section
variable {K : PySem.W.Frag} {H : Hp} {P : Addr → Prop}
/-- a list-free datum stands whatever lists are taken away -/
theorem rd_wo {a : Addr} {u : HO} (h : Rd H a u) (hn : ∀ o, H a = some o → ¬ P a) : Rd (wo P H) a u := by
  rcases h with h | ⟨o, h⟩
  · exact .inl (wo_some.mpr ⟨hn _ h, h⟩)
  · exact .inr ⟨o, wo_some.mpr ⟨hn _ h, h⟩⟩
mutual
theorem Dn.noL (hP : ∀ a, P a → (∃ xs, H a = some (.lst xs)) ∨ ∃ kvs, H a = some (.dK kvs)) : ∀ (d : D) {v : V}, Dn K H v d → noL d = true → Dn K (wo P H) v d
  | .none, _, h, _ => by cases h; exact .non
  | .bool _, _, h, _ => by cases h; exact .bl _
  | .int _, _, h, _ => by cases h; exact .int _
  | .str _, _, h, _ => by cases h; exact .str _
  | .list ds, _, h, n => by simp [Mp.noL] at n
  | .tuple ds, _, h, n => by
    cases h with
    | tup h1 h2 =>
      refine .tup ?_ (DnAll.noL hP ds h2 (by simpa [Mp.noL] using n))
      rcases h1 with (h1 | ⟨o, h1⟩) | h1
      · refine .inl (.inl (wo_some.mpr ⟨fun z => ?_, h1⟩))
        rcases hP _ z with ⟨_, q⟩ | ⟨_, q⟩ <;> rw [h1] at q <;> cases q
      · refine .inl (.inr ⟨o, wo_some.mpr ⟨fun z => ?_, h1⟩⟩)
        rcases hP _ z with ⟨_, q⟩ | ⟨_, q⟩ <;> rw [h1] at q <;> cases q
      · exact .inr h1
  | .dict kds, _, h, n => by simp [Mp.noL] at n
theorem DnAll.noL (hP : ∀ a, P a → (∃ xs, H a = some (.lst xs)) ∨ ∃ kvs, H a = some (.dK kvs)) : ∀ (ds : List D) {vs : List V}, DnAll K H vs ds → noLs ds = true → DnAll K (wo P H) vs ds
  | [], _, h, _ => by cases h; exact .nil
  | d :: ds, _, h, n => by
    simp only [noLs, Bool.and_eq_true] at n
    cases h with | cons h1 h2 => exact .cons (Dn.noL hP d h1 n.1) (DnAll.noL hP ds h2 n.2)
end
end
/-! ### equality of data -/
section
variable {K : PySem.W.Frag} {H : Hp}
mutual
theorem Dn.dp : ∀ (d : D) {v : V}, Dn K H v d → d.canLay0 = true → Dp K H v d
  | .none, _, h, _ => by cases h; exact .non
  | .bool _, _, h, _ => by cases h; exact .bl _
  | .int _, _, h, _ => by cases h; exact .int _
  | .str _, _, h, _ => by cases h; exact .str _
  | .list ds, _, h, n => by cases h with | lst h1 h2 => exact .lst h1.sq (DnAll.dp ds h2 (by simpa [PyData.canLay0] using n))
  | .tuple ds, _, h, n => by cases h with | tup h1 h2 => exact .tup h1 (DnAll.dp ds h2 (by simpa [PyData.canLay0] using n))
  | .dict kds, _, h, n => nomatch n
theorem DnAll.dp : ∀ (ds : List D) {vs : List V}, DnAll K H vs ds → PyData.canLayAll0 ds = true → DpAll K H vs ds
  | [], _, h, _ => by cases h; exact .nil
  | d :: ds, _, h, n => by
    have n' : d.canLay0 = true ∧ PyData.canLayAll0 ds = true := by simpa [PyData.canLayAll0] using n
    cases h with | cons h1 h2 => exact .cons (Dn.dp d h1 n'.1) (DnAll.dp ds h2 n'.2)
end
end
end Mp

/-! MiniPy, part B: the core syntax, its meaning on data, the translation of the text. -/
namespace Mp
open PySem PySem.Spec PyProof.Rows L2

/-! ### the core syntax -/
inductive Bi where
  | len | int | abs | max | min | tuple | list | sum | any | all | str | bool | sorted | bitlen
  deriving DecidableEq
/-- what a value is asked to be: a built-in class by its name, a class of the text by its number -/
inductive Ty where
  | b (n : String) | c (i : Nat)
  deriving DecidableEq
inductive T where
  | n (i : Nat) | tup (is : List Nat)
  deriving DecidableEq
mutual
inductive E where
  | bad
  | v (i : Nat)
  | k (d : D)
  | g (i : Nat)
  | bin (op : Operator) (a b : E)
  | neg (a : E)
  | cmp (op : CmpOp) (a b : E)
  | chain (op op' : CmpOp) (a b c : E)
  | and (a b : E)
  | or (a b : E)
  | not (a : E)
  | ite (c a b : E)
  | tup (es : Es)
  | lst (es : Es)
  | dct0
  | sub (a b : E)
  | sli (a : E) (lo hi : O)
  | rev (a : E)
  | call (f : Nat) (es : Es)
  | bi (f : Bi) (es : Es)
  | isi (a : E) (ts : List Ty)
  | trev (a : E)
  | gin (neg : Bool) (i : Nat) (a : E)
  | gix (i : Nat) (a : E)
  | dctK (kds : List (Str × D))
  | comp (elt : E) (t : T) (it : I) (c : O) (own : List Nat)
inductive Es where
  | nil
  | cons (e : E) (es : Es)
inductive O where
  | no
  | yes (e : E)
inductive I where
  | it (e : E)
  | r1 (a : E)
  | r2 (a b : E)
  | zip (a b : E)
  | enum (a : E)
  | rev (a : E)
end
mutual
inductive S where
  | bad
  | set (t : T) (e : E)
  | par (is : List Nat) (es : Es)
  | setIx (i : Nat) (x e : E)
  | app (i : Nat) (e : E)
  | ext (i : Nat) (e : E)
  | pop (t : Option Nat) (i : Nat)
  | dpop (i : Nat) (k d : E)
  | popF (t : Option Nat) (i : Nat)
  | ex (e : E)
  | io (t : Option Nat) (f : Nat) (es : Es)
  | ioR (f : Nat) (es : Es)
  | callF (i : Nat) (f : Nat) (es : Es)
  | ioC (t : Nat) (h : Nat) (as : Es) (f : Nat) (es : Es)
  | ifS (c : E) (a b : Ss)
  | wh (dead : List Nat) (c : E) (b : Ss)
  | forS (dead : List Nat) (t : T) (it : I) (b : Ss)
  | ret (e : E)
  | retN
  | brk
  | ct
  | pass
  | raise (c : Nat) (f : Str) (e : E)
inductive Ss where
  | nil
  | cons (s : S) (ss : Ss)
end

/-! ### results -/
structure Exc where
  cls : Nat
  fs : List (Str × D)
inductive R (α : Type) where
  | ok (a : α)
  | ex (x : Exc)
  | st
def R.bind {α β : Type} : R α → (α → R β) → R β
  | .ok a, f => f a
  | .ex x, _ => .ex x
  | .st, _ => .st
@[simp] theorem R.bind_ok {α β : Type} (a : α) (f : α → R β) : (R.ok a).bind f = f a := Eq.trans rfl rfl
@[simp] theorem R.bind_ex {α β : Type} (x : Exc) (f : α → R β) : (R.ex x : R α).bind f = .ex x := Eq.trans rfl rfl
@[simp] theorem R.bind_st {α β : Type} (f : α → R β) : (R.st : R α).bind f = .st := Eq.trans rfl rfl
/-- one of two, by a test -/
def iteR {α : Type} (b : Bool) (x y : R α) : R α := match b with
  | true => x
  | false => y
@[simp] theorem iteR_t {α : Type} (x y : R α) : iteR true x y = x := Eq.trans rfl rfl
@[simp] theorem iteR_f {α : Type} (x y : R α) : iteR false x y = y := Eq.trans rfl rfl
def R.of {α : Type} : Option α → R α
  | some a => .ok a
  | none => .st
@[simp] theorem R.of_some {α : Type} (a : α) : R.of (some a) = .ok a := Eq.trans rfl rfl
@[simp] theorem R.of_none {α : Type} : R.of (none : Option α) = .st := Eq.trans rfl rfl

/-! ### operations on data -/
/- (tests by Nat.ble: a term with letters stops there, in the kernel too) -/
def mulOk (i j : Int) : Bool := Nat.ble i.natAbs 18446744073709551615 || Nat.ble j.natAbs 18446744073709551615 || Nat.ble (Builtin.Int.intBits i + Builtin.Int.intBits j) 134217728
def divOk (i j : Int) : Bool := decide (0 < j) && (Nat.ble j.natAbs 1073741823 || Nat.ble j.natAbs.log2 8999 || decide (Builtin.divisionGoesByPylong i j = false))
def powOk (i j : Int) : Bool := decide (0 ≤ j) && Nat.ble j.natAbs 1000000 && Nat.ble i.natAbs 18446744073709551615
def shlOk (i j : Int) : Bool := powOk i j || (decide (0 ≤ j) && Nat.ble (Builtin.Int.intBits i + j.natAbs) 134217728)
theorem mulOk_iff {i j : Int} : mulOk i j = true ↔ (-(2 ^ 64) < i ∧ i < 2 ^ 64) ∨ (-(2 ^ 64) < j ∧ j < 2 ^ 64) ∨ (Builtin.Int.intBits i : Int) + (Builtin.Int.intBits j : Int) ≤ 134217728 := by
  unfold mulOk
  simp only [Bool.or_eq_true, Nat.ble_eq]
  omega
theorem divOk_iff {i j : Int} : divOk i j = true ↔ 0 < j ∧ (j < 1073741824 ∨ j.natAbs.log2 < 9000 ∨ Builtin.divisionGoesByPylong i j = false) := by
  unfold divOk
  simp only [Bool.and_eq_true, Bool.or_eq_true, Nat.ble_eq, decide_eq_true_eq]
  constructor
  · rintro ⟨h1, (h2 | h2) | h2⟩
    · exact ⟨h1, .inl (by omega)⟩
    · exact ⟨h1, .inr (.inl (by omega))⟩
    · exact ⟨h1, .inr (.inr h2)⟩
  · rintro ⟨h1, h2 | h2 | h2⟩
    · exact ⟨h1, .inl (.inl (by omega))⟩
    · exact ⟨h1, .inl (.inr (by omega))⟩
    · exact ⟨h1, .inr h2⟩
theorem powOk_iff {i j : Int} : powOk i j = true ↔ 0 ≤ j ∧ j ≤ 1000000 ∧ i.natAbs < 2 ^ 64 := by
  unfold powOk
  simp only [Bool.and_eq_true, Nat.ble_eq, decide_eq_true_eq]
  omega
theorem shlOk_iff {i j : Int} : shlOk i j = true ↔ (0 ≤ j ∧ j ≤ 1000000 ∧ i.natAbs < 2 ^ 64) ∨ (0 ≤ j ∧ (Builtin.Int.intBits i : Int) + j ≤ 2 ^ 27) := by
  unfold shlOk
  rw [Bool.or_eq_true, powOk_iff]
  simp only [Bool.and_eq_true, Nat.ble_eq, decide_eq_true_eq]
  omega
def lmOk (n : Nat) (k : Int) : Bool := Nat.ble k.natAbs 9223372036854775807 && Nat.ble (n * k.toNat) sizeLine
theorem lmOk_iff {n : Nat} {k : Int} : lmOk n k = true ↔ (-(2 ^ 63) < k ∧ k < 2 ^ 63) ∧ n * k.toNat ≤ sizeLine := by
  unfold lmOk
  simp only [Bool.and_eq_true, Nat.ble_eq]
  constructor
  · rintro ⟨h1, h2⟩; exact ⟨by omega, h2⟩
  · rintro ⟨h1, h2⟩; exact ⟨by omega, h2⟩
def binD (op : Operator) (x y : D) : Option D :=
  match op, x, y with
  | .Add, .int i, .int j => some (.int (i + j))
  | .Sub, .int i, .int j => some (.int (i - j))
  | .Mult, .int i, .int j => if mulOk i j then some (.int (i * j)) else none
  | .FloorDiv, .int i, .int j => if divOk i j then some (.int (i / j)) else none
  | .Mod, .int i, .int j => if 0 < j then some (.int (i % j)) else none
  | .Pow, .int i, .int j => if powOk i j then some (.int (i ^ j.toNat)) else none
  | .LShift, .int i, .int j => if shlOk i j then some (.int (i * 2 ^ j.toNat)) else none
  | .RShift, .int i, .int j => if 0 ≤ j then some (.int (i / 2 ^ j.toNat)) else none
  | .BitAnd, .int i, .int j => some (.int (Builtin.bitAnd i j))
  | .BitOr, .int i, .int j => some (.int (Builtin.bitOr i j))
  | .BitXor, .int i, .int j => some (.int (Builtin.bitXor i j))
  | .Add, .str a, .str b => if a.length + b.length ≤ sizeLine then some (.str (a ++ b)) else none
  | .Add, .list a, .list b => if a.length + b.length ≤ sizeLine then some (.list (a ++ b)) else none
  | .Add, .tuple a, .tuple b => if a.length + b.length ≤ sizeLine then some (.tuple (a ++ b)) else none
  | .Mult, .list a, .int k => if lmOk a.length k then some (.list (List.replicate k.toNat a).flatten) else none
  | _, _, _ => none
def flatD : D → Bool
  | .none => true
  | .bool _ => true
  | .int _ => true
  | .str _ => true
  | _ => false
def keyEq (k x : D) : Bool :=
  match k, x with
  | .int i, .int j => decide (i = j)
  | .str a, .str b => decide (a = b)
  | _, _ => false
def dGet (k : D) : List (D × D) → Option D
  | [] => none
  | (x, d) :: r => if keyEq x k then some d else dGet k r
def isKey : D → Bool
  | .int _ => true
  | .str _ => true
  | _ => false
def eqD (x y : D) : Option Bool :=
  match x, y with
  | .int i, .int j => some (decide (i = j))
  | .str a, .str b => some (decide (a = b))
  | .bool a, .bool b => some (decide (a = b))
  | x, y => if SeqAt.shaped x && SeqAt.shaped y then some (PyData.eqv x y) else none
def inD (x y : D) : Option Bool :=
  match y with
  | .list ds => if flatD x && ds.all flatD then some (ds.any fun d => PyData.eqv d x) else none
  | .tuple ds => if flatD x && ds.all flatD then some (ds.any fun d => PyData.eqv d x) else none
  | .dict kds => if isKey x then some (dGet x kds).isSome else none
  | .str b => match x with
    | .str a => some (!(Builtin.Str.occurrences b a 0 b.length 1).isEmpty)
    | _ => none
  | _ => none
def isNone : D → Bool
  | .none => true
  | _ => false
def cmpD (op : CmpOp) (x y : D) : Option Bool :=
  match op with
  | .Eq => eqD x y
  | .NotEq => (eqD x y).map (!·)
  | .Lt => match x, y with
    | .int i, .int j => some (decide (i < j))
    | .str a, .str b => some (decide (a.cps.toList < b.cps.toList))
    | _, _ => none
  | .LtE => match x, y with
    | .int i, .int j => some (decide (i ≤ j))
    | _, _ => none
  | .Gt => match x, y with
    | .int i, .int j => some (decide (j < i))
    | _, _ => none
  | .GtE => match x, y with
    | .int i, .int j => some (decide (j ≤ i))
    | _, _ => none
  | .Is => if isNone y then some (isNone x) else none
  | .IsNot => if isNone y then some (!isNone x) else none
  | .In => inD x y
  | .NotIn => (inD x y).map (!·)
def truD : D → Option Bool
  | .none => some false
  | .bool b => some b
  | .int i => some (i != 0)
  | .str s => if s.length ≤ sizeLine then some ((s.length : Int) != 0) else none
  | .list ds => some (!ds.isEmpty)
  | .tuple ds => some (!ds.isEmpty)
  | .dict kds => some (!kds.isEmpty)
def subD (x y : D) : Option D :=
  match x, y with
  | .list ds, .int i => atI ds i
  | .tuple ds, .int i => atI ds i
  | .str z, .int i => if z.length ≤ sizeLine then (atI z.cps.toList i).map fun c => .str ⟨#[c]⟩ else none
  | .dict kds, k => if isKey k then dGet k kds else none
  | _, _ => none
def cutD {α : Type} (xs : List α) (lo hi : Option Int) : List α := (xs.drop (HT.sIx xs.length 0 lo)).take (HT.sIx xs.length xs.length hi - HT.sIx xs.length 0 lo)
def sliD (x : D) (lo hi : Option Int) : Option D :=
  match x with
  | .list ds => some (.list (cutD ds lo hi))
  | .tuple ds => some (.tuple (cutD ds lo hi))
  | .str z => if z.length ≤ sizeLine then some (.str (cutS z lo hi)) else none
  | _ => none
def revD : D → Option D
  | .list ds => some (.list ds.reverse)
  | .tuple ds => some (.tuple ds.reverse)
  | _ => none
def intsOf : List D → Option (List Int)
  | [] => some []
  | .int i :: ds => (intsOf ds).map (i :: ·)
  | _ => none
def boolsOf : List D → Option (List Bool)
  | [] => some []
  | .bool i :: ds => (boolsOf ds).map (i :: ·)
  | _ => none
def maxL : List Int → Option Int
  | [] => none
  | i :: is => some (is.foldl max i)
def minL : List Int → Option Int
  | [] => none
  | i :: is => some (is.foldl min i)
def biD (f : Bi) (ds : List D) : Option D :=
  match f, ds with
  | .len, [.str s] => if s.length ≤ sizeLine then some (.int s.length) else none
  | .len, [.list xs] => some (.int xs.length)
  | .len, [.tuple xs] => some (.int xs.length)
  | .len, [.dict xs] => some (.int xs.length)
  | .int, [.int i] => some (.int i)
  | .int, [.bool b] => some (.int (if b then 1 else 0))
  | .abs, [.int i] => some (.int (if i < 0 then -i else i))
  | .max, [.int i, .int j] => some (.int (if j > i then j else i))
  | .min, [.int i, .int j] => some (.int (if j < i then j else i))
  | .max, [.list xs] => (intsOf xs).bind fun is => (maxL is).map .int
  | .min, [.list xs] => (intsOf xs).bind fun is => (minL is).map .int
  | .tuple, [.list xs] => some (.tuple xs)
  | .tuple, [.tuple xs] => some (.tuple xs)
  | .list, [.list xs] => some (.list xs)
  | .list, [.tuple xs] => some (.list xs)
  | .sum, [.list xs] => (intsOf xs).map fun is => .int is.sum
  | .any, [.list xs] => (boolsOf xs).map fun bs => .bool (bs.any id)
  | .all, [.list xs] => (boolsOf xs).map fun bs => .bool (bs.all id)
  | .str, [.int i] => if i.natAbs.log2 < 1920 then some (.str (toString i)) else none
  | .bitlen, [.int i] => some (.int (Builtin.Int.intBits i : Nat))
  | _, _ => none
def tyOf : D → String
  | .none => "NoneType"
  | .bool _ => "bool"
  | .int _ => "int"
  | .str _ => "str"
  | .list _ => "list"
  | .tuple _ => "tuple"
  | .dict _ => "dict"
/-- isinstance of a built-in class -/
def isT (d : D) (n : String) : Option Bool :=
  if n = "int" ∨ n = "bool" ∨ n = "str" ∨ n = "tuple" ∨ n = "list" ∨ n = "dict" then some (tyOf d == n || (tyOf d == "bool" && n == "int")) else none
def isiD (d : D) : List Ty → Option Bool
  | [.b n] => isT d n
  | _ => none

/-! ### states -/
abbrev Tau := List (Option (Bool × D))
def lk (d : D) : List Nat → List Nat
  | [] => []
  | i :: L => if noL d then [] else i :: L
def lkE (e : E) (L : List Nat) : List Nat :=
  match e with
  | .v _ => []
  | _ => L
def isC : D → Bool
  | .list _ => true
  | .dict _ => true
  | _ => false
def frz1 (τ : Tau) (i : Nat) : Tau :=
  match τ[i]? with
  | some (some (_, d)) => τ.set i (some (false, d))
  | _ => τ
def frz (L : List Nat) (τ : Tau) : Tau := L.foldl frz1 τ
@[simp] theorem frz_nil (τ : Tau) : frz [] τ = τ := rfl
def asgs (io : List Nat) : List Nat → List D → Tau → Option Tau
  | [], [], τ => some τ
  | i :: is, d :: ds, τ => if i ∈ io then none else asgs io is ds (τ.set i (some (false, d)))
  | _, _, _ => none
def asg (io : List Nat) (own : Bool) (t : T) (d : D) (τ : Tau) : Option Tau :=
  match t with
  | .n i => if i ∈ io then none else some (τ.set i (some (own && isC d, d)))
  | .tup is => match d with
    | .tuple ds => asgs io is ds τ
    | .list ds => asgs io is ds τ
    | _ => none
def wipeT (τ : Tau) : List Nat → Tau
  | [] => τ
  | v :: vs => (wipeT τ vs).set v none
def E.fresh : E → Bool
  | .lst _ => true
  | .dct0 => true
  | .dctK _ => true
  | .comp .. => true
  | .bi .list _ => true
  | .bin .. => true
  | .sli .. => true
  | .rev _ => true
  | _ => false
structure G where
  cf : Nat → List D → R (D × List D)
  io : Nat → List Nat
  gl : Nat → Option D
  wN : Nat
  gd : Nat → Option (List (Str × D))
  xr : Bool
  fr : Nat → Bool
/-- a written dict's entry -/
def gdGet (z : Str) : List (Str × D) → Option D
  | [] => none
  | (x, d) :: r => if x = z then some d else gdGet z r
def gdIn (gd : Option (List (Str × D))) (x : D) : Option Bool :=
  match gd, x with
  | some kds, .str z => some (gdGet z kds).isSome
  | _, _ => none
def gdIx (gd : Option (List (Str × D))) (x : D) : Option D :=
  match gd, x with
  | some kds, .str z => gdGet z kds
  | _, _ => none
inductive Out where
  | nx (τ : Tau)
  | ret (τ : Tau) (d : D)
  | brk (τ : Tau)
  | ct (τ : Tau)
  | ex (x : Exc) (τ : Tau)
  | st

/-! ### the meaning -/
def compL (elt : Tau → R (D × List Nat)) (cond : Tau → R Bool) (t : T) (own : List Nat) (τw : Tau) : List D → R (List D × List Nat)
  | [] => .ok ([], [])
  | d :: ds => match asg [] false t d τw with
    | none => .st
    | some τ1 => match cond τ1 with
      | .ok true => match elt τ1 with
        | .ok (x, L) => match compL elt cond t own τw ds with
          | .ok (xs, M) => .ok (x :: xs, L ++ M)
          | _ => .st
        | _ => .st
      | .ok false => compL elt cond t own τw ds
      | _ => .st
def rngL (lo : Int) (n : Nat) : List D := (List.range n).map fun k => .int (lo + (k : Nat))
def zipL : List D → List D → List D
  | x :: xs, y :: ys => .tuple [x, y] :: zipL xs ys
  | _, _ => []
def enumL (i : Int) : List D → List D
  | [] => []
  | x :: xs => .tuple [.int i, x] :: enumL (i + 1) xs
def strL (s : Str) : List D := s.cps.toList.map fun c => .str ⟨#[c]⟩
def small62 (i : Int) : Bool := Nat.ble i.natAbs 4611686018427387903
theorem small62_iff {i : Int} (h : small62 i = true) : -(2 ^ 62) ≤ i ∧ i < 2 ^ 62 := by
  unfold small62 at h
  simp only [Nat.ble_eq] at h
  omega
def rngR1 (j : Int) : R (List D × List Nat) := if small62 j then .ok (rngL 0 j.toNat, []) else .st
def rngR (i j : Int) : R (List D × List Nat) := if small62 i && small62 j then .ok (rngL i (j - i).toNat, []) else .st
theorem rngR1_ok {j : Int} (h : small62 j = true) : rngR1 j = .ok (rngL 0 j.toNat, []) := by
  unfold rngR1
  rw [if_pos h]
theorem rngR_ok {i j : Int} (h : small62 i = true) (h2 : small62 j = true) : rngR i j = .ok (rngL i (j - i).toNat, []) := by
  unfold rngR
  rw [if_pos (Bool.and_eq_true_iff.mpr ⟨h, h2⟩)]
def iter1 : D → Option (List D)
  | .list ds => some ds
  | .tuple ds => some ds
  | .str s => some (strL s)
  | _ => none
def lkI (it : I) (L : List Nat) : List Nat :=
  match it with
  | .it e => lkE e L
  | _ => L
mutual
def evE (g : G) : E → Tau → R (D × List Nat)
  | .bad, _ => .st
  | .v i, τ => match τ[i]? with
    | some (some (o, d)) => .ok (d, if o then [i] else [])
    | _ => .st
  | .k d, _ => .ok (d, [])
  | .g i, _ => match g.gl i with
    | some d => .ok (d, [])
    | none => .st
  | .bin op a b, τ => (evE g a τ).bind fun x => (evE g b τ).bind fun y => match binD op x.1 y.1 with
    | some z => .ok (z, lk z (lkE a x.2 ++ lkE b y.2))
    | none => .st
  | .neg a, τ => (evE g a τ).bind fun x => match x.1 with
    | .int i => .ok (.int (-i), [])
    | _ => .st
  | .cmp op a b, τ => (evE g a τ).bind fun x => (evE g b τ).bind fun y => match cmpD op x.1 y.1 with
    | some z => .ok (.bool z, [])
    | none => .st
  | .chain op op' a b c, τ => (evE g a τ).bind fun x => (evE g b τ).bind fun y => match cmpD op x.1 y.1 with
    | some true => (evE g c τ).bind fun z => match cmpD op' y.1 z.1 with
      | some r => .ok (.bool r, [])
      | none => .st
    | some false => .ok (.bool false, [])
    | none => .st
  | .and a b, τ => (evE g a τ).bind fun x => match x.1 with
    | .bool true => evE g b τ
    | .bool false => .ok (.bool false, [])
    | _ => .st
  | .or a b, τ => (evE g a τ).bind fun x => match x.1 with
    | .bool true => .ok (.bool true, [])
    | .bool false => evE g b τ
    | _ => .st
  | .not a, τ => (evE g a τ).bind fun x => match x.1 with
    | .bool b => .ok (.bool (!b), [])
    | _ => .st
  | .ite c a b, τ => (evT g c τ).bind fun x => iteR x (evE g a τ) (evE g b τ)
  | .tup es, τ => (evEs g es τ).bind fun x => if x.1.length ≤ sizeLine then .ok (.tuple x.1, x.2) else .st
  | .lst es, τ => (evEs g es τ).bind fun x => if x.1.length ≤ sizeLine then .ok (.list x.1, x.2) else .st
  | .dct0, _ => .ok (.dict [], [])
  | .sub a b, τ => (evE g a τ).bind fun x => (evE g b τ).bind fun y => match subD x.1 y.1 with
    | some z => .ok (z, lk z (lkE a x.2))
    | none => .st
  | .sli a lo hi, τ => (evE g a τ).bind fun x => (evO g lo τ).bind fun l => (evO g hi τ).bind fun h => match sliD x.1 l h with
    | some z => .ok (z, lk z (lkE a x.2))
    | none => .st
  | .rev a, τ => (evE g a τ).bind fun x => match revD x.1 with
    | some z => .ok (z, lk z (lkE a x.2))
    | none => .st
  | .call f es, τ => match g.io f with
    | [] => (evEs g es τ).bind fun x => (g.cf f x.1).bind fun r => match r.2 with
      | [] => .ok (r.1, lk r.1 x.2)
      | _ :: _ => .st
    | _ :: _ => .st
  | .bi f es, τ => (evEs g es τ).bind fun x => match biD f x.1 with
    | some z => .ok (z, lk z (match es with | .cons e .nil => lkE e x.2 | _ => x.2))
    | none => .st
  | .isi a ts, τ => (evE g a τ).bind fun x => match isiD x.1 ts with
    | some b => .ok (.bool b, [])
    | none => .st
  | .trev a, τ => (evE g a τ).bind fun x => match x.1 with
    | .list ds => .ok (.tuple ds.reverse, lk (.tuple ds) (lkE a x.2))
    | _ => .st
  | .gin neg i a, τ => (evE g a τ).bind fun x => match gdIn (g.gd i) x.1 with
    | some b => .ok (.bool (neg != b), [])
    | none => .st
  | .gix i a, τ => (evE g a τ).bind fun x => match gdIx (g.gd i) x.1 with
    | some d => .ok (d, [])
    | none => .st
  | .dctK kds, _ => .ok (.dict (kds.map fun p => (.str p.1, p.2)), [])
  | .comp elt t it c own, τ => (evI g it τ).bind fun x => if x.1.length ≤ sizeLine then
      (compL (evE g elt) (evC g c) t own (wipeT (frz (lkI it x.2) τ) own) x.1).bind fun y => .ok (.list y.1, lkI it x.2 ++ y.2)
    else .st
/-- as a test -/
def evT (g : G) : E → Tau → R Bool
  | .not a, τ => (evT g a τ).bind fun x => .ok (!x)
  | .and a b, τ => (evT g a τ).bind fun x => match x with
    | true => evT g b τ
    | false => .ok false
  | .or a b, τ => (evT g a τ).bind fun x => match x with
    | true => .ok true
    | false => evT g b τ
  | .ite _ _ _, _ => .st
  | .cmp op a b, τ => (evE g a τ).bind fun x => (evE g b τ).bind fun y => match cmpD op x.1 y.1 with
    | some z => .ok z
    | none => .st
  | .chain op op' a b c, τ => (evE g a τ).bind fun x => (evE g b τ).bind fun y => match cmpD op x.1 y.1 with
    | some true => (evE g c τ).bind fun z => match cmpD op' y.1 z.1 with
      | some r => .ok r
      | none => .st
    | some false => .ok false
    | none => .st
  | .call f es, τ => match g.io f with
    | [] => (evEs g es τ).bind fun x => (g.cf f x.1).bind fun r => match r.2 with
      | [] => R.of (truD r.1)
      | _ :: _ => .st
    | _ :: _ => .st
  | .v i, τ => match τ[i]? with
    | some (some (o, d)) => R.of (truD d)
    | _ => .st
  | .bi f es, τ => (evEs g es τ).bind fun x => (R.of (biD f x.1)).bind fun z => R.of (truD z)
  | .isi a ts, τ => (evE g a τ).bind fun x => R.of (isiD x.1 ts)
  | .gin neg i a, τ => (evE g a τ).bind fun x => (R.of (gdIn (g.gd i) x.1)).bind fun b => .ok (neg != b)
  | .sub a b, τ => (evE g a τ).bind fun x => (evE g b τ).bind fun y => (R.of (subD x.1 y.1)).bind fun z => R.of (truD z)
  | _, _ => .st
def evEs (g : G) : Es → Tau → R (List D × List Nat)
  | .nil, _ => .ok ([], [])
  | .cons e es, τ => (evE g e τ).bind fun x => (evEs g es τ).bind fun y => .ok (x.1 :: y.1, x.2 ++ y.2)
def evO (g : G) : O → Tau → R (Option Int)
  | .no, _ => .ok none
  | .yes e, τ => (evE g e τ).bind fun x => match x.1 with
    | .int i => .ok (some i)
    | _ => .st
/-- a clause's test -/
def evC (g : G) : O → Tau → R Bool
  | .no, _ => .ok true
  | .yes e, τ => evT g e τ
/-- what is walked -/
def evI (g : G) : I → Tau → R (List D × List Nat)
  | .it e, τ => (evE g e τ).bind fun x => match iter1 x.1 with
    | some ds => .ok (ds, x.2)
    | none => .st
  | .r1 a, τ => (evE g a τ).bind fun x => match x.1 with
    | .int j => rngR1 j
    | _ => .st
  | .r2 a b, τ => (evE g a τ).bind fun x => (evE g b τ).bind fun y => match x.1, y.1 with
    | .int i, .int j => rngR i j
    | _, _ => .st
  | .zip a b, τ => (evE g a τ).bind fun x => (evE g b τ).bind fun y => match iter1 x.1, iter1 y.1 with
    | some xs, some ys => .ok (zipL xs ys, x.2 ++ y.2)
    | _, _ => .st
  | .enum a, τ => (evE g a τ).bind fun x => match iter1 x.1 with
    | some xs => .ok (enumL 0 xs, x.2)
    | none => .st
  | .rev a, τ => (evE g a τ).bind fun x => match x.1 with
    | .list xs => .ok (xs.reverse, x.2)
    | .tuple xs => .ok (xs.reverse, x.2)
    | _ => .st
end
/-- the values of the slots that are handed back -/
def outs (τ : Tau) : List Nat → Option (List D)
  | [] => some []
  | i :: is => match τ[i]? with
    | some (some (true, d)) => (outs τ is).map (d :: ·)
    | _ => none
/-- an owned slot's datum -/
def own? (τ : Tau) (i : Nat) : Option D :=
  match τ[i]? with
  | some (some (true, d)) => some d
  | _ => none
/-- the arguments of a call that changes the one at place j: the data, what leaks, the slot -/
def evIo (g : G) : Nat → Es → Tau → R (List D × List Nat × Nat)
  | _, .nil, _ => .st
  | 0, .cons e es, τ => match e with
    | .v i => match own? τ i with
      | some d => (evEs g es τ).bind fun y => .ok (d :: y.1, y.2, i)
      | none => .st
    | _ => .st
  | j + 1, .cons e es, τ => (evE g e τ).bind fun x => (evIo g j es τ).bind fun y => .ok (x.1 :: y.1, x.2 ++ y.2.1, y.2.2)
def dPut (k v : D) (kds : List (D × D)) : List (D × D) := if (kds.any fun p => keyEq p.1 k) = true then kds.map (fun p => if keyEq p.1 k then (p.1, v) else p) else kds ++ [(k, v)]
def dDrop (k : D) (kds : List (D × D)) : List (D × D) := kds.filter fun p => !keyEq p.1 k
def setIxD (c x v : D) : Option D :=
  match c, x with
  | .list ds, .int i => (ixN ds.length i).map fun j => .list (ds.set j v)
  | .dict kds, k => if isKey k && decide (kds.length < sizeLine) then some (.dict (dPut k v kds)) else none
  | _, _ => none
def forL (io dead : List Nat) (t : T) (body : Tau → Out) : List D → Tau → Out
  | [], τ => .nx τ
  | d :: ds, τ => match asg io false t d τ with
    | none => .st
    | some τ1 => match body τ1 with
      | .nx τ2 => forL io dead t body ds (wipeT τ2 dead)
      | .ct τ2 => forL io dead t body ds (wipeT τ2 dead)
      | .brk τ2 => .nx (wipeT τ2 dead)
      | .ret τ2 d => .ret τ2 d
      | .ex x τ2 => .ex x τ2
      | .st => .st
def whL (dead : List Nat) (c : Tau → R Bool) (body : Tau → Out) : Nat → Tau → Out
  | 0, _ => .st
  | n + 1, τ => match c τ with
    | .ok true => match body τ with
      | .nx τ2 => whL dead c body n (wipeT τ2 dead)
      | .ct τ2 => whL dead c body n (wipeT τ2 dead)
      | .brk τ2 => .nx (wipeT τ2 dead)
      | .ret τ2 d => .ret τ2 d
      | .ex x τ2 => .ex x τ2
      | .st => .st
    | .ok false => .nx τ
    | .ex x => .ex x τ
    | .st => .st
def Out.ofR {α : Type} (r : R α) (τ : Tau) (f : α → Out) : Out :=
  match r with
  | .ok a => f a
  | .ex x => .ex x τ
  | .st => .st
def Out.seq (o : Out) (f : Tau → Out) : Out := match o with
  | .nx τ2 => f τ2
  | .ret τ2 d => .ret τ2 d
  | .brk τ2 => .brk τ2
  | .ct τ2 => .ct τ2
  | .ex x τ2 => .ex x τ2
  | .st => .st
@[simp] theorem Out.seq_nx (τ : Tau) (f : Tau → Out) : Out.seq (.nx τ) f = f τ := Eq.trans rfl rfl
@[simp] theorem Out.seq_ret (τ : Tau) (d : D) (f : Tau → Out) : Out.seq (.ret τ d) f = .ret τ d := Eq.trans rfl rfl
@[simp] theorem Out.seq_brk (τ : Tau) (f : Tau → Out) : Out.seq (.brk τ) f = .brk τ := Eq.trans rfl rfl
@[simp] theorem Out.seq_ct (τ : Tau) (f : Tau → Out) : Out.seq (.ct τ) f = .ct τ := Eq.trans rfl rfl
@[simp] theorem Out.seq_ex (x : Exc) (τ : Tau) (f : Tau → Out) : Out.seq (.ex x τ) f = .ex x τ := Eq.trans rfl rfl
@[simp] theorem Out.seq_st (f : Tau → Out) : Out.seq .st f = .st := Eq.trans rfl rfl
def ifK (f h : Tau → Out) (τ : Tau) (b : Bool) : Out := match b with
  | true => f τ
  | false => h τ
@[simp] theorem ifK_t (f h : Tau → Out) (τ : Tau) : ifK f h τ true = f τ := Eq.trans rfl rfl
@[simp] theorem ifK_f (f h : Tau → Out) (τ : Tau) : ifK f h τ false = h τ := Eq.trans rfl rfl
@[simp] theorem Out.ofR_ok {α : Type} (a : α) (τ : Tau) (f : α → Out) : Out.ofR (.ok a) τ f = f a := Eq.trans rfl rfl
@[simp] theorem Out.ofR_ex {α : Type} (x : Exc) (τ : Tau) (f : α → Out) : Out.ofR (.ex x : R α) τ f = .ex x τ := Eq.trans rfl rfl
@[simp] theorem Out.ofR_st {α : Type} (τ : Tau) (f : α → Out) : Out.ofR (.st : R α) τ f = .st := Eq.trans rfl rfl
def Out.ofO : Option Tau → Out
  | some τ => .nx τ
  | none => .st
@[simp] theorem Out.ofO_some (τ : Tau) : Out.ofO (some τ) = .nx τ := Eq.trans rfl rfl
@[simp] theorem Out.ofO_none : Out.ofO none = .st := Eq.trans rfl rfl
/-- an atom -/
def isA : D → Bool
  | .none => true
  | .bool _ => true
  | .int _ => true
  | .str _ => true
  | _ => false
/-- the mark of a def whose result is its own, among its slots that are handed back -/
abbrev mkN : Nat := 1000000
def ioM (io : List Nat) (fr : Bool) : List Nat := match fr with
  | true => mkN :: io
  | false => io
@[simp] theorem ioM_f (io : List Nat) : ioM io false = io := Eq.trans rfl rfl
@[simp] theorem ioM_t (io : List Nat) : ioM io true = 1000000 :: io := Eq.trans rfl rfl
theorem mem_ioM {io : List Nat} {fr : Bool} {i : Nat} (h : i ∈ io) : i ∈ ioM io fr := by
  cases fr
  · exact h
  · exact List.mem_cons_of_mem _ h
/-- a return -/
def retO (io : List Nat) (e : E) (x : D × List Nat) (τ : Tau) : Out := match io.contains mkN with
  | false => .ret (frz x.2 τ) x.1
  | true => match isC x.1 with
    | false => .ret (frz x.2 τ) x.1
    | true => match e.fresh with
      | true => .ret (frz x.2 τ) x.1
      | false => match e with
        | .v i => match own? τ i with
          | some d => if i ∈ io then .st else .ret (frz1 τ i) d
          | none => .st
        | _ => .st
theorem retO_no {io : List Nat} {e : E} {x : D × List Nat} {τ : Tau} (h : io.contains mkN = false) : retO io e x τ = .ret (frz x.2 τ) x.1 := by
  unfold retO
  rw [h]
mutual
def evS (g : G) (io : List Nat) : S → Tau → Out
  | .bad, _ => .st
  | .set t e, τ => .ofR (evE g e τ) τ fun x => .ofO (asg io e.fresh t x.1 (frz x.2 τ))
  | .par is es, τ => .ofR (evEs g es τ) τ fun x => .ofO (asgs io is x.1 (frz x.2 τ))
  | .setIx i x e, τ => match own? τ i with
    | none => .st
    | some _ => .ofR (evE g e τ) τ fun v => .ofR (evE g x τ) τ fun k => match own? (frz v.2 τ) i with
      | some c => match setIxD c k.1 v.1 with
        | some c' => .nx ((frz v.2 τ).set i (some (true, c')))
        | none => .st
      | none => .st
  | .app i e, τ => match own? τ i with
    | some (.list _) => .ofR (evE g e τ) τ fun v => match own? (frz v.2 τ) i with
      | some (.list ds) => if ds.length < sizeLine then .nx ((frz v.2 τ).set i (some (true, .list (ds ++ [v.1])))) else .st
      | _ => .st
    | _ => .st
  | .ext i e, τ => match own? τ i with
    | some (.list _) => .ofR (evE g e τ) τ fun v => match v.1 with
      | .list es => match own? (frz (lkE e v.2) τ) i with
        | some (.list ds) => if ds.length + es.length ≤ sizeLine then .nx ((frz (lkE e v.2) τ).set i (some (true, .list (ds ++ es)))) else .st
        | _ => .st
      | _ => .st
    | _ => .st
  | .pop t i, τ => match own? τ i with
    | some (.list ds) => match ds[ds.length - 1]? with
      | some d => match t with
        | none => .nx (τ.set i (some (true, .list ds.dropLast)))
        | some j => if j ∈ io ∨ j = i then .st else .nx ((τ.set i (some (true, .list ds.dropLast))).set j (some (false, d)))
      | none => .st
    | _ => .st
  | .popF t i, τ => match own? τ i with
    | some (.list (d :: ds)) => match t with
        | none => .nx (τ.set i (some (true, .list ds)))
        | some j => if j ∈ io ∨ j = i then .st else .nx ((τ.set i (some (true, .list ds))).set j (some (false, d)))
    | _ => .st
  | .dpop i k d, τ => match own? τ i with
    | some (.dict kds) => .ofR (evE g k τ) τ fun x => .ofR (evE g d τ) τ fun y => if isKey x.1 then .nx (τ.set i (some (true, .dict (dDrop x.1 kds)))) else .st
    | _ => .st
  | .ex e, τ => .ofR (evE g e τ) τ fun _ => .nx τ
  | .io t f es, τ => match g.io f with
    | [j] => match evIo g j es τ with
      | .ok x => if x.2.1.contains x.2.2 then .st else match g.cf f x.1 with
        | .ok (r, [d]) => if isC d then match t with
            | none => .nx ((frz x.2.1 τ).set x.2.2 (some (true, d)))
            | some i => if i ∈ io ∨ i = x.2.2 then .st else .nx (((frz x.2.1 τ).set x.2.2 (some (true, d))).set i (some (false, r)))
          else .st
        | _ => .st
      | _ => .st
    | _ => .st
  | .ioR f es, τ => match g.io f with
    | [j] => match evIo g j es τ with
      | .ok x => if x.2.1.contains x.2.2 then .st else match g.cf f x.1 with
        | .ok (r, [d]) => if isC d && !isC r then .ret ((frz x.2.1 τ).set x.2.2 (some (true, d))) r else .st
        | _ => .st
      | _ => .st
    | _ => .st
  | .callF i f es, τ => match g.io f with
    | [] => .ofR (evEs g es τ) τ fun x => if g.fr f then .ofR (g.cf f x.1) τ fun r => match r.2 with
      | [] => if i ∈ io then .st else .nx ((frz x.2 τ).set i (some (isC r.1, r.1)))
      | _ => .st
      else .st
    | _ => .st
  | .ioC t h as f es, τ => match g.io h, g.io f with
    | [], [j] => match evEs g as τ with
      | .ok (ds, []) => match evIo g j es τ with
        | .ok x => if x.2.1.contains x.2.2 then .st else match g.cf f x.1 with
          | .ok (r, [d]) => if isC d then match g.cf h (ds ++ [r]) with
              | .ok (z, []) => if t ∈ io ∨ t = x.2.2 then .st else .nx (((frz x.2.1 τ).set x.2.2 (some (true, d))).set t (some (false, z)))
              | _ => .st
            else .st
          | _ => .st
        | _ => .st
      | _ => .st
    | _, _ => .st
  | .ifS c a b, τ => .ofR (evT g c τ) τ (ifK (evSs g io a) (evSs g io b) τ)
  | .wh dead c b, τ => whL dead (evT g c) (evSs g io b) g.wN (wipeT τ dead)
  | .forS dead t it b, τ => .ofR (evI g it τ) τ fun x => forL io dead t (evSs g io b) x.1 (wipeT (frz x.2 τ) dead)
  | .ret e, τ => .ofR (evE g e τ) τ fun x => retO io e x τ
  | .retN, τ => .ret τ .none
  | .brk, τ => .brk τ
  | .ct, τ => .ct τ
  | .pass, τ => .nx τ
  | .raise c f e, τ => if g.xr then .ofR (evE g e τ) τ fun x => if isA x.1 then .ex ⟨c, [(f, x.1)]⟩ τ else .st else .st
def evSs (g : G) (io : List Nat) : Ss → Tau → Out
  | .nil, τ => .nx τ
  | .cons s ss, τ => (evS g io s τ).seq (evSs g io ss)
end
mutual
/-- without the words which slots a loop forgets -/
def S.strip : S → S
  | .ifS c a b => .ifS c a.strip b.strip
  | .wh _ c b => .wh [] c b.strip
  | .forS _ t it b => .forS [] t it b.strip
  | s => s
def Ss.strip : Ss → Ss
  | .nil => .nil
  | .cons s ss => .cons s.strip ss.strip
end
/-- a def: its parameters' number, its slots' number, the parameters that it changes, its body -/
structure Fn where
  nps : Nat
  nsl : Nat
  io : List Nat
  body : Ss
  fr : Bool
def mark (io : List Nat) : Nat → List D → Tau
  | _, [] => []
  | i, d :: ds => some (io.contains i && isC d, d) :: mark io (i + 1) ds
def startT (F : Fn) (ds : List D) : Tau := mark F.io 0 ds ++ List.replicate (F.nsl - F.nps) none
def runF (g : G) (F : Fn) (ds : List D) : R (D × List D) :=
  if ds.length = F.nps then
    match evSs g (ioM F.io F.fr) F.body (startT F ds) with
    | .nx τ => (R.of (outs τ F.io)).bind fun os => .ok (.none, os)
    | .ret τ d => (R.of (outs τ F.io)).bind fun os => .ok (d, os)
    | .ex x _ => .ex x
    | _ => .st
  else .st
/-- what an exception of the first part of a def's body comes to -/
def Out.hand (o : Out) (f : Exc → Tau → Out) : Out := match o with
  | .ex x τ => f x τ
  | .nx τ2 => .nx τ2
  | .ret τ2 d => .ret τ2 d
  | .brk τ2 => .brk τ2
  | .ct τ2 => .ct τ2
  | .st => .st
/-- a def whose body is a try statement with one clause, and more: the try's body, the clause's meaning -/
structure Tr where
  b1 : Ss
  hd : G → Exc → Tau → Out
def runT (g : G) (F : Fn) (t : Tr) (ds : List D) : R (D × List D) :=
  if ds.length = F.nps then
    match ((evSs g F.io t.b1 (startT F ds)).hand (t.hd g)).seq (evSs g F.io F.body) with
    | .nx τ => (R.of (outs τ F.io)).bind fun os => .ok (.none, os)
    | .ret τ d => (R.of (outs τ F.io)).bind fun os => .ok (d, os)
    | .ex x _ => .ex x
    | _ => .st
  else .st
structure Pr where
  fs : Nat → Option Fn
  gl : Nat → Option D
  wN : Nat
  gd : Nat → Option (List (Str × D))
  xcs : List (Str × (Nat × Str))
  ts : Nat → Option (Fn × Tr)
def Pr.io (p : Pr) (f : Nat) : List Nat := match p.fs f with | some F => F.io | none => []
def Pr.fr (p : Pr) (f : Nat) : Bool := match p.fs f with | some F => F.fr | none => false
def callN (p : Pr) : Nat → Nat → List D → R (D × List D)
  | 0, _, _ => .st
  | n + 1, f, ds => match p.fs f with
    | some F => runF ⟨callN p n, p.io, p.gl, p.wN, p.gd, Nat.ble 2 n, p.fr⟩ F ds
    | none => match p.ts f with
      | some (F, t) => runT ⟨callN p n, p.io, p.gl, p.wN, p.gd, Nat.ble 2 n, p.fr⟩ F t ds
      | none => .st
end Mp

/-! MiniPy, part C: states and heaps. -/
namespace Mp
open PySem PySem.Spec PyProof.Rows L2

/-- what stands at an owned address -/
def OwnAt (K : PySem.W.Frag) (H : Hp) (P : Addr → Prop) (p : Addr) : D → Prop
  | .list ds => ∃ vs, H p = some (.lst vs) ∧ DnAll K (wo P H) vs ds
  | .dict kds => ∃ kvs, H p = some (.dK kvs) ∧ DnKV K (wo P H) kvs kds
  | _ => False
def IsCo : HO → Prop
  | .lst _ => True
  | .dK _ => True
  | _ => False
abbrev Ps := Nat → Option Addr
/-- the addresses that are taken away: those from outside and the owned ones -/
def PP (P0 : Addr → Prop) (ps : Ps) : Addr → Prop := fun a => P0 a ∨ ∃ i, ps i = some a
def dr (L : List Nat) (ps : Ps) : Ps := fun i => if i ∈ L then none else ps i
theorem dr_nil (ps : Ps) : dr [] ps = ps := by funext i; simp [dr]
theorem dr_some {L : List Nat} {ps : Ps} {i : Nat} {p : Addr} : dr L ps i = some p ↔ i ∉ L ∧ ps i = some p := by
  unfold dr; by_cases h : i ∈ L <;> simp [h]
theorem PP_dr {P0 : Addr → Prop} {L M : List Nat} {ps : Ps} (h : ∀ i, i ∈ L → i ∈ M) : ∀ a, PP P0 (dr M ps) a → PP P0 (dr L ps) a := fun a z => by
  rcases z with z | ⟨i, z⟩
  · exact .inl z
  · obtain ⟨h1, h2⟩ := dr_some.mp z
    exact .inr ⟨i, dr_some.mpr ⟨fun q => h1 (h i q), h2⟩⟩
theorem PP_dr0 {P0 : Addr → Prop} {M : List Nat} {ps : Ps} : ∀ a, PP P0 (dr M ps) a → PP P0 ps a := fun a z => by
  have := PP_dr (L := []) (M := M) (P0 := P0) (ps := ps) (fun i q => nomatch q) a z
  rwa [dr_nil] at this

/-- what is fixed through a def's body: the heap at its entry, the addresses that may change, those taken away from outside, the slots handed back and their addresses -/
structure Fx where
  H0 : Hp
  io : Addr → Prop
  P0 : Addr → Prop
  iol : List Nat
  q : Ps
  nw : Addr → Prop
structure Rel (K : PySem.W.Frag) (F : Fx) (ps : Ps) (H : Hp) (σ : L2.St) (τ : Tau) : Prop where
  ls : σ.length = τ.length
  own : ∀ (i : Nat) (d : D), τ[i]? = some (some (true, d)) → ∃ p, ps i = some p ∧ σ[i]? = some (some (.ref p)) ∧ OwnAt K H (PP F.P0 ps) p d
  cln : ∀ (i : Nat) (d : D), τ[i]? = some (some (false, d)) → ∃ v, σ[i]? = some (some v) ∧ Dn K (wo (PP F.P0 ps) H) v d
  pown : ∀ (i : Nat) (p : Addr), ps i = some p → ∃ d : D, τ[i]? = some (some (true, d))
  inj : ∀ (i j : Nat) (p : Addr), ps i = some p → ps j = some p → i = j
  out : ∀ (i : Nat) (p : Addr), ps i = some p → ¬ F.P0 p
  keep : ∀ a o, F.H0 a = some o → ¬ F.io a → H a = some o
  new : ∀ (i : Nat) (p : Addr), ps i = some p → F.io p ∨ F.H0 p = none
  p0 : ∀ a, F.P0 a → ∃ o, H a = some o ∧ IsCo o
  pin : ∀ (i : Nat) (p : Addr), i ∈ F.iol → ps i = some p → F.q i = some p
  nw : (∀ (i : Nat) (p : Addr), ps i = some p → i ∉ F.iol → F.nw p) ∧ ∀ a, H a = none → F.nw a
theorem Same.none {H H' : Hp} (e : Same H H') {a : Addr} (h : H' a = none) : H a = none := by
  cases h2 : H a with
  | none => rfl
  | some o => rw [e _ _ h2] at h; cases h
section
variable {K : PySem.W.Frag} {F : Fx} {ps : Ps} {H H' : Hp} {σ : L2.St} {τ : Tau}
theorem DnKV.mono' {K : PySem.W.Frag} {H H' : Hp} (e : Same H H') {kds : List (D × D)} {kvs : List (Key × V)} (h : DnKV K H kvs kds) : DnKV K H' kvs kds := DnKV.mono e kds h
theorem OwnAt.mono {P P' : Addr → Prop} {p : Addr} {d : D} (h : OwnAt K H P p d) (e : ∀ o, H p = some o → H' p = some o) (s : Same (wo P H) (wo P' H')) : OwnAt K H' P' p d := by
  cases d with
  | list ds => obtain ⟨vs, h1, h2⟩ := h; exact ⟨vs, e _ h1, DnAll.mono s _ h2⟩
  | dict ds => obtain ⟨vs, h1, h2⟩ := h; exact ⟨vs, e _ h1, DnKV.mono s _ h2⟩
  | _ => exact h.elim
theorem OwnAt.there {P : Addr → Prop} {p : Addr} {d : D} (h : OwnAt K H P p d) : ∃ o, H p = some o ∧ IsCo o := by
  cases d with
  | list ds => obtain ⟨vs, h1, h2⟩ := h; exact ⟨_, h1, trivial⟩
  | dict ds => obtain ⟨vs, h1, h2⟩ := h; exact ⟨_, h1, trivial⟩
  | _ => exact h.elim
theorem OwnAt.isC {P : Addr → Prop} {p : Addr} {d : D} (h : OwnAt K H P p d) : isC d = true := by
  cases d with
  | list ds => rfl
  | dict ds => rfl
  | _ => exact h.elim
theorem Rel.there (r : Rel K F ps H σ τ) {a : Addr} (h : PP F.P0 ps a) : ∃ o, H a = some o ∧ IsCo o := by
  rcases h with h | ⟨i, h⟩
  · exact r.p0 a h
  · obtain ⟨d, e⟩ := r.pown i a h
    obtain ⟨p, e1, _, e2⟩ := r.own i d e
    rw [h] at e1; cases e1
    exact e2.there
theorem Rel.mono (r : Rel K F ps H σ τ) (e : Same H H') : Rel K F ps H' σ τ :=
  ⟨r.ls, fun i d h => let ⟨p, h1, h2, h3⟩ := r.own i d h; ⟨p, h1, h2, h3.mono (fun o q => e _ _ q) (wo_same e)⟩, fun i d h => let ⟨v, h1, h2⟩ := r.cln i d h; ⟨v, h1, Dn.mono (wo_same e) _ h2⟩, r.pown, r.inj, r.out,
    fun a o h n => e _ _ (r.keep a o h n), r.new, fun a h => let ⟨o, h1, h2⟩ := r.p0 a h; ⟨o, e _ _ h1, h2⟩, r.pin, r.nw.1, fun a h => r.nw.2 a (Same.none e h)⟩
/-- what a slot's value denotes, read in the whole heap -/
theorem Dn.full {P : Addr → Prop} {v : V} {d : D} (h : Dn K (wo P H) v d) : Dn K H v d := Dn.mono wo_all d h
theorem Dn.sub {P P' : Addr → Prop} {v : V} {d : D} (h : Dn K (wo P' H) v d) (e : ∀ a, P a → P' a) : Dn K (wo P H) v d := Dn.mono (wo_sub e) d h
theorem DnAll.full {P : Addr → Prop} {v : List V} {d : List D} (h : DnAll K (wo P H) v d) : DnAll K H v d := DnAll.mono wo_all d h
theorem DnAll.sub {P P' : Addr → Prop} {v : List V} {d : List D} (h : DnAll K (wo P' H) v d) (e : ∀ a, P a → P' a) : DnAll K (wo P H) v d := DnAll.mono (wo_sub e) d h
/-- an owned list, given up, is a datum like others -/
theorem OwnAt.dn {P P' : Addr → Prop} {p : Addr} {d : D} (h : OwnAt K H P p d) (n : ¬ P' p) (e : ∀ a, P' a → P a) : Dn K (wo P' H) (.ref p) d := by
  cases d with
  | list ds => obtain ⟨vs, h1, h2⟩ := h; exact .lst (.inl (.inl (wo_some.mpr ⟨n, h1⟩))) (h2.sub e)
  | dict ds => obtain ⟨vs, h1, h2⟩ := h; exact .dct (.inl (wo_some.mpr ⟨n, h1⟩)) (DnKV.mono (wo_sub e) _ h2)
  | _ => exact h.elim
theorem frz1_get {i j : Nat} : (frz1 τ i)[j]? = if j = i then (match τ[i]? with | some (some (_, d)) => some (some (false, d)) | x => x) else τ[j]? := by
  unfold frz1
  split
  · rename_i b d e
    by_cases h : j = i
    · subst h
      have := List.getElem?_eq_some_iff.mp e
      first
        | (rw [List.getElem?_set_self this.1, if_pos rfl, e]; done)
        | (rw [List.getElem?_set_self this.1, if_pos rfl]; done)
    · rw [List.getElem?_set_ne (fun z => h z.symm), if_neg h]
  · rename_i hn
    by_cases h : j = i
    · subst h
      first
        | (rw [if_pos rfl]; done)
        | (rw [if_pos rfl]
           split
           · rename_i b d e; exact (hn _ _ e).elim
           · rfl)
    · rw [if_neg h]
theorem frz1_length {i : Nat} : (frz1 τ i).length = τ.length := by
  unfold frz1; split <;> simp
theorem Rel.frz1 (r : Rel K F ps H σ τ) (i : Nat) : Rel K F (dr [i] ps) H σ (frz1 τ i) := by
  have hs : ∀ a, PP F.P0 (dr [i] ps) a → PP F.P0 ps a := PP_dr0
  refine ⟨by rw [frz1_length]; exact r.ls, fun j d h => ?_, fun j d h => ?_, fun j p h => ?_, fun j k p h1 h2 => ?_, fun j p h => ?_, r.keep, fun j p h => ?_, r.p0, fun j p hi h => ?_, fun j p h hi => r.nw.1 j p (dr_some.mp h).2 hi, r.nw.2⟩
  · rw [frz1_get] at h
    by_cases hj : j = i
    · rw [if_pos hj] at h
      split at h
      · cases h
      · rename_i hn; subst hj; exact (hn _ _ h).elim
    · rw [if_neg hj] at h
      obtain ⟨p, h1, h2, h3⟩ := r.own j d h
      exact ⟨p, dr_some.mpr ⟨by simpa using hj, h1⟩, h2, h3.mono (fun _ q => q) (wo_sub hs)⟩
  · rw [frz1_get] at h
    by_cases hj : j = i
    · rw [if_pos hj] at h
      subst hj
      split at h
      · rename_i b d' e
        cases h
        cases b with
        | true =>
          obtain ⟨p, h1, h2, h3⟩ := r.own j _ e
          refine ⟨_, h2, h3.dn (fun z => ?_) hs⟩
          rcases z with z | ⟨k, z⟩
          · exact r.out _ _ h1 z
          · obtain ⟨z1, z2⟩ := dr_some.mp z
            exact z1 (by simp [r.inj _ _ _ z2 h1])
        | false =>
          obtain ⟨v, h1, h2⟩ := r.cln j _ e
          exact ⟨v, h1, h2.sub hs⟩
      · rename_i hn; exact (hn _ _ h).elim
    · rw [if_neg hj] at h
      obtain ⟨v, h1, h2⟩ := r.cln j d h
      exact ⟨v, h1, h2.sub hs⟩
  · obtain ⟨z1, z2⟩ := dr_some.mp h
    obtain ⟨d, e⟩ := r.pown j p z2
    exact ⟨d, by rw [frz1_get, if_neg (by simpa using z1)]; exact e⟩
  · exact r.inj j k p (dr_some.mp h1).2 (dr_some.mp h2).2
  · exact r.out j p (dr_some.mp h).2
  · exact r.new j p (dr_some.mp h).2
  · exact r.pin j p hi (dr_some.mp h).2
theorem dr_cons (i : Nat) (L : List Nat) (ps : Ps) : dr L (dr [i] ps) = dr (i :: L) ps := by
  funext j
  unfold dr
  by_cases h1 : j = i <;> by_cases h2 : j ∈ L <;> simp [h1, h2]
theorem Rel.frz (r : Rel K F ps H σ τ) (L : List Nat) : Rel K F (dr L ps) H σ (frz L τ) := by
  induction L generalizing τ ps with
  | nil => rw [dr_nil]; exact r
  | cons i L ih =>
    have := ih (r.frz1 i)
    rw [dr_cons] at this
    exact this
theorem frz_length (L : List Nat) (τ : Tau) : (frz L τ).length = τ.length := by
  induction L generalizing τ with
  | nil => rfl
  | cons i L ih => show (frz L (frz1 τ i)).length = _; rw [ih, frz1_length]
/-- forgetting one owned slot -/
theorem PP_drop {i : Nat} : ∀ a, PP F.P0 (fun j => if j = i then none else ps j) a → PP F.P0 ps a := fun a z => by
  rcases z with z | ⟨j, z⟩
  · exact .inl z
  · by_cases h : j = i
    · simp [h] at z
    · simp only [h, if_false] at z; exact .inr ⟨j, z⟩
/-- a slot takes a datum that is not owned -/
theorem Rel.set (r : Rel K F ps H σ τ) {i : Nat} {v : V} {d : D} (h : Dn K (wo (PP F.P0 ps) H) v d) : Rel K F (fun j => if j = i then none else ps j) H (σ.set i (some v)) (τ.set i (some (false, d))) := by
  have hs := PP_drop (F := F) (ps := ps) (i := i)
  have hl := r.ls
  refine ⟨by simp [hl], fun j e he => ?_, fun j e he => ?_, fun j p hp => ?_, fun j k p h1 h2 => ?_, fun j p hp => ?_, r.keep, fun j p hp => ?_, r.p0, fun j p hi hp => ?_, fun j p hp hi => (by
    by_cases hj : j = i
    · simp [hj] at hp
    · simp only [hj, if_false] at hp; exact r.nw.1 j p hp hi), r.nw.2⟩
  · by_cases hj : j = i
    · subst hj
      by_cases hlt : j < τ.length
      · rw [List.getElem?_set_self hlt] at he; cases he
      · rw [List.getElem?_eq_none (by simpa using hlt)] at he; cases he
    · rw [List.getElem?_set_ne (fun z => hj z.symm)] at he
      obtain ⟨p, h1, h2, h3⟩ := r.own j e he
      exact ⟨p, by simp [hj, h1], by rw [List.getElem?_set_ne (fun z => hj z.symm)]; exact h2, h3.mono (fun _ q => q) (wo_sub hs)⟩
  · by_cases hj : j = i
    · subst hj
      by_cases hlt : j < τ.length
      · rw [List.getElem?_set_self hlt] at he; cases he
        exact ⟨v, by rw [List.getElem?_set_self (by rw [hl]; exact hlt)], h.sub hs⟩
      · rw [List.getElem?_eq_none (by simpa using hlt)] at he; cases he
    · rw [List.getElem?_set_ne (fun z => hj z.symm)] at he
      obtain ⟨w, h1, h2⟩ := r.cln j e he
      exact ⟨w, by rw [List.getElem?_set_ne (fun z => hj z.symm)]; exact h1, h2.sub hs⟩
  · by_cases hj : j = i
    · simp [hj] at hp
    · simp only [hj, if_false] at hp
      obtain ⟨e, he⟩ := r.pown j p hp
      exact ⟨e, by rw [List.getElem?_set_ne (fun z => hj z.symm)]; exact he⟩
  · by_cases hj : j = i
    · simp [hj] at h1
    · by_cases hk : k = i
      · simp [hk] at h2
      · simp only [hj, hk, if_false] at h1 h2
        exact r.inj j k p h1 h2
  · by_cases hj : j = i
    · simp [hj] at hp
    · simp only [hj, if_false] at hp; exact r.out j p hp
  · by_cases hj : j = i
    · simp [hj] at hp
    · simp only [hj, if_false] at hp; exact r.new j p hp
  · by_cases hj : j = i
    · simp [hj] at hp
    · simp only [hj, if_false] at hp; exact r.pin j p hi hp
/-- a slot takes a new list or dict -/
theorem Rel.setNew (r : Rel K F ps H σ τ) (e : Same H H') {i : Nat} {p : Addr} {d : D} (hi : i ∉ F.iol) (hlt : i < τ.length) (hn : H p = none) (h : OwnAt K H' (fun a => a = p ∨ PP F.P0 ps a) p d) :
    Rel K F (fun j => if j = i then some p else ps j) H' (σ.set i (some (.ref p))) (τ.set i (some (true, d))) := by
  have hl := r.ls
  have npp : ¬ PP F.P0 ps p := fun z => by
    obtain ⟨o, q, _⟩ := r.there z
    rw [hn] at q; cases q
  have hs : ∀ a, PP F.P0 (fun j => if j = i then some p else ps j) a → (a = p ∨ PP F.P0 ps a) := fun a z => by
    rcases z with z | ⟨j, z⟩
    · exact .inr (.inl z)
    · by_cases hj : j = i
      · simp only [hj, if_true] at z; cases z; exact .inl rfl
      · simp only [hj, if_false] at z; exact .inr (.inr ⟨j, z⟩)
  have key : Same (wo (PP F.P0 ps) H) (wo (PP F.P0 (fun j => if j = i then some p else ps j)) H') := wo_gen fun a o h1 h2 =>
    ⟨fun q => (hs a q).elim (fun z => by rw [z, hn] at h2; cases h2) h1, e _ _ h2⟩
  refine ⟨by simp [hl], fun j x he => ?_, fun j x he => ?_, fun j q hq => ?_, fun j k q h1 h2 => ?_, fun j q hq => ?_, fun a o h1 h2 => e _ _ (r.keep a o h1 h2), fun j q hq => ?_, fun a h1 => let ⟨o, h2, h3⟩ := r.p0 a h1; ⟨o, e _ _ h2, h3⟩, fun j q hj2 hq => ?_, fun j q hq hj2 => (by
    by_cases hj : j = i
    · simp only [hj, if_true] at hq; cases hq; exact r.nw.2 p hn
    · simp only [hj, if_false] at hq; exact r.nw.1 j q hq hj2), fun a h => r.nw.2 a (Same.none e h)⟩
  · by_cases hj : j = i
    · subst hj
      rw [List.getElem?_set_self hlt] at he; cases he
      exact ⟨p, by simp, by rw [List.getElem?_set_self (by rw [hl]; exact hlt)], h.mono (fun _ q => q) (wo_sub hs)⟩
    · rw [List.getElem?_set_ne (fun z => hj z.symm)] at he
      obtain ⟨q, h1, h2, h3⟩ := r.own j x he
      exact ⟨q, by simp [hj, h1], by rw [List.getElem?_set_ne (fun z => hj z.symm)]; exact h2, h3.mono (fun _ q => e _ _ q) key⟩
  · by_cases hj : j = i
    · subst hj
      rw [List.getElem?_set_self hlt] at he; cases he
    · rw [List.getElem?_set_ne (fun z => hj z.symm)] at he
      obtain ⟨w, h1, h2⟩ := r.cln j x he
      exact ⟨w, by rw [List.getElem?_set_ne (fun z => hj z.symm)]; exact h1, Dn.mono key _ h2⟩
  · by_cases hj : j = i
    · subst hj
      exact ⟨d, by rw [List.getElem?_set_self hlt]⟩
    · simp only [hj, if_false] at hq
      obtain ⟨x, he⟩ := r.pown j q hq
      exact ⟨x, by rw [List.getElem?_set_ne (fun z => hj z.symm)]; exact he⟩
  · have old : ∀ j : Nat, j ≠ i → ps j = some q → q ≠ p := fun j _ z1 z2 => npp (.inr ⟨j, by rw [z1, z2]⟩)
    by_cases hj : j = i
    · by_cases hk : k = i
      · rw [hj, hk]
      · simp only [hj, hk, if_true, if_false] at h1 h2
        exact absurd (Option.some.inj h1).symm (old k hk h2)
    · by_cases hk : k = i
      · simp only [hj, hk, if_true, if_false] at h1 h2
        exact absurd (Option.some.inj h2).symm (old j hj h1)
      · simp only [hj, hk, if_false] at h1 h2
        exact r.inj j k q h1 h2
  · by_cases hj : j = i
    · simp only [hj, if_true] at hq; cases hq; exact fun z => npp (.inl z)
    · simp only [hj, if_false] at hq; exact r.out j q hq
  · by_cases hj : j = i
    · simp only [hj, if_true] at hq; cases hq
      by_cases hio : F.io p
      · exact .inl hio
      · right
        cases h0 : F.H0 p with
        | none => rfl
        | some o => have := r.keep p o h0 hio; rw [hn] at this; cases this
    · simp only [hj, if_false] at hq; exact r.new j q hq
  · by_cases hj : j = i
    · exact absurd (hj ▸ hj2) hi
    · simp only [hj, if_false] at hq; exact r.pin j q hj2 hq
/-- an owned list is changed -/
theorem Rel.write (r : Rel K F ps H σ τ) {i : Nat} {p : Addr} {d : D} {o : HO} (hp : ps i = some p) (hd : OwnAt K (upd H p o) (PP F.P0 ps) p d) (ho : IsCo o) :
    Rel K F ps (upd H p o) σ (τ.set i (some (true, d))) := by
  have hl := r.ls
  obtain ⟨d0, hi⟩ := r.pown i p hp
  have hlt := (List.getElem?_eq_some_iff.mp hi).1
  have hpp : PP F.P0 ps p := .inr ⟨i, hp⟩
  have key : Same (wo (PP F.P0 ps) H) (wo (PP F.P0 ps) (upd H p o)) := wo_gen fun a u h1 h2 => ⟨h1, by
    rw [upd_ne (fun z => h1 (by rw [z]; exact hpp))]; exact h2⟩
  refine ⟨by simp [hl], fun j x he => ?_, fun j x he => ?_, fun j q hq => ?_, r.inj, r.out, fun a u h1 h2 => ?_, r.new, fun a h1 => ?_, r.pin, r.nw.1, fun a h => r.nw.2 a (by
    by_cases z : a = p
    · rw [z, upd_same] at h; cases h
    · rw [upd_ne z] at h; exact h)⟩
  · by_cases hj : j = i
    · subst hj
      rw [List.getElem?_set_self hlt] at he; cases he
      obtain ⟨q, z1, z2, _⟩ := r.own j _ hi
      rw [hp] at z1; cases z1
      exact ⟨p, hp, z2, hd⟩
    · rw [List.getElem?_set_ne (fun z => hj z.symm)] at he
      obtain ⟨q, h1, h2, h3⟩ := r.own j x he
      exact ⟨q, h1, h2, h3.mono (fun u z => by rw [upd_ne (fun y => hj (r.inj j i p (by rw [h1, y]) hp))]; exact z) key⟩
  · by_cases hj : j = i
    · subst hj
      rw [List.getElem?_set_self hlt] at he; cases he
    · rw [List.getElem?_set_ne (fun z => hj z.symm)] at he
      obtain ⟨w, h1, h2⟩ := r.cln j x he
      exact ⟨w, h1, Dn.mono key _ h2⟩
  · by_cases hj : j = i
    · subst hj
      exact ⟨d, by rw [List.getElem?_set_self hlt]⟩
    · obtain ⟨x, he⟩ := r.pown j q hq
      exact ⟨x, by rw [List.getElem?_set_ne (fun z => hj z.symm)]; exact he⟩
  · have := r.keep a u h1 h2
    have hne : a ≠ p := fun z => by
      rcases r.new i p hp with n | n
      · exact h2 (by rw [z]; exact n)
      · rw [z, n] at h1; cases h1
    rw [upd_ne hne]; exact this
  · obtain ⟨u, h2, h3⟩ := r.p0 a h1
    have hne : a ≠ p := fun z => r.out i p hp (by rw [← z]; exact h1)
    exact ⟨u, by rw [upd_ne hne]; exact h2, h3⟩
/-- the slots of a comprehension's own names are forgotten -/
theorem wipeT_length : ∀ (τ : Tau) (vs : List Nat), (wipeT τ vs).length = τ.length
  | _, [] => rfl
  | τ, v :: vs => by show ((wipeT τ vs).set v none).length = _; rw [List.length_set, wipeT_length τ vs]
end
end Mp

/-! MiniPy, part D: operations by values. -/
namespace Mp
open PySem PySem.Spec PyProof.Rows L2

/-- a value, its items clean in G, itself read in H -/
def ElCl (K : PySem.W.Frag) (G H : Hp) (v : V) : D → Prop
  | .list ds => ∃ a vs, v = .ref a ∧ LsR K H a vs ∧ DnAll K G vs ds
  | .dict kds => ∃ a kvs, v = .ref a ∧ Rd H a (.dK kvs) ∧ DnKV K G kvs kds
  | d => Dn K G v d
/-- what an operation hands back: f where a list or dict is always new -/
inductive Res (K : PySem.W.Frag) (f : Bool) (G H : Hp) : D → V → Hp → Prop
  | same {z : D} {v : V} : (f = true → isC z = false) → Dn K G v z → Res K f G H z v H
  | lst {p : Addr} {vs : List V} {ds : List D} : H p = none → DnAll K G vs ds → Res K f G H (.list ds) (.ref p) (upd H p (.lst vs))
  | dct {p : Addr} {vs : List (Key × V)} {ds : List (D × D)} : H p = none → DnKV K G vs ds → Res K f G H (.dict ds) (.ref p) (upd H p (.dK vs))
  | tup {p : Addr} {vs : List V} {ds : List D} : H p = none → DnAll K G vs ds → Res K f G H (.tuple ds) (.ref p) (upd H p (.tup vs))
theorem same_upd {H : Hp} {p : Addr} {o : HO} (h : H p = none) : Same H (upd H p o) := fun b x e => by
  rw [upd_ne (ne_of_none e h)]; exact e
section
variable {K : PySem.W.Frag} {G G' H H' : Hp} {v : V} {d z : D}
theorem Res.same' {f : Bool} (r : Res K f G H z v H') : Same H H' := by
  cases r with
  | same _ _ => exact Same.refl _
  | lst h _ => exact same_upd h
  | dct h _ => exact same_upd h
  | tup h _ => exact same_upd h
theorem ElCl.full (e : Same G H) (h : ElCl K G H v d) : Dn K H v d := by
  cases d with
  | list ds => obtain ⟨a, vs, rfl, h1, h2⟩ := h; exact .lst h1 (DnAll.mono e _ h2)
  | dict ds => obtain ⟨a, vs, rfl, h1, h2⟩ := h; exact .dct h1 (DnKV.mono e _ h2)
  | none => exact Dn.mono e _ (show Dn K G v _ from h)
  | bool _ => exact Dn.mono e _ (show Dn K G v _ from h)
  | int _ => exact Dn.mono e _ (show Dn K G v _ from h)
  | str _ => exact Dn.mono e _ (show Dn K G v _ from h)
  | tuple _ => exact Dn.mono e _ (show Dn K G v _ from h)
theorem ElCl.mono (e : Same G G') (e' : Same H H') (h : ElCl K G H v d) : ElCl K G' H' v d := by
  cases d with
  | list ds => obtain ⟨a, vs, rfl, h1, h2⟩ := h; exact ⟨a, vs, rfl, Same.ls e' h1, DnAll.mono e _ h2⟩
  | dict ds => obtain ⟨a, vs, rfl, h1, h2⟩ := h; exact ⟨a, vs, rfl, Same.rd e' h1, DnKV.mono e _ h2⟩
  | none => exact Dn.mono e _ (show Dn K G v _ from h)
  | bool _ => exact Dn.mono e _ (show Dn K G v _ from h)
  | int _ => exact Dn.mono e _ (show Dn K G v _ from h)
  | str _ => exact Dn.mono e _ (show Dn K G v _ from h)
  | tuple _ => exact Dn.mono e _ (show Dn K G v _ from h)
theorem Dn.elcl (e : Same G H) (h : Dn K G v d) : ElCl K G H v d := by
  cases h with
  | lst h1 h2 => exact ⟨_, _, rfl, Same.ls e h1, h2⟩
  | dct h1 h2 => exact ⟨_, _, rfl, Same.rd e h1, h2⟩
  | non => exact .non
  | bl b => exact .bl b
  | int i => exact .int i
  | str x => exact .str x
  | tup h1 h2 => exact .tup h1 h2
end

section
variable {X : Cx} {pins : List (Addr × Obj)} {σ : L2.St} {H : Hp} {s : Shared}
/-- a list that is read, as an object -/
theorem lstR (I : Inv X pins σ H s) {l : Addr} {xs : List V} (h : LsR X.K H l xs) : xs.length ≤ sizeLine ∧ ∃ (its : List Value) (n : Nat), Vals xs its ∧ xs.length = its.length ∧ s.heap.get? l = some { cls := .type "list", data := .seq its.toArray n } := by
  rcases h with h | ⟨its, n, h1, h2, h3⟩
  · obtain ⟨z, its, n, r, e⟩ : ObjOk X.prog X.w H s.heap l (.lst xs) := h.ok I.hok
    exact ⟨z, its, n, r, r.length, e⟩
  · exact ⟨by rw [h3.length]; exact h2, its, n, h3, h3.length, I.kIn _ _ h1⟩
def rCatR (K : PySem.W.Frag) : R2 := fun x y H Q => ∃ l b xs zs, x = .ref l ∧ y = .ref b ∧ LsR K H l xs ∧ LsR K H b zs ∧ xs.length + zs.length ≤ sizeLine ∧ ∀ p, H p = none → Q (.ref p) (upd H p (.lst (xs ++ zs)))
theorem op_catR : OpR X (binaryOp .Add) (rCatR X.K) := by
  intro pins s σ H x y v u Q I rx ry h
  obtain ⟨l, b, xs, zs, rfl, rfl, hH, hB, hz, q⟩ := h
  cases rx
  cases ry
  obtain ⟨z, its, n, r, hl, e⟩ := lstR I hH
  obtain ⟨z2, its2, n2, r2, hl2, e2⟩ := lstR I hB
  refine PySem.P.add_list e e2 ?_ (by rw [List.size_toArray, List.size_toArray]; omega)
  have ea : its.toArray ++ its2.toArray = (its ++ its2).toArray := by simp
  rw [ea]
  exact ⟨.ref _, _, I.lnew (t' := s.toks) (r.append r2) (by rw [List.length_append]; omega), rfl, q _ I.fresh⟩
def rRepR (K : PySem.W.Frag) : R2 := fun x y H Q => ∃ l k xs, x = .ref l ∧ y = .int k ∧ LsR K H l xs ∧ -(2 ^ 63) ≤ k ∧ k < 2 ^ 63 ∧ xs.length * k.toNat ≤ sizeLine ∧
  ∀ p, H p = none → Q (.ref p) (upd H p (.lst (List.replicate k.toNat xs).flatten))
theorem op_repR : OpR X (binaryOp .Mult) (rRepR X.K) := by
  intro pins s σ H x y v u Q I rx ry h
  obtain ⟨l, k, xs, rfl, rfl, hH, h1, h2, hz, q⟩ := h
  cases rx
  obtain ⟨t, rfl⟩ := ry
  obtain ⟨z, its, n, r, hl, e⟩ := lstR I hH
  have hlen : its.toArray.size * k.toNat ≤ sizeLine := by rw [List.size_toArray, ← hl]; exact hz
  have hcap : ¬ its.toArray.size * k.toNat > (2 ^ 63 - 1) / 8 := by
    have : (sizeLine : Nat) ≤ (2 ^ 63 - 1) / 8 := by decide
    omega
  have hfit : ¬ (!Builtin.List.listFitsIndex k) = true := by
    rw [fitsIndex_both h1 h2]
    exact Bool.false_ne_true
  have hlong : ¬ Builtin.List.listTooLong (its.toArray.size * k.toNat) = true := by
    rw [notLongL hlen]
    exact Bool.false_ne_true
  have hnew : List.foldl (fun x1 x2 => x1 ++ x2) #[] (List.replicate (if its.toArray.isEmpty = true then 0 else k.toNat) its.toArray) = (List.replicate k.toNat its).flatten.toArray := by
    have f0 : ∀ m : Nat, List.foldl (fun x1 x2 => x1 ++ x2) #[] (List.replicate m its.toArray) = (List.replicate m its).flatten.toArray := fun m => by
      have := foldl_rep its m []
      rw [List.nil_append] at this
      exact this
    rw [f0]
    cases its with
    | nil => simp
    | cons a r' => rw [if_neg (by simp)]
  refine wpAny_binaryOp_repeat_ref (T := "list") (U := "int") (by decide) ⟨_, e, rfl⟩ (fun s' => typeIs_int s' k t) noFill_list_mul F.fills_int_mul F.slot_int_rmul repeat_list F.slot_int_index.lookup
    (call_meets F.slot_int_rmul (typeIs_int s k t) F.entry_int_rmul (F.args_int_rmul_2 _ _) (int___rmul___int_list k t l its.toArray n)
      ⟨e, rfl, ⟨_, e, rfl⟩, call_meets F.slot_list_mul ⟨_, e, rfl⟩ F.entry_list_mul (F.args_list_mul_2 _ _) (AutoListH.list___mul___list_int_3 l its.toArray n k t hfit hcap hlong) ⟨e, ?_⟩⟩)
  rw [hnew]
  exact ⟨.ref _, _, I.lnew (t' := s.toks) (r.rep k.toNat) (by rw [PyProof.Rows.lm_len_rep_flat, Nat.mul_comm]; exact hz), rfl, q _ I.fresh⟩
end

/-! ### binary operators -/
def rB (K : PySem.W.Frag) (op : Operator) : R2 := fun x y H Q => ∃ (G : Hp) (d e z : D), Same G H ∧ ElCl K G H x d ∧ ElCl K G H y e ∧ binD op d e = some z ∧ ∀ v H', Res K true G H z v H' → Q v H'
theorem cmul_of {i j : Int} (h : mulOk i j = true) : IntMulOk i j := by
  rcases mulOk_iff.mp h with h | h | h
  · exact CMul.ok (.inl h)
  · exact CMul.ok (.inr h)
  · exact CMulX.ok h
theorem divOk_pos {i j : Int} (h : divOk i j = true) : 0 < j := by
  exact (divOk_iff.mp h).1
variable {X : Cx}
theorem op_fdivD : OpR X (binaryOp .FloorDiv) (rI (fun i j => divOk i j = true) fun i j => .int (i / j)) := by
  intro pins s σ H x y v u Q I rx ry h
  obtain ⟨i, j, rfl, rfl, c, q⟩ := h
  have hp := divOk_pos c
  rcases (divOk_iff.mp c).2 with h | h | h
  · exact op_fdiv pins s σ H _ _ v u Q I rx ry ⟨i, j, rfl, rfl, ⟨hp, h⟩, q⟩
  · exact op_fdivW pins s σ H _ _ v u Q I rx ry ⟨i, j, rfl, rfl, ⟨hp, h⟩, q⟩
  · obtain ⟨t, rfl⟩ := rx
    obtain ⟨t', rfl⟩ := ry
    refine PyProof.Rows.floordiv_int (by omega) ⟨.int (i / j), H, I.tok _, ⟨_, by rw [Int.fdiv_eq_ediv_of_nonneg _ (by omega)]⟩, q⟩ (.inl h)
theorem op_shlD : OpR X (binaryOp .LShift) (rI (fun i j => shlOk i j = true) fun i j => .int (i * 2 ^ j.toNat)) := by
  intro pins s σ H x y v u Q I rx ry h
  obtain ⟨i, j, rfl, rfl, c, q⟩ := h
  rcases shlOk_iff.mp c with c | c
  · exact op_shl pins s σ H _ _ v u Q I rx ry ⟨i, j, rfl, rfl, c, q⟩
  · exact op_shlW pins s σ H _ _ v u Q I rx ry ⟨i, j, rfl, rfl, c, q⟩
theorem op_mulD : OpR X (binaryOp .Mult) (rI (fun i j => mulOk i j = true) fun i j => .int (i * j)) := opI fun _ _ _ _ _ _ _ hc q => mul_int q (cmul_of hc)
theorem dn_int {K : PySem.W.Frag} {G : Hp} {x : V} {i : Int} (h : Dn K G x (.int i)) : x = .int i := by cases h; rfl
theorem dn_str {K : PySem.W.Frag} {G : Hp} {x : V} {i : Str} (h : Dn K G x (.str i)) : x = .str i := by cases h; rfl
theorem dn_bool {K : PySem.W.Frag} {G : Hp} {x : V} {i : Bool} (h : Dn K G x (.bool i)) : x = .bl i := by cases h; rfl
theorem dn_none {K : PySem.W.Frag} {G : Hp} {x : V} (h : Dn K G x .none) : x = .non := by cases h; rfl
theorem dn_tup {K : PySem.W.Frag} {G : Hp} {x : V} {ds : List D} (h : Dn K G x (.tuple ds)) : ∃ a vs, x = .ref a ∧ SqT K G a vs ∧ DnAll K G vs ds := by
  cases h with | tup h1 h2 => exact ⟨_, _, rfl, h1, h2⟩
theorem op_bin (op : Operator) : OpR X (binaryOp op) (rB X.K op) := by
  intro pins s σ H x y v u Q I rx ry h
  obtain ⟨G, d, e, z, sg, hx, hy, hz, q⟩ := h
  have num : ∀ i : Int, (∀ v H', Res X.K true G H (.int i) v H' → Q v H') → Q (.int i) H := fun i q => q _ _ (.same (fun _ => rfl) (.int i))
  cases d with
  | int i =>
    obtain rfl := dn_int (show Dn X.K G x _ from hx)
    cases e with
    | int j =>
      obtain rfl := dn_int (show Dn X.K G y _ from hy)
      cases op <;> simp only [binD, Option.some.injEq, reduceCtorEq] at hz
      · subst hz; exact op_add pins s σ H _ _ v u Q I rx ry ⟨i, j, rfl, rfl, num _ q⟩
      · subst hz; exact op_sub pins s σ H _ _ v u Q I rx ry ⟨i, j, rfl, rfl, num _ q⟩
      · split at hz
        · rename_i c; cases hz; exact op_mulD pins s σ H _ _ v u Q I rx ry ⟨i, j, rfl, rfl, c, num _ q⟩
        · cases hz
      · split at hz
        · rename_i c; cases hz; exact op_mod pins s σ H _ _ v u Q I rx ry ⟨i, j, rfl, rfl, c, num _ q⟩
        · cases hz
      · split at hz
        · rename_i c; cases hz
          refine op_pow pins s σ H _ _ v u Q I rx ry ⟨i, j, rfl, rfl, ?_, num _ q⟩
          exact powOk_iff.mp c
        · cases hz
      · split at hz
        · rename_i c; cases hz; exact op_shlD pins s σ H _ _ v u Q I rx ry ⟨i, j, rfl, rfl, c, num _ q⟩
        · cases hz
      · split at hz
        · rename_i c; cases hz; exact op_shr pins s σ H _ _ v u Q I rx ry ⟨i, j, rfl, rfl, c, num _ q⟩
        · cases hz
      · subst hz; exact op_or pins s σ H _ _ v u Q I rx ry ⟨i, j, rfl, rfl, num _ q⟩
      · subst hz; exact op_xor pins s σ H _ _ v u Q I rx ry ⟨i, j, rfl, rfl, num _ q⟩
      · subst hz; exact op_and pins s σ H _ _ v u Q I rx ry ⟨i, j, rfl, rfl, num _ q⟩
      · split at hz
        · rename_i c; cases hz; exact op_fdivD pins s σ H _ _ v u Q I rx ry ⟨i, j, rfl, rfl, c, num _ q⟩
        · cases hz
    | _ => cases op <;> simp [binD] at hz
  | str a =>
    obtain rfl := dn_str (show Dn X.K G x _ from hx)
    cases e with
    | str b =>
      obtain rfl := dn_str (show Dn X.K G y _ from hy)
      cases op <;> simp only [binD, Option.some.injEq, reduceCtorEq] at hz
      split at hz
      · rename_i c; cases hz; exact op_add_str pins s σ H _ _ v u Q I rx ry ⟨a, b, rfl, rfl, c, q _ _ (.same (fun _ => rfl) (.str _))⟩
      · cases hz
    | _ => cases op <;> simp [binD] at hz
  | list ds =>
    obtain ⟨a, vs, rfl, h1, h2⟩ := hx
    cases e with
    | list es =>
      obtain ⟨b, ws, rfl, h3, h4⟩ := hy
      cases op <;> simp only [binD, Option.some.injEq, reduceCtorEq] at hz
      split at hz
      · rename_i c; cases hz
        exact op_catR pins s σ H _ _ v u Q I rx ry ⟨a, b, vs, ws, rfl, rfl, h1, h3, by rw [h2.length, h4.length]; exact c, fun p hp => q _ _ (.lst hp (h2.append h4))⟩
      · cases hz
    | int k =>
      obtain rfl := dn_int (show Dn X.K G y _ from hy)
      cases op <;> simp only [binD, Option.some.injEq, reduceCtorEq] at hz
      split at hz
      · rename_i c; cases hz
        exact op_repR pins s σ H _ _ v u Q I rx ry ⟨a, k, vs, rfl, rfl, h1, Int.le_of_lt (lmOk_iff.mp c).1.1, (lmOk_iff.mp c).1.2, by rw [h2.length]; exact (lmOk_iff.mp c).2, fun p hp => q _ _ (.lst hp (h2.rep _))⟩
      · cases hz
    | _ => cases op <;> simp [binD] at hz
  | tuple ds =>
    have hx : Dn X.K G x (.tuple ds) := hx
    obtain ⟨a, vs, rfl, h1, h2⟩ := dn_tup hx
    cases e with
    | tuple es =>
      have hy : Dn X.K G y (.tuple es) := hy
      obtain ⟨b, ws, rfl, h3, h4⟩ := dn_tup hy
      cases op <;> simp only [binD, Option.some.injEq, reduceCtorEq] at hz
      split at hz
      · rename_i c; cases hz
        refine op_catA pins s σ H _ _ v u Q I rx ry ⟨a, b, vs, ws, rfl, rfl, Same.seqT sg h1, Same.seqT sg h3, by rw [h2.length, h4.length]; exact c, fun hv => ?_, fun _ hw => ?_, fun _ _ p hp => q _ _ (.tup hp (h2.append h4))⟩
        · subst hv
          cases h2
          exact q _ _ (.same (fun _ => rfl) hy)
        · subst hw
          cases h4
          refine q _ _ (.same (fun _ => rfl) ?_)
          rw [List.append_nil]; exact hx
      · cases hz
    | _ => cases op <;> simp [binD] at hz
  | _ => cases op <;> simp [binD] at hz
end Mp

/-! MiniPy, part D2: comparisons, truth, subscripts, slices, built-ins by values. -/
namespace Mp
open PySem PySem.Spec PyProof.Rows L2
variable {X : Cx}
/-! ### comparisons -/
theorem Dn.nonref {K : PySem.W.Frag} {G : Hp} {x : V} {d : D} (h : Dn K G x d) : (x = .non ↔ d = .none) := by
  cases h <;> simp
theorem flat_dn {K : PySem.W.Frag} {G : Hp} {x : V} {d : D} (h : Dn K G x d) (f : flatD d = true) : flatV x = true := by
  cases h <;> simp_all [flatD, flatV]
theorem eqV_dn {K : PySem.W.Frag} {G G' : Hp} {x y : V} {d e : D} (h : Dn K G x d) (h' : Dn K G' y e) (f : flatD d = true) (f' : flatD e = true) : eqV x y = PyData.eqv d e := by
  cases h <;> cases h' <;> simp_all [flatD, eqV, PyData.eqv]
theorem flats_dn {K : PySem.W.Frag} {G : Hp} : ∀ {ds : List D} {vs : List V}, DnAll K G vs ds → ds.all flatD = true → vs.all flatV = true
  | [], _, h, _ => by cases h; rfl
  | d :: ds, _, h, f => by
    cases h with
    | cons h1 h2 =>
      simp only [List.all_cons, Bool.and_eq_true] at f ⊢
      exact ⟨flat_dn h1 f.1, flats_dn h2 f.2⟩
theorem inV_dn {K : PySem.W.Frag} {G G' : Hp} {x : V} {d : D} (h : Dn K G x d) (f : flatD d = true) : ∀ {ds : List D} {vs : List V}, DnAll K G' vs ds → ds.all flatD = true → inV x vs = ds.any fun e => PyData.eqv e d
  | [], _, h', _ => by cases h'; rfl
  | e :: ds, _, h', g => by
    cases h' with
    | cons h1 h2 =>
      simp only [List.all_cons, Bool.and_eq_true] at g
      have ih := inV_dn (x := x) h f h2 g.2
      unfold inV at ih ⊢
      rw [List.any_cons, List.any_cons, ih, eqV_dn h1 h g.1 f]
theorem key_dn {K : PySem.W.Frag} {G : Hp} {x : V} {d : D} (h : Dn K G x d) (f : isKey d = true) : ∃ k : Key, x = kV k ∧ ((∃ i, d = .int i ∧ k = .inl i) ∨ ∃ s, d = .str s ∧ k = .inr s) := by
  cases h with
  | int i => exact ⟨.inl i, rfl, .inl ⟨i, rfl, rfl⟩⟩
  | str s => exact ⟨.inr s, rfl, .inr ⟨s, rfl, rfl⟩⟩
  | _ => simp [isKey] at f
def keyOf : D → Key
  | .int i => .inl i
  | .str s => .inr s
  | _ => .inl 0
theorem keyEq_iff {k : D} (f : isKey k = true) {x : D} (f' : isKey x = true) : keyEq x k = decide (keyOf x = keyOf k) := by
  cases k <;> cases x <;> simp_all [isKey, keyEq, keyOf]
theorem valV_dn {K : PySem.W.Frag} {G : Hp} {k : D} (f : isKey k = true) : ∀ {kds : List (D × D)} {kvs : List (Key × V)}, DnKV K G kvs kds → match dGet k kds with
    | some d => ∃ v, valV kvs (keyOf k) = some v ∧ Dn K G v d
    | none => valV kvs (keyOf k) = none
  | [], _, h => by cases h; rfl
  | (x, d) :: kds, _, h => by
    cases h with
    | int h1 h2 =>
      rename_i i v kvs
      have ih := valV_dn f h2
      unfold dGet
      by_cases e : keyEq (.int i) k = true
      · rw [if_pos e]
        rw [keyEq_iff f rfl] at e
        exact ⟨v, valV_pos (of_decide_eq_true e), h1⟩
      · rw [if_neg e]
        rw [keyEq_iff f rfl] at e
        rw [valV_neg (show ¬ (Sum.inl i : Key) = keyOf k from fun z => e (decide_eq_true z))]
        exact ih
    | str h1 h2 =>
      rename_i i v kvs
      have ih := valV_dn f h2
      unfold dGet
      by_cases e : keyEq (.str i) k = true
      · rw [if_pos e]
        rw [keyEq_iff f rfl] at e
        exact ⟨v, valV_pos (of_decide_eq_true e), h1⟩
      · rw [if_neg e]
        rw [keyEq_iff f rfl] at e
        rw [valV_neg (show ¬ (Sum.inr i : Key) = keyOf k from fun z => e (decide_eq_true z))]
        exact ih
def rC (K : PySem.W.Frag) (op : CmpOp) : R2 := fun x y H Q => ∃ (d e : D) (z : Bool), Dn K H x d ∧ Dn K H y e ∧ cmpD op d e = some z ∧ Q (.bl z) H
theorem op_eqX (hu : X.A.units + 64 < cLine) : OpR X (compareOp .Eq) (rC X.K .Eq) := by
  intro pins s σ H x y v u Q I rx ry h
  obtain ⟨d, e, z, hx, hy, hz, q⟩ := h
  have hz : eqD d e = some z := hz
  have gen : ∀ w, SeqAt.shaped d = true → SeqAt.shaped e = true → PyData.eqv d e = w → Q (.bl w) H → wpAny (model X.prog X.w) X.A (compareOp .Eq v u) (EP X pins σ Q) X.xe s := fun w h1 h2 h3 h4 =>
    op_eqD hu pins s σ H x y v u Q I rx ry ⟨d, e, Dn.dp _ hx (SeqAt.canLay_of_shaped h1), Dn.dp _ hy (SeqAt.canLay_of_shaped h2), h1, h2, by rw [h3]; exact h4⟩
  unfold eqD at hz
  split at hz
  · cases hz; cases hx; cases hy
    refine op_eq pins s σ H _ _ v u Q I rx ry ⟨rfl, ?_⟩
    rw [dec_int, Bool.beq_eq_decide_eq]; exact q
  · cases hz; cases hx; cases hy
    refine op_eq pins s σ H _ _ v u Q I rx ry ⟨rfl, ?_⟩
    rw [dec_str, Bool.beq_eq_decide_eq]; exact q
  · cases hz; cases hx; cases hy
    refine op_eq pins s σ H _ _ v u Q I rx ry ⟨rfl, ?_⟩
    rw [dec_bl, Bool.beq_eq_decide_eq]; exact q
  · split at hz
    · rename_i c
      simp only [Bool.and_eq_true] at c
      cases hz
      exact gen _ c.1 c.2 rfl q
    · cases hz
theorem op_neX (hu : X.A.units + 64 < cLine) : OpR X (compareOp .NotEq) (rC X.K .NotEq) := by
  intro pins s σ H x y v u Q I rx ry h
  obtain ⟨d, e, z, hx, hy, hz, q⟩ := h
  have hz0 : (eqD d e).map (!·) = some z := hz
  clear hz
  obtain ⟨z', hz, rfl⟩ := Option.map_eq_some_iff.mp hz0
  clear hz0
  have gen : ∀ w, SeqAt.shaped d = true → SeqAt.shaped e = true → PyData.eqv d e = w → Q (.bl (!w)) H → wpAny (model X.prog X.w) X.A (compareOp .NotEq v u) (EP X pins σ Q) X.xe s := fun w h1 h2 h3 h4 =>
    op_neD hu pins s σ H x y v u Q I rx ry ⟨d, e, Dn.dp _ hx (SeqAt.canLay_of_shaped h1), Dn.dp _ hy (SeqAt.canLay_of_shaped h2), h1, h2, by rw [h3]; exact h4⟩
  unfold eqD at hz
  split at hz
  · cases hz; cases hx; cases hy
    refine op_ne pins s σ H _ _ v u Q I rx ry ⟨rfl, ?_⟩
    rw [dec_int, Bool.beq_eq_decide_eq]; exact q
  · cases hz; cases hx; cases hy
    refine op_ne pins s σ H _ _ v u Q I rx ry ⟨rfl, ?_⟩
    rw [dec_str, Bool.beq_eq_decide_eq]; exact q
  · cases hz; cases hx; cases hy
    refine op_ne pins s σ H _ _ v u Q I rx ry ⟨rfl, ?_⟩
    rw [dec_bl, Bool.beq_eq_decide_eq]; exact q
  · split at hz
    · rename_i c
      simp only [Bool.and_eq_true] at c
      cases hz
      exact gen _ c.1 c.2 rfl q
    · cases hz
theorem op_inX (hu : X.A.units + 1 < cLine) (neg : Bool) {op : CmpOp} (hop : op = if neg then .NotIn else .In) : OpR X (compareOp op) (fun x y H Q => ∃ (d e : D) (z : Bool), Dn X.K H x d ∧ Dn X.K H y e ∧ inD d e = some z ∧ Q (.bl (if neg then !z else z)) H) := by
  intro pins s σ H x y v u Q I rx ry h
  obtain ⟨d, e, z, hx, hy, hz, q⟩ := h
  cases e with
  | list ds =>
    simp only [inD] at hz
    split at hz
    · rename_i c
      simp only [Bool.and_eq_true] at c
      cases hz
      cases hy with
      | lst h1 h2 =>
        have e1 := inV_dn hx c.1 h2 c.2
        have hr : (rIn X.K neg) x (.ref _) H Q := ⟨_, _, rfl, .inl h1.sq, flat_dn hx c.1, flats_dn h2 c.2, by rw [e1]; exact q⟩
        cases neg with
        | true => subst hop; exact op_notIn_seq pins s σ H _ _ v u Q I rx ry hr
        | false => subst hop; exact op_in_seq pins s σ H _ _ v u Q I rx ry hr
    · cases hz
  | tuple ds =>
    simp only [inD] at hz
    split at hz
    · rename_i c
      simp only [Bool.and_eq_true] at c
      cases hz
      cases hy with
      | tup h1 h2 =>
        have e1 := inV_dn hx c.1 h2 c.2
        have hr : (rIn X.K neg) x (.ref _) H Q := ⟨_, _, rfl, .inr h1, flat_dn hx c.1, flats_dn h2 c.2, by rw [e1]; exact q⟩
        cases neg with
        | true => subst hop; exact op_notIn_seq pins s σ H _ _ v u Q I rx ry hr
        | false => subst hop; exact op_in_seq pins s σ H _ _ v u Q I rx ry hr
    · cases hz
  | dict kds =>
    simp only [inD] at hz
    split at hz
    · rename_i c
      cases hz
      cases hy with
      | @dct a kvs _ h1 h2 =>
        cases (show u = Value.ref _ from ry)
        obtain ⟨k, ek, hk⟩ := key_dn hx c
        have ek' : k = keyOf d := by rcases hk with ⟨i, rfl, rfl⟩ | ⟨i, rfl, rfl⟩ <;> rfl
        subst ek ek'
        have hv := valV_dn c h2
        have hs : (valV kvs (keyOf d)).isSome = (dGet d kds).isSome := by
          cases e2 : dGet d kds with
          | none => rw [e2] at hv; rw [hv]; rfl
          | some w => rw [e2] at hv; obtain ⟨v', h3, _⟩ := hv; rw [h3]; rfl
        have g : DGet H a (kV (keyOf d)) (valV kvs (keyOf d)) := .inl ⟨_, _, h1, rfl, rfl⟩
        cases neg with
        | true => subst hop; exact d_notIn hu I g rx fun s' I' => ⟨.bl _, H, I', rfl, by rw [hs]; exact q⟩
        | false => subst hop; exact d_in hu I g rx fun s' I' => ⟨.bl _, H, I', rfl, by rw [hs]; exact q⟩
    · cases hz
  | str b =>
    cases d with
    | str a =>
      simp only [inD] at hz
      cases hz; cases hx; cases hy
      cases neg with
      | true => subst hop; exact op_notin_str pins s σ H _ _ v u Q I rx ry ⟨a, b, rfl, rfl, q⟩
      | false => subst hop; exact op_in_str pins s σ H _ _ v u Q I rx ry ⟨a, b, rfl, rfl, q⟩
    | _ => simp [inD] at hz
  | _ => simp [inD] at hz
theorem op_cmp (hu : X.A.units + 64 < cLine) (op : CmpOp) : OpR X (compareOp op) (rC X.K op) := by
  cases op with
  | Eq => exact op_eqX hu
  | NotEq => exact op_neX hu
  | Lt =>
    intro pins s σ H x y v u Q I rx ry h
    obtain ⟨d, e, z, hx, hy, hz, q⟩ := h
    simp only [cmpD] at hz
    split at hz
    · cases hz; cases hx; cases hy
      exact op_lt pins s σ H _ _ v u Q I rx ry ⟨_, _, rfl, rfl, q⟩
    · cases hz; cases hx; cases hy
      exact op_lt_str pins s σ H _ _ v u Q I rx ry ⟨_, _, rfl, rfl, q⟩
    · cases hz
  | LtE =>
    intro pins s σ H x y v u Q I rx ry h
    obtain ⟨d, e, z, hx, hy, hz, q⟩ := h
    simp only [cmpD] at hz
    split at hz
    · cases hz; cases hx; cases hy
      exact op_le pins s σ H _ _ v u Q I rx ry ⟨_, _, rfl, rfl, q⟩
    · cases hz
  | Gt =>
    intro pins s σ H x y v u Q I rx ry h
    obtain ⟨d, e, z, hx, hy, hz, q⟩ := h
    simp only [cmpD] at hz
    split at hz
    · cases hz; cases hx; cases hy
      exact op_gt pins s σ H _ _ v u Q I rx ry ⟨_, _, rfl, rfl, q⟩
    · cases hz
  | GtE =>
    intro pins s σ H x y v u Q I rx ry h
    obtain ⟨d, e, z, hx, hy, hz, q⟩ := h
    simp only [cmpD] at hz
    split at hz
    · cases hz; cases hx; cases hy
      exact op_ge pins s σ H _ _ v u Q I rx ry ⟨_, _, rfl, rfl, q⟩
    · cases hz
  | Is =>
    intro pins s σ H x y v u Q I rx ry h
    obtain ⟨d, e, z, hx, hy, hz, q⟩ := h
    simp only [cmpD] at hz
    split at hz
    · rename_i c
      cases hz
      have ey : y = .non := by cases hy <;> simp_all [isNone]
      subst ey
      refine op_isN pins s σ H _ _ v u Q I rx ry ⟨rfl, ?_⟩
      have e1 : decide (x = V.non) = isNone d := by cases hx <;> simp [isNone]
      rw [e1]; exact q
    · cases hz
  | IsNot =>
    intro pins s σ H x y v u Q I rx ry h
    obtain ⟨d, e, z, hx, hy, hz, q⟩ := h
    simp only [cmpD] at hz
    split at hz
    · rename_i c
      cases hz
      have ey : y = .non := by cases hy <;> simp_all [isNone]
      subst ey
      refine op_notN pins s σ H _ _ v u Q I rx ry ⟨rfl, ?_⟩
      have e1 : decide (x = V.non) = isNone d := by cases hx <;> simp [isNone]
      rw [e1]; exact q
    · cases hz
  | In =>
    intro pins s σ H x y v u Q I rx ry h
    obtain ⟨d, e, z, hx, hy, hz, q⟩ := h
    exact op_inX (by omega) false rfl pins s σ H x y v u Q I rx ry ⟨d, e, z, hx, hy, hz, q⟩
  | NotIn =>
    intro pins s σ H x y v u Q I rx ry h
    obtain ⟨d, e, z, hx, hy, hz, q⟩ := h
    have hz0 : (inD d e).map (!·) = some z := hz
    clear hz
    obtain ⟨z', hz, rfl⟩ := Option.map_eq_some_iff.mp hz0
    clear hz0
    exact op_inX (by omega) true rfl pins s σ H x y v u Q I rx ry ⟨d, e, z', hx, hy, hz, q⟩
/-! ### truth -/
theorem truV_of {K : PySem.W.Frag} {H : Hp} {x : V} {d : D} {z : Bool} (h : Dn K H x d) (e : truD d = some z) (hd : ∀ kds, d ≠ .dict kds) : TruV K x H z := by
  cases h with
  | non => simp only [truD, Option.some.injEq] at e; exact e.symm
  | bl b => simp only [truD, Option.some.injEq] at e; exact e.symm
  | int i => simp only [truD, Option.some.injEq] at e; exact e.symm
  | str x =>
    simp only [truD] at e
    split at e
    · rename_i c; exact ⟨c, (Option.some.inj e).symm⟩
    · cases e
  | lst h1 h2 =>
    simp only [truD, Option.some.injEq] at e
    refine .inl ⟨_, h1.sq, ?_⟩
    rw [← e]; cases h2 <;> rfl
  | tup h1 h2 =>
    simp only [truD, Option.some.injEq] at e
    refine .inr (.inl ⟨_, h1, ?_⟩)
    rw [← e]; cases h2 <;> rfl
  | dct h1 h2 => exact absurd rfl (hd _)
theorem tru_okD : TruR X (fun x H Q => ∃ d z, Dn X.K H x d ∧ truD d = some z ∧ Q z H) := by
  intro pins s σ H x v Q I rx h
  obtain ⟨d, z, hx, hz, q⟩ := h
  by_cases hd : ∃ kds, d = .dict kds
  · obtain ⟨kds, rfl⟩ := hd
    cases hx with
    | @dct a kvs _ h1 h2 =>
      cases (show v = Value.ref _ from rx)
      simp only [truD, Option.some.injEq] at hz
      refine d_truth I h1 fun s' I' => ⟨H, I', ?_⟩
      have e : (!List.isEmpty kvs) = z := by rw [← hz]; cases h2 <;> rfl
      rw [e]; exact q
  · exact tru_ok pins s σ H x v Q I rx ⟨z, truV_of hx hz fun kds e => hd ⟨kds, e⟩, q⟩
theorem pt_truthD {a : Expr} {ta : TE} (ha : PE X a ta) (he : ∀ whole, isTrue a X.env whole = (do let v ← whole; standAt a.pos; holding [v] (truthy v))) :
    PT X a (fun σ H Q => ta σ H fun x H' => ∃ d z, Dn X.K H' x d ∧ truD d = some z ∧ Q z H') := by
  refine ⟨fun pins s σ H Q I h => ?_⟩
  exact isTrue_plain (thn (ha.run pins s σ H _ I h) fun v s1 ⟨x, H1, I1, r1, q1⟩ => tru_okD pins s1 σ H1 x v Q I1 r1 q1) (he _)
/-! ### subscripts -/
theorem atI_dn {K : PySem.W.Frag} {G : Hp} {vs : List V} {ds : List D} (h : DnAll K G vs ds) {i : Int} {d : D} (e : atI ds i = some d) : ∃ v, atI vs i = some v ∧ Dn K G v d := by
  unfold atI at e ⊢
  rw [h.length]
  cases hn : ixN ds.length i with
  | none => rw [hn] at e; cases e
  | some j =>
    rw [hn] at e
    obtain ⟨v, h1, h2⟩ := h.get (i := j) e
    exact ⟨v, h1, h2⟩
/-- an item, by values -/
def rIxD (K : PySem.W.Frag) : R2 := fun x y H Q => ∃ (G : Hp) (d e z : D), Same G H ∧ ElCl K G H x d ∧ Dn K H y e ∧ subD d e = some z ∧ ∀ v, Dn K G v z → Q v H
theorem ix_D (hu : X.A.units + 1 < cLine) : IxR X (rIxD X.K) := by
  intro value slice pins s σ H x y v u Q I rx ry h hs
  obtain ⟨G, d, e, z, sg, hx, hy, hz, q⟩ := h
  cases d with
  | list ds =>
    obtain ⟨a, vs, rfl, h1, h2⟩ := hx
    cases e with
    | int i =>
      cases hy
      obtain ⟨w, h3, h4⟩ := atI_dn h2 (show atI ds i = some z from hz)
      exact ix_seq value slice pins s σ H _ _ v u Q I rx ry (.inl ⟨a, vs, i, w, rfl, rfl, h1.sq, h3, q w h4⟩) hs
    | _ => simp [subD] at hz
  | tuple ds =>
    obtain ⟨a, vs, rfl, h1, h2⟩ := dn_tup (show Dn X.K G x (.tuple ds) from hx)
    cases e with
    | int i =>
      cases hy
      obtain ⟨w, h3, h4⟩ := atI_dn h2 (show atI ds i = some z from hz)
      exact ix_seq value slice pins s σ H _ _ v u Q I rx ry (.inr (.inl ⟨a, vs, i, w, rfl, rfl, Same.seqT sg h1, h3, q w h4⟩)) hs
    | _ => simp [subD] at hz
  | str t =>
    obtain rfl := dn_str (show Dn X.K G x _ from hx)
    cases e with
    | int i =>
      cases hy
      simp only [subD] at hz
      split at hz
      · rename_i c
        obtain ⟨w, h3, h4⟩ := Option.map_eq_some_iff.mp hz
        subst h4
        exact ix_seq value slice pins s σ H _ _ v u Q I rx ry (.inr (.inr ⟨t, i, w, rfl, rfl, c, h3, q _ (.str _)⟩)) hs
      · cases hz
    | _ => simp [subD] at hz
  | dict kds =>
    obtain ⟨a, kvs, rfl, h1, h2⟩ := hx
    simp only [subD] at hz
    split at hz
    · rename_i c
      cases (show v = Value.ref _ from rx)
      obtain ⟨k, ek, hk⟩ := key_dn hy c
      have ek' : k = keyOf e := by rcases hk with ⟨i, rfl, rfl⟩ | ⟨i, rfl, rfl⟩ <;> rfl
      subst ek ek'
      have hv := valV_dn c h2
      rw [hz] at hv
      obtain ⟨w, h3, h4⟩ := hv
      have g : DGet H a (kV (keyOf e)) (some w) := .inl ⟨_, _, h1, rfl, h3.symm⟩
      exact tail_any (dict_typeIs I g) PySem.F.slot_dict_getitem.lookup (d_getItem hu I g ry fun w' s' I' r' => ⟨w, H, I', r', q w h4⟩) hs
    · cases hz
  | _ => simp [subD] at hz
/-! ### slices -/
theorem DnAll.cut {K : PySem.W.Frag} {G : Hp} {vs : List V} {ds : List D} (h : DnAll K G vs ds) (lo hi : Option Int) : DnAll K G (cutV vs lo hi) (cutD ds lo hi) := by
  unfold cutV cutD
  rw [h.length]
  exact (h.drop _).take _
def rSlD (K : PySem.W.Frag) : V → Option Int → Option Int → Hp → VK → Prop := fun x lo hi H Q => ∃ (G : Hp) (d z : D), Same G H ∧ ElCl K G H x d ∧ sliD d lo hi = some z ∧ ∀ v H', Res K true G H z v H' → Q v H'
theorem sl_D : SlR X (rSlD X.K) := by
  intro pins s σ H x v vl vu lo hi sl Q I rx hs pl pu h
  obtain ⟨G, d, z, sg, hx, hz, q⟩ := h
  cases d with
  | list ds =>
    obtain ⟨a, vs, rfl, h1, h2⟩ := hx
    cases hz
    exact sl_list pins s σ H _ v vl vu lo hi sl Q I rx hs pl pu ⟨a, vs, rfl, h1.sq, fun p hp => q _ _ (.lst hp (h2.cut lo hi))⟩
  | tuple ds =>
    have hx : Dn X.K G x (.tuple ds) := hx
    obtain ⟨a, vs, rfl, h1, h2⟩ := dn_tup hx
    cases hz
    refine sl_tupA pins s σ H _ v vl vu lo hi sl Q I rx hs pl pu ⟨a, vs, rfl, Same.seqT sg h1, fun c => ?_, fun c p hp => q _ _ (.tup hp (h2.cut lo hi))⟩
    refine q _ _ (.same (fun _ => rfl) ?_)
    have e : cutD ds lo hi = ds := by
      unfold cutD
      rw [← h2.length, c.1, c.2]
      simp [h2.length]
    rw [e]; exact hx
  | str t =>
    obtain rfl := dn_str (show Dn X.K G x _ from hx)
    simp only [sliD] at hz
    split at hz
    · rename_i c
      cases hz
      exact sl_str pins s σ H _ v vl vu lo hi sl Q I rx hs pl pu ⟨t, rfl, c, q _ _ (.same (fun _ => rfl) (.str _))⟩
    · cases hz
  | _ => simp [sliD] at hz
end Mp

/-! MiniPy, part D3: reversed slices, built-ins, isinstance by values. -/
namespace HT
open PySem PySem.W PySem.Calls PyProof.Rows
section
variable {prog : Program} {w : World} {A : Around} {E : Value → Shared → Prop} {s : Shared}
theorem sliceApplied_rev {sl : Addr} {vl vu vs : Value} {n : Nat} {Q : Int × Int × Nat → Shared → Prop} (hs : s.heap.IsSliceOf sl vl vu vs) (pl : IsPart vl none) (pu : IsPart vu none) (pst : IsPart vs (some (-1)))
    (h : Q ((n : Int) - 1, -1, n) s) : wpAny (model prog w) A (Builtin.Slice.sliceApplied (.ref sl) (pure (n : Int))) Q E s := by
  obtain ⟨os, hos, hcs, hds⟩ := id hs
  unfold Builtin.Slice.sliceApplied Builtin.Slice.sliceFields
  refine wpAny_bind (wpAny_bind (wpAny_field hos hds (x := vl) rfl (wpAny_bind (wpAny_field hos hds (x := vu) rfl (wpAny_bind (wpAny_field hos hds (x := vs) rfl (wpAny_pure ?_)))))))
  refine wpAny_bind (slicePart_ pst ?_)
  show wpAny _ _ (if ((-1 : Int) == 0) = true then _ else _) _ _ s
  rw [if_neg (by decide)]
  refine wpAny_bind (slicePart_ pl (wpAny_bind (slicePart_ pu (wpAny_bind (wpAny_pure ?_)))))
  show wpAny _ _ (match Builtin.Slice.sliceAdjust none none (-1) (n : Int) with | (lo, hi) => pure (lo, (-1 : Int), Builtin.Slice.slicePlaces lo hi (-1))) _ _ s
  have e1 : Builtin.Slice.sliceAdjust none none (-1) (n : Int) = ((n : Int) - 1, -1) := by first | rfl | simp [Builtin.Slice.sliceAdjust]
  rw [e1]
  show wpAny _ _ (pure ((n : Int) - 1, (-1 : Int), Builtin.Slice.slicePlaces ((n : Int) - 1) (-1) (-1))) _ _ s
  have e2 : Builtin.Slice.slicePlaces ((n : Int) - 1) (-1) (-1) = n := by
    unfold Builtin.Slice.slicePlaces
    simp only [show ¬ ((-1 : Int) > 0) by omega, if_false, show (- -1 : Int) = 1 by decide, Int.ediv_one]
    split <;> omega
  rw [e2]
  exact wpAny_pure h
theorem pick_rev (xs : Array Value) : ((List.range xs.size).filterMap fun (m : Nat) => xs[((xs.size : Int) - 1 + (m : Int) * -1).toNat]?).toArray = xs.toList.reverse.toArray := by
  have h1 := PySem.W.krv_range xs.size
  have h2 := PySem.W.krv_all xs
  have e : (List.range xs.size).filterMap (fun (m : Nat) => xs[((xs.size : Int) - 1 + (m : Int) * -1).toNat]?) = ((List.range xs.size).map fun k => xs.size - 1 - k).filterMap (xs[·]?) := by
    rw [List.filterMap_map]
    have key : ∀ l : List Nat, (∀ m ∈ l, m < xs.size) → l.filterMap (fun (m : Nat) => xs[((xs.size : Int) - 1 + (m : Int) * -1).toNat]?) = l.filterMap ((xs[·]?) ∘ fun k => xs.size - 1 - k) := by
      intro l
      induction l with
      | nil => intro _; rfl
      | cons m l ih =>
        intro h
        have hm := h m (by simp)
        have e : ((xs.size : Int) - 1 + (m : Int) * -1).toNat = xs.size - 1 - m := by omega
        rw [List.filterMap_cons, List.filterMap_cons, ih fun k hk => h k (List.mem_cons_of_mem _ hk), e]
        rfl
    exact key _ fun m hm => List.mem_range.mp hm
  rw [e, h1, List.filterMap_reverse, h2]
theorem getItem_tuple_rev {t sl : Addr} {items : Array Value} {vl vu vs : Value} {Q : Value → Shared → Prop} (ht : IsTup s.heap t items) (hs : s.heap.IsSliceOf sl vl vu vs) (pl : IsPart vl none) (pu : IsPart vu none) (pst : IsPart vs (some (-1)))
    (h : Q (.ref s.heap.objs.size) { s with heap := s.heap.push { cls := .type "tuple", data := .seq items.toList.reverse.toArray } })
    (hsz : items.size ≤ sizeLine) : wpAny (model prog w) A (getItem (.ref t) (.ref sl)) Q E s := by
  have htake : sizeOk (.seq items.toList.reverse.toArray) := by
    show items.toList.reverse.toArray.size ≤ sizeLine
    rw [List.size_toArray, List.length_reverse, Array.length_toList]
    exact hsz
  obtain ⟨os, hos, hcs, hds⟩ := id hs
  have hTs : s.TypeIs (.ref sl) "slice" := ⟨os, hos, hcs⟩
  unfold getItem
  try with_reducible refine wpAny_holding ?_
  first | refine wpAny_bind (wpAny_pure ?_) | skip
  refine wpAny_bind (wpAny_sequenceKey ht.typeIs (by decide) ?_)
  refine wpAny_bind (wpAny_callSpecial?_slot (name := Str.ofString "__getitem__") ht.typeIs PyProof.Rows.slot_tuple_getitem
    (wpAny_call_entry PyProof.Rows.slot_tuple_getitem ht.typeIs entry_tuple_getitem ?_ (args_tuple_getitem _ _)))
  show wpAny _ _ (Builtin.Tuple.tupleItemsOf (.ref t) >>= _) _ _ s
  refine wpAny_bind (tupleItemsOf_ ht ?_)
  refine wpAny_bind (wpAny_typeOf hTs ?_)
  rw [if_pos (by decide)]
  refine wpAny_bind (sliceApplied_rev hs pl pu pst ?_)
  have hno : ¬ (((items.size : Int) - 1 == 0 && (-1 : Int) == 1 && items.size == items.size) = true) := by
    intro q
    rw [Bool.and_eq_true, Bool.and_eq_true] at q
    have q1 : (-1 : Int) = 1 := eq_of_beq q.1.2
    omega
  show wpAny _ _ (if ((items.size : Int) - 1 == 0 && (-1 : Int) == 1 && items.size == items.size) = true then _ else _) _ _ s
  rw [if_neg hno, pick_rev]
  first
    | exact wpAny_bind (m := Builtin.Tuple.tupleExact _) (wpAny_newObj_type (wpAny_pure ⟨_, rfl, wpAny_pure h⟩) htake)
    | exact wpAny_bind (m := Builtin.Tuple.tupleExact _) (wpAny_newObj_type (wpAny_bind (wpAny_pure (wpAny_pure ⟨_, rfl, wpAny_pure h⟩))) htake)
    | exact wpAny_bind (wpAny_bind (m := Builtin.Tuple.tupleExact _) (wpAny_newObj_type (wpAny_pure (wpAny_pure ⟨_, rfl, wpAny_pure h⟩)) htake))
    | exact wpAny_bind (wpAny_bind (m := Builtin.Tuple.tupleExact _) (wpAny_newObj_type (wpAny_pure ⟨_, rfl, wpAny_pure h⟩) htake))
end
end HT
namespace Mp
open PySem PySem.Spec PyProof.Rows L2
variable {X : Cx}
def tRevA (K : PySem.W.Frag) (te : TE) : TE := fun σ H Q => te σ H fun x H1 => ∃ a xs, x = .ref a ∧
  ((SqL K H1 a xs ∧ ∀ p, H1 p = none → Q (.ref p) (upd H1 p (.lst xs.reverse))) ∨ (SqT K H1 a xs ∧ ∀ p, H1 p = none → Q (.ref p) (upd H1 p (.tup xs.reverse))))
theorem pe_revA {e : Expr} {te : TE} {k : Nat} {p1 p2 p3 pos : Pos} (he : PE X e te) : PE X (.Subscript e (.Slice none none (some (.UnaryOp .USub (.Constant (.int 1) k p1) p2)) p3) pos) (tRevA X.K te) := by
  refine ⟨fun pins s σ H Q I h => ?_⟩
  refine Subscript_ (thn (he.run pins s σ H _ I h) fun v s1 ⟨x, H1, I1, r1, q1⟩ => ?_)
  obtain ⟨a, xs, ex, q⟩ := q1
  subst ex
  cases r1
  have hst : PO X (some (.UnaryOp .USub (.Constant (.int 1) k p1) p2)) (tPart (tUn (rU fun i => .int (-i)) (tC (.int 1)))) := po_some (pe_un un_neg pe_int)
  refine wpAny_Slice (thn (po_none.run pins s1 σ H1 (fun o H2 => o = none ∧ H2 = H1) I1 ⟨rfl, rfl⟩) fun vl s2 ⟨l, H2, I2, pl, el, e2⟩ => ?_)
  subst el e2
  refine thn (po_none.run pins s2 σ H2 (fun o H3 => o = none ∧ H3 = H2) I2 ⟨rfl, rfl⟩) fun vu s3 ⟨u, H3, I3, pu, eu, e3⟩ => ?_
  subst eu e3
  refine thn (hst.run pins s3 σ H3 (fun o H4 => o = some (-1) ∧ H4 = H3) I3 ⟨1, rfl, -1, rfl, rfl, rfl⟩) fun vs s4 ⟨o, H4, I4, ps, eo, e4⟩ => ?_
  subst eo e4
  have I5 : Inv X pins σ H4 { s4 with heap := s4.heap.push { cls := .type "slice", data := .fields #[vl, vu, vs] } } := I4.kept (t' := s4.toks) fun b ob q => Heap.get?_push_of_some _ q
  show wpAny (model X.prog X.w) X.A (subscriptTail e (.Slice none none (some (.UnaryOp .USub (.Constant (.int 1) k p1) p2)) p3) (.ref a) (.ref s4.heap.objs.size)) (EP X pins σ Q) X.xe { s4 with heap := s4.heap.push { cls := .type "slice", data := .fields #[vl, vu, vs] } }
  rcases q with ⟨hx, q⟩ | ⟨hx, q⟩
  · obtain ⟨its, r, ht, hz⟩ := I5.list hx
    have hlen := r.length
    refine tail_any (ops := [.ref a, .ref s4.heap.objs.size]) ht.isList.typeIs (PySem.slot_list_getitem.lookup) ?_ (by with_unfolding_all rfl)
    refine wpAny_getItem_list_slice ht.isList (Heap.IsSliceOf.new _ vl vu vs) pl pu ps (by decide) ?_ (by rw [List.size_toArray]; omega)
    rw [PySem.W.krv_pick]
    refine ⟨.ref _, _, I5.laid (t' := s4.toks) (o := .lst xs.reverse) (fun b ob q => Heap.get?_push_of_some _ q) (Nat.le_refl _) ?_, rfl, q _ (I5.hok.fresh (Nat.le_refl _))⟩
    exact ⟨by rw [List.length_reverse]; exact hz, _, 0, r.reverse, Heap.get?_push_size _ rfl⟩
  · obtain ⟨its, r, ht, hz⟩ := I5.tuple hx
    have hlen := r.length
    refine tail_any (ops := [.ref a, .ref s4.heap.objs.size]) ht.typeIs (PyProof.Rows.slot_tuple_getitem.lookup) ?_ (by with_unfolding_all rfl)
    refine HT.getItem_tuple_rev ht (Heap.IsSliceOf.new _ vl vu vs) pl pu ps ?_ (by rw [List.size_toArray]; omega)
    refine ⟨.ref _, _, I5.laid (t' := s4.toks) (o := .tup xs.reverse) (fun b ob q => Heap.get?_push_of_some _ q) (Nat.le_refl _) ?_, rfl, q _ (I5.hok.fresh (Nat.le_refl _))⟩
    exact ⟨by rw [List.length_reverse]; exact hz, _, r.reverse, ⟨_, Heap.get?_push_size _ rfl, rfl, 0, rfl⟩⟩
/-! ### built-ins -/
/-- a call of a built-in, by data: f where a list is always new -/
def rBi (K : PySem.W.Frag) (f : Bi) : List V → Hp → VK → Prop := fun vs H Q => ∃ (G : Hp) (ds : List D) (z : D), Same G H ∧ vs.length = ds.length ∧ (∀ (i : Nat) (v : V) (d : D), vs[i]? = some v → ds[i]? = some d → ElCl K G H v d) ∧ biD f ds = some z ∧ ∀ v H', Res K (f == .list) G H z v H' → Q v H'
theorem one_of {K : PySem.W.Frag} {G H : Hp} {vs : List V} {d : D} (hl : vs.length = [d].length) (h : ∀ (i : Nat) (v : V) (e : D), vs[i]? = some v → [d][i]? = some e → ElCl K G H v e) : ∃ v, vs = [v] ∧ ElCl K G H v d := by
  match vs, hl with
  | [v], _ => exact ⟨v, rfl, h 0 v d rfl rfl⟩
theorem two_of {K : PySem.W.Frag} {G H : Hp} {vs : List V} {d d' : D} (hl : vs.length = [d, d'].length) (h : ∀ (i : Nat) (v : V) (e : D), vs[i]? = some v → [d, d'][i]? = some e → ElCl K G H v e) : ∃ v v', vs = [v, v'] ∧ ElCl K G H v d ∧ ElCl K G H v' d' := by
  match vs, hl with
  | [v, v'], _ => exact ⟨v, v', rfl, h 0 v d rfl rfl, h 1 v' d' rfl rfl⟩
theorem intsOf_eq : ∀ {ds : List D} {is : List Int}, intsOf ds = some is → ds = is.map PyData.int
  | [], _, h => by cases h; rfl
  | d :: ds, is, h => by
    cases d with
    | int i =>
      obtain ⟨js, h1, h2⟩ := Option.map_eq_some_iff.mp (show (intsOf ds).map (i :: ·) = some is from h)
      subst h2
      rw [intsOf_eq h1]; rfl
    | _ => simp [intsOf] at h
theorem boolsOf_eq : ∀ {ds : List D} {is : List Bool}, boolsOf ds = some is → ds = is.map PyData.bool
  | [], _, h => by cases h; rfl
  | d :: ds, is, h => by
    cases d with
    | bool i =>
      obtain ⟨js, h1, h2⟩ := Option.map_eq_some_iff.mp (show (boolsOf ds).map (i :: ·) = some is from h)
      subst h2
      rw [boolsOf_eq h1]; rfl
    | _ => simp [boolsOf] at h
theorem DnAll.bls {K : PySem.W.Frag} {H : Hp} {vs : List V} : ∀ {ns : List Bool}, DnAll K H vs (ns.map PyData.bool) → vs = ns.map V.bl := by
  induction vs with
  | nil => intro ns h; cases ns with | nil => rfl | cons _ _ => cases h
  | cons v vs ih =>
    intro ns h
    cases ns with
    | nil => cases h
    | cons n ns => cases h with | cons h1 h2 => cases h1; rw [ih h2]; rfl
theorem DnKV.length {K : PySem.W.Frag} {H : Hp} : ∀ {kvs : List (Key × V)} {kds : List (D × D)}, DnKV K H kvs kds → kvs.length = kds.length
  | _, _, .nil => rfl
  | _, _, .int _ h => by simp [DnKV.length h]
  | _, _, .str _ h => by simp [DnKV.length h]
theorem foldl_max_mem : ∀ (is : List Int) (i m : Int), m ∈ i :: is → (∀ y, y ∈ i :: is → y ≤ m) → is.foldl max i = m
  | [], i, m, hm, _ => (List.mem_singleton.mp hm).symm
  | j :: js, i, m, hm, h => by
    show js.foldl max (max i j) = m
    refine foldl_max_mem js (max i j) m ?_ fun y hy => ?_
    · have hi := h i (by simp)
      have hj := h j (by simp)
      rcases List.mem_cons.mp hm with rfl | hm
      · simp [Int.max_eq_left hj]
      · rcases List.mem_cons.mp hm with rfl | hm
        · simp [Int.max_eq_right hi]
        · exact List.mem_cons_of_mem _ hm
    · rcases List.mem_cons.mp hy with rfl | hy
      · exact Int.max_le.mpr ⟨h i (by simp), h j (by simp)⟩
      · exact h y (by simp [hy])
theorem foldl_min_mem : ∀ (is : List Int) (i m : Int), m ∈ i :: is → (∀ y, y ∈ i :: is → m ≤ y) → is.foldl min i = m
  | [], i, m, hm, _ => (List.mem_singleton.mp hm).symm
  | j :: js, i, m, hm, h => by
    show js.foldl min (min i j) = m
    refine foldl_min_mem js (min i j) m ?_ fun y hy => ?_
    · have hi := h i (by simp)
      have hj := h j (by simp)
      rcases List.mem_cons.mp hm with rfl | hm
      · simp [Int.min_eq_left hj]
      · rcases List.mem_cons.mp hm with rfl | hm
        · simp [Int.min_eq_right hi]
        · exact List.mem_cons_of_mem _ hm
    · rcases List.mem_cons.mp hy with rfl | hy
      · exact Int.le_min.mpr ⟨h i (by simp), h j (by simp)⟩
      · exact h y (by simp [hy])
def Bi.val : Bi → Value
  | .len => .builtin "len"
  | .int => .type "int"
  | .abs => .builtin "abs"
  | .max => .builtin "max"
  | .min => .builtin "min"
  | .tuple => .type "tuple"
  | .list => .type "list"
  | .sum => .builtin "sum"
  | .any => .builtin "any"
  | .all => .builtin "all"
  | .str => .type "str"
  | .bool => .type "bool"
  | .sorted => .builtin "sorted"
  | .bitlen => .none
theorem scal_res {K : PySem.W.Frag} {G H : Hp} {f : Bool} {Q : VK} {z : D} {v : V} (q : ∀ v H', Res K f G H z v H' → Q v H') (hc : isC z = false) (h : Dn K G v z) : Q v H := q v H (.same (fun _ => hc) h)
theorem call_bi (hc : X.calm = true) {f : Bi} (hf : f ≠ .bitlen) : CallR X f.val (rBi X.K f) := by
  intro pins s σ H xs us Q I r h
  obtain ⟨G, ds, z, sg, hl, hv, hz, q⟩ := h
  unfold biD at hz
  split at hz
  · split at hz
    · rename_i c; cases hz
      obtain ⟨v, rfl, e⟩ := one_of hl hv
      obtain rfl := dn_str (show Dn X.K G v _ from e)
      exact call_len pins s σ H _ us Q I r ⟨_, _, rfl, ⟨c, rfl⟩, scal_res q rfl (.int _)⟩
    · cases hz
  · cases hz
    obtain ⟨v, rfl, a, vs, rfl, h1, h2⟩ := one_of hl hv
    exact call_len pins s σ H _ us Q I r ⟨_, _, rfl, .inl ⟨vs, h1.sq, h2.length.symm⟩, scal_res q rfl (.int _)⟩
  · cases hz
    obtain ⟨v, rfl, e⟩ := one_of hl hv
    obtain ⟨a, vs, rfl, h1, h2⟩ := dn_tup (show Dn X.K G v _ from e)
    exact call_len pins s σ H _ us Q I r ⟨_, _, rfl, .inr ⟨vs, Same.seqT sg h1, h2.length.symm⟩, scal_res q rfl (.int _)⟩
  · cases hz
    obtain ⟨v, rfl, a, vs, rfl, h1, h2⟩ := one_of hl hv
    obtain ⟨u, rfl, ru⟩ := vals1 r
    cases ru
    refine d_len I h1 fun t s' I' => ⟨.int vs.length, H, I', ⟨t, rfl⟩, ?_⟩
    rw [h2.length]
    exact scal_res q rfl (.int _)
  · cases hz
    obtain ⟨v, rfl, e⟩ := one_of hl hv
    obtain rfl := dn_int (show Dn X.K G v _ from e)
    exact call_int1 pins s σ H _ us Q I r (.inl ⟨_, rfl, scal_res q rfl (.int _)⟩)
  · cases hz
    obtain ⟨v, rfl, e⟩ := one_of hl hv
    obtain rfl := dn_bool (show Dn X.K G v _ from e)
    exact call_int1 pins s σ H _ us Q I r (.inr ⟨_, rfl, scal_res q rfl (.int _)⟩)
  · cases hz
    obtain ⟨v, rfl, e⟩ := one_of hl hv
    obtain rfl := dn_int (show Dn X.K G v _ from e)
    exact call_abs pins s σ H _ us Q I r ⟨_, rfl, scal_res q rfl (.int _)⟩
  · cases hz
    obtain ⟨v, w, rfl, e, e'⟩ := two_of hl hv
    obtain rfl := dn_int (show Dn X.K G v _ from e)
    obtain rfl := dn_int (show Dn X.K G w _ from e')
    exact call_max2 hc pins s σ H _ us Q I r ⟨_, _, rfl, scal_res q rfl (.int _)⟩
  · cases hz
    obtain ⟨v, w, rfl, e, e'⟩ := two_of hl hv
    obtain rfl := dn_int (show Dn X.K G v _ from e)
    obtain rfl := dn_int (show Dn X.K G w _ from e')
    exact call_min2 hc pins s σ H _ us Q I r ⟨_, _, rfl, scal_res q rfl (.int _)⟩
  · obtain ⟨is, h1, h2⟩ := Option.bind_eq_some_iff.mp hz
    obtain ⟨m, h3, rfl⟩ := Option.map_eq_some_iff.mp h2
    obtain rfl := intsOf_eq h1
    obtain ⟨v, rfl, a, vs, rfl, h4, h5⟩ := one_of hl hv
    obtain rfl := h5.ints
    cases is with
    | nil => cases h3
    | cons i is =>
      cases h3
      refine cr_max hc pins s σ H _ us Q I r ⟨a, i :: is, rfl, h4.sq, by simp, fun m hm hle => ?_⟩
      have := scal_res q rfl (.int _)
      rw [foldl_max_mem is i m hm hle] at this
      exact this
  · obtain ⟨is, h1, h2⟩ := Option.bind_eq_some_iff.mp hz
    obtain ⟨m, h3, rfl⟩ := Option.map_eq_some_iff.mp h2
    obtain rfl := intsOf_eq h1
    obtain ⟨v, rfl, a, vs, rfl, h4, h5⟩ := one_of hl hv
    obtain rfl := h5.ints
    cases is with
    | nil => cases h3
    | cons i is =>
      cases h3
      refine cr_min hc pins s σ H _ us Q I r ⟨a, i :: is, rfl, h4.sq, by simp, fun m hm hle => ?_⟩
      have := scal_res q rfl (.int _)
      rw [foldl_min_mem is i m hm hle] at this
      exact this
  · cases hz
    obtain ⟨v, rfl, a, vs, rfl, h1, h2⟩ := one_of hl hv
    exact call_tuple_of pins s σ H _ us Q I r ⟨a, vs, rfl, .inl ⟨h1.sq, fun l hl => q _ _ (.tup hl h2)⟩⟩
  · cases hz
    obtain ⟨v, rfl, e⟩ := one_of hl hv
    have e : Dn X.K G v (.tuple _) := e
    obtain ⟨a, vs, rfl, h1, h2⟩ := dn_tup e
    exact call_tuple_of pins s σ H _ us Q I r ⟨a, vs, rfl, .inr ⟨Same.seqT sg h1, scal_res q rfl e⟩⟩
  · cases hz
    obtain ⟨v, rfl, a, vs, rfl, h1, h2⟩ := one_of hl hv
    exact call_list_of pins s σ H _ us Q I r ⟨a, vs, rfl, .inl h1.sq, fun l hl => q _ _ (.lst hl h2)⟩
  · cases hz
    obtain ⟨v, rfl, e⟩ := one_of hl hv
    obtain ⟨a, vs, rfl, h1, h2⟩ := dn_tup (show Dn X.K G v (.tuple _) from e)
    exact call_list_of pins s σ H _ us Q I r ⟨a, vs, rfl, .inr (Same.seqT sg h1), fun l hl => q _ _ (.lst hl h2)⟩
  · obtain ⟨is, h1, rfl⟩ := Option.map_eq_some_iff.mp hz
    obtain rfl := intsOf_eq h1
    obtain ⟨v, rfl, a, vs, rfl, h4, h5⟩ := one_of hl hv
    obtain rfl := h5.ints
    exact cr_sum hc pins s σ H _ us Q I r ⟨a, is, rfl, h4.sq, scal_res q rfl (.int _)⟩
  · obtain ⟨is, h1, rfl⟩ := Option.map_eq_some_iff.mp hz
    obtain rfl := boolsOf_eq h1
    obtain ⟨v, rfl, a, vs, rfl, h4, h5⟩ := one_of hl hv
    obtain rfl := h5.bls
    exact cr_any hc pins s σ H _ us Q I r ⟨a, is, rfl, h4.sq, scal_res q rfl (.bl _)⟩
  · obtain ⟨is, h1, rfl⟩ := Option.map_eq_some_iff.mp hz
    obtain rfl := boolsOf_eq h1
    obtain ⟨v, rfl, a, vs, rfl, h4, h5⟩ := one_of hl hv
    obtain rfl := h5.bls
    exact cr_all hc pins s σ H _ us Q I r ⟨a, is, rfl, h4.sq, scal_res q rfl (.bl _)⟩
  · split at hz
    · rename_i c; cases hz
      obtain ⟨v, rfl, e⟩ := one_of hl hv
      obtain rfl := dn_int (show Dn X.K G v _ from e)
      exact call_str_int pins s σ H _ us Q I r ⟨_, rfl, c, scal_res q rfl (.str _)⟩
    · cases hz
  · exact absurd rfl hf
  · cases hz
/-! ### isinstance -/
theorem tyX_dn {K : PySem.W.Frag} {H : Hp} {v : V} {d : D} (h : Dn K H v d) : TyX K H v (.type (tyOf d)) := by
  cases h with
  | non => exact .base .non
  | bl b => exact .base (.bl b)
  | int i => exact .base (.int i)
  | str x => exact .base (.str x)
  | lst h1 _ =>
    rcases h1 with (h1 | ⟨o, h1⟩) | ⟨its, n, h1, _, _⟩
    · exact .base (.lst h1)
    · exact .base (.frz h1)
    · exact .kList h1 rfl
  | tup h1 _ =>
    rcases h1 with (h1 | ⟨o, h1⟩) | ⟨o, its, n, h1, h2, _⟩
    · exact .base (.tup h1)
    · exact .fTuple h1
    · exact .kTuple h1 h2
  | dct h1 _ =>
    rcases h1 with h1 | ⟨o, h1⟩
    · exact .base (.dK h1)
    · exact .fDict h1
theorem isT_kit {K : PySem.W.Frag} {d : D} {n : String} {b : Bool} (h : isT d n = some b) : PySem.W.kitOne K (.type (tyOf d)) (.type n) = some b := by
  refine kit_ty ?_
  unfold isT at h
  split at h
  · rename_i c
    cases h
    cases d <;> simp only [tyOf] <;> rcases c with rfl | rfl | rfl | rfl | rfl | rfl <;> decide +kernel
  · cases h
def rIsiD (K : PySem.W.Frag) (n : String) : List V → Hp → VK → Prop := fun vs H Q => ∃ v d b, vs = [v, .ty n] ∧ Dn K H v d ∧ isT d n = some b ∧ Q (.bl b) H
theorem call_isiD {n : String} : CallR X (.builtin "isinstance") (rIsiD X.K n) := by
  intro pins s σ H xs us Q I r h
  obtain ⟨v, d, b, rfl, hd, hb, q⟩ := h
  exact call_isi pins s σ H _ us Q I r ⟨v, .ty n, _, _, b, rfl, .ty n, tyX_dn hd, isT_kit hb, q⟩
end Mp

/-! MiniPy, part E: from the text to the core syntax; what the readings are. -/
namespace Mp
open PySem PySem.Spec PyProof.Rows L2

/-! ### from the text to the core -/
/-- a text's names: a def's slots, the text's own defs, its constants, the built-ins -/
structure Cfg where
  N : List Str
  fns : List (Str × Nat)
  gls : List (Str × Nat)
  bis : List Str
  io : Nat → List Nat
  gds : List (Str × Nat)
  xcs : List (Str × (Nat × Str))
  fr : Nat → Bool
def ixOf (x : Str) : List Str → Option Nat
  | [] => none
  | y :: r => if y = x then some 0 else (ixOf x r).map (· + 1)
theorem ixOf_get {x : Str} : ∀ {l : List Str} {i : Nat}, ixOf x l = some i → l[i]? = some x
  | [], _, h => by cases h
  | y :: r, i, h => by
    unfold ixOf at h
    by_cases e : y = x
    · rw [if_pos e] at h; cases h; rw [e]; rfl
    · rw [if_neg e] at h
      obtain ⟨j, h1, rfl⟩ := Option.map_eq_some_iff.mp h
      simpa using ixOf_get h1
/-- a name's number -/
def noOf (x : Str) : List (Str × Nat) → Option Nat
  | [] => none
  | y :: r => if y.1 = x then some y.2 else noOf x r
def xcOf (x : Str) : List (Str × (Nat × Str)) → Option (Nat × Str)
  | [] => none
  | y :: r => if y.1 = x then some y.2 else xcOf x r
theorem noOf_get {x : Str} {i : Nat} : ∀ {l : List (Str × Nat)}, noOf x l = some i → (x, i) ∈ l
  | [], h => by cases h
  | y :: r, h => by
    unfold noOf at h
    by_cases e : y.1 = x
    · rw [if_pos e] at h; cases h; rw [← e]; simp
    · rw [if_neg e] at h; exact List.mem_cons_of_mem _ (noOf_get h)
def okName (x : Str) : Bool := !(x == ("__debug__" : Str)) && !(x == ("__classdict__" : Str)) && !(x == ("__name__" : Str))
def isVis (sc : Scope) (x : Str) : Bool := match sc.names.lookup x with
  | some .local => true
  | some .cell => true
  | some .free => true
  | _ => false
def isGl (sc : Scope) (x : Str) : Bool := match sc.names.lookup x with
  | some .globalImplicit => true
  | _ => false
/-- a name that may be stored: one of the def's (the block's) own -/
def isOwn (sc : Scope) (x : Str) : Bool := match sc.names.lookup x with
  | some .local => true
  | some .cell => true
  | _ => false
def toEs : List E → Es
  | [] => .nil
  | e :: es => .cons e (toEs es)
def biOf1 (x : Str) : Option Bi :=
  if x = "len" then some .len else if x = "int" then some .int else if x = "abs" then some .abs else if x = "max" then some .max else if x = "min" then some .min else
  if x = "tuple" then some .tuple else if x = "list" then some .list else if x = "sum" then some .sum else if x = "any" then some .any else if x = "all" then some .all else if x = "str" then some .str else none
def biOf2 (x : Str) : Option Bi :=
  if x = "max" then some .max else if x = "min" then some .min else none
def tyName (x : Str) : Option String :=
  if x = "int" then some "int" else if x = "bool" then some "bool" else if x = "str" then some "str" else if x = "tuple" then some "tuple" else if x = "list" then some "list" else if x = "dict" then some "dict" else none
def plainIx : Expr → Bool
  | .Slice .. => false
  | _ => true
def noSuper : Expr → Bool
  | .Call (.Name _ _) [] [] _ => false
  | _ => true
def namesIx (N : List Str) (sc : Scope) : List Expr → Option (List Nat)
  | [] => some []
  | .Name x _ :: es => if isOwn sc x then match ixOf x N with
      | some i => (namesIx N sc es).map (i :: ·)
      | none => none
    else none
  | _ => none
def cT (N : List Str) (sc : Scope) : Expr → Option T
  | .Name x _ => if isOwn sc x then (ixOf x N).map .n else none
  | .Tuple es _ _ => (namesIx N sc es).map .tup
  | _ => none
def ownOf (N : List Str) (scope : Scope) : List (Str × Nat) := scope.names.filterMap fun y => match y.2 with
  | .local => (ixOf y.1 N).map fun i => (y.1, i)
  | .cell => (ixOf y.1 N).map fun i => (y.1, i)
  | _ => none
def isTup : Expr → Bool
  | .Tuple .. => true
  | _ => false
def isStar : Expr → Bool
  | .Starred .. => true
  | _ => false
/-- what is walked; f translates expressions -/
def mkI (c : Cfg) (sc : Scope) (f : Expr → E) (tg iter : Expr) : I :=
  match iter with
  | .Call (.Name x _) [a] [] _ =>
    if isGl sc x && (noOf x c.fns).isNone && !isStar a then
      if x = "range" then (if c.bis.contains "range" then .r1 (f a) else .it .bad)
      else if x = "reversed" then (if c.bis.contains "reversed" then .rev (f a) else .it .bad)
      else if x = "enumerate" then (if c.bis.contains "enumerate" && isTup tg then .enum (f a) else .it .bad)
      else .it (f iter)
    else .it (f iter)
  | .Call (.Name x _) [a, b] [] _ =>
    if isGl sc x && (noOf x c.fns).isNone && !isStar a && !isStar b then
      if x = "range" then (if c.bis.contains "range" then .r2 (f a) (f b) else .it .bad)
      else if x = "zip" then (if c.bis.contains "zip" && isTup tg then .zip (f a) (f b) else .it .bad)
      else .it (f iter)
    else .it (f iter)
  | _ => .it (f iter)
def isSet : Expr → Bool
  | .Set .. => true
  | _ => false
/-- a built-in's call -/
def mkB (c : Cfg) (sc : Scope) (f : Expr → E) (x : Str) (args : List Expr) : E :=
  if c.bis.contains x then match args with
    | [a] => match a with
      | .Call (.Name y _) [b] [] _ => if x = "tuple" ∧ y = "reversed" ∧ isGl sc y ∧ c.bis.contains y ∧ isStar b = false then .trev (f b) else match biOf1 x with
        | some k => .bi k (.cons (f a) .nil)
        | none => .bad
      | _ => match biOf1 x with
        | some k => .bi k (.cons (f a) .nil)
        | none => .bad
    | [a, b] => if x = "isinstance" then match b with
        | .Name t _ => if isGl sc t && c.bis.contains t && okName t then match tyName t with
            | some n => .isi (f a) [.b n]
            | none => .bad
          else .bad
        | _ => .bad
      else match biOf2 x with
        | some k => .bi k (.cons (f a) (.cons (f b) .nil))
        | none => .bad
    | _ => .bad
  else .bad
def tIn (t : T) (own : List Nat) : Bool := match t with
  | .n i => own.contains i
  | .tup is => is.all own.contains
/-- a dict of the module -/
def gdName (c : Cfg) (sc : Scope) : Expr → Option Nat
  | .Name x _ => if okName x && isGl sc x then noOf x c.gds else none
  | _ => none
/-- a written value -/
def kOf : Expr → Option D
  | .Constant (.int i) _ _ => some (.int i)
  | .Constant (.bool b) _ _ => some (.bool b)
  | .Constant .none _ _ => some .none
  | .Constant (.str s) _ _ => some (.str s)
  | _ => none
def strOf : Option Expr → Option Str
  | some (.Constant (.str s) _ _) => some s
  | _ => none
/-- a display of written texts and values -/
def kdsOf : List (Option Expr) → List Expr → Option (List (Str × D))
  | [], [] => some []
  | k :: ks, v :: vs => match strOf k, kOf v, kdsOf ks vs with
    | some x, some d, some r => if r.any (fun p => p.1 == x) then none else some ((x, d) :: r)
    | _, _, _ => none
  | _, _ => none
def cE (c : Cfg) : Nat → Scope → Expr → E
  | 0, _, _ => .bad
  | n + 1, sc, e => match e with
    | .Name x _ => if okName x then
        if isVis sc x then match ixOf x c.N with
          | some i => .v i
          | none => .bad
        else if isGl sc x then match noOf x c.gls with
          | some i => .g i
          | none => .bad
        else .bad
      else .bad
    | .Constant (.int i) _ _ => .k (.int i)
    | .Constant (.bool b) _ _ => .k (.bool b)
    | .Constant .none _ _ => .k .none
    | .Constant (.str s) _ _ => .k (.str s)
    | .BinOp a op b _ => .bin op (cE c n sc a) (cE c n sc b)
    | .UnaryOp .Not a _ => .not (cE c n sc a)
    | .UnaryOp .USub a _ => .neg (cE c n sc a)
    | .BoolOp .And (a :: b :: r) p => match r with
      | [] => .and (cE c n sc a) (cE c n sc b)
      | _ => .and (cE c n sc a) (cE c n sc (.BoolOp .And (b :: r) p))
    | .BoolOp .Or (a :: b :: r) p => match r with
      | [] => .or (cE c n sc a) (cE c n sc b)
      | _ => .or (cE c n sc a) (cE c n sc (.BoolOp .Or (b :: r) p))
    | .Compare a [op] [b] _ => if isSet b then .bad else match gdName c sc b with
      | some i => if op = .In then .gin false i (cE c n sc a) else if op = .NotIn then .gin true i (cE c n sc a) else .bad
      | none => .cmp op (cE c n sc a) (cE c n sc b)
    | .Compare a [op, op'] [b, b'] _ => if op = .In ∨ op = .NotIn ∨ op' = .In ∨ op' = .NotIn then .bad else .chain op op' (cE c n sc a) (cE c n sc b) (cE c n sc b')
    | .IfExp t a b _ => .ite (cE c n sc t) (cE c n sc a) (cE c n sc b)
    | .Tuple es _ _ => if es.any isStar then .bad else .tup (toEs (es.map (cE c n sc)))
    | .List es _ => if es.any isStar then .bad else .lst (toEs (es.map (cE c n sc)))
    | .Dict [] [] _ => .dct0
    | .Dict ks vs _ => if ks.length ≤ 15 then match kdsOf ks vs with
      | some kds => .dctK kds
      | none => .bad
      else .bad
    | .Subscript a (.Slice lo hi none _) _ => .sli (cE c n sc a) (match lo with | some e => .yes (cE c n sc e) | none => .no) (match hi with | some e => .yes (cE c n sc e) | none => .no)
    | .Subscript a (.Slice none none (some (.UnaryOp .USub (.Constant (.int 1) _ _) _)) _) _ => .rev (cE c n sc a)
    | .Subscript a i _ => if plainIx i then match gdName c sc a with
      | some k => .gix k (cE c n sc i)
      | none => .sub (cE c n sc a) (cE c n sc i)
      else .bad
    | .Call (.Name x _) args [] _ => if okName x && isGl sc x && !(args.any isStar) then match noOf x c.fns with
        | some k => .call k (toEs (args.map (cE c n sc)))
        | none => mkB c sc (cE c n sc) x args
      else .bad
    | .Call (.Attribute o m apos) [] [] pos => if m = "bit_length" && (apos.endLine == pos.line) && noSuper o then .bi .bitlen (.cons (cE c n sc o) .nil) else .bad
    | .ListComp elt [⟨tg, iter, ifs, 0⟩] scope _ =>
      if blkC c.N sc scope (ownOf c.N scope) && !isSet iter then match cT c.N scope tg with
        | some t => if tIn t ((ownOf c.N scope).map (·.2)) then match ifs with
            | [] => .comp (cE c n (relS scope sc) elt) t (mkI c sc (cE c n sc) tg iter) .no ((ownOf c.N scope).map (·.2))
            | [q] => .comp (cE c n (relS scope sc) elt) t (mkI c sc (cE c n sc) tg iter) (.yes (cE c n (relS scope sc) q)) ((ownOf c.N scope).map (·.2))
            | _ => .bad
          else .bad
        | none => .bad
      else .bad
    | _ => .bad
end Mp

/-! MiniPy, part X: exceptions of the text's own classes, whose __init__ says super().__init__('..'); slf.f = p. -/
namespace Mp
open PySem PySem.Spec PyProof.Rows L2

/-! ### ValueError.__init__ bound to an exception, called -/
section
variable {prog : Program} {w : World} {A : Around} {E : Value → Shared → Prop} {h : Heap} {g : Array GenState} {d : Drawn} {t : Nat} {os : OsState}
variable {nm q : Str} {C N : Addr} {bs bm : List Value} {hdct : Bool} {sn : List Str} {sub : List Value} {ab : Bool} {col : Option Bool} {dd : Option Addr} {k0 k1 k2 k3 k5 : Option Value}
theorem call_mw {u e t0 : Addr} {rest : List Value} {Q : Value → Shared → Prop}
    (hC : h.get? C = some (excClassObj nm q C N bs bm hdct sn sub ab col dd k0 k1 k2 k3 k5 "ValueError.__new__")) (he : h.get? e = some (HandSPX.excO C t0)) (hu : h.get? u = some (W.kxs_mw "ValueError.__init__" e)) (hrest : rest.length ≤ sizeLine)
    (hq : ∀ h' t1, (∀ b o, b ≠ e → h.get? b = some o → h'.get? b = some o) → h'.get? e = some (HandSPX.excO C t1) → Q .none ⟨h', g, d, t, os⟩) :
    wpAny (model prog w) A (call (.ref u) rest) Q E ⟨h, g, d, t, os⟩ := by
  refine wpAny_call (codeAny_of_tree ?_)
  show wpAny _ A.in1 (callAny (.ref u) ⟨rest, []⟩) _ _ _
  simp only [callAny]
  refine wpAny_bind (wpAny_load hu ?_)
  simp only [W.kxs_mw, show (Value.type "method-wrapper" == Value.type "method" || Value.type "method-wrapper" == Value.type "builtin_function_or_method" || Value.type "method-wrapper" == Value.type "method-wrapper") = true by decide, if_true]
  refine W.KFB.if_so (by decide) ?_
  refine wpAny_bind (W.check_bound_init F.excBase_ValueError.toExcCallFacts hC he rfl ?_)
  refine wpAny_bind (wpAny_pure (wpAny_pure ?_))
  refine ⟨Code.quiet_builtin _ (by decide +kernel), codeAny_builtin F.excBase_ValueError.initEntry ?_⟩
  rw [Around.under_plainId F.excBase_ValueError.init.plain _]
  wp_walk
  refine hq _ h.objs.size (fun b o hb ho => ?_) ?_
  · rw [Heap.get?_update_other _ _ (Ne.symm hb)]
    exact Heap.get?_push_of_some _ ho
  · rw [Heap.get?_update_self _ (Heap.get?_push_of_some _ he) rfl]
    rfl
end

/-- what the written part says of an own exception class whose __init__ says super().__init__('..'); slf.f = p -/
structure SupC (prog : Program) (K : PySem.W.Frag) (C fI : Addr) (f slf part : Str) (fd : FuncData) : Prop where
  T : OexC K C
  no : PySem.W.findIn K (.ref C) f = some none
  opq : PySem.W.nsIn K cStatics "thirdparty.any" = some none
  mro : PySem.W.mroIn K C (.ref C) = some true
  ve : PySem.W.subIn K (.ref C) (.type "ValueError") = some true
  sin : PySem.W.ks_superIn K C C "__init__" = some (some (.builtin "ValueError.__init__"))
  top : (prog.main.scope.names.lookup ("super" : Str)).isSome = false
  ex : ∃ (oc : Value) (od : Option Addr) (osl : Array (Option Value)) (qual : Str) (params : Arguments) (scope : Scope) (dV kV doc pm : Value) (an : Option Addr) (cda : Addr) (ct : Value) (cc : Addr)
      (vs : Array Value) (file : Str) (tf : Tok) (ccl : Value) (cdd : Option Addr) (ccs : Array (Option Value)) (cl : Value) (cld : Option Addr) (csl : Array (Option Value)) (msg : Str) (k : Nat) (p0 p1 p2 p3 p4 p5 p6 p7 p8 p9 : Pos) (ar : Arg),
    fd = PySem.W.ksFn "__init__" qual params [.Expr (.Call (.Attribute (.Call (.Name "super" p0) [] [] p1) "__init__" p2) [.Constant (.str msg) k p3] [] p4) p5, .Assign [.Attribute (.Name slf p6) f p7] (.Name part p8) p9] scope dV kV doc pm an (.ref cda) ct cc ∧
    K.lookup fI = some ⟨oc, od, .func fd, osl⟩ ∧ PySem.W.codeIn K (.ref cda) qual = true ∧ K.lookup cda = some ⟨ccl, cdd, .fields vs, ccs⟩ ∧ vs[2]? = some (.str file tf) ∧ ((prog.main.file : Str) == file) = true ∧
    K.lookup cc = some ⟨cl, cld, .cell (some (.ref C)), csl⟩ ∧ (params.posonlyargs ++ params.args).head? = some ar ∧ ar.arg = slf ∧
    scope.names.lookup ("super" : Str) = some .globalImplicit ∧ scope.names.lookup ("__class__" : Str) = some .free ∧ scope.names.lookup slf = some .local ∧ scope.names.lookup part = some .local ∧
    (∀ x ∈ scope.names, x.2 ≠ .cell) ∧ scope.isCoroutine = false ∧ scope.isGenerator = false ∧ scope.kind = .function ∧ slf ≠ part ∧ (slf == ("__debug__" : Str)) = false ∧ (part == ("__debug__" : Str)) = false ∧
    ∃ pl : Sem Bool, ∀ env : Env, eval (.Call (.Attribute (.Call (.Name "super" p0) [] [] p1) "__init__" p2) [.Constant (.str msg) k p3] [] p4) env = (do
      let ov ← attributeBase (.Call (.Name "super" p0) [] [] p1) "__init__" env (eval (.Call (.Name "super" p0) [] [] p1) env)
      standAt p2.atName
      let (f, first) ← holding [ov] (getMethod ov "__init__" pl)
      callWith p4 f first (backTo p4 (starEach [.Constant (.str msg) k p3] env)) [])
/-- what such an __init__ does -/
def spI (C : Addr) (f : Str) : Sp := fun vs H Q _ => ∃ a y, vs = [.ref a, y] ∧ H a = some (exo a C none) ∧ ∀ dx, H dx = none → dx ≠ a → Q .non (upd (upd H dx (exd dx [(f, y)])) a (exo a C (some dx)))
section
variable {P : Program} {w : World} {K : PySem.W.Frag} {mg : Str → Option Value} {base : Heap}
theorem fn_init {C fI : Addr} {f slf part : Str} {fd : FuncData} {n : Nat} (S : SupC P K C fI f slf part fd) (sup : mg "super" = none) : FnOk P w K mg base (L2.CX P w) (n + 1) fI fd [slf, part] (spI C f) := by
  obtain ⟨T, no, opq, mro, ve, sin, top, oc, od, osl, qual, params, scope, dV, kV, doc, pm, an, cda, ct, cc, vs, file, tf, ccl, cdd, ccs, cl, cld, csl, msg, k, p0, p1, p2, p3, p4, p5, p6, p7, p8, p9, ar, rfl, lk, hcd, lcda, hvs, hfile, lcc, hp, rfl, hks, hkc, hka, hkp, hcell, hco, hgen, hk, hsp, hd1, hd2, pl, hev⟩ := S
  refine ⟨fun vs H Q E h => by obtain ⟨a, y, rfl, _⟩ := h; rfl, fun A outer s H args us vs' Q E hr e0 hb r hs => ?_⟩
  obtain ⟨a, y, rfl, ha, hq⟩ := hs
  cases r with
  | @cons _ u0 _ ur ra rw' =>
  cases rw' with
  | @cons _ u _ ur2 ry rz =>
  cases rz
  obtain rfl : u0 = Value.ref a := ra
  have KB := e0.mod.kin
  have bk : ∀ b o, base.get? b = some o → s.heap.get? b = some o := fun b o e => (e0.bs b o e).1
  have ba : ∀ b o, base.get? b = some o → b ≠ a := fun b o e z => by
    have := (e0.bs b o e).2
    rw [z, ha] at this; cases this
  obtain ⟨t0, hoa⟩ := exo_at e0.hok ha
  obtain ⟨nm, q, N, bs, bm, sn, sub, ab, col, dd, k0, k1, k2, k3, k5, hC, hbm⟩ := T.cls
  have hcl : PySem.W.clsIn K C = some { name := nm, bases := bs, mro := .ref C :: bm, ns := N, qualname := q, hasDict := true, slotNames := sn, subclasses := sub, abstract := ab, collection := col, hasDel := false } := by unfold PySem.W.clsIn; rw [hC] <;> rfl
  have lim : s.heap.NoLimit := e0.mod.nolimit.keeps bk
  have aL : a ≠ s.heap.objs.size := Nat.ne_of_lt (Heap.lt_size hoa)
  refine ks_codeAny_call_defAt (binds := [(ar.arg, .ref a), (part, u)]) hr.depth (bk _ _ (KB _ _ lk)) rfl lim (PySem.W.codeRec_of (KB.keeps bk) hcd) rfl hb hcell (fun x hx => ?_) (fun h1 hns hk1 => ?_) hco hgen hk
  · rcases List.mem_cons.mp hx with rfl | hx
    · exact hka
    · rcases List.mem_cons.mp hx with rfl | hx
      · exact hkp
      · cases hx
  -- super()
  have b1 : ∀ b o, base.get? b = some o → h1.get? b = some o := fun b o e => hk1 _ _ (bk b o e)
  obtain ⟨oC, hD1, hD2⟩ : ∃ oC, h1.get? C = some oC ∧ oC.data = .cls { name := nm, bases := bs, mro := .ref C :: bm, ns := N, qualname := q, hasDict := true, slotNames := sn, subclasses := sub, abstract := ab, collection := col, hasDel := false } := ⟨_, b1 _ _ (KB _ _ hC), rfl⟩
  obtain ⟨mb, hmb, hmb2⟩ := e0.mod.blt
  have hsu : mb "super" = some (.type "super") := (hmb2 "super" (by decide)).trans (by kernel_rfl)
  have m1 : (fun x => List.lookup x [(ar.arg, Value.ref a), (part, u)].reverse) ar.arg = some (.ref a) := by
    show List.lookup ar.arg [(part, u), (ar.arg, Value.ref a)] = _
    simp [List.lookup, beq_false_of_ne hsp]
  have m2 : (fun x => List.lookup x [(ar.arg, Value.ref a), (part, u)].reverse) part = some u := by
    show List.lookup part [(part, u), (ar.arg, Value.ref a)] = _
    simp [List.lookup]
  refine ks_wpAt_execs_cons (ks_wpAt_Expr_any (ks_wpAt_MethodCall (pl := pl) ?_ (hev _)) (by simp [interactive, callEnv, newEnv, hk]))
  refine ks_wpAt_super_base hks hkc (by decide) rfl (b1 _ _ (KB _ _ lk)) rfl hp rfl (b1 _ _ (KB _ _ lcda)) rfl hvs hfile top ?_
  refine PySem.W.ks_loadName_global hk hks (Calls.loadGlobal_builtin (e0.mod.glob.keeps b1) sup (hmb.keeps b1) hsu ⟨rfl, ?_⟩)
  refine wpAny_loadName_free hk hkc rfl ⟨_, b1 _ _ (KB _ _ lcc), rfl⟩ ?_
  refine wpAny_loadName_local hk hka hns m1 ?_
  refine ks_wpAny_isType_cls hD1 hD2 ⟨rfl, ?_⟩
  refine ks_wpAny_call_super hD1 hD2 (hk1 _ _ hoa) rfl (fun c e => by cases e) (PySem.W.looks_mroIn (KB.keeps b1) mro) (fun h2 e2 k2 => ?_)
  -- its __init__
  have k3 : ∀ b o, h1.get? b = some o → (h2.push (PySem.W.kxs_mw "ValueError.__init__" a)).get? b = some o := fun b o e => Heap.get?_push_of_some _ (k2 b o e)
  have b2 : ∀ b o, base.get? b = some o → h2.get? b = some o := fun b o e => k2 _ _ (b1 b o e)
  have hin : PySem.W.Looks (model P w) h2 (isInstance (.ref a) (.type "ValueError")) true := (PySem.W.InstAt.type (od := none) ⟨k2 _ _ (hk1 _ _ hoa), rfl, rfl, trivial⟩).andThen (PySem.W.looks_subIn (KB.keeps b2) ve)
  have hmr : PySem.W.Looks (model P w) h2 (mroOf (.ref C)) (.ref C :: bm) := (PySem.W.looks_clsIn (KB.keeps b2) hcl).andThen .now
  unfold PySem.W.ks_superIn at sin
  rw [hcl] at sin
  have aC : a ≠ C := fun z => ba C _ (KB _ _ hC) z.symm
  refine PySem.W.kxs_getMethod PySem.W.kxs_ValueError e2 (PySem.W.looks_opaque (KB.keeps b2) opq) hmr rfl (KB.keeps b2) sin hin aC (by decide) ?_
  refine PySem.W.kxs_callWith (i := "ValueError.__init__") (x := a) rfl (Calls.evalArgs_plain (Calls.spliced_cons (wpAny_Constant_str (k := k) (pos := p3) (Calls.spliced_nil ⟨Heap.get?_push_at rfl rfl, ?_⟩))))
  refine call_mw (k3 _ _ (b1 _ _ (KB _ _ hC))) (k3 _ _ (hk1 _ _ hoa)) (Heap.get?_push_at rfl rfl) (by rw [sizeLine_eq]; simp) (fun h4 t1 k4 e4 => ?_)
  -- slf.f = p
  have nL : s.heap.objs.size ≠ a := Ne.symm aL
  have kk : ∀ b o, b ≠ a → h1.get? b = some o → h4.get? b = some o := fun b o hb e => k4 b o hb (k3 b o e)
  have b4 : ∀ b o, base.get? b = some o → h4.get? b = some o := fun b o e => kk b o (ba b o e) (b1 b o e)
  have hns4 : h4.Ns s.heap.objs.size _ := hns.at fun o e => kk _ o nL e
  refine ks_wpAt_execs_cons (ks_wpAt_Assign_Attr (wpAt_of_wpAny (wpAny_Name (wpAny_loadName_local hk hkp hns4 m2 ?_) hd2)))
  refine wpAny_Name (wpAny_loadName_local hk hka hns4 m1 ?_) hd1
  refine PySem.W.set_plain (KB.keeps b4) (ox := { cls := .ref C, dict := none, data := .fields #[.ref t1, .none, .none, .none, .bool false, .none] }) (od := none) ⟨e4, rfl, rfl, trivial⟩ T.sa ?_
  refine PySem.HandSPX.exc_osa (KB.keeps b4) e4 hcl (show PySem.HandSPX.refsVE (.ref C :: bm) = true from hbm) rfl no (fun h5 tk5 dx k5 dn dne hx hn => ?_)
  refine wpAt_of_wpAny (wpAny_execs_nil ?_)
  -- the end
  have kf : ∀ b o, b ≠ a → s.heap.get? b = some o → h5.get? b = some o := fun b o hb e => k5 b o hb (kk b o hb (hk1 b o e))
  obtain ⟨oL, _, _, hoL, _⟩ := hns
  have lt : s.heap.objs.size < dx := Nat.lt_of_lt_of_le (Heap.lt_size (kk _ _ nL hoL)) dn
  have hnd : H dx = none := e0.hok.fresh (Nat.le_of_lt lt)
  have nd : ∀ {b : Addr} {o : Obj}, s.heap.get? b = some o → b ≠ dx := fun {b o} q => Nat.ne_of_lt (Nat.lt_trans (Heap.lt_size q) lt)
  have na : ∀ {b : Addr}, H b = none → b ≠ a := fun {b} n z => by
    rw [z, ha] at n
    cases n
  have Un1 : Un (frs outer) [] H (upd (upd H dx (exd dx [(f, y)])) a (exo a C (some dx))) s.heap h5 := {
    keep := fun b o q n _ _ => kf b o (na n) q
    slot := fun b o q n _ _ => ⟨o.slots, kf b o (na n) q⟩
    free := fun b o q n _ => by rw [upd_ne (na n), upd_ne (nd q)]; exact n
    there := fun b o q _ => by
      by_cases hb : b = a
      · exact ⟨_, by rw [hb]; exact hx⟩
      · exact ⟨o, kf b o hb q⟩
    tups := fun b xs q => by rw [upd_ne (at_ne ha q exo_tup), upd_ne (ne_of_none q hnd)]; exact q
    frzs := fun b o v q => by rw [upd_ne (at_ne ha q exo_frz), upd_ne (ne_of_none q hnd)]; exact q
    tbls := fun b ps q => ⟨#[], by rw [upd_ne (at_ne ha q exo_tbl), upd_ne (ne_of_none q hnd), q]; simp⟩ }
  refine ⟨.non, _, rfl, e0.bare, Un1, fun b o q => ?_, rfl, hq dx hnd dne⟩
  by_cases hb : b = a
  · subst hb
    rw [upd_same] at q
    cases q
    exact exo_ok hx
  · rw [upd_ne hb] at q
    by_cases hd : b = dx
    · subst hd
      rw [upd_same] at q
      cases q
      exact exd_ok hn (relO_put (fs := []) ry fun g => True.intro)
    · rw [upd_ne hd] at q
      exact (e0.hok b o q).stay (fun c v hc z => kf c v (by
          rcases hc with hc | hc
          · rw [hc]
            exact hb
          · exact at_ne ha hc exo_own) z)
        (fun c hc => by rw [upd_ne (at_ne ha hc exo_own), upd_ne (ne_of_none hc hnd)]; exact hc) (fun c xs hc => by rw [upd_ne (at_ne ha hc exo_tup), upd_ne (ne_of_none hc hnd)]; exact hc)
end
end Mp

/-! MiniPy, part X2: raise C(e). -/
namespace Mp
open PySem PySem.Spec PyProof.Rows L2
theorem upd_mk {H : Hp} {a d : Addr} {o1 o2 o3 : HO} {fs : HO} (hd : d ≠ a) (ha : H a = none) : upd (del (upd (upd (upd H a o1) d o2) a o3) a) d fs = upd H d fs := by
  funext b
  unfold upd del
  by_cases h : b = d
  · simp [h]
  · by_cases h2 : b = a
    · subst h2; simp [h, ha]
    · simp [h, h2]
section
variable {X : Cx}
theorem ps_raiseC {W : WX} {x f slf part : Str} {C fI : Addr} {fd : FuncData} {n : Nat} {e : Expr} {te : TE} {p pos pos2 : Pos} (S : SupC X.prog X.K C fI f slf part fd) (sup : X.mg "super" = none)
    (iC : PySem.W.findIn X.K (.ref C) "__init__" = some (some (.ref fI))) (tI : PySem.W.typeIn X.K (.ref fI) = some (.type "function")) (hb : Binds X.K fd [slf, part] []) (hr : Room (n + 2) X.A) (hc : X.calm = true) (tk : Takes X W)
    (hg : Gl X x) (hm : X.mg x = some (.ref C)) (he : PE X e te) (mono : ∀ (σ : L2.St) (H : Hp) (Q Q' : VK), (∀ v H', Q v H' → Q' v H') → te σ H Q → te σ H Q') (hdb : (x == ("__debug__" : Str)) = false) (hs : ∀ es, starEach (e :: es) X.env = (false, eval e X.env) :: starEach es X.env) :
    PS X (.Raise (some (.Call (.Name x p) [e] [] pos)) none pos2) (fun _ σ H => te σ H fun y H1 => ∀ dx, H1 dx = none → W (.ref C) (some dx) σ (upd H1 dx (.xd [(f, y)]))) := by
  have F1 : FnOk X.prog X.w X.K X.mg X.base (L2.CX X.prog X.w) (n + 1) fI fd [slf, part] (spI C f) := fn_init S sup
  have m := pmk_oex (X := X) (e := e) (es := []) (p := p) (pos := pos) (ds := []) (dvs := []) S.T iC tI F1 hr hb .nil passL hg hm (pa_cons he pa_nil (hs [])) hdb (hs []) rfl
  refine ⟨fun pins s σ H D I h => (ps_raise hc tk m).run pins s σ H D I ?_⟩
  refine mono _ _ _ _ (fun y H1 q => ?_) h
  show [y].length ≤ 1000 ∧ ∀ a, H1 a = none → spI C f (.ref a :: ([y] ++ [])) (upd H1 a (exo a C none)) _ _
  refine ⟨by simp, fun a ha => ⟨a, y, rfl, upd_same, fun dx hn hd => ⟨rfl, dx, [(f, y)], upd_same, ?_, ?_, ?_⟩⟩⟩
  · rw [upd_ne hd, upd_same]
  · rw [upd_ne hd] at hn
    exact hn
  · rw [upd_ne hd] at hn
    rw [upd_mk hd ha]
    exact q dx hn
end
end Mp

/-! MiniPy, part X3: isinstance of a caught exception that has its dict. -/
namespace Mp
open PySem PySem.Spec PyProof.Rows L2 PySem.W PySem.Calls
section
variable {prog : Program} {w : World} {A : Around} {E : Value → Shared → Prop} {s : Shared} {K : PySem.W.Frag} {x D : Addr} {ox : Obj} {od : Option Obj}
/-- its class's word __class__ is a descriptor for data: the own dict isn't asked -/
theorem find_class (C : ExcC K D) : findObj K D od "__class__" = some (.bind (.builtin "getset_descriptor.__get__") (.builtin "object.__class__")) := by
  obtain ⟨cd, hc, _⟩ := any_some C.hd
  unfold findObj
  rw [hc, Option.bind_some, C.ha, Option.bind_some]
  simp [C.hn, C.ht]
theorem class_of {Q : Option Value → Shared → Prop} (C : ExcC K D) (X : K.In s.heap) (I : InstAt s.heap x ox D od) (h : Q (some (.ref D)) { s with toks := s.toks + 1 }) :
    wpAny (model prog w) A (getAttr? (.ref x) "__class__") Q E s := by
  obtain ⟨hp, g, d, t, os⟩ := s
  have Lt := I.type (M := model prog w)
  have Lg := looks_findIn (M := model prog w) X C.hg
  have Lk := looks_findIn (M := model prog w) X C.hk
  have Lf := looks_find (M := model prog w) X I (find_class (od := od) C)
  have sub : Looks (model prog w) hp (isInstance (.ref x) (.type "BaseException")) true := Lt.andThen (looks_subIn X C.hs)
  have n2 : (Value.builtin "BaseException.__getattribute__" == Value.builtin "object.__getattribute__") = false := by decide +kernel
  have n1 : (onTheHeap (Value.ref D) && Value.builtin "BaseException.__getattribute__" == Value.builtin "object.__getattribute__") = false := by rw [n2]; rfl
  unfold getAttr? getAttrBy? getAttrBy
  refine wpAny_bind (wpAny_mkText (wpAny_bind (wpAny_attempt (wpAny_holding (wpAny_bind (Lt.at (wpAny_bind (Lg.at ?_))))))))
  show wpAny _ _ (if (onTheHeap (Value.ref D) && Value.builtin "BaseException.__getattribute__" == Value.builtin "object.__getattribute__") = true then _ else _) _ _ _
  rw [n1, if_neg Bool.false_ne_true]
  unfold getAttrByItsOwn hookBefore
  refine wpAny_bind ?_
  rw [if_pos (show onTheHeap (Value.ref D) = true from rfl)]
  refine Lk.at (wpAny_bind (wpAny_attempt (wpAny_holding ?_)))
  unfold callGetattribute
  rw [if_neg (show ¬ (false && onTheHeap (Value.builtin "BaseException.__getattribute__")) = true from Bool.false_ne_true)]
  unfold boundAndCalled
  rw [PySem.F.excAttr_ValueError.ga.bind (.ref x)]
  refine wpAny_bind (wpAny_pure ?_)
  refine wpAny_call (codeAny_call_builtin PySem.F.excAttr_ValueError.ga.plain PySem.F.entry_bexc_ga ?_)
  refine @check_slot (model prog w) _ _ ⟨hp, g, d, t + 1, os⟩ "BaseException.__getattribute__" "BaseException" "__getattribute__" (.ref x) [.str "__class__" t] [] _ (by decide +kernel) (by decide +kernel) sub (PySem.F.args_bexc_ga (.ref x) (.str "__class__" t)) ?_
  unfold Builtin.«object.__getattribute__»
  refine wpAny_bind (wpAny_of_eq (a := ((Value.ref x : Value), [Value.str "__class__" t])) (by first | rfl | (simp only [slotArgs]; rfl)) ?_)
  refine wpAny_bind (wpAny_pure (wpAny_bind (Lt.at (wpAny_bind (Lf.at ?_)))))
  show wpAny _ _ (holding [Value.builtin "object.__class__"] (call (.builtin "getset_descriptor.__get__") [.builtin "object.__class__", .ref x, .ref D]) >>= ret) _ _ _
  refine wpAny_bind (wpAny_holding (wpAny_call (class_get (s := ⟨hp, g, d, t + 1, os⟩) (ox := ox) (od := od) X I C.hm (wpAny_pure ?_))))
  show wpAny _ _ (handedOut (.ref D)) _ _ _
  rw [handedOut_of (v := .ref D) rfl]
  first
    | exact wpAny_pure (wpAny_pure h)
    | exact wpAny_pure h
    | exact wpAny_pure (wpAny_bind (wpAny_pure (wpAny_pure h)))
theorem cls_at {cd : ClassData} (hc : clsIn K D = some cd) : ∃ o : Obj, K.lookup D = some o ∧ o.data = .cls cd := by
  unfold clsIn at hc
  split at hc
  · rename_i ho
    cases hc
    exact ⟨_, ho, rfl⟩
  · cases hc
theorem kitx_e (C : ExcC K D) : KitX K (.ref x) (.ref D) (fun h => ∃ ox od, InstAt h x ox D od) where
  ty := fun _ _ _ ⟨_, _, I⟩ => I.type
  it := fun _ _ X _ => by
    obtain ⟨cd, hc, _⟩ := any_some C.hd
    obtain ⟨o, ho, hd⟩ := cls_at hc
    intro A' Q' E' s' k q
    unfold isType loadHead
    refine wpAny_bind (wpAny_loadPart (k _ _ (X _ _ ho)) (wpAny_pure ?_))
    rw [hd]
    exact q
  ne := fun h tp dd its n sl X htp => by
    obtain ⟨cd, hc, _⟩ := any_some C.hd
    obtain ⟨o, ho, hd⟩ := cls_at hc
    refine Bool.eq_false_iff.mpr fun q => ?_
    have e : D = tp := Value.ref.inj (beq_iff_eq.mp q)
    subst e
    have z := (X _ _ ho).symm.trans htp
    cases z
    cases hd
  ca := fun X ⟨_, _, I⟩ k => class_of C X I k
end
/-- isinstance(e, c), e the exception that the suite holds: c a class, or a tuple of classes -/
def rIs (K : PySem.W.Frag) (a D : Addr) (d : Option Addr) : List V → Hp → VK → Prop := fun xs H Q => ∃ (c : V) (b : Bool), xs = [.ref a, c] ∧ (∀ dd, d = some dd → ∃ fs, H dd = some (.xd fs)) ∧
  ((∃ cv, (∀ u, RelV c u → u = cv) ∧ kitOne K (.ref D) cv = some b) ∨ ∃ (tp : Addr) (vs : List V) (its : List Value), c = .ref tp ∧ H tp = some (.tup vs) ∧ (∀ us, Vals vs us → us = its) ∧ kitAny K (.ref D) its = some b) ∧ Q (.bl b) H
theorem call_is {X : Cx} {a D : Addr} {oe : Obj} {d : Option Addr} {pn : List (Addr × Obj)} (C : ExcC X.K D) (hz : Zc (.ref D) d oe) (hf : ∃ vs, oe.data = .fields vs) : CallR (X.suite a ((a, oe) :: pn)) (.builtin "isinstance") (rIs X.K a D d) := by
  intro pins s σ H xs us Q I r h
  obtain ⟨c, b, rfl, hdd, hc, q⟩ := h
  cases r with
  | @cons _ u1 _ us1 rx rr =>
  cases rr with
  | @cons _ u2 _ us2 rt rr =>
  cases rr
  obtain rfl : u1 = Value.ref a := rx
  obtain ⟨hget, _⟩ := I.pin (a, oe) (List.mem_append.mpr (.inl List.mem_cons_self))
  obtain ⟨vs, hv⟩ := hf
  have J : ∃ ox od, InstAt s.heap a ox D od := by
    obtain ⟨oc, od, oda, osl⟩ := oe
    obtain ⟨h1, h2⟩ := hz
    dsimp only at h1 h2 hv
    subst h1 hv
    cases d with
    | none => subst h2; exact ⟨_, none, hget, rfl, rfl, trivial⟩
    | some dd =>
      subst h2
      obtain ⟨fs, hfs⟩ := hdd dd rfl
      obtain ⟨mA, ⟨o, _, _, ho, _⟩, _⟩ := I.hok dd _ hfs
      exact ⟨_, some o, hget, rfl, rfl, ho⟩
  rcases hc with ⟨cv, e1, e2⟩ | ⟨tp, ws, its, rfl, e1, e2, e3⟩
  · have ec := e1 _ rt
    subst ec
    exact kia_one (kitx_e C) I.kIn J e2 (fun z => nomatch z) fun tk => ⟨.bl b, H, I.kept (t' := tk) fun _ _ z => z, rfl, q⟩
  · obtain rfl : u2 = Value.ref tp := rt
    obtain ⟨_, its', rv, ob, ho, hcl, n, hd2⟩ := I.hok tp _ e1
    have := e2 _ rv
    subst this
    obtain ⟨oc, od, oda, osl⟩ := ob
    dsimp only at hcl hd2
    subst hcl hd2
    exact kia_tup (kitx_e C) I.kIn J ho e3 (fun z => nomatch z) fun tk => ⟨.bl b, H, I.kept (t' := tk) fun _ _ z => z, rfl, q⟩
end Mp

/-! MiniPy, part F: the readings, one lemma a construct. -/
namespace Mp
open PySem PySem.Spec PyProof.Rows L2

/-- what is true of a result -/
def Sat {α : Type} (r : R α) (p : α → Prop) (xo : Exc → Prop) : Prop := match r with
  | .ok a => p a
  | .ex x => xo x
  | .st => False
theorem Sat.bind {α β : Type} {r : R α} {f : α → R β} {p : β → Prop} {xo : Exc → Prop} : Sat (r.bind f) p xo ↔ Sat r (fun a => Sat (f a) p xo) xo := by
  cases r <;> rfl
theorem Sat.imp {α : Type} {r : R α} {p q : α → Prop} {xo yo : Exc → Prop} (h : Sat r p xo) (hp : ∀ a, p a → q a) (hx : ∀ x, xo x → yo x) : Sat r q yo := by
  cases r with
  | ok a => exact hp a h
  | ex x => exact hx x h
  | st => exact h
/-- how an exception lies in the heap (given from outside) -/
abbrev XA := Exc → Value → Option Addr → Hp → Prop
def XO (W : WX) (xa : XA) (σ : L2.St) (H : Hp) (x : Exc) : Prop := ∀ cls dd H', Same H H' → xa x cls dd H' → W cls dd σ H'
theorem XO.mono {W : WX} {xa : XA} {σ : L2.St} {H H' : Hp} {x : Exc} (h : XO W xa σ H x) (e : Same H H') : XO W xa σ H' x := fun cls dd H2 e2 => h cls dd H2 (e.trans e2)
structure EPost (K : PySem.W.Frag) (P0 : Addr → Prop) (ps : Ps) (H H' : Hp) (c : E) (x : D × List Nat) (v : V) : Prop where
  same : Same H H'
  den : Dn K (wo (PP P0 (dr x.2 ps)) H') v x.1
  el : ElCl K (wo (PP P0 (dr (lkE c x.2) ps)) H') H' v x.1
  fr : c.fresh = true → isC x.1 = true → ∃ p, v = .ref p ∧ H p = none ∧ OwnAt K H' (fun a => a = p ∨ PP P0 (dr x.2 ps) a) p x.1
def tE (K : PySem.W.Frag) (g : G) (W : WX) (xa : XA) (c : E) : TE := fun σ H Q => ∃ F ps τ, Rel K F ps H σ τ ∧ Sat (evE g c τ) (fun x => ∀ v H', EPost K F.P0 ps H H' c x v → Q v H') (XO W xa σ H)
def tT (K : PySem.W.Frag) (g : G) (W : WX) (xa : XA) (c : E) : TT := fun σ H Q => ∃ F ps τ, Rel K F ps H σ τ ∧ Sat (evT g c τ) (fun b => ∀ H', Same H H' → Q b H') (XO W xa σ H)
structure APost (K : PySem.W.Frag) (P0 : Addr → Prop) (ps : Ps) (H H' : Hp) (x : List D × List Nat) (vs : List V) : Prop where
  same : Same H H'
  den : DnAll K (wo (PP P0 (dr x.2 ps)) H') vs x.1
def tA (K : PySem.W.Frag) (g : G) (W : WX) (xa : XA) (cs : Es) : TA := fun σ H Q => ∃ F ps τ, Rel K F ps H σ τ ∧ Sat (evEs g cs τ) (fun x => ∀ vs H', APost K F.P0 ps H H' x vs → Q vs H') (XO W xa σ H)
theorem PE.imp {X : Cx} {e : Expr} {t t' : TE} (h : PE X e t) (i : ∀ σ H Q, t' σ H Q → t σ H Q) : PE X e t' := ⟨fun pins s σ H Q I q => h.run pins s σ H Q I (i σ H Q q)⟩
theorem PT.imp {X : Cx} {e : Expr} {t t' : TT} (h : PT X e t) (i : ∀ σ H Q, t' σ H Q → t σ H Q) : PT X e t' := ⟨fun pins s σ H Q I q => h.run pins s σ H Q I (i σ H Q q)⟩
theorem PA.imp {X : Cx} {e : List Expr} {t t' : TA} (h : PA X e t) (i : ∀ σ H Q, t' σ H Q → t σ H Q) : PA X e t' := ⟨fun pos pins s σ H Q I q => h.run pos pins s σ H Q I (i σ H Q q)⟩

section
variable {K : PySem.W.Frag} {P0 : Addr → Prop} {ps : Ps} {H H' : Hp} {c : E} {v : V} {z : D} {L M : List Nat}
theorem Dn.isC {K : PySem.W.Frag} {H : Hp} {v : V} {d : D} (h : Dn K H v d) : isC d = true → ∃ a, v = .ref a := fun e => by
  cases h <;> first | exact ⟨_, rfl⟩ | (simp [Mp.isC] at e)
/-- a scalar, whatever the heap -/
theorem scal {G G' : Hp} (h : Dn K G v z) (f : flatD z = true) : Dn K G' v z := by
  cases h <;> first | exact .non | exact .bl _ | exact .int _ | exact .str _ | (simp [flatD] at f)
theorem lk_flat (f : flatD z = true) : lk z L = [] := by
  cases L with
  | nil => rfl
  | cons i L => cases z <;> simp_all [lk, flatD, noL]
/-- what leaks, where nothing can -/
theorem lk_cons {i : Nat} : lk z (i :: L) = if noL z then [] else i :: L := rfl
theorem lk_dn (hP : ∀ a, PP P0 ps a → ∃ o, H' a = some o ∧ IsCo o) (h : Dn K (wo (PP P0 (dr L ps)) H') v z) : Dn K (wo (PP P0 (dr (lk z L) ps)) H') v z := by
  cases L with
  | nil => exact h
  | cons i L =>
    by_cases n : noL z = true
    · rw [lk_cons, if_pos n, dr_nil]
      refine Dn.noL (fun a q => ?_) z h.full n
      obtain ⟨o, h1, h2⟩ := hP a q
      cases o with
      | lst xs => exact .inl ⟨xs, h1⟩
      | dK kvs => exact .inr ⟨kvs, h1⟩
      | _ => exact h2.elim
    · rw [lk_cons, if_neg n]; exact h
theorem lk_sub : ∀ i, i ∈ lk z L → i ∈ L := fun i h => by
  cases L with
  | nil => exact h
  | cons j L =>
    rw [lk_cons] at h
    split at h
    · cases h
    · exact h
theorem lk_isC (h : isC z = true) : lk z L = L := by
  cases L with
  | nil => rfl
  | cons i L => cases z <;> simp_all [lk, Mp.isC, noL]
theorem lkE_sub : ∀ i, i ∈ lkE c L → i ∈ L := fun i h => by
  unfold lkE at h; split at h
  · cases h
  · exact h
theorem lkE_nv (h : ∀ i, c ≠ .v i) : lkE c L = L := by
  unfold lkE; split
  · exact absurd rfl (h _)
  · rfl
/-- from an operation's result -/
theorem EPost.of_res {f : Bool} {H1 H2 : Hp} (nv : ∀ i, c ≠ .v i) (hf : c.fresh = true → f = true) (e : Same H H1) (e' : Same H1 H2) (hP : ∀ a, PP P0 ps a → ∃ o, H a = some o ∧ IsCo o)
    (r : Res K f (wo (PP P0 (dr L ps)) H1) H1 z v H2) : EPost K P0 ps H H2 c (z, lk z L) v := by
  have there : ∀ a, PP P0 ps a → ∃ o, H2 a = some o ∧ IsCo o := fun a q => let ⟨o, h1, h2⟩ := hP a q; ⟨o, e' _ _ (e _ _ h1), h2⟩
  have key : Dn K (wo (PP P0 (dr L ps)) H2) v z ∧ (f = true → isC z = true → ∃ p, v = .ref p ∧ H p = none ∧ OwnAt K H2 (fun a => a = p ∨ PP P0 (dr L ps) a) p z) := by
    cases r with
    | same h1 h2 => exact ⟨Dn.mono (wo_same e') _ h2, fun a b => by rw [h1 a] at b; cases b⟩
    | lst h1 h2 =>
      rename_i p vs ds
      have hn : H p = none := e.free h1
      have np : ¬ PP P0 (dr L ps) p := fun q => by
        obtain ⟨o, h3, _⟩ := hP p (PP_dr0 p q)
        rw [hn] at h3; cases h3
      have hs : Same (wo (PP P0 (dr L ps)) H1) (wo (fun a => a = p ∨ PP P0 (dr L ps) a) (upd H1 p (.lst vs))) := wo_gen fun a o q1 q2 =>
        ⟨fun q => q.elim (fun q => by rw [q, h1] at q2; cases q2) q1, e' _ _ q2⟩
      exact ⟨.lst (.inl (.inl (wo_some.mpr ⟨np, upd_same⟩))) (DnAll.mono (wo_same e') _ h2), fun _ _ => ⟨p, rfl, hn, vs, upd_same, DnAll.mono hs _ h2⟩⟩
    | dct h1 h2 =>
      rename_i p vs ds
      have hn : H p = none := e.free h1
      have np : ¬ PP P0 (dr L ps) p := fun q => by
        obtain ⟨o, h3, _⟩ := hP p (PP_dr0 p q)
        rw [hn] at h3; cases h3
      have hs : Same (wo (PP P0 (dr L ps)) H1) (wo (fun a => a = p ∨ PP P0 (dr L ps) a) (upd H1 p (.dK vs))) := wo_gen fun a o q1 q2 =>
        ⟨fun q => q.elim (fun q => by rw [q, h1] at q2; cases q2) q1, e' _ _ q2⟩
      exact ⟨.dct (.inl (wo_some.mpr ⟨np, upd_same⟩)) (DnKV.mono (wo_same e') _ h2), fun _ _ => ⟨p, rfl, hn, vs, upd_same, DnKV.mono hs _ h2⟩⟩
    | tup h1 h2 =>
      rename_i p vs ds
      have hn : H p = none := e.free h1
      have np : ¬ PP P0 (dr L ps) p := fun q => by
        obtain ⟨o, h3, _⟩ := hP p (PP_dr0 p q)
        rw [hn] at h3; cases h3
      exact ⟨.tup (.inl (.inl (wo_some.mpr ⟨np, upd_same⟩))) (DnAll.mono (wo_same e') _ h2), fun _ b => by cases b⟩
  have den : Dn K (wo (PP P0 (dr (lk z L) ps)) H2) v z := lk_dn there key.1
  refine ⟨e.trans e', den, ?_, fun h1 h2 => ?_⟩
  · rw [lkE_nv nv]; exact Dn.elcl wo_all den
  · obtain ⟨p, q1, q2, q3⟩ := key.2 (hf h1) h2
    exact ⟨p, q1, q2, by rw [lk_isC h2]; exact q3⟩
theorem EPost.scal (nv : ∀ i, c ≠ .v i) (e : Same H H') (h : ∀ G, Dn K G v z) (f : isC z = false) : EPost K P0 ps H H' c (z, []) v :=
  ⟨e, h _, by rw [lkE_nv nv]; exact Dn.elcl wo_all (h _), fun _ b => by rw [f] at b; cases b⟩
end

/-- an operand's items, in the heap behind the second one -/
theorem EPost.el2 {K : PySem.W.Frag} {P0 : Addr → Prop} {ps : Ps} {H H1 H2 : Hp} {c : E} {x : D × List Nat} {v : V} (p : EPost K P0 ps H H1 c x v) (e : Same H1 H2) {M : List Nat} (hM : ∀ i, i ∈ lkE c x.2 → i ∈ M) : ElCl K (wo (PP P0 (dr M ps)) H2) H2 v x.1 :=
  p.el.mono ((wo_same e).trans (wo_sub (PP_dr hM))) e
theorem EPost.dn {K : PySem.W.Frag} {P0 : Addr → Prop} {ps : Ps} {H H1 : Hp} {c : E} {x : D × List Nat} {v : V} (p : EPost K P0 ps H H1 c x v) : Dn K H1 v x.1 := p.den.full
/-- behind a call -/
structure CPost (K : PySem.W.Frag) (P0 : Addr → Prop) (ps : Ps) (io : List Nat) (fl : Bool) (H H' : Hp) (r : D × List D) (v : V) : Prop where
  keep : ∀ a o, H a = some o → (¬ ∃ i, ps i = some a) → H' a = some o
  den : Dn K (wo (PP P0 ps) H') v r.1
  outs : ∀ (m i : Nat), io[m]? = some i → ∃ p d, ps i = some p ∧ r.2[m]? = some d ∧ OwnAt K H' (PP P0 ps) p d
  len : r.2.length = io.length
  fr : fl = true → isC r.1 = true → ∃ p, v = .ref p ∧ H p = none ∧ OwnAt K H' (fun a => a = p ∨ PP P0 ps a) p r.1
/-- a def's promise: what its meaning hands back -/
def spD (K : PySem.W.Frag) (cf : List D → R (D × List D)) (io : List Nat) (fl : Bool) (xa : XA) : Sp := fun vs H Q E => ∃ (F : Fx) (ps : Ps) (ds : List D),
  Rel K F ps H (vs.map some) (mark io 0 ds) ∧ F.H0 = H ∧ F.io = (fun a => ∃ i, ps i = some a) ∧ F.iol = ioM io fl ∧ F.q = ps ∧ F.nw = (fun a => H a = none) ∧
  Sat (cf ds) (fun r => ∀ v H', CPost K F.P0 ps io fl H H' r v → Q v H') (fun x => ∀ cls dd H', (∀ a o, H a = some o → (¬ ∃ i, ps i = some a) → H' a = some o) → xa x cls dd H' → E cls dd H')
/-- the entries of a written dict with text keys -/
inductive Ents (K : PySem.W.Frag) (P : Params) : List DictEntry → List (Str × D) → Prop
  | nil : Ents K P [] []
  | cons {e : DictEntry} {x : Str} {t : Tok} {v : V} {d : D} {r : List DictEntry} {kr : List (Str × D)} : e.key = .str x t → e.hash = PyData.keyHash P x → RelV v e.val → (∀ H, Dn K H v d) → Ents K P r kr → Ents K P (e :: r) ((x, d) :: kr)
theorem Ents.lit {K : PySem.W.Frag} {P : Params} : ∀ {es : List DictEntry} {kds : List (Str × D)}, Ents K P es kds → PySem.W.KeysLit P es
  | _, _, .nil => trivial
  | _, _, .cons h1 h2 _ _ r => ⟨⟨_, _, h1, h2⟩, r.lit⟩
theorem Ents.find {K : PySem.W.Frag} {P : Params} {z : Str} : ∀ {es : List DictEntry} {kds : List (Str × D)}, Ents K P es kds → match gdGet z kds with
    | some d => ∃ e v, es.find? (·.key.isStr z) = some e ∧ RelV v e.val ∧ ∀ H, Dn K H v d
    | none => es.find? (·.key.isStr z) = none
  | _, _, .nil => rfl
  | _, _, .cons (e := e) (x := x) (t := t) (v := v) (d := d) (r := r) (kr := kr) h1 h2 h3 h4 rr => by
    have ih := rr.find (z := z)
    have hk : e.key.isStr z = decide (x = z) := by
      rw [h1]
      show (x == z) = _
      by_cases hx : x = z
      · subst hx; simp
      · simp [hx]
    unfold gdGet
    by_cases hx : x = z
    · rw [if_pos hx]
      exact ⟨e, v, by rw [List.find?_cons, hk, hx]; simp, h3, h4⟩
    · rw [if_neg hx]
      have : (e :: r).find? (·.key.isStr z) = r.find? (·.key.isStr z) := by rw [List.find?_cons, hk]; simp [hx]
      rw [this]
      exact ih
theorem Ents.noref {K : PySem.W.Frag} {P : Params} : ∀ {es : List DictEntry} {kds : List (Str × D)}, Ents K P es kds → es.any (·.refKey) = false
  | _, _, .nil => rfl
  | _, _, .cons h1 _ _ _ r => by
    rw [List.any_cons, r.noref, Bool.or_false]
    unfold DictEntry.refKey
    rw [h1]
structure GdAt (K : PySem.W.Frag) (w : World) (d : Addr) (kds : List (Str × D)) : Prop where
  low : (d == sysModules) = false
  at_ : ∃ es n, K.lookup d = some ⟨.type "dict", none, .dict es n, #[]⟩ ∧ Ents K w.params es.toList kds
theorem GdAt.get {K : PySem.W.Frag} {w : World} {d : Addr} {kds : List (Str × D)} (h : GdAt K w d kds) (z : Str) : match gdGet z kds with
    | some dd => ∃ u v, PySem.W.nsIn K d z = some (some u) ∧ RelV v u ∧ ∀ H, Dn K H v dd
    | none => PySem.W.nsIn K d z = some none := by
  obtain ⟨es, n, h1, h2⟩ := h.at_
  have f := h2.find (z := z)
  have hn : PySem.W.nsIn K d z = (match es.toList.find? (·.key.isStr z) with | some e => some (some e.val) | none => if es.toList.any (·.refKey) then none else some none) := by
    unfold PySem.W.nsIn
    rw [h1]
    rfl
  cases hg : gdGet z kds with
  | none =>
    rw [hg] at f
    dsimp only at f ⊢
    rw [hn, f]
    dsimp only
    rw [h2.noref]
    rfl
  | some dd =>
    rw [hg] at f
    obtain ⟨e, v, f1, f2, f3⟩ := f
    dsimp only
    rw [hn, f1]
    exact ⟨_, v, rfl, f2, f3⟩
theorem GdAt.kd {K : PySem.W.Frag} {w : World} {d : Addr} {kds : List (Str × D)} (h : GdAt K w d kds) : ∃ es n, KDict K w d es n := by
  obtain ⟨es, n, h1, h2⟩ := h.at_
  exact ⟨es, n, h1, h2.lit, h.low⟩
/-- an own exception class that the text raises: number q, its word f -/
structure XcAt (X : Cx) (xa : XA) (q : Nat) (f x : Str) : Prop where
  ex : ∃ (C fI : Addr) (slf part : Str) (fd : FuncData), X.mg x = some (.ref C) ∧ X.mg "super" = none ∧ PySem.W.findIn X.K (.ref C) "__init__" = some (some (.ref fI)) ∧ PySem.W.typeIn X.K (.ref fI) = some (.type "function") ∧
    SupC X.prog X.K C fI f slf part fd ∧ Binds X.K fd [slf, part] [] ∧ ∀ (dx : Addr) (H : Hp) (y : V) (d : D), isA d = true → Dn X.K H y d → H dx = some (.xd [(f, y)]) → xa ⟨q, [(f, d)]⟩ (.ref C) (some dx) H
structure Envr (X : Cx) (c : Cfg) (sc : Scope) (g : G) (k : Nat) (W : WX) (xa : XA) : Prop where
  N : X.N = c.N
  nd : X.N.Nodup
  sc : X.env.scope = sc
  calm : X.calm = true
  room : Room k X.A
  tk : Takes X W
  fn : ∀ (f : Nat) (x : Str), noOf x c.fns = some f → ∃ a fd qs, X.mg x = some (.ref a) ∧ PySem.W.keepIn X.K (.ref a) = true ∧ Binds X.K fd qs [] ∧ FnOk X.prog X.w X.K X.mg X.base (L2.CX X.prog X.w) k a fd qs (spD X.K (g.cf f) (g.io f) (g.fr f) xa)
  bi : ∀ x : Str, c.bis.contains x = true → X.mg x = none
  gl : ∀ (i : Nat) (x : Str), noOf x c.gls = some i → ∃ u v, X.mg x = some u ∧ RelV v u ∧ ∀ d, g.gl i = some d → ∀ H, Dn X.K H v d
  gd : ∀ (i : Nat) (x : Str), noOf x c.gds = some i → ∃ d kds, X.mg x = some (.ref d) ∧ g.gd i = some kds ∧ GdAt X.K X.w d kds
  xr : g.xr = true → 2 ≤ k
  xc : ∀ (x : Str) (q : Nat) (f : Str), xcOf x c.xcs = some (q, f) → XcAt X xa q f x
section
variable {X : Cx} {c : Cfg} {sc : Scope} {g : G} {k : Nat} {W : WX} {xa : XA} (ev : Envr X c sc g k W xa)
theorem ok_names {x : Str} (h : okName x = true) : (x == ("__debug__" : Str)) = false ∧ (x == ("__classdict__" : Str)) = false ∧ x ≠ "__name__" := by
  unfold okName at h
  simp only [Bool.and_eq_true, Bool.not_eq_true'] at h
  exact ⟨h.1.1, h.1.2, fun e => by rw [e] at h; simp at h⟩
include ev
theorem Envr.gl_of {x : Str} (h : isGl sc x = true) : Gl X x := by
  show X.env.kindOf x = _
  unfold isGl at h
  rw [← ev.sc] at h
  show X.env.scope.names.lookup x = _
  split at h
  · assumption
  · cases h
theorem Envr.vis_of {x : Str} (h : isVis sc x = true) : Vis X.env.scope x := by
  unfold isVis at h
  rw [← ev.sc] at h
  split at h
  · exact .inl (by assumption)
  · exact .inr (.inl (by assumption))
  · exact .inr (.inr (by assumption))
  · cases h
theorem Envr.at_ {x : Str} {i : Nat} (h : ixOf x c.N = some i) : X.N[i]? = some x := by rw [ev.N]; exact ixOf_get h
omit ev in
theorem sE_bad {e : Expr} : PE X e (tE X.K g W xa .bad) := ⟨fun _ _ _ _ _ _ h => by obtain ⟨_, _, _, _, h⟩ := h; exact h.elim⟩
omit ev in
theorem sT_bad {e : Expr} : PT X e (tT X.K g W xa .bad) := ⟨fun _ _ _ _ _ _ h => by obtain ⟨_, _, _, _, h⟩ := h; exact h.elim⟩
theorem sE_v {x : Str} {i : Nat} {pos : Pos} (ho : okName x = true) (hv : isVis sc x = true) (hi : ixOf x c.N = some i) : PE X (.Name x pos) (tE X.K g W xa (.v i)) := by
  obtain ⟨o1, o2, _⟩ := ok_names ho
  refine PE.imp (pe_var (ev.at_ hi) (ev.vis_of hv) o1 o2) fun σ H Q h => ?_
  obtain ⟨F, ps, τ, r, h⟩ := h
  unfold evE at h
  split at h
  · rename_i o d e
    cases o with
    | true =>
      obtain ⟨p, h1, h2, h3⟩ := r.own i d e
      refine ⟨.ref p, h2, h _ H ⟨Same.refl _, ?_, ?_, fun z => by cases z⟩⟩
      · refine h3.dn (fun q => ?_) PP_dr0
        rcases q with q | ⟨j, q⟩
        · exact r.out _ _ h1 q
        · obtain ⟨q1, q2⟩ := dr_some.mp q
          exact q1 (by simp [r.inj _ _ _ q2 h1])
      · show ElCl X.K (wo (PP F.P0 (dr [] ps)) H) H (.ref p) d
        rw [dr_nil]
        cases d with
        | list ds => obtain ⟨vs, q1, q2⟩ := h3; exact ⟨p, vs, rfl, .inl (.inl q1), q2⟩
        | dict ds => obtain ⟨vs, q1, q2⟩ := h3; exact ⟨p, vs, rfl, .inl q1, q2⟩
        | _ => exact h3.elim
    | false =>
      obtain ⟨v, h1, h2⟩ := r.cln i d e
      refine ⟨v, h1, h _ H ⟨Same.refl _, ?_, ?_, fun z => by cases z⟩⟩
      · show Dn X.K (wo (PP F.P0 (dr [] ps)) H) v d
        rw [dr_nil]; exact h2
      · show ElCl X.K (wo (PP F.P0 (dr [] ps)) H) H v d
        rw [dr_nil]; exact Dn.elcl wo_all h2
  · exact h.elim
theorem sE_g {x : Str} {i : Nat} {pos : Pos} (ho : okName x = true) (hv : isGl sc x = true) (hi : noOf x c.gls = some i) : PE X (.Name x pos) (tE X.K g W xa (.g i)) := by
  obtain ⟨o1, o2, _⟩ := ok_names ho
  obtain ⟨u, v, h1, h2, h3⟩ := ev.gl i x hi
  refine PE.imp (pe_glob (ev.gl_of hv) h1 h2 o1) fun σ H Q h => ?_
  obtain ⟨F, ps, τ, r, h⟩ := h
  unfold evE at h
  split at h
  · rename_i d e
    refine h v H ⟨Same.refl _, h3 d e _, Dn.elcl wo_all (h3 d e _), fun z => by cases z⟩
  · exact h.elim
omit ev in
theorem sE_k {e : Expr} {v : V} {d : D} (h : PE X e (tC v)) (hd : ∀ G, Dn X.K G v d) (hc : isC d = false) : PE X e (tE X.K g W xa (.k d)) := by
  refine PE.imp h fun σ H Q h => ?_
  obtain ⟨F, ps, τ, r, h⟩ := h
  exact h v H (EPost.scal (fun i z => by cases z) (Same.refl _) hd hc)
omit ev in
theorem two {a b : E} {F : Fx} {ps : Ps} {H : Hp} {σ : L2.St} {τ : Tau} {α : Type} {f : D × List Nat → D × List Nat → R α} {p : α → Prop} {Q : V → V → Hp → Prop} (r : Rel X.K F ps H σ τ)
    (h : Sat ((evE g a τ).bind fun x => (evE g b τ).bind fun y => f x y) p (XO W xa σ H))
    (q : ∀ x y v u H1 H2, EPost X.K F.P0 ps H H1 a x v → EPost X.K F.P0 ps H1 H2 b y u → Rel X.K F ps H2 σ τ → Sat (f x y) p (XO W xa σ H) → Q v u H2) :
    tE X.K g W xa a σ H fun v H1 => tE X.K g W xa b σ H1 fun u H2 => Q v u H2 := by
  refine ⟨F, ps, τ, r, (Sat.bind.mp h).imp (fun x hx v H1 pa => ?_) fun _ z => z⟩
  refine ⟨F, ps, τ, r.mono pa.same, (Sat.bind.mp hx).imp (fun y hy u H2 pb => ?_) fun _ z => XO.mono z pa.same⟩
  exact q x y v u H1 H2 pa pb ((r.mono pa.same).mono pb.same) hy
theorem sE_bin {a b : Expr} {ca cb : E} {op : Operator} {pos : Pos} (ha : PE X a (tE X.K g W xa ca)) (hb : PE X b (tE X.K g W xa cb)) : PE X (.BinOp a op b pos) (tE X.K g W xa (.bin op ca cb)) := by
  refine PE.imp (pe_op (op_bin op) ha hb) fun σ H Q h => ?_
  obtain ⟨F, ps, τ, r, h⟩ := h
  unfold evE at h
  refine two r h fun x y v u H1 H2 pa pb r2 hz => ?_
  split at hz
  · rename_i z e
    refine ⟨wo (PP F.P0 (dr (lkE ca x.2 ++ lkE cb y.2) ps)) H2, x.1, y.1, z, wo_all, pa.el2 pb.same fun i hi => List.mem_append_left _ hi, pb.el2 (Same.refl _) fun i hi => List.mem_append_right _ hi, e, fun v' H' rs => ?_⟩
    exact hz v' H' (EPost.of_res (fun i z => by cases z) (fun _ => rfl) (pa.same.trans pb.same) rs.same' (fun a q => r.there q) rs)
  · exact hz.elim
omit ev in
theorem one {a : E} {F : Fx} {ps : Ps} {H : Hp} {σ : L2.St} {τ : Tau} {α : Type} {f : D × List Nat → R α} {p : α → Prop} {Q : V → Hp → Prop} (r : Rel X.K F ps H σ τ)
    (h : Sat ((evE g a τ).bind f) p (XO W xa σ H)) (q : ∀ x v H1, EPost X.K F.P0 ps H H1 a x v → Rel X.K F ps H1 σ τ → Sat (f x) p (XO W xa σ H) → Q v H1) : tE X.K g W xa a σ H Q :=
  ⟨F, ps, τ, r, (Sat.bind.mp h).imp (fun x hx v H1 pa => q x v H1 pa (r.mono pa.same) hx) fun _ z => z⟩
omit ev in
theorem sE_neg {a : Expr} {ca : E} {pos : Pos} (ha : PE X a (tE X.K g W xa ca)) : PE X (.UnaryOp .USub a pos) (tE X.K g W xa (.neg ca)) := by
  refine PE.imp (pe_un un_neg ha) fun σ H Q h => ?_
  obtain ⟨F, ps, τ, r, h⟩ := h
  unfold evE at h
  refine one r h fun x v H1 pa r1 hz => ?_
  split at hz
  · rename_i i e
    have := pa.dn
    rw [e] at this
    cases this
    exact ⟨i, rfl, hz _ _ (EPost.scal (fun i z => by cases z) pa.same (fun _ => .int _) rfl)⟩
  · exact hz.elim
theorem sE_cmp {a b : Expr} {ca cb : E} {op : CmpOp} {pos : Pos} (ha : PE X a (tE X.K g W xa ca)) (hb : PE X b (tE X.K g W xa cb)) (hm : behindInMarks op b = false) : PE X (.Compare a [op] [b] pos) (tE X.K g W xa (.cmp op ca cb)) := by
  refine PE.imp (pe_cmpR (op_cmp ev.room.units op) ha hb hm) fun σ H Q h => ?_
  obtain ⟨F, ps, τ, r, h⟩ := h
  unfold evE at h
  refine two r h fun x y v u H1 H2 pa pb r2 hz => ?_
  split at hz
  · rename_i z e
    exact ⟨x.1, y.1, z, Dn.mono pb.same _ pa.dn, pb.dn, e, hz _ _ (EPost.scal (fun i z => by cases z) (pa.same.trans pb.same) (fun _ => .bl _) rfl)⟩
  · exact hz.elim
theorem sT_cmp {a b : Expr} {ca cb : E} {op : CmpOp} {pos : Pos} (ha : PE X a (tE X.K g W xa ca)) (hb : PE X b (tE X.K g W xa cb)) (hm : behindInMarks op b = false) : PT X (.Compare a [op] [b] pos) (tT X.K g W xa (.cmp op ca cb)) := by
  refine PT.imp (pt_cmpR (op_cmp ev.room.units op) ha hb hm) fun σ H Q h => ?_
  obtain ⟨F, ps, τ, r, h⟩ := h
  unfold evT at h
  refine two r h fun x y v u H1 H2 pa pb r2 hz => ?_
  split at hz
  · rename_i z e
    exact ⟨x.1, y.1, z, Dn.mono pb.same _ pa.dn, pb.dn, e, z, rfl, hz _ (pa.same.trans pb.same)⟩
  · exact hz.elim
theorem sE_chain {a b d : Expr} {ca cb cd : E} {op op' : CmpOp} {pos : Pos} (ha : PE X a (tE X.K g W xa ca)) (hb : PE X b (tE X.K g W xa cb)) (hd : PE X d (tE X.K g W xa cd))
    (h2 : behindInMarks op' d = false) : PE X (.Compare a [op, op'] [b, d] pos) (tE X.K g W xa (.chain op op' ca cb cd)) := by
  refine PE.imp (pe_chain (op_cmp ev.room.units op) (op_cmp ev.room.units op') ha hb hd h2) fun σ H Q h => ?_
  obtain ⟨F, ps, τ, r, h⟩ := h
  unfold evE at h
  refine two r h fun x y v u H1 H2 pa pb r2 hz => ?_
  split at hz
  · rename_i e
    refine ⟨x.1, y.1, true, Dn.mono pb.same _ pa.dn, pb.dn, e, true, rfl, ?_⟩
    rw [if_pos rfl]
    have hz' : Sat ((evE g cd τ).bind fun z => match cmpD op' y.1 z.1 with | some r => R.ok (PyData.bool r, ([] : List Nat)) | none => .st) _ (XO W xa σ H2) := hz.imp (fun _ z => z) fun _ z => XO.mono z (pa.same.trans pb.same)
    refine one r2 hz' fun z w H3 pc r3 hz => ?_
    split at hz
    · rename_i q e'
      exact ⟨y.1, z.1, q, Dn.mono pc.same _ pb.dn, pc.dn, e', hz _ _ (EPost.scal (fun i z => by cases z) ((pa.same.trans pb.same).trans pc.same) (fun _ => .bl _) rfl)⟩
    · exact hz.elim
  · rename_i e
    refine ⟨x.1, y.1, false, Dn.mono pb.same _ pa.dn, pb.dn, e, false, rfl, ?_⟩
    rw [if_neg (by decide)]
    exact hz _ _ (EPost.scal (fun i z => by cases z) (pa.same.trans pb.same) (fun _ => .bl _) rfl)
  · exact hz.elim
theorem sT_chain {a b d : Expr} {ca cb cd : E} {op op' : CmpOp} {pos : Pos} (ha : PE X a (tE X.K g W xa ca)) (hb : PE X b (tE X.K g W xa cb)) (hd : PE X d (tE X.K g W xa cd))
    (h2 : behindInMarks op' d = false) : PT X (.Compare a [op, op'] [b, d] pos) (tT X.K g W xa (.chain op op' ca cb cd)) := by
  refine PT.imp (pt_chain (op_cmp ev.room.units op) (op_cmp ev.room.units op') ha hb hd h2) fun σ H Q h => ?_
  obtain ⟨F, ps, τ, r, h⟩ := h
  unfold evT at h
  refine two r h fun x y v u H1 H2 pa pb r2 hz => ?_
  split at hz
  · rename_i e
    refine ⟨x.1, y.1, true, Dn.mono pb.same _ pa.dn, pb.dn, e, true, rfl, ?_⟩
    rw [if_pos rfl]
    have hz' : Sat ((evE g cd τ).bind fun z => match cmpD op' y.1 z.1 with | some r => R.ok r | none => .st) _ (XO W xa σ H2) := hz.imp (fun _ z => z) fun _ z => XO.mono z (pa.same.trans pb.same)
    refine one r2 hz' fun z w H3 pc r3 hz => ?_
    split at hz
    · rename_i q e'
      exact ⟨y.1, z.1, q, Dn.mono pc.same _ pb.dn, pc.dn, e', q, rfl, hz _ ((pa.same.trans pb.same).trans pc.same)⟩
    · exact hz.elim
  · rename_i e
    refine ⟨x.1, y.1, false, Dn.mono pb.same _ pa.dn, pb.dn, e, false, rfl, ?_⟩
    rw [if_neg (by decide)]
    exact ⟨false, rfl, hz _ (pa.same.trans pb.same)⟩
  · exact hz.elim
omit ev in
/-- a test, then what stands behind it -/
theorem oneT {a : E} {F : Fx} {ps : Ps} {H : Hp} {σ : L2.St} {τ : Tau} {α : Type} {f : Bool → R α} {p : α → Prop} {Q : Bool → Hp → Prop} (r : Rel X.K F ps H σ τ)
    (h : Sat ((evT g a τ).bind f) p (XO W xa σ H)) (q : ∀ b H1, Same H H1 → Rel X.K F ps H1 σ τ → Sat (f b) p (XO W xa σ H) → Q b H1) : tT X.K g W xa a σ H Q :=
  ⟨F, ps, τ, r, (Sat.bind.mp h).imp (fun b hx H1 e => q b H1 e (r.mono e) hx) fun _ z => z⟩
omit ev in
/-- the same result at a later heap -/
theorem later {c : E} {F : Fx} {ps : Ps} {H H1 : Hp} {σ : L2.St} {τ : Tau} {cc : E} {Q : VK} (nv : ∀ i, cc ≠ .v i) (nf : cc.fresh = false) (e : Same H H1) (r : Rel X.K F ps H1 σ τ)
    (h : Sat (evE g c τ) (fun x => ∀ v H', EPost X.K F.P0 ps H H' cc x v → Q v H') (XO W xa σ H)) : tE X.K g W xa c σ H1 Q :=
  ⟨F, ps, τ, r, h.imp (fun x hx v H' p => hx v H' ⟨e.trans p.same, p.den, by rw [lkE_nv nv]; exact Dn.elcl wo_all p.den, fun z => by rw [nf] at z; cases z⟩) fun _ z => XO.mono z e⟩
omit ev in
theorem sE_and {a : Expr} {b : Expr} {rest : List Expr} {ca cb : E} {pos : Pos} (ha : PE X a (tE X.K g W xa ca)) (hb : PE X (.BoolOp .And (b :: rest) pos) (tE X.K g W xa cb)) : PE X (.BoolOp .And (a :: b :: rest) pos) (tE X.K g W xa (.and ca cb)) := by
  refine PE.imp (pe_and ha hb) fun σ H Q h => ?_
  obtain ⟨F, ps, τ, r, h⟩ := h
  unfold evE at h
  refine one r h fun x v H1 pa r1 hz => ?_
  have dv := pa.dn
  split at hz
  · rename_i e
    rw [e] at dv; cases dv
    refine ⟨true, rfl, ?_⟩
    rw [if_pos rfl]
    exact later (fun i z => by cases z) rfl pa.same r1 hz
  · rename_i e
    rw [e] at dv; cases dv
    refine ⟨false, rfl, ?_⟩
    rw [if_neg (by decide)]
    exact hz _ _ (EPost.scal (fun i z => by cases z) pa.same (fun _ => .bl _) rfl)
  · exact hz.elim
omit ev in
theorem sE_or {a : Expr} {b : Expr} {rest : List Expr} {ca cb : E} {pos : Pos} (ha : PE X a (tE X.K g W xa ca)) (hb : PE X (.BoolOp .Or (b :: rest) pos) (tE X.K g W xa cb)) : PE X (.BoolOp .Or (a :: b :: rest) pos) (tE X.K g W xa (.or ca cb)) := by
  refine PE.imp (pe_or ha hb) fun σ H Q h => ?_
  obtain ⟨F, ps, τ, r, h⟩ := h
  unfold evE at h
  refine one r h fun x v H1 pa r1 hz => ?_
  have dv := pa.dn
  split at hz
  · rename_i e
    rw [e] at dv; cases dv
    refine ⟨true, rfl, ?_⟩
    rw [if_pos rfl]
    exact hz _ _ (EPost.scal (fun i z => by cases z) pa.same (fun _ => .bl _) rfl)
  · rename_i e
    rw [e] at dv; cases dv
    refine ⟨false, rfl, ?_⟩
    rw [if_neg (by decide)]
    exact later (fun i z => by cases z) rfl pa.same r1 hz
  · exact hz.elim
omit ev in
theorem sE_not {a : Expr} {ca : E} {pos : Pos} (ha : PE X a (tE X.K g W xa ca)) : PE X (.UnaryOp .Not a pos) (tE X.K g W xa (.not ca)) := by
  refine PE.imp (pe_not ha) fun σ H Q h => ?_
  obtain ⟨F, ps, τ, r, h⟩ := h
  unfold evE at h
  refine one r h fun x v H1 pa r1 hz => ?_
  have dv := pa.dn
  split at hz
  · rename_i b e
    rw [e] at dv; cases dv
    exact ⟨b, rfl, hz _ _ (EPost.scal (fun i z => by cases z) pa.same (fun _ => .bl _) rfl)⟩
  · exact hz.elim
omit ev in
theorem sT_not {a : Expr} {ca : E} {pos : Pos} (ha : PT X a (tT X.K g W xa ca)) : PT X (.UnaryOp .Not a pos) (tT X.K g W xa (.not ca)) := by
  refine PT.imp (pt_not ha) fun σ H Q h => ?_
  obtain ⟨F, ps, τ, r, h⟩ := h
  unfold evT at h
  exact oneT r h fun b H1 e r1 hz => hz _ e
omit ev in
theorem laterT {c : E} {F : Fx} {ps : Ps} {H H1 : Hp} {σ : L2.St} {τ : Tau} {Q : Bool → Hp → Prop} (e : Same H H1) (r : Rel X.K F ps H1 σ τ)
    (h : Sat (evT g c τ) (fun b => ∀ H', Same H H' → Q b H') (XO W xa σ H)) : tT X.K g W xa c σ H1 Q :=
  ⟨F, ps, τ, r, h.imp (fun b hx H' q => hx H' (e.trans q)) fun _ z => XO.mono z e⟩
omit ev in
theorem sW_and {a : Expr} {b : Expr} {rest : List Expr} {ca cb : E} {pos : Pos} (ha : PT X a (tT X.K g W xa ca)) (hb : PW X (.BoolOp .And (b :: rest) pos) (tT X.K g W xa cb)) : PW X (.BoolOp .And (a :: b :: rest) pos) (tT X.K g W xa (.and ca cb)) := by
  have h0 := pw_and ha hb
  refine ⟨fun wh pins s σ H Q I h => h0.run wh pins s σ H Q I ?_⟩
  obtain ⟨F, ps, τ, r, h⟩ := h
  unfold evT at h
  refine oneT r h fun b H1 e r1 hz => ?_
  cases b with
  | true => rw [if_pos rfl]; exact laterT e r1 hz
  | false => rw [if_neg (by decide)]; exact hz _ e
omit ev in
theorem sW_or {a : Expr} {b : Expr} {rest : List Expr} {ca cb : E} {pos : Pos} (ha : PT X a (tT X.K g W xa ca)) (hb : PW X (.BoolOp .Or (b :: rest) pos) (tT X.K g W xa cb)) : PW X (.BoolOp .Or (a :: b :: rest) pos) (tT X.K g W xa (.or ca cb)) := by
  have h0 := pw_or ha hb
  refine ⟨fun wh pins s σ H Q I h => h0.run wh pins s σ H Q I ?_⟩
  obtain ⟨F, ps, τ, r, h⟩ := h
  unfold evT at h
  refine oneT r h fun b H1 e r1 hz => ?_
  cases b with
  | true => rw [if_pos rfl]; exact hz _ e
  | false => rw [if_neg (by decide)]; exact laterT e r1 hz
omit ev in
theorem sE_ite {t a b : Expr} {ct ca cb : E} {pos : Pos} (ht : PT X t (tT X.K g W xa ct)) (ha : PE X a (tE X.K g W xa ca)) (hb : PE X b (tE X.K g W xa cb)) : PE X (.IfExp t a b pos) (tE X.K g W xa (.ite ct ca cb)) := by
  refine PE.imp (pe_ifExp ht ha hb) fun σ H Q h => ?_
  obtain ⟨F, ps, τ, r, h⟩ := h
  unfold evE at h
  refine oneT r h fun q H1 e r1 hz => ?_
  cases q with
  | true => rw [if_pos rfl]; exact later (fun i z => by cases z) rfl e r1 hz
  | false => rw [if_neg (by decide)]; exact later (fun i z => by cases z) rfl e r1 hz
omit ev in
theorem star_step {e : Expr} (h : isStar e = false) (es : List Expr) (env : Env) : starEach (e :: es) env = (false, eval e env) :: starEach es env := by
  cases e <;> first | rfl | (simp [isStar] at h)
omit ev in
theorem star_all {pos : Pos} {env : Env} : ∀ {es : List Expr}, es.any isStar = false → (backTo pos (starEach es env)).any (·.1) = false
  | [], _ => rfl
  | e :: es, h => by
    simp only [List.any_cons, Bool.or_eq_false_iff] at h
    rw [star_step h.1]
    show (false || (backTo pos (starEach es env)).any (·.1)) = false
    rw [star_all h.2]; rfl
omit ev in
theorem sEs {f : Expr → E} : ∀ {es : List Expr}, (∀ e ∈ es, PE X e (tE X.K g W xa (f e))) → es.any isStar = false → PA X es (tA X.K g W xa (toEs (es.map f)))
  | [], _, _ => PA.imp pa_nil fun σ H Q h => by
    obtain ⟨F, ps, τ, r, h⟩ := h
    exact h [] H ⟨Same.refl _, .nil⟩
  | e :: es, h, hs => by
    simp only [List.any_cons, Bool.or_eq_false_iff] at hs
    refine PA.imp (pa_cons (h e (by simp)) (sEs (es := es) (fun e' q => h e' (List.mem_cons_of_mem _ q)) hs.2) (star_step hs.1 _ _)) fun σ H Q h => ?_
    obtain ⟨F, ps, τ, r, h⟩ := h
    have h : Sat ((evE g (f e) τ).bind fun x => (evEs g (toEs (es.map f)) τ).bind fun y => R.ok (x.1 :: y.1, x.2 ++ y.2)) _ _ := h
    refine one r h fun x v H1 pa r1 hz => ⟨F, ps, τ, r1, (Sat.bind.mp hz).imp (fun y hy vs H2 pb => ?_) fun _ z => XO.mono z pa.same⟩
    refine hy (v :: vs) H2 ⟨pa.same.trans pb.same, .cons ?_ (pb.den.sub (PP_dr fun i hi => List.mem_append_right _ hi))⟩
    exact Dn.mono (wo_same pb.same) _ (pa.den.sub (PP_dr fun i hi => List.mem_append_left _ hi))
omit ev in
theorem sE_tup {es : List Expr} {cs : Es} {n : Nat} {pos : Pos} (h : PA X es (tA X.K g W xa cs)) : PE X (.Tuple es n pos) (tE X.K g W xa (.tup cs)) := by
  refine PE.imp (pe_tup h) fun σ H Q h => ?_
  obtain ⟨F, ps, τ, r, h⟩ := h
  unfold evE at h
  refine ⟨F, ps, τ, r, (Sat.bind.mp h).imp (fun x hx vs H1 pa => ?_) fun _ z => z⟩
  split at hx
  · rename_i c
    refine ⟨by rw [pa.den.length]; exact c, fun p hp => ?_⟩
    have r1 := r.mono pa.same
    have np : ¬ PP F.P0 (dr x.2 ps) p := fun q => by
      obtain ⟨o, h3, _⟩ := r1.there (PP_dr0 p q)
      rw [hp] at h3; cases h3
    have den : Dn X.K (wo (PP F.P0 (dr x.2 ps)) (upd H1 p (.tup vs))) (.ref p) (.tuple x.1) := .tup (.inl (.inl (wo_some.mpr ⟨np, upd_same⟩))) (DnAll.mono (wo_same (same_upd hp)) _ pa.den)
    exact hx _ _ ⟨pa.same.trans (same_upd hp), den, Dn.elcl wo_all den, fun z => by cases z⟩
  · exact hx.elim
omit ev in
theorem sE_lst {es : List Expr} {cs : Es} {pos : Pos} (h : PA X es (tA X.K g W xa cs)) : PE X (.List es pos) (tE X.K g W xa (.lst cs)) := by
  refine PE.imp (pe_lst h) fun σ H Q h => ?_
  obtain ⟨F, ps, τ, r, h⟩ := h
  unfold evE at h
  refine ⟨F, ps, τ, r, (Sat.bind.mp h).imp (fun x hx vs H1 pa => ?_) fun _ z => z⟩
  split at hx
  · rename_i c
    refine ⟨by rw [pa.den.length]; exact c, fun p hp => ?_⟩
    have r1 := r.mono pa.same
    have := EPost.of_res (K := X.K) (P0 := F.P0) (ps := ps) (H := H) (c := .lst cs) (f := true) (L := x.2) (fun i z => by cases z) (fun _ => rfl) pa.same (same_upd hp) (fun a q => r.there q) (.lst hp pa.den)
    rw [lk_isC rfl] at this
    exact hx _ _ this
  · exact hx.elim
omit ev in
theorem sE_dct0 {pos : Pos} : PE X (.Dict [] [] pos) (tE X.K g W xa .dct0) := by
  refine PE.imp pe_dnewK fun σ H Q h => ?_
  obtain ⟨F, ps, τ, r, h⟩ := h
  intro p hp
  exact h _ _ (EPost.of_res (K := X.K) (P0 := F.P0) (ps := ps) (H := H) (c := .dct0) (f := true) (L := []) (fun i z => by cases z) (fun _ => rfl) (Same.refl _) (same_upd hp) (fun a q => r.there q) (.dct hp .nil))
theorem sE_sub {a b : Expr} {ca cb : E} {pos : Pos} (ha : PE X a (tE X.K g W xa ca)) (hb : PE X b (tE X.K g W xa cb)) (hs : PlainIx b) : PE X (.Subscript a b pos) (tE X.K g W xa (.sub ca cb)) := by
  refine PE.imp (pe_ix (ix_D (hu_of ev.room)) ha hb hs) fun σ H Q h => ?_
  obtain ⟨F, ps, τ, r, h⟩ := h
  unfold evE at h
  refine two r h fun x y v u H1 H2 pa pb r2 hz => ?_
  split at hz
  · rename_i z e
    refine ⟨_, x.1, y.1, z, wo_all, pa.el2 pb.same (fun i hi => hi), pb.dn, e, fun v' hv => hz _ _ ?_⟩
    exact EPost.of_res (f := false) (fun i z => by cases z) (fun z => by cases z) (pa.same.trans pb.same) (Same.refl _) (fun a q => r.there q) (.same (fun z => by cases z) hv)
  · exact hz.elim
theorem sT_sub {a b : Expr} {ca cb : E} {pos : Pos} (ha : PE X a (tE X.K g W xa ca)) (hb : PE X b (tE X.K g W xa cb)) (hs : PlainIx b) : PT X (.Subscript a b pos) (tT X.K g W xa (.sub ca cb)) := by
  refine PT.imp (pt_truthD (pe_ix (ix_D (hu_of ev.room)) ha hb hs) fun _ => rfl) fun σ H Q h => ?_
  obtain ⟨F, ps, τ, r, h⟩ := h
  unfold evT at h
  refine two r h fun x y v u H1 H2 pa pb r2 hz => ?_
  cases e : subD x.1 y.1 with
  | none => rw [e] at hz; exact hz.elim
  | some z =>
    rw [e] at hz
    cases e' : truD z with
    | none =>
      have hz : Sat (R.of (truD z)) _ _ := hz
      rw [e'] at hz; exact hz.elim
    | some q =>
      have hz : Sat (R.of (truD z)) _ _ := hz
      rw [e'] at hz
      exact ⟨_, x.1, y.1, z, wo_all, pa.el2 pb.same (fun i hi => hi), pb.dn, e, fun v' hv => ⟨z, q, hv.full, e', hz _ (pa.same.trans pb.same)⟩⟩
/-! ### dicts of the module -/
theorem gdName_ok {e : Expr} {i : Nat} (h : gdName c sc e = some i) : ∃ d kds, PE X e (tC (.ref d)) ∧ g.gd i = some kds ∧ GdAt X.K X.w d kds ∧ isSet e = false := by
  unfold gdName at h
  split at h
  · rename_i x pos
    split at h
    · rename_i hc
      simp only [Bool.and_eq_true] at hc
      obtain ⟨d, kds, h1, h2, h3⟩ := ev.gd i x h
      obtain ⟨o1, _, _⟩ := ok_names hc.1
      exact ⟨d, kds, pe_glob (ev.gl_of hc.2) h1 rfl o1, h2, h3, rfl⟩
    · cases h
  · cases h
omit ev in
theorem gin_rd {kds : List (Str × D)} {d : Addr} {x : D} {b : Bool} {v : V} {H : Hp} (G : GdAt X.K X.w d kds) (h : gdIn (some kds) x = some b) (hd : Dn X.K H v x) :
    ∃ (z : Str) (r : Option Value), v = .str z ∧ PySem.W.nsIn X.K d z = some r ∧ r.isSome = b := by
  unfold gdIn at h
  split at h
  · rename_i kds' z e
    cases e
    cases hd
    have q := G.get z
    have h := Option.some.inj h
    cases hg : gdGet z kds with
    | none => rw [hg] at q h; exact ⟨z, none, rfl, q, by rw [← h]; rfl⟩
    | some dd => rw [hg] at q h; obtain ⟨u, w, q1, _, _⟩ := q; exact ⟨z, some u, rfl, q1, by rw [← h]; rfl⟩
  · cases h
theorem sE_gin {a b : Expr} {ca : E} {i : Nat} {pos : Pos} (ha : PE X a (tE X.K g W xa ca)) (hb : gdName c sc b = some i) (hm : behindInMarks .In b = false) : PE X (.Compare a [.In] [b] pos) (tE X.K g W xa (.gin false i ca)) := by
  obtain ⟨d, kds, h1, h2, h3, _⟩ := gdName_ok ev hb
  obtain ⟨es, n, kd⟩ := h3.kd
  refine PE.imp (pe_cmpR (op_in_kd kd) ha h1 hm) fun σ H Q h => ?_
  obtain ⟨F, ps, τ, r, h⟩ := h
  unfold evE at h
  rw [h2] at h
  refine one r h fun x v H1 pa r1 hz => ?_
  split at hz
  · rename_i z e
    obtain ⟨s, r', e1, e2, e3⟩ := gin_rd h3 e pa.dn
    refine ⟨s, r', e1, rfl, e2, ?_⟩
    rw [e3]
    exact hz _ _ (EPost.scal (fun i z => by cases z) pa.same (fun _ => by rw [Bool.false_bne]; exact .bl _) rfl)
  · exact hz.elim
theorem sE_gnin {a b : Expr} {ca : E} {i : Nat} {pos : Pos} (ha : PE X a (tE X.K g W xa ca)) (hb : gdName c sc b = some i) (hm : behindInMarks .NotIn b = false) : PE X (.Compare a [.NotIn] [b] pos) (tE X.K g W xa (.gin true i ca)) := by
  obtain ⟨d, kds, h1, h2, h3, _⟩ := gdName_ok ev hb
  obtain ⟨es, n, kd⟩ := h3.kd
  refine PE.imp (pe_cmpR (op_notIn_kd kd) ha h1 hm) fun σ H Q h => ?_
  obtain ⟨F, ps, τ, r, h⟩ := h
  unfold evE at h
  rw [h2] at h
  refine one r h fun x v H1 pa r1 hz => ?_
  split at hz
  · rename_i z e
    obtain ⟨s, r', e1, e2, e3⟩ := gin_rd h3 e pa.dn
    refine ⟨s, r', e1, rfl, e2, ?_⟩
    rw [e3]
    exact hz _ _ (EPost.scal (fun i z => by cases z) pa.same (fun _ => by rw [Bool.true_bne]; exact .bl _) rfl)
  · exact hz.elim
theorem sT_gin {a b : Expr} {ca : E} {i : Nat} {pos : Pos} (ha : PE X a (tE X.K g W xa ca)) (hb : gdName c sc b = some i) (hm : behindInMarks .In b = false) : PT X (.Compare a [.In] [b] pos) (tT X.K g W xa (.gin false i ca)) := by
  obtain ⟨d, kds, h1, h2, h3, _⟩ := gdName_ok ev hb
  obtain ⟨es, n, kd⟩ := h3.kd
  refine PT.imp (pt_cmpR (op_in_kd kd) ha h1 hm) fun σ H Q h => ?_
  obtain ⟨F, ps, τ, r, h⟩ := h
  unfold evT at h
  rw [h2] at h
  refine one r h fun x v H1 pa r1 hz => ?_
  cases e : gdIn (some kds) x.1 with
  | none => rw [e] at hz; exact hz.elim
  | some z =>
    rw [e] at hz
    obtain ⟨s, r', e1, e2, e3⟩ := gin_rd h3 e pa.dn
    refine ⟨s, r', e1, rfl, e2, _, rfl, ?_⟩
    rw [e3]
    have := hz H1 pa.same
    rwa [Bool.false_bne] at this
theorem sT_gnin {a b : Expr} {ca : E} {i : Nat} {pos : Pos} (ha : PE X a (tE X.K g W xa ca)) (hb : gdName c sc b = some i) (hm : behindInMarks .NotIn b = false) : PT X (.Compare a [.NotIn] [b] pos) (tT X.K g W xa (.gin true i ca)) := by
  obtain ⟨d, kds, h1, h2, h3, _⟩ := gdName_ok ev hb
  obtain ⟨es, n, kd⟩ := h3.kd
  refine PT.imp (pt_cmpR (op_notIn_kd kd) ha h1 hm) fun σ H Q h => ?_
  obtain ⟨F, ps, τ, r, h⟩ := h
  unfold evT at h
  rw [h2] at h
  refine one r h fun x v H1 pa r1 hz => ?_
  cases e : gdIn (some kds) x.1 with
  | none => rw [e] at hz; exact hz.elim
  | some z =>
    rw [e] at hz
    obtain ⟨s, r', e1, e2, e3⟩ := gin_rd h3 e pa.dn
    refine ⟨s, r', e1, rfl, e2, _, rfl, ?_⟩
    rw [e3]
    have := hz H1 pa.same
    rwa [Bool.true_bne] at this
theorem sE_gix {a b : Expr} {cb : E} {i : Nat} {pos : Pos} (ha : gdName c sc a = some i) (hb : PE X b (tE X.K g W xa cb)) (hs : PlainIx b) : PE X (.Subscript a b pos) (tE X.K g W xa (.gix i cb)) := by
  obtain ⟨d, kds, h1, h2, h3, _⟩ := gdName_ok ev ha
  refine PE.imp (pe_ix ix_kdict h1 hb hs) fun σ H Q h => ?_
  obtain ⟨F, ps, τ, r, h⟩ := h
  unfold evE at h
  rw [h2] at h
  refine one r h fun x v H1 pa r1 hz => ?_
  split at hz
  · rename_i z e
    unfold gdIx at e
    split at e
    · rename_i kds' s e0 e1
      cases e0
      have hd := pa.dn
      rw [e1] at hd
      cases hd
      have q := h3.get s
      rw [e] at q
      obtain ⟨u, w, q1, q2, q3⟩ := q
      obtain ⟨es, n, l1, l2⟩ := h3.at_
      refine ⟨d, s, w, rfl, rfl, ⟨es, n, u, l1, l2.lit, q1, q2⟩, ?_⟩
      exact hz _ _ ⟨pa.same, q3 _, Dn.elcl wo_all (q3 _), fun z => by cases z⟩
    · cases e
  · exact hz.elim
/-! ### a written display -/
omit ev in
theorem kOf_ok {e : Expr} {d : D} (h : kOf e = some d) : ∃ v, PE X e (tC v) ∧ ∀ H, Dn X.K H v d := by
  unfold kOf at h
  split at h <;> cases h
  · exact ⟨_, pe_int, fun _ => .int _⟩
  · exact ⟨_, pe_bl, fun _ => .bl _⟩
  · exact ⟨_, pe_non, fun _ => .non⟩
  · exact ⟨_, pe_str, fun _ => .str _⟩
omit ev in
theorem putK_new {kvs : List (Key × V)} {k : Key} {v : V} (h : ∀ p ∈ kvs, p.1 ≠ k) : putK kvs k v = kvs ++ [(k, v)] := by
  unfold putK
  rw [if_neg]
  intro hc
  rw [List.any_eq_true] at hc
  obtain ⟨p, h1, h2⟩ := hc
  exact h p h1 (of_decide_eq_true h2)
omit ev in
theorem mergeK_new : ∀ {more kvs : List (Key × V)}, ((kvs ++ more).map (·.1)).Nodup → mergeK kvs more = kvs ++ more
  | [], kvs, _ => by unfold mergeK; simp
  | (k, v) :: more, kvs, h => by
    have e : kvs ++ (k, v) :: more = (kvs ++ [(k, v)]) ++ more := by simp
    have hk : ∀ p ∈ kvs, p.1 ≠ k := fun p hp q => by
      rw [List.map_append, List.nodup_append] at h
      exact h.2.2 p.1 (List.mem_map_of_mem hp) k (by simp) q
    show mergeK (putK kvs k v) more = _
    rw [putK_new hk, mergeK_new (by rw [← e]; exact h), e]
omit ev in
theorem kds_ok {pos : Pos} : ∀ {ks : List (Option Expr)} {vs : List Expr} {kds : List (Str × D)}, kdsOf ks vs = some kds → ∃ (trs : List (TE × TE)) (kvs : List (Key × V)), PPs X pos ks vs trs ∧
    (∀ σ H Q, Q (kvs.map fun kv => (kV kv.1, kv.2)) H → tPairs trs σ H Q) ∧ ks.all (·.isSome) = true ∧ ks.length = vs.length ∧ kvs.length = ks.length ∧ kvs.map (·.1) = kds.map (fun p => Sum.inr p.1) ∧ (kds.map (·.1)).Nodup ∧ ∀ H, DnKV X.K H kvs (kds.map fun p => (.str p.1, p.2))
  | [], [], _, h => by cases h; exact ⟨[], [], pps_nil, fun _ _ _ q => q, rfl, rfl, rfl, rfl, List.nodup_nil, fun _ => .nil⟩
  | k :: ks, v :: vs, kds, h => by
    unfold kdsOf at h
    split at h
    · rename_i x d r hx hd hr
      split at h
      · cases h
      · rename_i hn
        cases h
        obtain ⟨trs, kvs, q1, q2, q3, q4, q5, q6, q7, q8⟩ := kds_ok (pos := pos) hr
        obtain ⟨w, w1, w2⟩ := kOf_ok (X := X) hd
        unfold strOf at hx
        split at hx
        · cases hx
          refine ⟨(tC (.str x), tC w) :: trs, (.inr x, w) :: kvs, pps_cons pe_str w1 q1, fun σ H Q q => ?_, by simpa using q3, by simp [q4], by simp [q5], by simp [q6], ?_, fun H => .str (w2 H) (q8 H)⟩
          · exact q2 _ _ _ q
          · rw [List.map_cons, List.nodup_cons]
            refine ⟨fun z => hn ?_, q7⟩
            obtain ⟨p, z1, z2⟩ := List.mem_map.mp z
            rw [List.any_eq_true]
            exact ⟨p, z1, by simp [z2]⟩
        · cases hx
    · cases h
  | [], _ :: _, _, h => by cases h
  | _ :: _, [], _, h => by cases h
omit ev in
theorem sE_dctK {ks : List (Option Expr)} {vs : List Expr} {kds : List (Str × D)} {pos : Pos} (h : kdsOf ks vs = some kds) (hn : ks ≠ []) (h15 : ks.length ≤ 15) : PE X (.Dict ks vs pos) (tE X.K g W xa (.dctK kds)) := by
  obtain ⟨trs, kvs, q1, q2, q3, q4, q5, q6, q7, q8⟩ := kds_ok (X := X) (pos := pos) h
  refine PE.imp (pe_disp q1 q3 q4 hn h15) fun σ H Q h => ?_
  obtain ⟨F, ps, τ, r, h⟩ := h
  intro p hp
  refine q2 _ _ _ ⟨upd_same, kvs, rfl, by rw [q5]; exact h15, ?_⟩
  have e1 : mergeK [] kvs = kvs := mergeK_new (kvs := []) (by
    show (kvs.map (·.1)).Nodup
    rw [q6, show (kds.map fun p => (Sum.inr p.1 : Key)) = (kds.map (·.1)).map Sum.inr by rw [List.map_map]; rfl]
    exact q7.map _ fun a b hab z => hab (Sum.inr.inj z))
  have e2 : upd (upd H p (.dK [])) p (.dK kvs) = upd H p (.dK kvs) := by
    funext a
    unfold upd
    split <;> rfl
  rw [e1, e2]
  exact h _ _ (EPost.of_res (K := X.K) (P0 := F.P0) (ps := ps) (H := H) (c := .dctK kds) (f := true) (L := []) (fun i z => by cases z) (fun _ => rfl) (Same.refl _) (same_upd hp) (fun a q => r.there q) (.dct hp (q8 _)))
end
end Mp

/-! MiniPy, part G: calls, built-ins, slices, what is walked, targets. -/
namespace Mp
open PySem PySem.Spec PyProof.Rows L2
section
variable {X : Cx} {c : Cfg} {sc : Scope} {g : G} {k : Nat} {W : WX} {xa : XA} (ev : Envr X c sc g k W xa)
include ev
/-! ### slices -/
def tO (K : PySem.W.Frag) (g : G) (W : WX) (xa : XA) (o : O) : TO := fun σ H Q => ∃ F ps τ, Rel K F ps H σ τ ∧ Sat (evO g o τ) (fun l => ∀ H', Same H H' → Q l H') (XO W xa σ H)
omit ev in
theorem sO_no : PO X none (tO X.K g W xa .no) := ⟨fun pins s σ H Q I h => po_none.run pins s σ H Q I (by
  obtain ⟨F, ps, τ, r, h⟩ := h
  exact h H (Same.refl _))⟩
omit ev in
theorem sO_yes {e : Expr} {ce : E} (he : PE X e (tE X.K g W xa ce)) : PO X (some e) (tO X.K g W xa (.yes ce)) := ⟨fun pins s σ H Q I h => (po_some he).run pins s σ H Q I (by
  obtain ⟨F, ps, τ, r, h⟩ := h
  unfold evO at h
  refine one r h fun x v H1 pa r1 hz => ?_
  split at hz
  · rename_i i e
    have := pa.dn
    rw [e] at this; cases this
    exact ⟨i, rfl, hz _ pa.same⟩
  · exact hz.elim)⟩
omit ev in
theorem sE_sli {a : Expr} {lo hi : Option Expr} {ca : E} {cl ch : O} {p2 pos : Pos} (ha : PE X a (tE X.K g W xa ca)) (hl : PO X lo (tO X.K g W xa cl)) (hh : PO X hi (tO X.K g W xa ch)) :
    PE X (.Subscript a (.Slice lo hi none p2) pos) (tE X.K g W xa (.sli ca cl ch)) := by
  refine PE.imp (pe_slice sl_D ha hl hh) fun σ H Q h => ?_
  obtain ⟨F, ps, τ, r, h⟩ := h
  unfold evE at h
  refine one r h fun x v H1 pa r1 hz => ⟨F, ps, τ, r1, (Sat.bind.mp hz).imp (fun l hl H2 e2 => ⟨F, ps, τ, r1.mono e2, (Sat.bind.mp hl).imp (fun u hu H3 e3 => ?_) fun _ z => XO.mono z (pa.same.trans e2)⟩) fun _ z => XO.mono z pa.same⟩
  split at hu
  · rename_i z e
    exact ⟨_, x.1, z, wo_all, pa.el2 (e2.trans e3) (fun i hi => hi), e, fun v' H' rs => hu _ _ (EPost.of_res (fun i z => by cases z) (fun _ => rfl) ((pa.same.trans e2).trans e3) rs.same' (fun a q => r.there q) rs)⟩
  · exact hu.elim
omit ev in
theorem sE_rev {a : Expr} {ca : E} {j : Nat} {p1 p2 p3 pos : Pos} (ha : PE X a (tE X.K g W xa ca)) :
    PE X (.Subscript a (.Slice none none (some (.UnaryOp .USub (.Constant (.int 1) j p1) p2)) p3) pos) (tE X.K g W xa (.rev ca)) := by
  refine PE.imp (pe_revA ha) fun σ H Q h => ?_
  obtain ⟨F, ps, τ, r, h⟩ := h
  unfold evE at h
  refine one r h fun x v H1 pa r1 hz => ?_
  obtain ⟨d, L⟩ := x
  cases d with
  | list ds =>
    obtain ⟨b, vs, rfl, h1, h2⟩ := pa.el
    exact ⟨b, vs, rfl, .inl ⟨h1.sq, fun p hp => hz _ _ (EPost.of_res (fun i z => by cases z) (fun _ => rfl) pa.same (same_upd hp) (fun a q => r.there q) (.lst hp h2.reverse))⟩⟩
  | tuple ds =>
    obtain ⟨b, vs, rfl, h1, h2⟩ := dn_tup (show Dn X.K _ v (.tuple ds) from pa.el)
    exact ⟨b, vs, rfl, .inr ⟨Same.seqT wo_all h1, fun p hp => hz _ _ (EPost.of_res (f := true) (fun i z => by cases z) (fun _ => rfl) pa.same (same_upd hp) (fun a q => r.there q) (.tup hp h2.reverse))⟩⟩
  | _ => exact hz.elim
/-! ### calls -/
omit ev in
theorem mark_nil : ∀ (i : Nat) (ds : List D), mark [] i ds = ds.map fun d => some (false, d)
  | _, [] => rfl
  | i, d :: ds => by
    show some (([] : List Nat).contains i && isC d, d) :: mark [] (i + 1) ds = _
    rw [mark_nil (i + 1) ds]; rfl
omit ev in
theorem rel_args {fl : Bool} {K : PySem.W.Frag} {P : Addr → Prop} {H : Hp} {vs : List V} {ds : List D} (h : DnAll K (wo P H) vs ds) (hP : ∀ a, P a → ∃ o, H a = some o ∧ IsCo o) :
    Rel K ⟨H, fun a => ∃ i, (fun _ => none : Ps) i = some a, P, ioM [] fl, fun _ => none, fun a => H a = none⟩ (fun _ => none) H (vs.map some) (mark [] 0 ds) := by
  rw [mark_nil]
  have hpp : ∀ a, PP P (fun _ => none) a → P a := fun a z => z.elim (fun q => q) fun ⟨_, q⟩ => by cases q
  refine ⟨by simp [h.length], fun i d e => ?_, fun i d e => ?_, fun i p e => (by cases e), fun i j p e => (by cases e), fun i p e => (by cases e), fun a o e _ => e, fun i p e => (by cases e), hP, fun i p _ e => (by cases e), fun i p e => (by cases e), fun a h => h⟩
  · rw [List.getElem?_map] at e
    obtain ⟨_, _, e2⟩ := Option.map_eq_some_iff.mp e
    cases e2
  · rw [List.getElem?_map] at e
    obtain ⟨d', e1, e2⟩ := Option.map_eq_some_iff.mp e
    cases e2
    obtain ⟨v, h1, h2⟩ := h.get e1
    exact ⟨v, by rw [List.getElem?_map, h1]; rfl, h2.sub hpp⟩
omit ev in
/-- a call's promise, from its meaning, where it changes nothing -/
theorem spD_pureF {fl : Bool} {K : PySem.W.Frag} {cf : List D → R (D × List D)} {P : Addr → Prop} {H : Hp} {vs : List V} {ds : List D} {Q : VK} {E : XK} (h : DnAll K (wo P H) vs ds) (hP : ∀ a, P a → ∃ o, H a = some o ∧ IsCo o)
    (q : Sat (cf ds) (fun r => r.2 = [] → ∀ v H', Same H H' → Dn K (wo P H') v r.1 → (fl = true → isC r.1 = true → ∃ p, v = .ref p ∧ H p = none ∧ OwnAt K H' (fun a => a = p ∨ P a) p r.1) → Q v H') (fun x => ∀ cls dd H', Same H H' → xa x cls dd H' → E cls dd H')) : spD K cf [] fl xa vs H Q E := by
  refine ⟨_, _, ds, rel_args h hP, rfl, rfl, rfl, rfl, rfl, q.imp (fun r hr v H' p => ?_) fun x hx cls dd H' k => hx cls dd H' fun a o e => k a o e fun ⟨_, z⟩ => by cases z⟩
  refine hr ?_ v H' (fun a o e => p.keep a o e fun ⟨_, z⟩ => by cases z) (p.den.sub fun a z => .inl z) fun h1 h2 => ?_
  · have := p.len
    simpa using this
  · obtain ⟨a, e1, e2, e3⟩ := p.fr h1 h2
    exact ⟨a, e1, e2, e3.mono (fun _ z => z) (wo_sub fun b z => z.imp id fun z => .inl z)⟩
omit ev in
theorem spD_pure {fl : Bool} {K : PySem.W.Frag} {cf : List D → R (D × List D)} {P : Addr → Prop} {H : Hp} {vs : List V} {ds : List D} {Q : VK} {E : XK} (h : DnAll K (wo P H) vs ds) (hP : ∀ a, P a → ∃ o, H a = some o ∧ IsCo o)
    (q : Sat (cf ds) (fun r => r.2 = [] → ∀ v H', Same H H' → Dn K (wo P H') v r.1 → Q v H') (fun x => ∀ cls dd H', Same H H' → xa x cls dd H' → E cls dd H')) : spD K cf [] fl xa vs H Q E :=
  spD_pureF h hP (q.imp (fun r hr h0 v H' e d _ => hr h0 v H' e d) fun _ z => z)
theorem pe_call0S {CX : CXT} {sp : Sp} {E : L2.St → XK} {f : Addr} {fd : FuncData} {qs : List Str} {x : Str} {p pos : Pos} (F : FnOk X.prog X.w X.K X.mg X.base CX k f fd qs sp) (hr : Room k X.A) (hg : Gl X x) (hm : X.mg x = some (.ref f)) (hk : PySem.W.keepIn X.K (.ref f) = true) (hb : Binds X.K fd qs []) (hx : ∀ σ, PassesAt CX X σ (E σ))
    (hdb : (x == ("__debug__" : Str)) = false := by decide) : PE X (.Call (.Name x p) [] [] pos) (tCallS sp E tNil) := by
  refine ⟨fun pins s σ H Q I h => ?_⟩
  refine wpAny_Call_Name_kw (ld_glob I hg hm ?_ hdb)
  exact PySem.W.callWith_K0 I.kIn hk (run_fnS (us := []) F hr hb (hx σ) I .nil h)
/-- the reading of a call of the text's own, changing nothing -/
theorem call_rd {f : Nat} {cs : Es} (hio : g.io f = []) {F : Fx} {ps : Ps} {H : Hp} {σ : L2.St} {τ : Tau} (r : Rel X.K F ps H σ τ) {α : Type} {h : D × List D → List D × List Nat → R α} {p : α → Prop} {Q : VK}
    (hs : Sat ((evEs g cs τ).bind fun x => (g.cf f x.1).bind fun q => h q x) p (XO W xa σ H))
    (hq : ∀ q x v H', q.2 = [] → Same H H' → Dn X.K (wo (PP F.P0 (dr x.2 ps)) H') v q.1 → (g.fr f = true → isC q.1 = true → ∃ a, v = .ref a ∧ H a = none ∧ OwnAt X.K H' (fun b => b = a ∨ PP F.P0 (dr x.2 ps) b) a q.1) → Sat (h q x) p (XO W xa σ H) → Q v H') : tCallS (spD X.K (g.cf f) (g.io f) (g.fr f) xa) (WE W) (tA X.K g W xa cs) σ H Q := by
  refine ⟨F, ps, τ, r, (Sat.bind.mp hs).imp (fun x hx vs H1 pa => ?_) fun _ z => z⟩
  rw [hio]
  have r1 := r.mono pa.same
  refine spD_pureF pa.den (fun a z => r1.there (PP_dr0 a z)) ((Sat.bind.mp hx).imp (fun q hq' h0 v H' e den fr => ?_) fun x z cls dd H' e => z cls dd H' (pa.same.trans e))
  exact hq q x v H' h0 (pa.same.trans e) den (fun z1 z2 => let ⟨a, y1, y2, y3⟩ := fr z1 z2; ⟨a, y1, Same.none pa.same y2, y3⟩) hq'
theorem sE_call {x : Str} {args : List Expr} {f : Nat} {cs : Es} {p pos : Pos} (ho : okName x = true) (hg : isGl sc x = true) (hf : noOf x c.fns = some f) (hs : args.any isStar = false) (hn : args = [] → cs = .nil) (ha : PA X args (tA X.K g W xa cs)) :
    PE X (.Call (.Name x p) args [] pos) (tE X.K g W xa (.call f cs)) := by
  obtain ⟨a, fd, qs, h1, h2, h3, h4⟩ := ev.fn f x hf
  obtain ⟨o1, _, _⟩ := ok_names ho
  have main : PE X (.Call (.Name x p) args [] pos) (tCallS (spD X.K (g.cf f) (g.io f) (g.fr f) xa) (WE W) (tA X.K g W xa cs)) := by
    cases args with
    | nil =>
      obtain rfl := hn rfl
      refine PE.imp (pe_call0S ev h4 ev.room (ev.gl_of hg) h1 h2 h3 (fun σ => passAt ev.tk σ) o1) fun σ H Q h => ?_
      obtain ⟨F, ps, τ, r, h⟩ := h
      exact h [] H ⟨Same.refl _, .nil⟩
    | cons e es =>
      simp only [List.any_cons, Bool.or_eq_false_iff] at hs
      exact pe_callS h4 ev.room (ev.gl_of hg) h1 h2 h3 (fun σ => passAt ev.tk σ) ha o1 (star_step hs.1 _ _) (star_all hs.2)
  refine PE.imp main fun σ H Q h => ?_
  obtain ⟨F, ps, τ, r, h⟩ := h
  unfold evE at h
  split at h
  · rename_i hio
    refine call_rd ev hio r h fun q x v H' h0 e den _ hz => ?_
    rw [h0] at hz
    refine hz v H' ?_
    have den' := lk_dn (fun a z => let ⟨o, q1, q2⟩ := r.there z; ⟨o, e _ _ q1, q2⟩) den
    exact ⟨e, den', Dn.elcl wo_all den', fun z => by cases z⟩
  · exact h.elim
theorem sE_callMain {x : Str} {args : List Expr} {f : Nat} {cs : Es} {p pos : Pos} (ho : okName x = true) (hg : isGl sc x = true) (hf : noOf x c.fns = some f) (hs : args.any isStar = false) (hn : args = [] → cs = .nil) (ha : PA X args (tA X.K g W xa cs)) :
    PE X (.Call (.Name x p) args [] pos) (tCallS (spD X.K (g.cf f) (g.io f) (g.fr f) xa) (WE W) (tA X.K g W xa cs)) := by
  obtain ⟨a, fd, qs, h1, h2, h3, h4⟩ := ev.fn f x hf
  obtain ⟨o1, _, _⟩ := ok_names ho
  cases args with
  | nil =>
    obtain rfl := hn rfl
    refine PE.imp (pe_call0S ev h4 ev.room (ev.gl_of hg) h1 h2 h3 (fun σ => passAt ev.tk σ) o1) fun σ H Q h => ?_
    obtain ⟨F, ps, τ, r, h⟩ := h
    exact h [] H ⟨Same.refl _, .nil⟩
  | cons e es =>
    simp only [List.any_cons, Bool.or_eq_false_iff] at hs
    exact pe_callS h4 ev.room (ev.gl_of hg) h1 h2 h3 (fun σ => passAt ev.tk σ) ha o1 (star_step hs.1 _ _) (star_all hs.2)
theorem sT_call {x : Str} {args : List Expr} {f : Nat} {cs : Es} {p pos : Pos} (ho : okName x = true) (hg : isGl sc x = true) (hf : noOf x c.fns = some f) (hs : args.any isStar = false) (hn : args = [] → cs = .nil) (ha : PA X args (tA X.K g W xa cs)) :
    PT X (.Call (.Name x p) args [] pos) (tT X.K g W xa (.call f cs)) := by
  refine PT.imp (pt_truthD (sE_callMain ev ho hg hf hs hn ha) fun _ => rfl) fun σ H Q h => ?_
  obtain ⟨F, ps, τ, r, h⟩ := h
  unfold evT at h
  split at h
  · rename_i hio
    refine call_rd ev hio r h fun q x v H' h0 e den _ hz => ?_
    rw [h0] at hz
    cases e' : truD q.1 with
    | none =>
      have hz : Sat (R.of (truD q.1)) _ _ := hz
      rw [e'] at hz; exact hz.elim
    | some z =>
      have hz : Sat (R.of (truD q.1)) _ _ := hz
      rw [e'] at hz
      exact ⟨q.1, z, den.full, e', hz _ e⟩
  · exact h.elim
/-! ### names as tests -/
theorem sT_v {x : Str} {i : Nat} {pos : Pos} (ho : okName x = true) (hv : isVis sc x = true) (hi : ixOf x c.N = some i) : PT X (.Name x pos) (tT X.K g W xa (.v i)) := by
  refine PT.imp (pt_truthD (sE_v ev ho hv hi) fun _ => rfl) fun σ H Q h => ?_
  obtain ⟨F, ps, τ, r, h⟩ := h
  refine ⟨F, ps, τ, r, ?_⟩
  unfold evT at h
  unfold evE
  split
  · rename_i o d e
    rw [e] at h
    have h : Sat (R.of (truD d)) _ _ := h
    cases e' : truD d with
    | none => rw [e'] at h; exact h.elim
    | some z =>
      rw [e'] at h
      exact fun v H' pa => ⟨d, z, pa.dn, e', h _ pa.same⟩
  · rename_i hn
    split at h
    · rename_i o d e; exact (hn _ _ e).elim
    · exact h.elim
/-! ### built-ins -/
omit ev in
theorem boot1 {x : Str} {f : Bi} (h : biOf1 x = some f) : bootBuiltins x = some f.val ∧ x ≠ "__name__" ∧ (x == ("__debug__" : Str)) = false ∧ f ≠ .bitlen := by
  unfold biOf1 at h
  by_cases h1 : x = "len"
  · rw [if_pos h1] at h; cases h; subst h1; exact ⟨by decide +kernel, by decide, by decide, by decide⟩
  rw [if_neg h1] at h
  by_cases h1 : x = "int"
  · rw [if_pos h1] at h; cases h; subst h1; exact ⟨by decide +kernel, by decide, by decide, by decide⟩
  rw [if_neg h1] at h
  by_cases h1 : x = "abs"
  · rw [if_pos h1] at h; cases h; subst h1; exact ⟨by decide +kernel, by decide, by decide, by decide⟩
  rw [if_neg h1] at h
  by_cases h1 : x = "max"
  · rw [if_pos h1] at h; cases h; subst h1; exact ⟨by decide +kernel, by decide, by decide, by decide⟩
  rw [if_neg h1] at h
  by_cases h1 : x = "min"
  · rw [if_pos h1] at h; cases h; subst h1; exact ⟨by decide +kernel, by decide, by decide, by decide⟩
  rw [if_neg h1] at h
  by_cases h1 : x = "tuple"
  · rw [if_pos h1] at h; cases h; subst h1; exact ⟨by decide +kernel, by decide, by decide, by decide⟩
  rw [if_neg h1] at h
  by_cases h1 : x = "list"
  · rw [if_pos h1] at h; cases h; subst h1; exact ⟨by decide +kernel, by decide, by decide, by decide⟩
  rw [if_neg h1] at h
  by_cases h1 : x = "sum"
  · rw [if_pos h1] at h; cases h; subst h1; exact ⟨by decide +kernel, by decide, by decide, by decide⟩
  rw [if_neg h1] at h
  by_cases h1 : x = "any"
  · rw [if_pos h1] at h; cases h; subst h1; exact ⟨by decide +kernel, by decide, by decide, by decide⟩
  rw [if_neg h1] at h
  by_cases h1 : x = "all"
  · rw [if_pos h1] at h; cases h; subst h1; exact ⟨by decide +kernel, by decide, by decide, by decide⟩
  rw [if_neg h1] at h
  by_cases h1 : x = "str"
  · rw [if_pos h1] at h; cases h; subst h1; exact ⟨by decide +kernel, by decide, by decide, by decide⟩
  rw [if_neg h1] at h
  cases h
omit ev in
theorem boot2 {x : Str} {f : Bi} (h : biOf2 x = some f) : bootBuiltins x = some f.val ∧ x ≠ "__name__" ∧ (x == ("__debug__" : Str)) = false ∧ f ≠ .bitlen := by
  unfold biOf2 at h
  by_cases h1 : x = "max"
  · rw [if_pos h1] at h; cases h; subst h1; exact ⟨by decide +kernel, by decide, by decide, by decide⟩
  rw [if_neg h1] at h
  by_cases h1 : x = "min"
  · rw [if_pos h1] at h; cases h; subst h1; exact ⟨by decide +kernel, by decide, by decide, by decide⟩
  rw [if_neg h1] at h
  cases h
/-- any built-in's call -/
theorem pe_bi {x : Str} {f : Bi} {e : Expr} {es : List Expr} {t : TA} {p pos : Pos} (hv : bootBuiltins x = some f.val) (hb : f ≠ .bitlen) (hn : x ≠ "__name__") (hd : (x == ("__debug__" : Str)) = false) (hg : isGl sc x = true) (hm : c.bis.contains x = true)
    (hs : (e :: es).any isStar = false) (ha : PA X (e :: es) t) : PE X (.Call (.Name x p) (e :: es) [] pos) (tCB (rBi X.K f) t) := by
  simp only [List.any_cons, Bool.or_eq_false_iff] at hs
  have hc := call_bi (X := X) ev.calm hb
  cases f with
  | bitlen => exact absurd rfl hb
  | len => exact pe_callB hc (ev.gl_of hg) (ev.bi x hm) hv ha hn hd (star_step hs.1 _ _) (star_all hs.2)
  | abs => exact pe_callB hc (ev.gl_of hg) (ev.bi x hm) hv ha hn hd (star_step hs.1 _ _) (star_all hs.2)
  | max => exact pe_callB hc (ev.gl_of hg) (ev.bi x hm) hv ha hn hd (star_step hs.1 _ _) (star_all hs.2)
  | min => exact pe_callB hc (ev.gl_of hg) (ev.bi x hm) hv ha hn hd (star_step hs.1 _ _) (star_all hs.2)
  | sum => exact pe_callB hc (ev.gl_of hg) (ev.bi x hm) hv ha hn hd (star_step hs.1 _ _) (star_all hs.2)
  | any => exact pe_callB hc (ev.gl_of hg) (ev.bi x hm) hv ha hn hd (star_step hs.1 _ _) (star_all hs.2)
  | all => exact pe_callB hc (ev.gl_of hg) (ev.bi x hm) hv ha hn hd (star_step hs.1 _ _) (star_all hs.2)
  | sorted => exact pe_callB hc (ev.gl_of hg) (ev.bi x hm) hv ha hn hd (star_step hs.1 _ _) (star_all hs.2)
  | int => exact pe_callTy hc (ev.gl_of hg) (ev.bi x hm) hv ha hn hd (star_step hs.1 _ _) (star_all hs.2)
  | tuple => exact pe_callTy hc (ev.gl_of hg) (ev.bi x hm) hv ha hn hd (star_step hs.1 _ _) (star_all hs.2)
  | list => exact pe_callTy hc (ev.gl_of hg) (ev.bi x hm) hv ha hn hd (star_step hs.1 _ _) (star_all hs.2)
  | str => exact pe_callTy hc (ev.gl_of hg) (ev.bi x hm) hv ha hn hd (star_step hs.1 _ _) (star_all hs.2)
  | bool => exact pe_callTy hc (ev.gl_of hg) (ev.bi x hm) hv ha hn hd (star_step hs.1 _ _) (star_all hs.2)
omit ev in
theorem fresh_bi {f : Bi} {es : Es} (h : (E.bi f es).fresh = true) : (f == Bi.list) = true := by
  cases f <;> first | rfl | (simp [E.fresh] at h)
/-- one argument -/
theorem bi1_rd {f : Bi} {ca : E} {F : Fx} {ps : Ps} {H : Hp} {σ : L2.St} {τ : Tau} {α : Type} {h : D × List Nat → D → R α} {p : α → Prop} {Q : VK} (r : Rel X.K F ps H σ τ)
    (hs : Sat ((evE g ca τ).bind fun x => (R.of (biD f [x.1])).bind (h x)) p (XO W xa σ H))
    (hq : ∀ x z v H', Same H H' → EPost X.K F.P0 ps H H' (.bi f (.cons ca .nil)) (z, lk z (lkE ca x.2)) v → Sat (h x z) p (XO W xa σ H) → Q v H') : tCB (rBi X.K f) (tCons (tE X.K g W xa ca) tNil) σ H Q := by
  refine one r hs fun x v H1 pa r1 hz => ?_
  cases e : biD f [x.1] with
  | none => rw [e] at hz; exact hz.elim
  | some z =>
    rw [e] at hz
    refine ⟨wo (PP F.P0 (dr (lkE ca x.2) ps)) H1, [x.1], z, wo_all, rfl, fun i w d h1 h2 => ?_, e, fun v' H' rs => ?_⟩
    · cases i with
      | zero => cases h1; cases h2; exact pa.el
      | succ i => simp at h1
    · exact hq x z v' H' (pa.same.trans rs.same') (EPost.of_res (fun i z => by cases z) fresh_bi pa.same rs.same' (fun a q => r.there q) rs) hz
theorem sE_bi1 {x : Str} {f : Bi} {a : Expr} {ca : E} {p pos : Pos} (hf : biOf1 x = some f) (hg : isGl sc x = true) (hm : c.bis.contains x = true) (hs : [a].any isStar = false) (ha : PE X a (tE X.K g W xa ca)) :
    PE X (.Call (.Name x p) [a] [] pos) (tE X.K g W xa (.bi f (.cons ca .nil))) := by
  obtain ⟨b1, b2, b3, b4⟩ := boot1 hf
  have hs0 := hs
  simp only [List.any_cons, Bool.or_eq_false_iff] at hs
  refine PE.imp (pe_bi ev b1 b4 b2 b3 hg hm hs0 (pa_cons ha pa_nil (star_step hs.1 _ _))) fun σ H Q h => ?_
  obtain ⟨F, ps, τ, r, h⟩ := h
  unfold evE at h
  have h' : Sat ((evE g ca τ).bind fun x => (R.of (biD f [x.1])).bind fun z => R.ok (z, lk z (lkE ca x.2))) (fun x => ∀ v H', EPost X.K F.P0 ps H H' (.bi f (.cons ca .nil)) x v → Q v H') (XO W xa σ H) := by
    simp only [evEs] at h
    rw [Sat.bind] at h ⊢
    rw [Sat.bind] at h
    refine h.imp (fun x hx => ?_) fun _ z => z
    simp only [R.bind_ok] at hx
    have hx : Sat (match biD f [x.1] with | some z => R.ok (z, lk z (lkE ca (x.2 ++ []))) | none => R.st) _ _ := hx
    rw [List.append_nil] at hx
    cases e : biD f [x.1] with
    | none => rw [e] at hx; exact hx
    | some z => rw [e] at hx; exact hx
  exact bi1_rd ev r h' fun x z v H' e pp hz => hz v H' pp
theorem sT_bi1 {x : Str} {f : Bi} {a : Expr} {ca : E} {p pos : Pos} (hf : biOf1 x = some f) (hg : isGl sc x = true) (hm : c.bis.contains x = true) (hs : [a].any isStar = false) (ha : PE X a (tE X.K g W xa ca)) :
    PT X (.Call (.Name x p) [a] [] pos) (tT X.K g W xa (.bi f (.cons ca .nil))) := by
  obtain ⟨b1, b2, b3, b4⟩ := boot1 hf
  have hs0 := hs
  simp only [List.any_cons, Bool.or_eq_false_iff] at hs
  refine PT.imp (pt_truthD (pe_bi ev b1 b4 b2 b3 hg hm hs0 (pa_cons ha pa_nil (star_step hs.1 _ _))) fun _ => rfl) fun σ H Q h => ?_
  obtain ⟨F, ps, τ, r, h⟩ := h
  unfold evT at h
  have h' : Sat ((evE g ca τ).bind fun x => (R.of (biD f [x.1])).bind fun z => R.of (truD z)) (fun b => ∀ H', Same H H' → Q b H') (XO W xa σ H) := by
    simp only [evEs] at h
    rw [Sat.bind] at h ⊢
    rw [Sat.bind] at h
    refine h.imp (fun x hx => ?_) fun _ z => z
    simp only [R.bind_ok] at hx
    exact hx
  refine bi1_rd ev r h' fun x z v H' e pp hz => ?_
  cases e' : truD z with
  | none => rw [e'] at hz; exact hz.elim
  | some q => rw [e'] at hz; exact ⟨z, q, pp.dn, e', hz _ e⟩
theorem sE_bi2 {x : Str} {f : Bi} {a b : Expr} {ca cb : E} {p pos : Pos} (hf : biOf2 x = some f) (hg : isGl sc x = true) (hm : c.bis.contains x = true) (hs : [a, b].any isStar = false) (ha : PE X a (tE X.K g W xa ca)) (hb : PE X b (tE X.K g W xa cb)) :
    PE X (.Call (.Name x p) [a, b] [] pos) (tE X.K g W xa (.bi f (.cons ca (.cons cb .nil)))) := by
  obtain ⟨b1, b2, b3, b4⟩ := boot2 hf
  have hs0 := hs
  simp only [List.any_cons, Bool.or_eq_false_iff] at hs
  refine PE.imp (pe_bi ev b1 b4 b2 b3 hg hm hs0 (pa_cons ha (pa_cons hb pa_nil (star_step hs.2.1 _ _)) (star_step hs.1 _ _))) fun σ H Q h => ?_
  obtain ⟨F, ps, τ, r, h⟩ := h
  unfold evE at h
  have h' : Sat ((evE g ca τ).bind fun x => (evE g cb τ).bind fun y => (R.of (biD f [x.1, y.1])).bind fun z => R.ok (z, lk z (x.2 ++ y.2))) (fun x => ∀ v H', EPost X.K F.P0 ps H H' (.bi f (.cons ca (.cons cb .nil))) x v → Q v H') (XO W xa σ H) := by
    simp only [evEs] at h
    rw [Sat.bind] at h ⊢
    rw [Sat.bind] at h
    refine h.imp (fun x hx => ?_) fun _ z => z
    rw [Sat.bind] at hx ⊢
    rw [Sat.bind] at hx
    refine hx.imp (fun y hy => ?_) fun _ z => z
    have hy : Sat (match biD f [x.1, y.1] with | some z => R.ok (z, lk z (x.2 ++ (y.2 ++ []))) | none => R.st) _ _ := hy
    rw [List.append_nil] at hy
    cases e : biD f [x.1, y.1] with
    | none => rw [e] at hy; exact hy
    | some z => rw [e] at hy; exact hy
  refine two r h' fun x y v u H1 H2 pa pb r2 hz => ?_
  cases e : biD f [x.1, y.1] with
  | none => rw [e] at hz; exact hz.elim
  | some z =>
    rw [e] at hz
    refine ⟨wo (PP F.P0 (dr (x.2 ++ y.2) ps)) H2, [x.1, y.1], z, wo_all, rfl, fun i w d h1 h2 => ?_, e, fun v' H' rs => ?_⟩
    · cases i with
      | zero => cases h1; cases h2; exact pa.el2 pb.same fun i hi => List.mem_append_left _ (lkE_sub i hi)
      | succ i =>
        cases i with
        | zero => cases h1; cases h2; exact pb.el2 (Same.refl _) fun i hi => List.mem_append_right _ (lkE_sub i hi)
        | succ i => simp at h1
    · exact hz v' H' (EPost.of_res (fun i z => by cases z) fresh_bi (pa.same.trans pb.same) rs.same' (fun a q => r.there q) rs)
/-! ### isinstance, tuple(reversed(..)), bit_length -/
omit ev in
theorem tyName_ok {t : Str} {n : String} (h : tyName t = some n) : bootBuiltins t = some (.type n) ∧ t ≠ "__name__" ∧ (t == ("__debug__" : Str)) = false := by
  unfold tyName at h
  by_cases h1 : t = "int"
  · rw [if_pos h1] at h; cases h; subst h1; exact ⟨by decide +kernel, by decide, by decide⟩
  rw [if_neg h1] at h
  by_cases h1 : t = "bool"
  · rw [if_pos h1] at h; cases h; subst h1; exact ⟨by decide +kernel, by decide, by decide⟩
  rw [if_neg h1] at h
  by_cases h1 : t = "str"
  · rw [if_pos h1] at h; cases h; subst h1; exact ⟨by decide +kernel, by decide, by decide⟩
  rw [if_neg h1] at h
  by_cases h1 : t = "tuple"
  · rw [if_pos h1] at h; cases h; subst h1; exact ⟨by decide +kernel, by decide, by decide⟩
  rw [if_neg h1] at h
  by_cases h1 : t = "list"
  · rw [if_pos h1] at h; cases h; subst h1; exact ⟨by decide +kernel, by decide, by decide⟩
  rw [if_neg h1] at h
  by_cases h1 : t = "dict"
  · rw [if_pos h1] at h; cases h; subst h1; exact ⟨by decide +kernel, by decide, by decide⟩
  rw [if_neg h1] at h
  cases h
theorem pe_isiD {t : Str} {n : String} {a : Expr} {ca : E} {p p2 pos : Pos} (hx : c.bis.contains "isinstance" = true) (hgx : isGl sc "isinstance" = true) (ht : tyName t = some n) (hg : isGl sc t = true) (hm : c.bis.contains t = true) (hs : isStar a = false) (ha : PE X a (tE X.K g W xa ca)) :
    PE X (.Call (.Name "isinstance" p) [a, .Name t p2] [] pos) (tCB (rIsiD X.K n) (tCons (tE X.K g W xa ca) (tCons (tC (.ty n)) tNil))) := by
  obtain ⟨b1, b2, b3⟩ := tyName_ok ht
  exact pe_callB call_isiD (ev.gl_of hgx) (ev.bi _ hx) (by decide +kernel) (pa_cons ha (pa_cons (pe_bltn (ev.gl_of hg) (ev.bi t hm) b1 rfl b2 b3) pa_nil rfl) (star_step hs _ _)) (by decide) (by decide) (star_step hs _ _) rfl
theorem sE_isi {t : Str} {n : String} {a : Expr} {ca : E} {p p2 pos : Pos} (hx : c.bis.contains "isinstance" = true) (hgx : isGl sc "isinstance" = true) (ht : tyName t = some n) (hg : isGl sc t = true) (hm : c.bis.contains t = true) (hs : isStar a = false) (ha : PE X a (tE X.K g W xa ca)) :
    PE X (.Call (.Name "isinstance" p) [a, .Name t p2] [] pos) (tE X.K g W xa (.isi ca [.b n])) := by
  refine PE.imp (pe_isiD ev hx hgx ht hg hm hs ha) fun σ H Q h => ?_
  obtain ⟨F, ps, τ, r, h⟩ := h
  unfold evE at h
  refine one r h fun x v H1 pa r1 hz => ?_
  split at hz
  · rename_i b e
    exact ⟨v, x.1, b, rfl, pa.dn, e, hz _ _ (EPost.scal (fun i z => by cases z) pa.same (fun _ => .bl _) rfl)⟩
  · exact hz.elim
theorem sT_isi {t : Str} {n : String} {a : Expr} {ca : E} {p p2 pos : Pos} (hx : c.bis.contains "isinstance" = true) (hgx : isGl sc "isinstance" = true) (ht : tyName t = some n) (hg : isGl sc t = true) (hm : c.bis.contains t = true) (hs : isStar a = false) (ha : PE X a (tE X.K g W xa ca)) :
    PT X (.Call (.Name "isinstance" p) [a, .Name t p2] [] pos) (tT X.K g W xa (.isi ca [.b n])) := by
  refine PT.imp (pt_val (pe_isiD ev hx hgx ht hg hm hs ha) fun _ => rfl) fun σ H Q h => ?_
  obtain ⟨F, ps, τ, r, h⟩ := h
  unfold evT at h
  refine one r h fun x v H1 pa r1 hz => ?_
  cases e : isiD x.1 [.b n] with
  | none => rw [e] at hz; exact hz.elim
  | some b =>
    rw [e] at hz
    exact ⟨v, x.1, b, rfl, pa.dn, e, b, rfl, hz _ pa.same⟩
omit ev in
theorem noLs_append (as bs : List D) : noLs (as ++ bs) = (noLs as && noLs bs) := by
  induction as with
  | nil => rfl
  | cons a as ih => show (noL a && noLs (as ++ bs)) = ((noL a && noLs as) && noLs bs); rw [ih, Bool.and_assoc]
omit ev in
theorem noLs_reverse (ds : List D) : noLs ds.reverse = noLs ds := by
  induction ds with
  | nil => rfl
  | cons a as ih => rw [List.reverse_cons, noLs_append, ih]; show (noLs as && (noL a && true)) = (noL a && noLs as); rw [Bool.and_true, Bool.and_comm]
theorem sE_trev {a : Expr} {ca : E} {p p2 pos pos2 : Pos} (h1 : c.bis.contains "tuple" = true) (hg1 : isGl sc "tuple" = true) (h2 : c.bis.contains "reversed" = true) (hg2 : isGl sc "reversed" = true) (hs : isStar a = false) (ha : PE X a (tE X.K g W xa ca)) :
    PE X (.Call (.Name "tuple" p) [.Call (.Name "reversed" p2) [a] [] pos2] [] pos) (tE X.K g W xa (.trev ca)) := by
  refine PE.imp (RT.pe_tupRev ev.calm (ev.gl_of hg1) (ev.bi _ h1) (ev.gl_of hg2) (ev.bi _ h2) ha (star_step hs _ _) rfl) fun σ H Q h => ?_
  obtain ⟨F, ps, τ, r, h⟩ := h
  unfold evE at h
  refine one r h fun x v H1 pa r1 hz => ?_
  obtain ⟨d, L⟩ := x
  cases d with
  | list ds =>
    obtain ⟨b, vs, rfl, h1, h2⟩ := pa.el
    refine ⟨b, vs, rfl, h1.sq, fun p hp => hz _ _ ?_⟩
    have e : lk (PyData.tuple ds) (lkE ca L) = lk (PyData.tuple ds.reverse) (lkE ca L) := by
      have := noLs_reverse ds
      cases hL : lkE ca L with
      | nil => rfl
      | cons i M => rw [lk_cons, lk_cons]; show (if noLs ds then _ else _) = (if noLs ds.reverse then _ else _); rw [this]
    rw [e]
    exact EPost.of_res (f := true) (fun i z => by cases z) (fun _ => rfl) pa.same (same_upd hp) (fun a q => r.there q) (.tup hp h2.reverse)
  | _ => exact hz.elim
omit ev in
theorem noSuper_base {o : Expr} {m : Str} {env : Env} (h : noSuper o = true) : attributeBase o m env (eval o env) = eval o env := by
  unfold attributeBase
  split
  · rename_i id p pos; simp [noSuper] at h
  · rfl
omit ev in
theorem sE_bits {a : Expr} {ca : E} {apos pos : Pos} (hn : noSuper a = true) (hl : (apos.endLine == pos.line) = true) (ha : PE X a (tE X.K g W xa ca)) :
    PE X (.Call (.Attribute a "bit_length" apos) [] [] pos) (tE X.K g W xa (.bi .bitlen (.cons ca .nil))) := by
  refine PE.imp (pe_bits ha (noSuper_base hn) hl) fun σ H Q h => ?_
  obtain ⟨F, ps, τ, r, h⟩ := h
  unfold evE at h
  simp only [evEs] at h
  rw [Sat.bind] at h
  refine one r h fun x v H1 pa r1 hz => ?_
  simp only [R.bind_ok] at hz
  have hz : Sat (match biD .bitlen [x.1] with | some z => R.ok (z, lk z (lkE ca (x.2 ++ []))) | none => R.st) _ _ := hz
  obtain ⟨d, L⟩ := x
  cases d with
  | int i =>
    have := pa.dn
    cases this
    have hz : Sat (R.ok (PyData.int (Builtin.Int.intBits i : Nat), lk (PyData.int (Builtin.Int.intBits i : Nat)) (lkE ca (L ++ [])))) _ _ := hz
    rw [lk_flat rfl] at hz
    exact ⟨i, rfl, hz _ _ (EPost.scal (fun i z => by cases z) pa.same (fun _ => .int _) rfl)⟩
  | _ => exact hz.elim
end
end Mp

/-! MiniPy, part Z: zip and enumerate over lists, tuples and texts alike. -/
namespace Mp
open PySem PySem.Spec PyProof.Rows L2

/-- what is walked: a list, a tuple, a text -/
inductive Kd where
  | L (a : Addr) | T (a : Addr) | S (z : Str) (t : Tok)
def Kd.v : Kd → Value
  | .L a => .ref a
  | .T a => .ref a
  | .S z t => .str z t
def chars (z : Str) : List V := z.cps.toList.map fun c => .str ⟨#[c]⟩
def Kd.rd (K : PySem.W.Frag) (H : Hp) : Kd → List V → Prop
  | .L a, xs => SqL K H a xs
  | .T a, xs => SqT K H a xs
  | .S z _, xs => xs = chars z
def Kd.obj : Kd → Obj
  | .L a => { cls := .type "list_iterator", data := .fields #[.ref a, .int 0 0] }
  | .T a => { cls := .type "tuple_iterator", data := .fields #[.ref a, .int 0 0] }
  | .S z t => { cls := .type (strIterType z), data := .fields #[.str z t, .int 0 0] }
def Kd.at_ (h : Heap) (it : Addr) (i : Nat) : Kd → Prop
  | .L a => h.IsListIter it a i
  | .T a => h.IsTupleIter it a i
  | .S z t => h.IsStrIter it (strIterType z) z t i
def Kd.base : Kd → List Addr
  | .L a => [a]
  | .T a => [a]
  | .S _ _ => []
theorem Kd.at_obj {k : Kd} {h : Heap} {it : Addr} {i : Nat} (st : k.at_ h it i) : ∃ o, h.get? it = some o ∧ ∀ v, o.data ≠ .cell v := by
  cases k <;> (obtain ⟨o, e, _, d⟩ := st; exact ⟨o, e, fun v q => by rw [d] at q; cases q⟩)
theorem Kd.at_keep {k : Kd} {h h' : Heap} {it : Addr} {i : Nat} (st : k.at_ h it i) (e : ∀ o, h.get? it = some o → h'.get? it = some o) : k.at_ h' it i := by
  cases k <;> (obtain ⟨o, e1, r⟩ := st; exact ⟨o, e o e1, r⟩)
theorem Kd.at_new {k : Kd} {h : Heap} {it : Addr} (e : h.get? it = some k.obj) : k.at_ h it 0 := by
  cases k <;> exact ⟨_, e, rfl, rfl⟩
theorem char_get {z : Str} {i c : Nat} (h : z.cps[i]? = some c) : (chars z)[i]? = some (.str ⟨#[c]⟩) := by
  unfold chars
  rw [List.getElem?_map, Array.getElem?_toList, h]; rfl
theorem vals_get : ∀ {xs : List V} {us : List Value} {i : Nat} {u : Value}, Vals xs us → us[i]? = some u → ∃ x, xs[i]? = some x ∧ RelV x u
  | _, _, _, _, .nil, e => by simp at e
  | _, _, 0, _, .cons r _, e => by simp at e; subst e; exact ⟨_, rfl, r⟩
  | _, _, i + 1, _, .cons _ rr, e => by
    have := vals_get (i := i) rr (by simpa using e)
    simpa using this
/-- what is drawn now -/
theorem Kd.draws {X : Cx} {pins : List (Addr × Obj)} {σ : L2.St} {H : Hp} {s : Shared} {k : Kd} {it : Addr} {i : Nat} {xs : List V} (hc : X.calm = true) (I : Inv X pins σ H s) (hr : k.rd X.K H xs) (st : k.at_ s.heap it i) (hne : it ∉ k.base) :
    ∃ (fp : List Addr) (P : Nat → Value → Prop) (St : Nat → Heap → Prop), Draws X.prog X.w X.A.in1 it fp xs.length P St ∧ St i s.heap ∧ (∀ j v, P j v → ∃ x, xs[j]? = some x ∧ RelV x v) ∧ (∀ j h, St j h → k.at_ h it j) ∧ fp = it :: k.base := by
  have hh : X.A.in1.handled = none := I.ok.hd hc
  cases k with
  | L a =>
    obtain ⟨its, rv, p, _⟩ := I.list hr
    have hl : its.toArray.size = xs.length := by rw [List.size_toArray, rv.length]
    refine ⟨_, _, _, hl ▸ Draws.list hh it a (fun z => hne (by simp [Kd.base, z])) its.toArray, ⟨st, p.isList⟩, fun j v hv => ?_, fun j h q => q.1, rfl⟩
    have hv : its[j]? = some v := by simpa using hv
    exact vals_get rv hv
  | T a =>
    obtain ⟨its, rv, p, _⟩ := I.tuple hr
    have hl : its.toArray.size = xs.length := by rw [List.size_toArray, rv.length]
    refine ⟨_, _, _, hl ▸ Draws.tuple hh it a (fun z => hne (by simp [Kd.base, z])) its.toArray, ⟨st, p⟩, fun j v hv => ?_, fun j h q => q.1, rfl⟩
    have hv : its[j]? = some v := by simpa using hv
    exact vals_get rv hv
  | S z t =>
    have hr : xs = chars z := hr
    have hl : z.cps.size = xs.length := by rw [hr]; simp [chars]
    refine ⟨_, _, _, hl ▸ Draws.text hh it z t, st, fun j v hv => ?_, fun j h q => q, rfl⟩
    obtain ⟨c, u, h1, rfl⟩ := hv
    exact ⟨.str ⟨#[c]⟩, by rw [hr]; exact char_get h1, u, rfl⟩
theorem Kd.begins {X : Cx} {pins : List (Addr × Obj)} {σ : L2.St} {H : Hp} {s : Shared} {k : Kd} {xs : List V} (I : Inv X pins σ H s) (hr : k.rd X.K H xs) : ∃ HH : Heap → Prop, Begins k.v k.obj HH ∧ HH s.heap ∧ ∀ b ∈ k.base, b < s.heap.objs.size := by
  cases k with
  | L a =>
    obtain ⟨its, rv, p, _⟩ := I.list hr
    exact ⟨_, begins_list a its.toArray, p.isList, fun b hb => by simp [Kd.base] at hb; rw [hb]; exact p.lt⟩
  | T a =>
    obtain ⟨its, rv, p, _⟩ := I.tuple hr
    obtain ⟨o, ho, _⟩ := id p
    exact ⟨_, begins_tuple a its.toArray, p, fun b hb => by simp [Kd.base] at hb; rw [hb]; exact Heap.lt_size ho⟩
  | S z t => exact ⟨_, begins_text z t, trivial, fun b hb => by simp [Kd.base] at hb⟩
theorem Kd.inj {X : Cx} {pins : List (Addr × Obj)} {σ : L2.St} {H : Hp} {s : Shared} {k : Kd} {xs ys : List V} (I : Inv X pins σ H s) (h1 : k.rd X.K H xs) (h2 : k.rd X.K H ys) : xs = ys := by
  cases k with
  | L a => exact I.list_inj h1 h2
  | T a => exact I.tuple_inj h1 h2
  | S z t => exact (show xs = chars z from h1).trans (show ys = chars z from h2).symm
/-- zip of two, the items in new pairs -/
def ItG (K : PySem.W.Frag) (k1 k2 : Kd) : It :=
  ⟨fun i H => ∃ (xs ys : List V) (x y : V), k1.rd K H xs ∧ k2.rd K H ys ∧ xs[i]? = some x ∧ ys[i]? = some y,
    fun i H v H' => ∃ T x y, v = .ref T ∧ H T = none ∧ H' = upd H T (.tup [x, y]) ∧ (∀ xs, k1.rd K H xs → xs[i]? = some x) ∧ ∀ ys, k2.rd K H ys → ys[i]? = some y,
    fun i H => ∃ xs ys : List V, k1.rd K H xs ∧ k2.rd K H ys ∧ i ≤ xs.length ∧ i ≤ ys.length ∧ (i = xs.length ∨ i = ys.length)⟩
theorem turn_zipG {P : Program} {w : World} {K : PySem.W.Frag} {elts : List Expr} {kk : Nat} {tpos : Pos} {k1 k2 : Kd} {z TI TO i1 i2 : Addr} (D : ZipSep2 z TI TO i1 i2 (i1 :: k1.base) (i2 :: k2.base)) (n1 : i1 ∉ k1.base) (n2 : i2 ∉ k2.base) :
    Turn P w K (.Tuple elts kk tpos) (ItG K k1 k2) [z, TI, TO, i1, i2] z (fun i h => IsZip h z TI TO .none ∧ IsTupOf2 h TI (.ref i1) (.ref i2) ∧ (∃ x y, IsTupOf2 h TO x y) ∧ k1.at_ h i1 i ∧ k2.at_ h i2 i) where
  mem := by simp
  obj := fun i h st c hc => by
    obtain ⟨hz, hTI, ⟨x, y, hTO⟩, h1, h2⟩ := st
    have e' : c = z ∨ c = TI ∨ c = TO ∨ c = i1 ∨ c = i2 := by simpa using hc
    rcases e' with q | q | q | q | q
    · rw [q]; exact ⟨_, hz, fun v q => nomatch q⟩
    · rw [q]; exact ⟨_, hTI, fun v q => nomatch q⟩
    · rw [q]; exact ⟨_, hTO, fun v q => nomatch q⟩
    · rw [q]; exact Kd.at_obj h1
    · rw [q]; exact Kd.at_obj h2
  keep := fun i h h' st k => by
    obtain ⟨hz, hTI, ⟨x, y, hTO⟩, h1, h2⟩ := st
    exact ⟨k z (by simp) _ hz, k TI (by simp) _ hTI, ⟨x, y, k TO (by simp) _ hTO⟩, Kd.at_keep h1 fun o q => k i1 (by simp) o q, Kd.at_keep h2 fun o q => k i2 (by simp) o q⟩
  item := by
    intro X hP hw hK hc i pins s σ H E I hf st hg
    subst hP hw hK
    obtain ⟨hz, hTI, ⟨x0, y0, hTO⟩, h1, h2⟩ := st
    obtain ⟨xs, ys, x, y, hqx, hqy, hx, hy⟩ := hg
    obtain ⟨fp1, P1, S1, D1, st1, r1, b1, rfl⟩ := Kd.draws hc I hqx h1 n1
    obtain ⟨fp2, P2, S2, D2, st2, r2, b2, rfl⟩ := Kd.draws hc I hqy h2 n2
    have hzl : z < s.heap.objs.size := Heap.lt_size hz
    refine wpAny_pyNext_zipD2_item D D1 D2 hz hTI hTO st1 st2 (List.getElem?_eq_some_iff.mp hx).1 (List.getElem?_eq_some_iff.mp hy).1 fun u u2 h' tk p1 p2 z' TO' h1' h2' hT hsz hk => ?_
    refine ⟨_, rfl, wpAny_letOwnedTupleGo_zip (s := { s with heap := h', toks := tk }) z' fun h'' z'' sb => ?_⟩
    obtain ⟨x', q1, ru⟩ := r1 _ _ p1
    obtain ⟨y', q2, ru2⟩ := r2 _ _ p2
    have hT2 : h''.get? s.heap.objs.size = some { cls := .type "tuple", data := .seq #[u, u2] } := (sb.2 _ (Nat.ne_of_gt hzl)).trans hT
    have new : ObjOk X.prog X.w (upd H s.heap.objs.size (.tup [x', y'])) h'' s.heap.objs.size (.tup [x', y']) :=
      ⟨by show 2 ≤ sizeLine; decide, [u, u2], .cons ru (.cons ru2 .nil), ⟨_, hT2, rfl, _, rfl⟩⟩
    have I1 : Inv X pins σ (upd H s.heap.objs.size (.tup [x', y'])) { s with heap := h'', toks := tk } :=
      I.turnedNew (t' := tk) (ch := [z, TI, TO, i1, i2]) (fun c o hb q => (sb.2 c (fun q' => hb (by simp [q']))).trans (hk c o (fun q' => hb (by simp [q'])) (fun q' => hb (by simp [q'])) (fun q' => hb (by simp [q'])) (fun q' => hb (by simp [q'])) q)) hf (Nat.le_refl _) new
    refine ⟨.ref s.heap.objs.size, _, I1, rfl, ⟨_, x', y', rfl, I.hok.fresh (Nat.le_refl _), rfl, fun l hl => by rw [Kd.inj I hl hqx]; exact q1, fun l hl => by rw [Kd.inj I hl hqy]; exact q2⟩, ⟨z'', ?_, ⟨u, u2, ?_⟩, ?_, ?_⟩, fun c hcm => ?_⟩
    · exact (sb.2 _ D.TIz).trans (hk _ _ D.TIz D.TITO D.TIi1 D.TIi2 hTI)
    · exact (sb.2 _ D.TOz).trans TO'
    · exact Kd.at_keep (b1 _ _ h1') fun o q => (sb.2 _ (Ne.symm D.zi1)).trans q
    · exact Kd.at_keep (b2 _ _ h2') fun o q => (sb.2 _ (Ne.symm D.zi2)).trans q
    · have hlt : c < s.heap.objs.size := by
        have e' : c = z ∨ c = TI ∨ c = TO ∨ c = i1 ∨ c = i2 := by simpa using hcm
        rcases e' with q | q | q | q | q
        · rw [q]; exact hzl
        · rw [q]; exact Heap.lt_size hTI
        · rw [q]; exact Heap.lt_size hTO
        · rw [q]; obtain ⟨_, e1, _⟩ := Kd.at_obj h1; exact Heap.lt_size e1
        · rw [q]; obtain ⟨_, e2, _⟩ := Kd.at_obj h2; exact Heap.lt_size e2
      rw [upd_ne (Nat.ne_of_lt hlt)]
      exact (hf c hcm).1
  done := by
    intro X hP hw hK hc i pins s σ H E I hf st hg
    subst hP hw hK
    obtain ⟨hz, hTI, ⟨x0, y0, hTO⟩, h1, h2⟩ := st
    obtain ⟨xs, ys, hqx, hqy, l1, l2, hend⟩ := hg
    obtain ⟨fp1, P1, S1, D1, st1, r1, b1, rfl⟩ := Kd.draws hc I hqx h1 n1
    obtain ⟨fp2, P2, S2, D2, st2, r2, b2, rfl⟩ := Kd.draws hc I hqy h2 n2
    exact wpAny_pyNext_zipD2_end D D1 D2 hz hTI hTO st1 st2 l1 l2 hend fun h' tk hk => ⟨rfl, I.turnedL (t' := tk) (ch := [z, TI, TO, i1, i2]) (fun c o hb q =>
      hk c o (fun q' => hb (by simp [q'])) (fun q' => hb (by simp [q'])) (fun q' => hb (by simp [q'])) (fun q' => hb (by simp [q'])) q) hf⟩
  self := fun A i s Q E st h => wpAny_pyIter_zip st.1 h
/-- the kind of a value that is walked -/
def KdOf (K : PySem.W.Frag) (H : Hp) (v : V) (k : Kd) : Prop := RelV v k.v ∧ ∃ xs, k.rd K H xs
def iZipG (K : PySem.W.Frag) (ta : TA) : TI := fun σ H R => ta σ H fun vs H1 => ∃ v1 v2, vs = [v1, v2] ∧
  ∀ u1 u2, RelV v1 u1 → RelV v2 u2 → ∃ k1 k2 xs ys, k1.v = u1 ∧ k2.v = u2 ∧ k1.rd K H1 xs ∧ k2.rd K H1 ys ∧ R (ItG K k1 k2) H1
theorem pi_zipG {X : Cx} {e e2 : Expr} {ta : TA} {p pos tpos : Pos} {elts : List Expr} {kk : Nat} (hg : Gl X "zip") (hm : X.mg "zip" = none) (ha : PA X [e, e2] ta)
    (hs : starEach [e, e2] X.env = (false, eval e X.env) :: starEach [e2] X.env := by rfl) (hpl : (backTo pos (starEach [e2] X.env)).any (·.1) = false := by rfl) :
    PI X (.Tuple elts kk tpos) (.Call (.Name "zip" p) [e, e2] [] pos) (iZipG X.K ta) := by
  refine ⟨fun pins s σ H R I h => ?_⟩
  refine Call_ (ld_blt I hg hm PyProof.Rows.boot_zip (PyProof.Rows.callWith_type1 (thn (ha.run pos pins s σ H _ I h) fun us s1 ⟨vs, H1, I1, r1, q1⟩ => ?_) hs hpl))
  obtain ⟨v1, v2, ex, q1⟩ := q1
  subst ex
  cases r1 with
  | cons r rr =>
    cases rr with
    | cons r' rr =>
      cases rr
      obtain ⟨k1, k2, xs, ys, rfl, rfl, hqx, hqy, q⟩ := q1 _ _ r r'
      obtain ⟨HH1, B1, g1, lt1⟩ := Kd.begins I1 hqx
      obtain ⟨HH2, B2, g2, lt2⟩ := Kd.begins I1 hqy
      refine zip_begins2 B1 B2 g1 g2 fun h' hz hTI hTO h1 h2 hsz hk => wpAny_pyIter_zip hz ?_
      have I2 : Inv X pins σ H1 { s1 with heap := h' } := I1.kept (t' := s1.toks) hk
      refine ⟨s1.heap.objs.size + 4, [s1.heap.objs.size + 4, s1.heap.objs.size + 2, s1.heap.objs.size + 3, s1.heap.objs.size, s1.heap.objs.size + 1], _, _, H1, rfl, I2,
        turn_zipG (zip_sep2 lt1 lt2) (fun z => Nat.lt_irrefl _ (lt1 _ z)) (fun z => absurd (lt2 _ z) (Nat.not_lt.mpr (Nat.le_succ _))), ⟨hz, hTI, ⟨_, _, hTO⟩, Kd.at_new h1, Kd.at_new h2⟩, fun c hcm => ?_, q⟩
      have e' : c = s1.heap.objs.size + 4 ∨ c = s1.heap.objs.size + 2 ∨ c = s1.heap.objs.size + 3 ∨ c = s1.heap.objs.size ∨ c = s1.heap.objs.size + 1 := by simpa using hcm
      have hle : s1.heap.objs.size ≤ c := by
        rcases e' with z | z | z | z | z
        · rw [z]; exact Nat.le_add_right _ _
        · rw [z]; exact Nat.le_add_right _ _
        · rw [z]; exact Nat.le_add_right _ _
        · rw [z]; exact Nat.le_refl _
        · rw [z]; exact Nat.le_add_right _ _
      exact I1.fpOk hle (I1.hok.fresh hle)
/-! ### enumerate -/
def ItE (K : PySem.W.Frag) (k : Kd) : It :=
  ⟨fun i H => ∃ (xs : List V) (x : V), k.rd K H xs ∧ xs[i]? = some x, fun i H v H' => ∃ T x, v = .ref T ∧ H T = none ∧ H' = upd H T (.tup [.int (i : Nat), x]) ∧ ∀ xs, k.rd K H xs → xs[i]? = some x, fun i H => ∃ xs : List V, k.rd K H xs ∧ i = xs.length⟩
theorem turn_enumG {P : Program} {w : World} {K : PySem.W.Frag} {elts : List Expr} {kk : Nat} {tpos : Pos} {k : Kd} (e it : Addr) (hb : it ∉ k.base) (hb2 : e ∉ k.base) :
    Turn P w K (.Tuple elts kk tpos) (ItE K k) [e, it] e (fun i h => (∃ old, IsEnum h e it ((i : Nat) : Int) old) ∧ k.at_ h it i ∧ e ≠ it) where
  mem := by simp
  obj := fun i h st b hb => by
    obtain ⟨⟨old, he⟩, hi, _⟩ := st
    have e' : b = e ∨ b = it := by simpa using hb
    rcases e' with z | z
    · rw [z]; exact ⟨_, he, fun v q => nomatch q⟩
    · rw [z]; exact Kd.at_obj hi
  keep := fun i h h' st k => let ⟨⟨old, he⟩, hi, hne⟩ := st; ⟨⟨old, k e (by simp) _ he⟩, Kd.at_keep hi fun o q => k it (by simp) o q, hne⟩
  item := by
    intro X hP hw hK hc i pins s σ H E I hf st hg
    subst hP hw hK
    obtain ⟨⟨old, he⟩, hit, hne⟩ := st
    obtain ⟨xs, x, hq, hx⟩ := hg
    obtain ⟨fp, P1, S1, D1, st1, r1, b1, rfl⟩ := Kd.draws hc I hq hit hb
    have hel : e < s.heap.objs.size := Heap.lt_size he
    have hil : it < s.heap.objs.size := by obtain ⟨_, q, _⟩ := Kd.at_obj hit; exact Heap.lt_size q
    refine wpAny_pyNext_enum_itemD D1 he st1 (List.getElem?_eq_some_iff.mp hx).1 hne (fun z => by rcases List.mem_cons.mp z with z | z; exact hne z; exact hb2 z) fun u h' tk p1 ho hit' hT hsz hk => ?_
    obtain ⟨x', q1, ru⟩ := r1 _ _ p1
    refine ⟨_, rfl, wpAny_letOwnedTupleGo_enum (s := { s with heap := h', toks := tk + 1 }) ho fun h'' he' sb => ?_⟩
    have hT2 : h''.get? s.heap.objs.size = some { cls := .type "tuple", data := .seq #[.int i tk, u] } := (sb.2 _ (Nat.ne_of_gt hel)).trans hT
    have new : ObjOk X.prog X.w (upd H s.heap.objs.size (.tup [.int (i : Nat), x'])) h'' s.heap.objs.size (.tup [.int (i : Nat), x']) :=
      ⟨by show 2 ≤ sizeLine; decide, [.int i tk, u], .cons ⟨_, rfl⟩ (.cons ru .nil), ⟨_, hT2, rfl, _, rfl⟩⟩
    have I1 : Inv X pins σ (upd H s.heap.objs.size (.tup [.int (i : Nat), x'])) { s with heap := h'', toks := tk + 1 } :=
      I.turnedNew (ch := [e, it]) (fun b ob hb q => (sb.2 b (fun z => hb (by simp [z]))).trans (hk b ob (fun z => hb (by simp [z])) (fun z => hb (by simp [z])) q)) hf (Nat.le_refl _) new
    refine ⟨.ref s.heap.objs.size, _, I1, rfl, ⟨_, x', rfl, I.hok.fresh (Nat.le_refl _), rfl, fun ys hy => by rw [Kd.inj I hy hq]; exact q1⟩, ⟨⟨u, ?_⟩, Kd.at_keep (b1 _ _ hit') fun o q => (sb.2 it (Ne.symm hne)).trans q, hne⟩, fun b hb => ?_⟩
    · have e1 : ((i + 1 : Nat) : Int) = (i : Int) + 1 := by omega
      rw [e1]; exact he'
    · have hb' : b < s.heap.objs.size := by
        have e' : b = e ∨ b = it := by simpa using hb
        rcases e' with z | z
        · rw [z]; exact hel
        · rw [z]; exact hil
      rw [upd_ne (Nat.ne_of_lt hb')]
      exact (hf b hb).1
  done := by
    intro X hP hw hK hc i pins s σ H E I hf st hg
    subst hP hw hK
    obtain ⟨⟨old, he⟩, hit, hne⟩ := st
    obtain ⟨xs, hq, hx⟩ := hg
    obtain ⟨fp, P1, S1, D1, st1, r1, b1, rfl⟩ := Kd.draws hc I hq hit hb
    obtain ⟨f0, f1, f2, f3, f4, f5⟩ := hf it (by simp)
    subst hx
    exact wpAny_pyNext_enum_endD D1 he st1 fun h' eb => ⟨rfl, I.turned (t' := s.toks) (fun b o hb q => eb b o hb q) f0 f1 f3 f4 f5⟩
  self := fun A i s Q E st h => let ⟨⟨_, he⟩, _⟩ := st; wpAny_pyIter_enum he h
set_option maxHeartbeats 1000000 in
theorem meets_enum1 {v : Value} {o : Obj} {H : Heap → Prop} (B : Begins v o H) :
    Meets (Builtin.«enumerate.__new__» ⟨[.type "enumerate", v], []⟩) (fun _ R s => H s.heap ∧
      R (.ok (.ret (.ref (s.heap.push o).objs.size))) { s with heap := (s.heap.push o).push { cls := .type "enumerate", data := .fields #[.none, .bool false, .ref s.heap.objs.size, rawInt 0, .none, .none] } }) :=
  .of_wp fun prog w A R s h => by
    obtain ⟨hp, g, d, tk, os⟩ := s; obtain ⟨h1, h⟩ := h
    have hsub := sub_enumerate
    have q1 : ∀ {A' : Around} {E : Value → Shared → Prop} {Q : Value → Shared → Prop}, Q (.ref hp.objs.size) ⟨hp.push o, g, d, tk, os⟩ → wpAny (model prog w) A' (pyIter v) Q E ⟨hp, g, d, tk, os⟩ :=
      fun q => B.iter prog w _ _ ⟨hp, g, d, tk, os⟩ _ h1 q
    wp_walk using q1
    refine wpAny_stack_any fun st => wpAny_pure ?_
    split
    · rename_i c _ _ _ _ _
      cases (c == Value.type "enumerate")
      · wp_walk using q1
        exact ⟨_, rfl, h⟩
      · wp_walk using q1
        exact ⟨_, rfl, h⟩
    · wp_walk using q1
      exact ⟨_, rfl, h⟩
theorem enum_begins1 {prog : Program} {w : World} {A : Around} {E : Value → Shared → Prop} {s : Shared} {v : Value} {o : Obj} {H : Heap → Prop} {Q : Value → Shared → Prop} (B : Begins v o H) (h1 : H s.heap)
    (h : ∀ h', IsEnum h' (s.heap.objs.size + 1) s.heap.objs.size 0 .none → h'.get? s.heap.objs.size = some o → h'.objs.size = s.heap.objs.size + 2 →
      (∀ b o, s.heap.get? b = some o → h'.get? b = some o) → Q (.ref (s.heap.objs.size + 1)) { s with heap := h' }) :
    wpAny (model prog w) A (call (.type "enumerate") [v]) Q E s := by
  refine callType_new F.called_enumerate (by decide) (F.typeCall_enumerate_1 _) (F.newCall_enumerate_1 _) (fun obj => F.args_object_init_2 obj _) F.entry_enumerate_new
    (meets_enum1 B) ⟨h1, ?_⟩
  have hz : (s.heap.push o).objs.size = s.heap.objs.size + 1 := Heap.size_push ..
  show _ ∧ _
  rw [hz]
  have he : IsEnum ((s.heap.push o).push { cls := .type "enumerate", data := .fields #[.none, .bool false, .ref s.heap.objs.size, rawInt 0, .none, .none] }) (s.heap.objs.size + 1) s.heap.objs.size 0 .none := by
    have := Heap.get?_push_size (s.heap.push o) (o := { cls := .type "enumerate", data := .fields #[.none, .bool false, .ref s.heap.objs.size, rawInt 0, .none, .none] }) rfl
    rw [hz] at this; exact this
  refine ⟨⟨_, he, rfl⟩, h _ he (Heap.get?_push_of_some _ (Heap.get?_push_size _ B.free)) (by rw [Heap.size_push, hz]) fun b o x => Heap.get?_push_of_some _ (Heap.get?_push_of_some _ x)⟩
def iEnumG (K : PySem.W.Frag) (ta : TA) : TI := fun σ H R => ta σ H fun vs H1 => ∃ v1, vs = [v1] ∧ ∀ u1, RelV v1 u1 → ∃ k xs, k.v = u1 ∧ Kd.rd K H1 k xs ∧ R (ItE K k) H1
theorem pi_enumG {X : Cx} {e : Expr} {ta : TA} {p pos tpos : Pos} {elts : List Expr} {kk : Nat} (hg : Gl X "enumerate") (hm : X.mg "enumerate" = none) (ha : PA X [e] ta) (hs : starEach [e] X.env = [(false, eval e X.env)] := by rfl) :
    PI X (.Tuple elts kk tpos) (.Call (.Name "enumerate" p) [e] [] pos) (iEnumG X.K ta) := by
  refine ⟨fun pins s σ H R I h => ?_⟩
  refine Call_ (ld_blt I hg hm boot_enumerate (PyProof.Rows.callWith_type1 (thn (ha.run pos pins s σ H _ I h) fun us s1 ⟨vs, H1, I1, r1, q1⟩ => ?_) hs rfl))
  obtain ⟨v1, ex, q1⟩ := q1
  subst ex
  cases r1 with
  | cons r rr =>
    cases rr
    obtain ⟨k, xs, rfl, hq, q⟩ := q1 _ r
    obtain ⟨HH1, B1, g1, lt1⟩ := Kd.begins I1 hq
    refine enum_begins1 B1 g1 fun h' he hit hsz hk => wpAny_pyIter_enum he ?_
    have I2 : Inv X pins σ H1 { s1 with heap := h' } := I1.kept (t' := s1.toks) hk
    refine ⟨s1.heap.objs.size + 1, [s1.heap.objs.size + 1, s1.heap.objs.size], _, _, H1, rfl, I2, turn_enumG (s1.heap.objs.size + 1) s1.heap.objs.size (fun z => Nat.lt_irrefl _ (lt1 _ z)) (fun z => absurd (lt1 _ z) (Nat.not_lt.mpr (Nat.le_succ _))), ⟨⟨.none, he⟩, Kd.at_new hit, Nat.succ_ne_self _⟩, fun b hb => ?_, q⟩
    have e' : b = s1.heap.objs.size + 1 ∨ b = s1.heap.objs.size := by simpa using hb
    have hle : s1.heap.objs.size ≤ b := by
      rcases e' with z | z
      · rw [z]; exact Nat.le_add_right _ _
      · rw [z]; exact Nat.le_refl _
    exact I1.fpOk hle (I1.hok.fresh hle)
end Mp

/-! MiniPy, part H: what is walked, targets, comprehensions. -/
namespace Mp
open PySem PySem.Spec PyProof.Rows L2
/-! ### what is walked -/
/-- an iterator's turns: C holds what it walks, G its items -/
structure ItOk (K : PySem.W.Frag) (J : It) (ds : List D) (C G : Hp) : Prop where
  go : ∀ i H, Same C H → i < ds.length → J.go i H
  stop : ∀ i H, Same C H → i = ds.length → J.stop i H
  yld : ∀ i H x H' d (P : Addr → Prop), Same C H → Same G (wo P H) → (∀ a, P a → ∃ o, H a = some o) → J.yld i H x H' → ds[i]? = some d → Same H H' ∧ Dn K (wo P H') x d
section
variable {K : PySem.W.Frag} {C G C' G' : Hp} {ds : List D} {J : It}
theorem ItOk.mono (h : ItOk K J ds C G) (e : Same C C') (e' : Same G G') : ItOk K J ds C' G' :=
  ⟨fun i H q => h.go i H (e.trans q), fun i H q => h.stop i H (e.trans q), fun i H x H' d P q1 q2 => h.yld i H x H' d P (e.trans q1) (e'.trans q2)⟩
theorem get_lt {α : Type} {l : List α} {i : Nat} (h : i < l.length) : ∃ x, l[i]? = some x := ⟨l[i], by simp [h]⟩
theorem itl_ok {a : Addr} {vs : List V} (h1 : LsR K C a vs) (h2 : DnAll K G vs ds) : ItOk K (Itl K a) ds C G := by
  refine ⟨fun i H e hi => ?_, fun i H e hi => ⟨vs, (Same.ls e h1).sq, by rw [h2.length]; omega⟩, fun i H x H' d P e1 e2 _ y hd => ?_⟩
  · obtain ⟨x, hx⟩ := get_lt (l := vs) (by rw [h2.length]; exact hi)
    exact ⟨vs, x, (Same.ls e h1).sq, hx⟩
  · obtain ⟨e, y⟩ := y
    subst e
    obtain ⟨d', q1, q2⟩ := h2.get' (y vs ((Same.ls e1 h1).sq))
    rw [hd] at q1; cases q1
    exact ⟨Same.refl _, Dn.mono e2 _ q2⟩
theorem itt_ok {a : Addr} {vs : List V} (h1 : SqT K C a vs) (h2 : DnAll K G vs ds) : ItOk K (Itt K a) ds C G := by
  refine ⟨fun i H e hi => ?_, fun i H e hi => ⟨vs, Same.seqT e h1, by rw [h2.length]; omega⟩, fun i H x H' d P e1 e2 _ y hd => ?_⟩
  · obtain ⟨x, hx⟩ := get_lt (l := vs) (by rw [h2.length]; exact hi)
    exact ⟨vs, x, Same.seqT e h1, hx⟩
  · obtain ⟨e, y⟩ := y
    subst e
    obtain ⟨d', q1, q2⟩ := h2.get' (y vs (Same.seqT e1 h1))
    rw [hd] at q1; cases q1
    exact ⟨Same.refl _, Dn.mono e2 _ q2⟩
theorem its_ok {s : Str} : ItOk K (Its s) (strL s) C G := by
  have hl : (strL s).length = s.cps.size := by simp [strL]
  refine ⟨fun i H e hi => by rw [hl] at hi; exact hi, fun i H e hi => by rw [hl] at hi; exact Nat.le_of_eq hi.symm, fun i H x H' d P e1 e2 _ y hd => ?_⟩
  obtain ⟨e, c, h1, h2⟩ := y
  subst e h2
  refine ⟨Same.refl _, ?_⟩
  unfold strL at hd
  rw [List.getElem?_map] at hd
  obtain ⟨c', q1, q2⟩ := Option.map_eq_some_iff.mp hd
  have : c' = c := by
    rw [Array.getElem?_toList] at q1
    rw [h1] at q1; exact (Option.some.inj q1).symm
  subst this q2
  exact .str _
theorem itr_ok {lo : Int} {n : Nat} : ItOk K (Itr lo n) (rngL lo n) C G := by
  have hl : (rngL lo n).length = n := by simp [rngL]
  refine ⟨fun i H e hi => by rw [hl] at hi; exact hi, fun i H e hi => by rw [hl] at hi; exact Nat.le_of_eq hi.symm, fun i H x H' d P e1 e2 _ y hd => ?_⟩
  obtain ⟨e, h2⟩ := y
  subst e h2
  refine ⟨Same.refl _, ?_⟩
  unfold rngL at hd
  rw [List.getElem?_map] at hd
  obtain ⟨k, q1, q2⟩ := Option.map_eq_some_iff.mp hd
  have : k = i := by
    have := List.getElem?_eq_some_iff.mp q1
    obtain ⟨h, e⟩ := this
    rw [List.getElem_range] at e; exact e.symm
  subst this q2
  exact .int _
theorem rev_get {α : Type} {l : List α} {i : Nat} (h : i < l.length) : l.reverse[i]? = l[l.length - 1 - i]? := by
  rw [List.getElem?_reverse h]
theorem itv_ok {a : Addr} {vs : List V} (h1 : LsR K C a vs) (h2 : DnAll K G vs ds) : ItOk K (Itv K a vs.length) ds.reverse C G := by
  have hl := h2.length
  refine ⟨fun i H e hi => ?_, fun i H e hi => ?_, fun i H x H' d P e1 e2 _ y hd => ?_⟩
  · rw [List.length_reverse] at hi
    obtain ⟨x, hx⟩ := get_lt (l := vs) (i := vs.length - 1 - i) (by omega)
    exact ⟨by omega, vs, x, (Same.ls e h1).sq, hx⟩
  · rw [List.length_reverse] at hi; show vs.length ≤ i; omega
  · obtain ⟨e, y⟩ := y
    subst e
    have hi : i < ds.reverse.length := (List.getElem?_eq_some_iff.mp hd).1
    rw [List.length_reverse] at hi
    rw [rev_get hi] at hd
    obtain ⟨d', q1, q2⟩ := h2.get' (y vs ((Same.ls e1 h1).sq))
    rw [hl, hd] at q1; cases q1
    exact ⟨Same.refl _, Dn.mono e2 _ q2⟩
theorem itvT_ok {a : Addr} {vs : List V} (h1 : SqT K C a vs) (h2 : DnAll K G vs ds) : ItOk K (RT.ItvT K a vs.length) ds.reverse C G := by
  have hl := h2.length
  refine ⟨fun i H e hi => ?_, fun i H e hi => ?_, fun i H x H' d P e1 e2 _ y hd => ?_⟩
  · rw [List.length_reverse] at hi
    obtain ⟨x, hx⟩ := get_lt (l := vs) (i := vs.length - 1 - i) (by omega)
    exact ⟨by omega, vs, x, Same.seqT e h1, hx⟩
  · rw [List.length_reverse] at hi; show vs.length ≤ i; omega
  · obtain ⟨e, y⟩ := y
    subst e
    have hi : i < ds.reverse.length := (List.getElem?_eq_some_iff.mp hd).1
    rw [List.length_reverse] at hi
    rw [rev_get hi] at hd
    obtain ⟨d', q1, q2⟩ := h2.get' (y vs (Same.seqT e1 h1))
    rw [hl, hd] at q1; cases q1
    exact ⟨Same.refl _, Dn.mono e2 _ q2⟩
theorem enumL_get : ∀ {ds : List D} {k : Int} {i : Nat} {d : D}, (enumL k ds)[i]? = some d → ∃ x, ds[i]? = some x ∧ d = .tuple [.int (k + i), x]
  | [], _, _, _, h => by simp [enumL] at h
  | x :: ds, k, 0, d, h => by
    have h : some (PyData.tuple [.int k, x]) = some d := h
    cases h
    exact ⟨x, rfl, by simp⟩
  | x :: ds, k, i + 1, d, h => by
    have h : (enumL (k + 1) ds)[i]? = some d := h
    obtain ⟨y, h1, h2⟩ := enumL_get h
    refine ⟨y, h1, ?_⟩
    rw [h2]
    have : k + 1 + (i : Int) = k + ((i + 1 : Nat) : Int) := by omega
    rw [this]
theorem enumL_length : ∀ (ds : List D) (k : Int), (enumL k ds).length = ds.length
  | [], _ => rfl
  | x :: ds, k => by show (enumL (k + 1) ds).length + 1 = ds.length + 1; rw [enumL_length ds]
theorem fresh_not {P : Addr → Prop} {H : Hp} {T : Addr} (hT : H T = none) (hP : ∀ a, P a → ∃ o, H a = some o) : ¬ P T := fun z => by
  obtain ⟨o, q⟩ := hP T z
  rw [hT] at q; cases q
theorem ite_ok {a : Addr} {vs : List V} (h1 : LsR K C a vs) (h2 : DnAll K G vs ds) : ItOk K (Ite K a) (enumL 0 ds) C G := by
  have hl := enumL_length ds 0
  refine ⟨fun i H e hi => ?_, fun i H e hi => ⟨vs, (Same.ls e h1).sq, by rw [h2.length, ← hl]; omega⟩, fun i H v H' d P e1 e2 hP y hd => ?_⟩
  · rw [hl] at hi
    obtain ⟨x, hx⟩ := get_lt (l := vs) (by rw [h2.length]; exact hi)
    exact ⟨vs, x, (Same.ls e h1).sq, hx⟩
  · obtain ⟨T, x, rfl, hT, rfl, y⟩ := y
    obtain ⟨d', q1, rfl⟩ := enumL_get hd
    obtain ⟨d'', q3, q4⟩ := h2.get' (y vs ((Same.ls e1 h1).sq))
    rw [q1] at q3; cases q3
    have sm := same_upd (o := .tup [.int (i : Nat), x]) hT
    refine ⟨sm, .tup (.inl (.inl (wo_some.mpr ⟨fresh_not hT hP, upd_same⟩))) (.cons ?_ (.cons (Dn.mono (e2.trans (wo_same sm)) _ q4) .nil))⟩
    have : (0 : Int) + (i : Int) = ((i : Nat) : Int) := by omega
    rw [this]
    exact .int _
theorem zipL_get : ∀ {xs ys : List D} {i : Nat} {d : D}, (zipL xs ys)[i]? = some d → ∃ x y, xs[i]? = some x ∧ ys[i]? = some y ∧ d = .tuple [x, y]
  | [], _, _, _, h => by simp [zipL] at h
  | _ :: _, [], _, _, h => by simp [zipL] at h
  | x :: xs, y :: ys, 0, d, h => by
    have h : some (PyData.tuple [x, y]) = some d := h
    cases h
    exact ⟨x, y, rfl, rfl, rfl⟩
  | x :: xs, y :: ys, i + 1, d, h => zipL_get (xs := xs) (ys := ys) (show (zipL xs ys)[i]? = some d from h)
theorem zipL_length : ∀ (xs ys : List D), (zipL xs ys).length = min xs.length ys.length
  | [], _ => by simp [zipL]
  | _ :: _, [] => by simp [zipL]
  | x :: xs, y :: ys => by show (zipL xs ys).length + 1 = _; rw [zipL_length xs ys]; simp only [List.length_cons]; omega
/-- what stands where it is walked -/
def SrcOk (K : PySem.W.Frag) (C G : Hp) (k : Kd) (ds : List D) : Prop := ∃ vs, (∀ H, Same C H → k.rd K H vs) ∧ DnAll K G vs ds
theorem SrcOk.mono {k : Kd} {ds : List D} (h : SrcOk K C G k ds) (e : Same C C') (e' : Same G G') : SrcOk K C' G' k ds := let ⟨vs, h1, h2⟩ := h; ⟨vs, fun H q => h1 H (e.trans q), DnAll.mono e' _ h2⟩
theorem dnAll_chars {z : Str} : DnAll K G (chars z) (strL z) := by
  unfold chars strL
  induction z.cps.toList with
  | nil => exact .nil
  | cons c l ih => exact .cons (.str _) ih
theorem dn_src {v : V} {d : D} (h : Dn K G v d) (hi : iter1 d = some ds) (u : Value) (r : RelV v u) : ∃ k, k.v = u ∧ SrcOk K G G k ds := by
  cases d with
  | str z =>
    obtain rfl := dn_str h
    obtain ⟨t, rfl⟩ := r
    cases hi
    exact ⟨.S _ t, rfl, _, fun _ _ => rfl, dnAll_chars⟩
  | list es =>
    cases hi
    cases h with
    | @lst a vs _ h1 h2 =>
      cases r
      exact ⟨.L a, rfl, vs, fun H e => (Same.ls e h1).sq, h2⟩
  | tuple es =>
    cases hi
    cases h with
    | @tup a vs _ h1 h2 =>
      cases r
      exact ⟨.T a, rfl, vs, fun H e => Same.seqT e h1, h2⟩
  | _ => cases hi
theorem itG_ok {k1 k2 : Kd} {es : List D} (h1 : SrcOk K C G k1 ds) (h2 : SrcOk K C G k2 es) : ItOk K (ItG K k1 k2) (zipL ds es) C G := by
  have hl := zipL_length ds es
  obtain ⟨vs, r1, d1⟩ := h1
  obtain ⟨ws, r2, d2⟩ := h2
  have l1 := d1.length
  have l2 := d2.length
  refine ⟨fun i H e hi => ?_, fun i H e hi => ⟨vs, ws, r1 H e, r2 H e, by omega, by omega, by omega⟩, fun i H v H' d P e1 e2 hP y hd => ?_⟩
  · obtain ⟨x, hx⟩ := get_lt (l := vs) (i := i) (by omega)
    obtain ⟨y, hy⟩ := get_lt (l := ws) (i := i) (by omega)
    exact ⟨vs, ws, x, y, r1 H e, r2 H e, hx, hy⟩
  · obtain ⟨T, x, y', rfl, hT, rfl, y1, y2⟩ := y
    obtain ⟨dx, dy, q1, q2, rfl⟩ := zipL_get hd
    obtain ⟨d1', q3, q4⟩ := d1.get' (y1 vs (r1 H e1))
    obtain ⟨d2', q5, q6⟩ := d2.get' (y2 ws (r2 H e1))
    rw [q1] at q3; cases q3
    rw [q2] at q5; cases q5
    have sm := same_upd (o := .tup [x, y']) hT
    exact ⟨sm, .tup (.inl (.inl (wo_some.mpr ⟨fresh_not hT hP, upd_same⟩))) (.cons (Dn.mono (e2.trans (wo_same sm)) _ q4) (.cons (Dn.mono (e2.trans (wo_same sm)) _ q6) .nil))⟩
theorem itE_ok {k : Kd} (h : SrcOk K C G k ds) : ItOk K (ItE K k) (enumL 0 ds) C G := by
  have hl := enumL_length ds 0
  obtain ⟨vs, r1, h2⟩ := h
  have l1 := h2.length
  refine ⟨fun i H e hi => ?_, fun i H e hi => ⟨vs, r1 H e, by omega⟩, fun i H v H' d P e1 e2 hP y hd => ?_⟩
  · obtain ⟨x, hx⟩ := get_lt (l := vs) (i := i) (by omega)
    exact ⟨vs, x, r1 H e, hx⟩
  · obtain ⟨T, x, rfl, hT, rfl, y⟩ := y
    obtain ⟨d', q1, rfl⟩ := enumL_get hd
    obtain ⟨d'', q3, q4⟩ := h2.get' (y vs (r1 H e1))
    rw [q1] at q3; cases q3
    have sm := same_upd (o := .tup [.int (i : Nat), x]) hT
    refine ⟨sm, .tup (.inl (.inl (wo_some.mpr ⟨fresh_not hT hP, upd_same⟩))) (.cons ?_ (.cons (Dn.mono (e2.trans (wo_same sm)) _ q4) .nil))⟩
    have : (0 : Int) + (i : Int) = ((i : Nat) : Int) := by omega
    rw [this]
    exact .int _
end
/-- the reading of what is walked -/
def tI (K : PySem.W.Frag) (g : G) (W : WX) (xa : XA) (it : I) : TI := fun σ H R => ∃ F ps τ, Rel K F ps H σ τ ∧ Sat (evI g it τ) (fun x => ∀ J H', Same H H' →
  ItOk K J x.1 (wo (PP F.P0 (dr x.2 ps)) H') (wo (PP F.P0 (dr x.2 ps)) H') → ItOk K J x.1 H' (wo (PP F.P0 (dr (lkI it x.2) ps)) H') → R J H') (XO W xa σ H)
theorem PI.imp {X : Cx} {tg e : Expr} {t t' : TI} (h : PI X tg e t) (i : ∀ σ H R, t' σ H R → t σ H R) : PI X tg e t' := ⟨fun pins s σ H R I q => h.run pins s σ H R I (i σ H R q)⟩
section
variable {X : Cx} {c : Cfg} {sc : Scope} {g : G} {k : Nat} {W : WX} {xa : XA} (ev : Envr X c sc g k W xa)
/-- one that is walked, whichever it is -/
theorem pi_any {tg l : Expr} {tl : TE} (hl : PE X l tl) : PI X tg l (fun σ H R => tl σ H fun x H1 => (∃ a, x = .ref a ∧ (∃ xs, SqL X.K H1 a xs) ∧ R (Itl X.K a) H1) ∨ (∃ a, x = .ref a ∧ (∃ xs, SqT X.K H1 a xs) ∧ R (Itt X.K a) H1) ∨ ∃ s, x = .str s ∧ R (Its s) H1) := by
  refine ⟨fun pins s σ H R I h => ?_⟩
  refine thn (hl.run pins s σ H _ I h) fun v s1 ⟨x, H1, I1, r1, q1⟩ => ?_
  rcases q1 with ⟨a, e, ⟨xs, hq⟩, q⟩ | ⟨a, e, ⟨xs, hq⟩, q⟩ | ⟨z, e, q⟩
  · subst e
    cases r1
    obtain ⟨its, rv, p, hz⟩ := I1.list hq
    refine wpAny_pyIter_list p.isList ?_
    refine ⟨s1.heap.objs.size, [s1.heap.objs.size], _, _, H1, rfl, I1.kept (t' := s1.toks) fun b o e => Heap.get?_push_of_some _ e, turn_list a _, ⟨_, Heap.get?_push_size _ rfl, rfl, rfl⟩, fun b hb => ?_, q⟩
    have e : b = s1.heap.objs.size := by simpa using hb
    subst e
    exact I1.fpOk (Nat.le_refl _) (I1.hok.fresh (Nat.le_refl _))
  · subst e
    cases r1
    obtain ⟨its, rv, p, hz⟩ := I1.tuple hq
    refine wpAny_pyIter_tuple (show s1.heap.IsTuple a its.toArray from p) ?_
    refine ⟨s1.heap.objs.size, [s1.heap.objs.size], _, _, H1, rfl, I1.kept (t' := s1.toks) fun b o e => Heap.get?_push_of_some _ e, turn_tuple a _, ⟨_, Heap.get?_push_size _ rfl, rfl, rfl⟩, fun b hb => ?_, q⟩
    have e : b = s1.heap.objs.size := by simpa using hb
    subst e
    exact I1.fpOk (Nat.le_refl _) (I1.hok.fresh (Nat.le_refl _))
  · -- a text: by the layer's own rule, the value already there
    subst e
    obtain ⟨t, rfl⟩ := r1
    cases ha : z.cps.all (· < 128)
    · exact wpAny_pyIter_wide ha (pi_one (tk := s1.toks) I1 _ (turn_str _ z t "str_iterator" (.inr rfl)) ⟨_, Heap.get?_push_size _ rfl, rfl, rfl⟩ q)
    · exact wpAny_pyIter_ascii ha (pi_one (tk := s1.toks) I1 _ (turn_str _ z t "str_ascii_iterator" (.inl rfl)) ⟨_, Heap.get?_push_size _ rfl, rfl, rfl⟩ q)
theorem sI_it {tg e : Expr} {ce : E} (he : PE X e (tE X.K g W xa ce)) : PI X tg e (tI X.K g W xa (.it ce)) := by
  refine PI.imp (pi_any he) fun σ H R h => ?_
  obtain ⟨F, ps, τ, r, h⟩ := h
  unfold evI at h
  refine one r h fun x v H1 pa r1 hz => ?_
  obtain ⟨d, L⟩ := x
  cases d with
  | list ds =>
    obtain ⟨a, vs, rfl, h1, h2⟩ := pa.el
    refine .inl ⟨a, rfl, ⟨vs, h1.sq⟩, hz _ _ pa.same ?_ (itl_ok h1 h2)⟩
    have hd := pa.den
    cases hd with | lst q1 q2 => exact itl_ok q1 q2
  | tuple ds =>
    obtain ⟨a, vs, rfl, h1, h2⟩ := dn_tup (show Dn X.K _ v (.tuple ds) from pa.el)
    refine .inr (.inl ⟨a, rfl, ⟨vs, Same.seqT wo_all h1⟩, hz _ _ pa.same ?_ (itt_ok (Same.seqT wo_all h1) h2)⟩)
    have hd := pa.den
    cases hd with | tup q1 q2 => exact itt_ok q1 q2
  | str s =>
    obtain rfl := dn_str pa.dn
    exact .inr (.inr ⟨s, rfl, hz _ _ pa.same its_ok its_ok⟩)
  | _ => exact hz.elim
include ev
theorem sI_r1 {tg a : Expr} {ca : E} {p pos : Pos} (hb : c.bis.contains "range" = true) (hg : isGl sc "range" = true) (hs : isStar a = false) (ha : PE X a (tE X.K g W xa ca)) : PI X tg (.Call (.Name "range" p) [a] [] pos) (tI X.K g W xa (.r1 ca)) := by
  refine PI.imp (pi_range1 (ev.gl_of hg) (ev.bi _ hb) (pa_cons ha pa_nil (star_step hs _ _)) (star_step hs _ _)) fun σ H R h => ?_
  obtain ⟨F, ps, τ, r, h⟩ := h
  unfold evI at h
  refine one r h fun x v H1 pa r1 hz => ?_
  obtain ⟨d, L⟩ := x
  cases d with
  | int j =>
    obtain rfl := dn_int pa.dn
    dsimp only at hz
    unfold rngR1 at hz
    split at hz
    · rename_i q
      have q := small62_iff q
      exact ⟨j, rfl, q.1, q.2, hz _ _ pa.same itr_ok itr_ok⟩
    · exact hz.elim
  | _ => exact hz.elim
theorem sI_r2 {tg a b : Expr} {ca cb : E} {p pos : Pos} (hb : c.bis.contains "range" = true) (hg : isGl sc "range" = true) (hs : isStar a = false) (hs' : isStar b = false) (ha : PE X a (tE X.K g W xa ca)) (hb' : PE X b (tE X.K g W xa cb)) :
    PI X tg (.Call (.Name "range" p) [a, b] [] pos) (tI X.K g W xa (.r2 ca cb)) := by
  have e2 : starEach [b] X.env = [(false, eval b X.env)] := star_step hs' _ _
  refine PI.imp (pi_range2 (ev.gl_of hg) (ev.bi _ hb) (pa_cons ha (pa_cons hb' pa_nil (star_step hs' _ _)) (star_step hs _ _)) ((star_step hs _ _).trans (by rw [e2])) e2) fun σ H R h => ?_
  obtain ⟨F, ps, τ, r, h⟩ := h
  unfold evI at h
  refine two r h fun x y v u H1 H2 pa pb r2 hz => ?_
  obtain ⟨d, L⟩ := x
  obtain ⟨d', L'⟩ := y
  cases d with
  | int i =>
    cases d' with
    | int j =>
      obtain rfl := dn_int pa.dn
      obtain rfl := dn_int pb.dn
      dsimp only at hz
      unfold rngR at hz
      split at hz
      · rename_i q
        simp only [Bool.and_eq_true] at q
        have q1 := small62_iff q.1
        have q2 := small62_iff q.2
        exact ⟨i, j, rfl, ⟨q1.1, q1.2, q2.1, q2.2⟩, hz _ _ (pa.same.trans pb.same) itr_ok itr_ok⟩
      · exact hz.elim
    | _ => exact hz.elim
  | _ => exact hz.elim
theorem sI_rev {tg a : Expr} {ca : E} {p pos : Pos} (hb : c.bis.contains "reversed" = true) (hg : isGl sc "reversed" = true) (hs : isStar a = false) (ha : PE X a (tE X.K g W xa ca)) : PI X tg (.Call (.Name "reversed" p) [a] [] pos) (tI X.K g W xa (.rev ca)) := by
  refine PI.imp (RT.pi_revA (ev.gl_of hg) (ev.bi _ hb) ha (star_step hs _ _)) fun σ H R h => ?_
  obtain ⟨F, ps, τ, r, h⟩ := h
  unfold evI at h
  refine one r h fun x v H1 pa r1 hz => ?_
  obtain ⟨d, L⟩ := x
  have hd := pa.den
  cases d with
  | list ds =>
    cases hd with
    | @lst a vs _ q1 q2 =>
      have e := itv_ok q1 q2
      exact ⟨a, vs, rfl, .inl ⟨(Same.ls wo_all q1).sq, hz _ _ pa.same e (e.mono wo_all (Same.refl _))⟩⟩
  | tuple ds =>
    cases hd with
    | @tup a vs _ q1 q2 =>
      have e := itvT_ok q1 q2
      exact ⟨a, vs, rfl, .inr ⟨Same.seqT wo_all q1, hz _ _ pa.same e (e.mono wo_all (Same.refl _))⟩⟩
  | _ => exact hz.elim
theorem sI_enum {a : Expr} {ca : E} {p pos tpos : Pos} {elts : List Expr} {kk : Nat} (hb : c.bis.contains "enumerate" = true) (hg : isGl sc "enumerate" = true) (hs : isStar a = false) (ha : PE X a (tE X.K g W xa ca)) :
    PI X (.Tuple elts kk tpos) (.Call (.Name "enumerate" p) [a] [] pos) (tI X.K g W xa (.enum ca)) := by
  refine PI.imp (pi_enumG (ev.gl_of hg) (ev.bi _ hb) (pa_cons ha pa_nil (star_step hs _ _)) (star_step hs _ _)) fun σ H R h => ?_
  obtain ⟨F, ps, τ, r, h⟩ := h
  unfold evI at h
  refine one r h fun x v H1 pa r1 hz => ?_
  obtain ⟨d, L⟩ := x
  have hd := pa.den
  split at hz
  · rename_i ds hi
    refine ⟨v, rfl, fun u ru => ?_⟩
    obtain ⟨k, hk, so⟩ := dn_src hd hi u ru
    obtain ⟨vs, q1, q2⟩ := id so
    have e := itE_ok so
    exact ⟨k, vs, hk, q1 _ wo_all, hz _ _ pa.same e (e.mono wo_all (Same.refl _))⟩
  · exact hz.elim
theorem sI_zip {a b : Expr} {ca cb : E} {p pos tpos : Pos} {elts : List Expr} {kk : Nat} (hb : c.bis.contains "zip" = true) (hg : isGl sc "zip" = true) (hs : isStar a = false) (hs' : isStar b = false) (ha : PE X a (tE X.K g W xa ca)) (hb' : PE X b (tE X.K g W xa cb)) :
    PI X (.Tuple elts kk tpos) (.Call (.Name "zip" p) [a, b] [] pos) (tI X.K g W xa (.zip ca cb)) := by
  refine PI.imp (pi_zipG (ev.gl_of hg) (ev.bi _ hb) (pa_cons ha (pa_cons hb' pa_nil (star_step hs' _ _)) (star_step hs _ _)) (star_step hs _ _) (star_all (es := [b]) (by simp [hs']))) fun σ H R h => ?_
  obtain ⟨F, ps, τ, r, h⟩ := h
  unfold evI at h
  refine two r h fun x y v u H1 H2 pa pb r2 hz => ?_
  obtain ⟨d, L⟩ := x
  obtain ⟨d', L'⟩ := y
  have hd := Dn.mono (wo_same pb.same) _ pa.den
  have hd' := pb.den
  have hd := hd.sub (PP_dr (L := L) (M := L ++ L') (P0 := F.P0) (ps := ps) fun i hi => List.mem_append_left _ hi)
  have hd' := hd'.sub (PP_dr (L := L') (M := L ++ L') (P0 := F.P0) (ps := ps) fun i hi => List.mem_append_right _ hi)
  split at hz
  · rename_i ds es hi hi'
    refine ⟨v, u, rfl, fun u1 u2 r1 r2' => ?_⟩
    obtain ⟨k1, hk1, so1⟩ := dn_src hd hi u1 r1
    obtain ⟨k2, hk2, so2⟩ := dn_src hd' hi' u2 r2'
    obtain ⟨vs, q1, _⟩ := id so1
    obtain ⟨ws, q3, _⟩ := id so2
    have e := itG_ok so1 so2
    exact ⟨k1, k2, vs, ws, hk1, hk2, q1 _ wo_all, q3 _ wo_all, hz _ _ (pa.same.trans pb.same) e (e.mono wo_all (Same.refl _))⟩
  · exact hz.elim
omit ev
/-! ### targets -/
def tSlots : T → List Nat
  | .n i => [i]
  | .tup is => is
/-- a target takes a datum that is not owned -/
def tG (K : PySem.W.Frag) (t : T) : TG := fun v σ H Q => ∃ F ps τ d, Rel K F ps H σ τ ∧ Dn K (wo (PP F.P0 ps) H) v d ∧ match asg F.iol false t d τ with
  | some τ' => ∀ σ' ps', Rel K F ps' H σ' τ' → (∀ j, j ∉ tSlots t → ps' j = ps j) → (∀ j, ps' j = none ∨ ps' j = ps j) → σ'.length = σ.length → (∀ j, j ∉ tSlots t → σ'[j]? = σ[j]?) → Q σ' H
  | none => False
/-- the names that may be stored here -/
def OwnN (X : Cx) (osc : Scope) : Prop := ∀ x, isOwn osc x = true → Loc X.env.scope x ∧ (X.fn x = true ∨ X.env.scope.names.lookup x = some .local)
theorem PG.imp {X : Cx} {e : Expr} {t t' : TG} (h : PG X e t) (i : ∀ v σ H Q, t' v σ H Q → t v σ H Q) : PG X e t' := ⟨fun pins s σ H v u Q I r q => h.run pins s σ H v u Q I r (i v σ H Q q)⟩
theorem Rel.set' {K : PySem.W.Frag} {F : Fx} {ps : Ps} {H : Hp} {σ : L2.St} {τ : Tau} (r : Rel K F ps H σ τ) {i : Nat} {v : V} {d : D} (h : Dn K (wo (PP F.P0 ps) H) v d) :
    ∃ ps', Rel K F ps' H (σ.set i (some v)) (τ.set i (some (false, d))) ∧ (∀ j, j ≠ i → ps' j = ps j) ∧ (∀ j, ps' j = none ∨ ps' j = ps j) :=
  ⟨_, r.set h, fun j hj => by simp [hj], fun j => by by_cases hj : j = i <;> simp [hj]⟩
theorem sG_n {x : Str} {i : Nat} {osc : Scope} {pos : Pos} (ho : OwnN X osc) (hN : X.N.Nodup) (hx : isOwn osc x = true) (hi : X.N[i]? = some x) : PG X (.Name x pos) (tG X.K (.n i)) := by
  obtain ⟨h1, h2⟩ := ho x hx
  refine PG.imp (pg_name hN hi h1 h2) fun v σ H Q h => ?_
  obtain ⟨F, ps, τ, d, r, hd, h⟩ := h
  unfold asg at h
  dsimp only at h
  split at h
  · rename_i τ' e
    split at e
    · cases e
    · cases e
      obtain ⟨ps', r', e1, e2⟩ := r.set' (i := i) hd
      exact h _ ps' r' (fun j hj => e1 j (by simpa [tSlots] using hj)) e2 (by simp) fun j hj => by
        rw [List.getElem?_set_ne (fun z => hj (by simp [tSlots, z]))]
  · exact h.elim
/-- several names -/
def tGs (K : PySem.W.Frag) (is : List Nat) : TGs := fun vs σ H Q => ∃ F ps τ ds, Rel K F ps H σ τ ∧ DnAll K (wo (PP F.P0 ps) H) vs ds ∧ match asgs F.iol is ds τ with
  | some τ' => ∀ σ' ps', Rel K F ps' H σ' τ' → (∀ j, j ∉ is → ps' j = ps j) → (∀ j, ps' j = none ∨ ps' j = ps j) → σ'.length = σ.length → (∀ j, j ∉ is → σ'[j]? = σ[j]?) → Q σ' H
  | none => False
theorem PP_le {P0 : Addr → Prop} {ps ps' : Ps} (e : ∀ j, ps' j = none ∨ ps' j = ps j) : ∀ a, PP P0 ps' a → PP P0 ps a := fun a z => by
  rcases z with z | ⟨j, z⟩
  · exact .inl z
  · rcases e j with q | q
    · rw [q] at z; cases z
    · exact .inr ⟨j, by rw [← q]; exact z⟩
theorem sGs {osc : Scope} (ho : OwnN X osc) (hN : X.N.Nodup) : ∀ {es : List Expr} {is : List Nat}, namesIx X.N osc es = some is → PGs X es (tGs X.K is) ∧ (assignEach es X.env).length = es.length ∧ (assignEach es X.env).findIdx? (·.1) = none ∧ is.length = es.length
  | [], is, h => by
    cases h
    refine ⟨⟨fun pins s σ H vs us Q I r h => pgs_nil.run pins s σ H vs us Q I r ?_⟩, rfl, rfl, rfl⟩
    obtain ⟨F, ps, τ, ds, rl, hd, h⟩ := h
    cases hd with
    | nil =>
      have h : ∀ σ' ps', Rel X.K F ps' H σ' τ → (∀ j, j ∉ ([] : List Nat) → ps' j = ps j) → (∀ j, ps' j = none ∨ ps' j = ps j) → σ'.length = σ.length → (∀ j, j ∉ ([] : List Nat) → σ'[j]? = σ[j]?) → Q σ' H := h
      exact ⟨rfl, h σ ps rl (fun _ _ => rfl) (fun _ => .inr rfl) rfl fun _ _ => rfl⟩
    | cons _ _ => exact h.elim
  | e :: es, is, h => by
    cases e with
    | Name x pos =>
      simp only [namesIx] at h
      split at h
      · rename_i hx
        split at h
        · rename_i i hi
          obtain ⟨js, h1, rfl⟩ := Option.map_eq_some_iff.mp h
          obtain ⟨p1, p2, p3, p4⟩ := sGs ho hN h1
          obtain ⟨l1, l2⟩ := ho x hx
          have base := pgs_cons (pg_name (pos := pos) hN (ixOf_get hi) l1 l2) p1 rfl
          refine ⟨⟨fun pins s σ H vs us Q I r h => base.run pins s σ H vs us Q I r ?_⟩, by show (assignEach es X.env).length + 1 = es.length + 1; rw [p2], ?_, by simp [p4]⟩
          · obtain ⟨F, ps, τ, ds, rl, hd, h⟩ := h
            cases hd with
            | nil => exact h.elim
            | cons d1 d2 =>
              rename_i v vs d ds
              have h : match (if i ∈ F.iol then none else asgs F.iol js ds (τ.set i (some (false, d)))) with
                | some τ' => ∀ σ' ps', Rel X.K F ps' H σ' τ' → (∀ j, j ∉ i :: js → ps' j = ps j) → (∀ j, ps' j = none ∨ ps' j = ps j) → σ'.length = σ.length → (∀ j, j ∉ i :: js → σ'[j]? = σ[j]?) → Q σ' H
                | none => False := h
              split at h
              · rename_i τ' e
                split at e
                · cases e
                · obtain ⟨ps1, r1, e1, e2⟩ := rl.set' (i := i) d1
                  refine ⟨v, vs, rfl, F, ps1, _, ds, r1, d2.sub (PP_le e2), ?_⟩
                  rw [e]
                  refine fun σ' ps' r' q1 q2 q3 q4 => h σ' ps' r' (fun j hj => ?_) (fun j => ?_) (by simpa using q3) fun j hj => ?_
                  · rw [q1 j (fun z => hj (List.mem_cons_of_mem _ z)), e1 j (fun z => hj (by simp [z]))]
                  · rcases q2 j with q | q
                    · exact .inl q
                    · rw [q]; exact e2 j
                  · rw [q4 j (fun z => hj (List.mem_cons_of_mem _ z)), List.getElem?_set_ne (fun z => hj (by simp [z]))]
              · exact h.elim
          · show List.findIdx? _ ((false, assign (.Name x pos) X.env) :: assignEach es X.env) = none
            rw [List.findIdx?_cons]
            simp [p3]
        · cases h
      · cases h
    | _ => simp [namesIx] at h
theorem sG_tup {es : List Expr} {is : List Nat} {osc : Scope} {n : Nat} {pos : Pos} (hc : X.calm = true) (ho : OwnN X osc) (hN : X.N.Nodup) (h : namesIx X.N osc es = some is) : PG X (.Tuple es n pos) (tG X.K (.tup is)) := by
  obtain ⟨p1, p2, p3, p4⟩ := sGs ho hN h
  have hl : ∀ {iol is : List Nat} {ds : List D} {τ : Tau}, asgs iol is ds τ ≠ none → is.length = ds.length := by
    intro iol is
    induction is with
    | nil => intro ds τ q; cases ds with | nil => rfl | cons _ _ => exact absurd rfl q
    | cons i is ih =>
      intro ds τ q
      cases ds with
      | nil => exact absurd rfl q
      | cons d ds =>
        have q : (if i ∈ iol then none else asgs iol is ds (τ.set i (some (false, d)))) ≠ none := q
        by_cases hi : i ∈ iol
        · rw [if_pos hi] at q; exact absurd rfl q
        · rw [if_neg hi] at q; simp [ih q]
  refine ⟨fun pins s σ H v u Q I rv h => ?_⟩
  obtain ⟨F, ps, τ, d, r, hd, h⟩ := h
  cases d with
  | tuple ds =>
    obtain ⟨a, vs, rfl, h1, h2⟩ := dn_tup hd
    have h : match asgs F.iol is ds τ with
      | some τ' => ∀ σ' ps', Rel X.K F ps' H σ' τ' → (∀ j, j ∉ is → ps' j = ps j) → (∀ j, ps' j = none ∨ ps' j = ps j) → σ'.length = σ.length → (∀ j, j ∉ is → σ'[j]? = σ[j]?) → Q σ' H
      | none => False := h
    refine (pg_tup hc p1 p2 p3).run pins s σ H _ u Q I rv ⟨a, vs, rfl, Same.seqT wo_all h1, ?_, F, ps, τ, ds, r, h2, h⟩
    rw [h2.length, ← p4]
    refine (hl (iol := F.iol) (τ := τ) fun z => ?_).symm
    rw [z] at h
    exact h
  | list ds =>
    obtain ⟨a, vs, rfl, h1, h2⟩ : ∃ a vs, v = .ref a ∧ LsR X.K (wo (PP F.P0 ps) H) a vs ∧ DnAll X.K (wo (PP F.P0 ps) H) vs ds := by cases hd with | lst z1 z2 => exact ⟨_, _, rfl, z1, z2⟩
    have h : match asgs F.iol is ds τ with
      | some τ' => ∀ σ' ps', Rel X.K F ps' H σ' τ' → (∀ j, j ∉ is → ps' j = ps j) → (∀ j, ps' j = none ∨ ps' j = ps j) → σ'.length = σ.length → (∀ j, j ∉ is → σ'[j]? = σ[j]?) → Q σ' H
      | none => False := h
    refine (pg_unl hc p1 p2 p3).run pins s σ H _ u Q I rv ⟨a, vs, rfl, (Same.ls wo_all h1).sq, ?_, F, ps, τ, ds, r, h2, h⟩
    rw [h2.length, ← p4]
    refine (hl (iol := F.iol) (τ := τ) fun z => ?_).symm
    rw [z] at h
    exact h
  | _ => exact h.elim
theorem sG {tg : Expr} {t : T} {osc : Scope} (hc : X.calm = true) (ho : OwnN X osc) (hN : X.N.Nodup) (h : cT X.N osc tg = some t) : PG X tg (tG X.K t) := by
  cases tg with
  | Name x pos =>
    simp only [cT] at h
    split at h
    · rename_i hx
      obtain ⟨i, h1, rfl⟩ := Option.map_eq_some_iff.mp h
      exact sG_n ho hN hx (ixOf_get h1)
    · cases h
  | Tuple es n pos =>
    obtain ⟨is, h1, rfl⟩ := Option.map_eq_some_iff.mp (show (namesIx X.N osc es).map T.tup = some t from h)
    exact sG_tup hc ho hN h1
  | _ => simp [cT] at h
end
end Mp

/-! MiniPy, part I: comprehensions. -/
namespace Mp
open PySem PySem.Spec PyProof.Rows L2
theorem wipe_get {σ : L2.St} : ∀ {vs : List Nat} {j : Nat}, j ∉ vs → (wipe σ vs)[j]? = σ[j]?
  | [], _, _ => rfl
  | v :: vs, j, h => by
    have h1 : j ≠ v := fun z => h (by simp [z])
    show ((wipe σ vs).set v none)[j]? = σ[j]?
    rw [List.getElem?_set_ne (fun z => h1 z.symm)]
    exact wipe_get fun z => h (List.mem_cons_of_mem _ z)
theorem wipe_in {σ : L2.St} : ∀ {vs : List Nat} {j : Nat}, j ∈ vs → j < σ.length → (wipe σ vs)[j]? = some none
  | [], _, h, _ => nomatch h
  | v :: vs, j, h, hl => by
    show ((wipe σ vs).set v none)[j]? = some none
    by_cases e : v = j
    · subst e
      rw [List.getElem?_set_self (by rw [wipe_length]; exact hl)]
    · rw [List.getElem?_set_ne e]
      exact wipe_in ((List.mem_cons.mp h).resolve_left fun z => e z.symm) hl
theorem wipe_eq {σ σ' : L2.St} {vs : List Nat} (hl : σ'.length = σ.length) (h : ∀ j, j ∉ vs → σ'[j]? = σ[j]?) : wipe σ' vs = wipe σ vs := by
  apply List.ext_getElem?
  intro j
  by_cases hj : j ∈ vs
  · by_cases hlt : j < σ.length
    · rw [wipe_in hj hlt, wipe_in hj (by rw [hl]; exact hlt)]
    · rw [List.getElem?_eq_none (by rw [wipe_length, hl]; omega), List.getElem?_eq_none (by rw [wipe_length]; omega)]
  · rw [wipe_get hj, wipe_get hj, h j hj]
theorem wipeT_get {σ : Tau} : ∀ {vs : List Nat} {j : Nat}, j ∉ vs → (wipeT σ vs)[j]? = σ[j]?
  | [], _, _ => rfl
  | v :: vs, j, h => by
    have h1 : j ≠ v := fun z => h (by simp [z])
    show ((wipeT σ vs).set v none)[j]? = σ[j]?
    rw [List.getElem?_set_ne (fun z => h1 z.symm)]
    exact wipeT_get fun z => h (List.mem_cons_of_mem _ z)
theorem wipeT_in {σ : Tau} : ∀ {vs : List Nat} {j : Nat}, j ∈ vs → j < σ.length → (wipeT σ vs)[j]? = some none
  | [], _, h, _ => nomatch h
  | v :: vs, j, h, hl => by
    show ((wipeT σ vs).set v none)[j]? = some none
    by_cases e : v = j
    · subst e
      rw [List.getElem?_set_self (by rw [wipeT_length]; exact hl)]
    · rw [List.getElem?_set_ne e]
      exact wipeT_in ((List.mem_cons.mp h).resolve_left fun z => e z.symm) hl
theorem wipeT_some {τ : Tau} {vs : List Nat} {j : Nat} {x : Bool × D} (h : (wipeT τ vs)[j]? = some (some x)) : j ∉ vs ∧ τ[j]? = some (some x) := by
  by_cases hj : j ∈ vs
  · by_cases hlt : j < τ.length
    · rw [wipeT_in hj hlt] at h; cases h
    · rw [List.getElem?_eq_none (by rw [wipeT_length]; omega)] at h; cases h
  · rw [wipeT_get hj] at h; exact ⟨hj, h⟩
section
variable {K : PySem.W.Frag} {F : Fx} {ps : Ps} {H H' : Hp} {σ : L2.St} {τ : Tau}
/-- slots are forgotten -/
theorem Rel.forget (r : Rel K F ps H σ τ) (vs : List Nat) : Rel K F (dr vs ps) H σ (wipeT τ vs) := by
  refine ⟨by rw [wipeT_length, r.ls], fun i d h => ?_, fun i d h => ?_, fun i p h => ?_, fun i j p h1 h2 => r.inj i j p (dr_some.mp h1).2 (dr_some.mp h2).2, fun i p h => r.out i p (dr_some.mp h).2, r.keep, fun i p h => r.new i p (dr_some.mp h).2, r.p0, fun i p hi h => r.pin i p hi (dr_some.mp h).2, fun i p h hi => r.nw.1 i p (dr_some.mp h).2 hi, r.nw.2⟩
  · obtain ⟨h1, h2⟩ := wipeT_some h
    obtain ⟨p, q1, q2, q3⟩ := r.own i d h2
    exact ⟨p, dr_some.mpr ⟨h1, q1⟩, q2, q3.mono (fun _ q => q) (wo_sub PP_dr0)⟩
  · obtain ⟨h1, h2⟩ := wipeT_some h
    obtain ⟨v, q1, q2⟩ := r.cln i d h2
    exact ⟨v, q1, q2.sub PP_dr0⟩
  · obtain ⟨h1, h2⟩ := dr_some.mp h
    obtain ⟨d, q⟩ := r.pown i p h2
    exact ⟨d, by rw [wipeT_get h1]; exact q⟩
/-- within a comprehension's block -/
def Fx.blk (F : Fx) (ps : Ps) (own : List Nat) (D0 : Addr) : Fx := ⟨F.H0, F.io, fun a => F.P0 a ∨ a = D0 ∨ ∃ j, j ∈ own ∧ ps j = some a, [], fun _ => none, fun _ => True⟩
theorem blk_PP {own : List Nat} {D0 : Addr} {a : Addr} : PP (F.blk ps own D0).P0 (dr own ps) a ↔ (a = D0 ∨ PP F.P0 ps a) := by
  constructor
  · rintro ((h | h | ⟨j, _, h⟩) | ⟨j, h⟩)
    · exact .inr (.inl h)
    · exact .inl h
    · exact .inr (.inr ⟨j, h⟩)
    · exact .inr (.inr ⟨j, (dr_some.mp h).2⟩)
  · rintro (h | h | ⟨j, h⟩)
    · exact .inl (.inr (.inl h))
    · exact .inl (.inl h)
    · by_cases hj : j ∈ own
      · exact .inl (.inr (.inr ⟨j, hj, h⟩))
      · exact .inr ⟨j, dr_some.mpr ⟨hj, h⟩⟩
theorem Rel.blk (r : Rel K F ps H σ τ) {own : List Nat} {D0 : Addr} {vs : List V} (e : Same H H') (hD : H D0 = none) (hD' : H' D0 = some (.lst vs)) : Rel K (F.blk ps own D0) (dr own ps) H' (wipe σ own) (wipeT τ own) := by
  have key : Same (wo (PP F.P0 ps) H) (wo (PP (F.blk ps own D0).P0 (dr own ps)) H') := wo_gen fun a o h1 h2 => ⟨fun q => by
    rcases blk_PP.mp q with q | q
    · rw [q, hD] at h2; cases h2
    · exact h1 q, e _ _ h2⟩
  refine ⟨by rw [wipe_length, wipeT_length, r.ls], fun i d h => ?_, fun i d h => ?_, fun i p h => ?_, fun i j p h1 h2 => ?_, fun i p h => ?_, fun a o h1 h2 => e _ _ (r.keep a o h1 h2), fun i p h => ?_, fun a h => ?_, fun i p h => (nomatch h), fun _ _ _ _ => trivial, fun _ _ => trivial⟩
  · obtain ⟨h1, h2⟩ := wipeT_some h
    obtain ⟨p, q1, q2, q3⟩ := r.own i d h2
    exact ⟨p, dr_some.mpr ⟨h1, q1⟩, by rw [wipe_get h1]; exact q2, q3.mono (fun o q => e _ _ q) key⟩
  · obtain ⟨h1, h2⟩ := wipeT_some h
    obtain ⟨v, q1, q2⟩ := r.cln i d h2
    exact ⟨v, by rw [wipe_get h1]; exact q1, Dn.mono key _ q2⟩
  · obtain ⟨h1, h2⟩ := dr_some.mp h
    obtain ⟨d, q⟩ := r.pown i p h2
    exact ⟨d, by rw [wipeT_get h1]; exact q⟩
  · exact r.inj i j p (dr_some.mp h1).2 (dr_some.mp h2).2
  · obtain ⟨h1, h2⟩ := dr_some.mp h
    rintro (q | q | ⟨j, q1, q2⟩)
    · exact r.out i p h2 q
    · obtain ⟨o, q3, _⟩ := r.there (.inr ⟨i, h2⟩)
      rw [q, hD] at q3; cases q3
    · exact h1 (by rw [r.inj i j p h2 q2]; exact q1)
  · exact r.new i p (dr_some.mp h).2
  · rcases h with q | q | ⟨j, _, q2⟩
    · obtain ⟨o, q1, q2⟩ := r.p0 a q
      exact ⟨o, e _ _ q1, q2⟩
    · exact ⟨.lst vs, by rw [q]; exact hD', trivial⟩
    · obtain ⟨o, q3, q4⟩ := r.there (.inr ⟨j, q2⟩)
      exact ⟨o, e _ _ q3, q4⟩
end
def W0 : WX := fun _ _ _ _ => False
def tC (K : PySem.W.Frag) (g : G) (xa : XA) : O → TT
  | .no => tYes
  | .yes e => tT K g W0 xa e
theorem compL_noex {elt : Tau → R (D × List Nat)} {cond : Tau → R Bool} {t : T} {own : List Nat} {τw : Tau} {x : Exc} : ∀ {ds : List D}, compL elt cond t own τw ds ≠ .ex x
  | [], h => by cases h
  | d :: ds, h => by
    unfold compL at h
    split at h
    · cases h
    · split at h
      · split at h
        · split at h
          · cases h
          · cases h
        · cases h
      · exact compL_noex h
      · cases h
section
variable {X : Cx} {c : Cfg} {sc : Scope} {g : G} {k : Nat} {W : WX} {xa : XA} (ev : Envr X c sc g k W xa)
theorem tIn_sub {t : T} {own : List Nat} (h : tIn t own = true) : ∀ j, j ∈ tSlots t → j ∈ own := fun j hj => by
  cases t with
  | n i => simp only [tSlots, List.mem_singleton] at hj; subst hj; simpa [tIn] using h
  | tup is =>
    simp only [tIn, List.all_eq_true] at h
    simpa using h j hj
structure CInv (K : PySem.W.Frag) (P : Addr → Prop) (H1 : Hp) (D0 : Addr) (cl : List D → R (List D × List Nat)) (ds : List D) (y : List D × List Nat) (i : Nat) (H2 : Hp) : Prop where
  le : i ≤ ds.length
  same : Same H1 H2
  ex : ∃ accv accd xs M, H2 D0 = some (.lst accv) ∧ DnAll K (wo (fun a => a = D0 ∨ P a) H2) accv accd ∧ accd.length ≤ i ∧ cl (ds.drop i) = .ok (xs, M) ∧ y.1 = accd ++ xs ∧ ∀ j, j ∈ M → j ∈ y.2
theorem rd_comp {ce : E} {t : T} {ci : I} {cc : O} {own : List Nat} (hin : tIn t own = true) {σ : L2.St} {H : Hp} {Q : VK} (h : tE X.K g W xa (.comp ce t ci cc own) σ H Q) :
    tLc (tI X.K g W xa ci) (tG X.K t) (tC X.K g xa cc) (tE X.K g W0 xa ce) own σ H Q := by
  obtain ⟨F, ps, τ, r, h⟩ := h
  unfold evE at h
  refine ⟨F, ps, τ, r, (Sat.bind.mp h).imp (fun x hx J H1 e1 _ ok D0 hD => ?_) fun _ z => z⟩
  split at hx
  case isFalse => exact hx.elim
  rename_i hlen
  cases hcl : compL (evE g ce) (evC g cc) t own (wipeT (frz (lkI ci x.2) τ) own) x.1 with
  | ex z => exact absurd hcl compL_noex
  | st => rw [hcl] at hx; exact hx.elim
  | ok y =>
  rw [hcl] at hx
  have hx : ∀ v H', EPost X.K F.P0 ps H H' (.comp ce t ci cc own) (.list y.1, lkI ci x.2 ++ y.2) v → Q v H' := hx
  have r1 : Rel X.K F (dr (lkI ci x.2) ps) H1 σ (frz (lkI ci x.2) τ) := (r.mono e1).frz _
  have there1 : ∀ a, PP F.P0 ps a → ∃ o, H1 a = some o ∧ IsCo o := fun a z => (r.mono e1).there z
  refine ⟨fun i m H2 => m = x.1.length - i ∧ CInv X.K (PP F.P0 (dr (lkI ci x.2 ++ y.2) ps)) H1 D0 (compL (evE g ce) (evC g cc) t own (wipeT (frz (lkI ci x.2) τ) own)) x.1 y i H2,
    ⟨x.1.length, by simp, Nat.zero_le _, same_upd hD, [], [], y.1, y.2, upd_same, .nil, Nat.le_refl _, hcl, rfl, fun _ q => q⟩, ?_⟩
  rintro i m H2 ⟨rfl, hi, s12, accv, accd, xs, M, hH2, hacc, hal, hc, hy, hM⟩
  by_cases hlt : i < x.1.length
  · -- one more turn
    obtain ⟨d, hd⟩ := get_lt hlt
    have hdrop : x.1.drop i = d :: x.1.drop (i + 1) := by
      have := List.drop_eq_getElem_cons hlt
      rw [this]
      have e : x.1[i] = d := by
        have := (List.getElem?_eq_some_iff.mp hd).2
        exact this
      rw [e]
    rw [hdrop] at hc
    unfold compL at hc
    refine .inr ⟨ok.go i H2 s12 hlt, CInv X.K (PP F.P0 (dr (lkI ci x.2 ++ y.2) ps)) H1 D0 (compL (evE g ce) (evC g cc) t own (wipeT (frz (lkI ci x.2) τ) own)) x.1 y (i + 1), fun H' h => ⟨x.1.length - (i + 1), by omega, rfl, h⟩, fun x0 H3 hyld => ?_⟩
    split at hc
    · cases hc
    rename_i τ' hasg
    have rb2 : Rel X.K (F.blk (dr (lkI ci x.2) ps) own D0) (dr own (dr (lkI ci x.2) ps)) H2 (wipe σ own) (wipeT (frz (lkI ci x.2) τ) own) := r1.blk s12 hD hH2
    have hG : Same (wo (PP F.P0 (dr (lkI ci x.2) ps)) H1) (wo (PP (F.blk (dr (lkI ci x.2) ps) own D0).P0 (dr own (dr (lkI ci x.2) ps))) H2) := wo_gen fun a o h1 h2 => ⟨fun q => by
      rcases blk_PP.mp q with q | q
      · rw [q, hD] at h2; cases h2
      · exact h1 q, s12 _ _ h2⟩
    obtain ⟨s23, hx0⟩ := ok.yld i H2 x0 H3 d _ s12 hG (fun a q => let ⟨o, q1, _⟩ := rb2.there q; ⟨o, q1⟩) hyld hd
    refine ⟨_, _, _, d, rb2.mono s23, hx0, ?_⟩
    have hasg' : asg (F.blk (dr (lkI ci x.2) ps) own D0).iol false t d (wipeT (frz (lkI ci x.2) τ) own) = some τ' := hasg
    rw [hasg']
    intro σ' ps'' r3 q1 q2 q3 q4
    refine ⟨?_, ?_⟩
    · have e1 : wipe σ' own = wipe (wipe σ own) own := wipe_eq q3 fun j hj => q4 j fun z => hj (tIn_sub hin j z)
      rw [e1]
      exact wipe_eq (wipe_length _ _) fun j hj => wipe_get hj
    -- the test
    have step : ∀ (b : Bool) (H4 : Hp), Same H3 H4 → evC g cc τ' = .ok b → (if b = true then tE X.K g W0 xa ce σ' H4 fun v H5 => ∃ acc, H5 D0 = some (.lst acc) ∧ acc.length < sizeLine ∧ CInv X.K (PP F.P0 (dr (lkI ci x.2 ++ y.2) ps)) H1 D0 (compL (evE g ce) (evC g cc) t own (wipeT (frz (lkI ci x.2) τ) own)) x.1 y (i + 1) (upd H5 D0 (.lst (acc ++ [v])))
      else CInv X.K (PP F.P0 (dr (lkI ci x.2 ++ y.2) ps)) H1 D0 (compL (evE g ce) (evC g cc) t own (wipeT (frz (lkI ci x.2) τ) own)) x.1 y (i + 1) H4) := fun b H4 s34 hb => by
      rw [hb] at hc
      cases b with
      | false =>
        rw [if_neg (by decide)]
        have s24 := s23.trans s34
        exact ⟨hlt, s12.trans s24, accv, accd, xs, M, s24 _ _ hH2, DnAll.mono (wo_same s24) _ hacc, Nat.le_succ_of_le hal, hc, hy, hM⟩
      | true =>
        rw [if_pos rfl]
        dsimp only at hc
        split at hc
        case h_2 => cases hc
        rename_i z L he
        split at hc
        case h_2 => cases hc
        rename_i zs N hcs
        cases hc
        refine ⟨_, _, _, r3.mono s34, ?_⟩
        rw [he]
        intro v H5 pe
        have s25 := (s23.trans s34).trans pe.same
        have hD5 : H5 D0 = some (.lst accv) := s25 _ _ hH2
        refine ⟨accv, hD5, by rw [hacc.length]; omega, hlt, fun a o q => ?_, accv ++ [v], accd ++ [z], zs, N, upd_same, ?_, by rw [List.length_append]; simp; omega, hcs, by rw [hy, List.append_assoc]; rfl, fun j hj => hM j (List.mem_append_right _ hj)⟩
        · rw [upd_ne (fun e => by rw [e, hD] at q; cases q)]
          exact (s12.trans s25) _ _ q
        · refine DnAll.append (DnAll.mono (wo_gen fun a o h1 h2 => ⟨h1, ?_⟩) _ hacc) (.cons (Dn.mono (wo_gen fun a o h1 h2 => ⟨?_, ?_⟩) _ pe.den) .nil)
          · rw [upd_ne fun e => h1 (.inl e)]; exact s25 _ _ h2
          · rintro (q | q)
            · exact h1 (.inl (.inr (.inl q)))
            · rcases q with q | ⟨j, q⟩
              · exact h1 (.inl (.inl q))
              · obtain ⟨n1, n2⟩ := dr_some.mp q
                have nl : j ∉ lkI ci x.2 := fun z => n1 (List.mem_append_left _ z)
                have p1 : dr (lkI ci x.2) ps j = some a := dr_some.mpr ⟨nl, n2⟩
                by_cases ho : j ∈ own
                · exact h1 (.inl (.inr (.inr ⟨j, ho, p1⟩)))
                · refine h1 (.inr ⟨j, dr_some.mpr ⟨fun z => n1 (List.mem_append_right _ (hM j (List.mem_append_left _ z))), ?_⟩⟩)
                  rw [q1 j (fun z => ho (tIn_sub hin j z))]
                  exact dr_some.mpr ⟨ho, p1⟩
          · have : a ≠ D0 := fun e => h1 (.inl (.inr (.inl e)))
            rw [upd_ne this]; exact h2
    cases cc with
    | no => exact step true H3 (Same.refl _) rfl
    | yes q =>
      refine ⟨_, _, _, r3, ?_⟩
      have hb : evC g (.yes q) τ' = evT g q τ' := rfl
      cases hq : evT g q τ' with
      | ok b => exact fun H4 s34 => step b H4 s34 (hb.trans hq)
      | ex z =>
        rw [hb, hq] at hc; cases hc
      | st =>
        rw [hb, hq] at hc; cases hc
  · -- the end
    have hie : i = x.1.length := by omega
    rw [hie, List.drop_length] at hc
    cases hc
    rw [List.append_nil] at hy
    refine .inl ⟨ok.stop i H2 s12 (by omega), hx _ _ ?_⟩
    have npD : ¬ PP F.P0 (dr (lkI ci x.2 ++ y.2) ps) D0 := fun q => by
      obtain ⟨o, q1, _⟩ := there1 D0 (PP_dr0 _ q)
      rw [hD] at q1; cases q1
    rw [hy]
    have den : Dn X.K (wo (PP F.P0 (dr (lkI ci x.2 ++ y.2) ps)) H2) (.ref D0) (.list accd) := .lst (.inl (.inl (wo_some.mpr ⟨npD, hH2⟩))) (hacc.sub fun a q => .inr q)
    rw [← hy]
    refine ⟨e1.trans s12, by rw [hy] at *; exact den, by rw [hy] at *; exact Dn.elcl wo_all den, fun _ _ => ⟨D0, rfl, e1.free hD, accv, hH2, by rw [hy]; exact hacc⟩⟩
end
end Mp

/-! MiniPy, part J: every expression of the text. -/
namespace Mp
open PySem PySem.Spec PyProof.Rows L2
section
variable {X : Cx} {c : Cfg} {sc : Scope} {g : G} {k : Nat} {W : WX} {xa : XA} (ev : Envr X c sc g k W xa)
theorem nstar {a : Expr} (h : (!isStar a) = true) : isStar a = false := by simpa using h
include ev
theorem s_mkI {f : Expr → E} {tg iter : Expr} (hf : ∀ e, PE X e (tE X.K g W xa (f e))) : PI X tg iter (tI X.K g W xa (mkI c sc f tg iter)) := by
  have dflt : PI X tg iter (tI X.K g W xa (.it (f iter))) := sI_it (hf iter)
  have bad : PI X tg iter (tI X.K g W xa (.it .bad)) := sI_it sE_bad
  unfold mkI
  split
  · rename_i x p a pos
    split
    · rename_i hc
      simp only [Bool.and_eq_true] at hc
      have hs := nstar hc.2
      split
      · rename_i hx; subst hx
        split
        · rename_i hb
          exact sI_r1 ev hb hc.1.1 hs (hf a)
        · exact bad
      · split
        · rename_i hx; subst hx
          split
          · rename_i hb
            exact sI_rev ev hb hc.1.1 hs (hf a)
          · exact bad
        · split
          · rename_i hx; subst hx
            split
            · rename_i hb
              simp only [Bool.and_eq_true] at hb
              cases tg with
              | Tuple elts kk tpos => exact sI_enum ev hb.1 hc.1.1 hs (hf a)
              | _ => simp [isTup] at hb
            · exact bad
          · exact dflt
    · exact dflt
  · rename_i x p a b pos
    split
    · rename_i hc
      simp only [Bool.and_eq_true] at hc
      have hs := nstar hc.1.2
      have hs' := nstar hc.2
      split
      · rename_i hx; subst hx
        split
        · rename_i hb
          exact sI_r2 ev hb hc.1.1.1 hs hs' (hf a) (hf b)
        · exact bad
      · split
        · rename_i hx; subst hx
          split
          · rename_i hb
            simp only [Bool.and_eq_true] at hb
            cases tg with
            | Tuple elts kk tpos => exact sI_zip ev hb.1 hc.1.1.1 hs hs' (hf a) (hf b)
            | _ => simp [isTup] at hb
          · exact bad
        · exact dflt
    · exact dflt
  · exact dflt
omit ev in
theorem sT_st {e : Expr} {ce : E} (h : ∀ τ, evT g ce τ = .st) : PT X e (tT X.K g W xa ce) := ⟨fun _ _ _ _ _ _ q => by
  obtain ⟨_, _, τ, _, q⟩ := q
  rw [h τ] at q; exact q.elim⟩
omit ev in
theorem sW_bad {e : Expr} : PW X e (tT X.K g W xa .bad) := ⟨fun _ _ _ _ _ _ _ h => by obtain ⟨_, _, _, _, h⟩ := h; exact h.elim⟩
omit ev in
/-- a value's truth -/
theorem sT_of {e : Expr} {ce : E} (h : PE X e (tE X.K g W xa ce)) (ht : ∀ τ, evT g ce τ = (evE g ce τ).bind fun x => R.of (truD x.1))
    (he : ∀ whole, isTrue e X.env whole = (do let v ← whole; standAt e.pos; holding [v] (truthy v))) : PT X e (tT X.K g W xa ce) := by
  refine PT.imp (pt_truthD h he) fun σ H Q q => ?_
  obtain ⟨F, ps, τ, r, q⟩ := q
  rw [ht τ] at q
  refine one r q fun x v H1 pa r1 hz => ?_
  cases e' : truD x.1 with
  | none => rw [e'] at hz; exact hz.elim
  | some z => rw [e'] at hz; exact ⟨x.1, z, pa.dn, e', hz _ pa.same⟩
omit ev in
theorem evT_bi {f : Bi} {es : Es} (τ : Tau) : evT g (.bi f es) τ = (evE g (.bi f es) τ).bind fun x => R.of (truD x.1) := by
  unfold evT evE
  cases evEs g es τ with
  | ok x =>
    simp only [R.bind_ok]
    cases biD f x.1 with
    | some z => rfl
    | none => rfl
  | ex x => rfl
  | st => rfl
omit ev in
theorem evT_st (τ : Tau) {ce : E} (h : evT g ce τ = .st) : evT g ce τ = .st := h
/-- the three readings of an expression -/
structure All (X : Cx) (g : G) (W : WX) (xa : XA) (e : Expr) (ce : E) : Prop where
  pe : PE X e (tE X.K g W xa ce)
  pt : PT X e (tT X.K g W xa ce)
  pw : (∃ op vs pos, e = .BoolOp op vs pos) → PW X e (tT X.K g W xa ce)
  pv : ∀ i, ce = .v i → PE X e (tVar i)
omit ev in
theorem All.bad {e : Expr} : All X g W xa e .bad := ⟨sE_bad, sT_bad, fun _ => sW_bad, fun _ z => by cases z⟩
omit ev in
theorem All.of {e : Expr} {ce : E} (h1 : PE X e (tE X.K g W xa ce)) (h2 : PT X e (tT X.K g W xa ce)) (h3 : ∀ op vs pos, e ≠ .BoolOp op vs pos) (h4 : ∀ i, ce = .v i → PE X e (tVar i) := by intro _ z; cases z) : All X g W xa e ce := ⟨h1, h2, fun ⟨_, _, _, z⟩ => (h3 _ _ _ z).elim, h4⟩
omit ev in
theorem toEs_one {f : Expr → E} {a : Expr} : toEs ([a].map f) = .cons (f a) .nil := rfl
theorem s_mkB {f : Expr → E} {x : Str} {args : List Expr} {p pos : Pos} (hf : ∀ e, PE X e (tE X.K g W xa (f e))) (hg : isGl sc x = true) (hs : args.any isStar = false) : All X g W xa (.Call (.Name x p) args [] pos) (mkB c sc f x args) := by
  have nb : ∀ op vs q, Expr.Call (.Name x p) args [] pos ≠ .BoolOp op vs q := fun _ _ _ z => by cases z
  unfold mkB
  split
  · rename_i hb
    have one : ∀ (a : Expr), [a].any isStar = false → All X g W xa (.Call (.Name x p) [a] [] pos) (match biOf1 x with | some k => .bi k (.cons (f a) .nil) | none => .bad) := fun a hs => by
      split
      · rename_i k hk
        exact .of (sE_bi1 ev hk hg hb hs (hf a)) (sT_bi1 ev hk hg hb hs (hf a)) (fun _ _ _ z => by cases z)
      · exact .bad
    split
    · rename_i a
      split
      · rename_i y p2 b pos2
        split
        · rename_i hc
          obtain ⟨rfl, rfl, h3, h4, h5⟩ := hc
          exact .of (sE_trev ev hb hg h4 h3 h5 (hf b)) (sT_st fun _ => by unfold evT; rfl) (fun _ _ _ z => by cases z)
        · exact one _ hs
      · exact one _ hs
    · rename_i a b
      split
      · rename_i hx; subst hx
        split
        · rename_i t p2
          split
          · rename_i hc
            simp only [Bool.and_eq_true] at hc
            split
            · rename_i n hn
              simp only [List.any_cons, Bool.or_eq_false_iff] at hs
              exact .of (sE_isi ev hb hg hn hc.1.1 hc.1.2 hs.1 (hf a)) (sT_isi ev hb hg hn hc.1.1 hc.1.2 hs.1 (hf a)) (fun _ _ _ z => by cases z)
            · exact .bad
          · exact .bad
        · exact .bad
      · split
        · rename_i k hk
          have he := sE_bi2 (pos := pos) (p := p) ev hk hg hb hs (hf a) (hf b)
          exact .of he (sT_of he evT_bi fun _ => rfl) (fun _ _ _ z => by cases z)
        · exact .bad
    · exact .bad
  · exact .bad
omit ev in
theorem isSet_no {iter : Expr} (h : isSet iter = false) (env : Env) (x : Value) : foldedSetIterable iter env x = pure x := by
  unfold foldedSetIterable
  cases iter <;> first | rfl | (simp [isSet] at h)
omit ev in
theorem behind_no {op : CmpOp} {b : Expr} (h : isSet b = false) : behindInMarks op b = false := by
  unfold behindInMarks
  cases b <;> first | (simp [isSet] at h; done) | (cases op <;> rfl)
end
section
variable {c : Cfg} {g : G} {k : Nat} {xa : XA}
/-- a block's context is one of those -/
theorem Envr.blk {X : Cx} {sc : Scope} {W : WX} (ev : Envr X c sc g k W xa) (s : Shared) (H : Hp) (scope : Scope) (C : Addr) (cl : List (Str × Addr)) (fp : List Addr) :
    Envr (X.blk s H scope (compEnvC scope cl C X.env) fp) c (relS scope sc) g k W0 xa :=
  ⟨ev.N, ev.nd, by rw [← ev.sc]; rfl, ev.calm, ev.room, takes0, ev.fn, ev.bi, ev.gl, ev.gd, ev.xr, fun x q f h => ⟨(ev.xc x q f h).ex⟩⟩
theorem isOwn_blk {X : Cx} {sc : Scope} (hsc : X.env.scope = sc) (s : Shared) (H : Hp) (scope : Scope) (C : Addr) (cl : List (Str × Addr)) (fp : List Addr) :
    OwnN (X.blk s H scope (compEnvC scope cl C X.env) fp) scope := fun x hx => by
  unfold isOwn at hx
  split at hx
  · rename_i e
    have e2 : (X.blk s H scope (compEnvC scope cl C X.env) fp).env.scope.names.lookup x = some .local := lookup_relS_keep (by decide) e
    exact ⟨.inl e2, .inr e2⟩
  · rename_i e
    have e2 : (X.blk s H scope (compEnvC scope cl C X.env) fp).env.scope.names.lookup x = some .cell := lookup_relS_keep (by decide) e
    exact ⟨.inr e2, .inl (by show (scope.names.lookup x == some .cell) = true; rw [e]; rfl)⟩
  · cases hx
theorem s_all : ∀ (n : Nat) {X : Cx} {sc : Scope} {W : WX} (ev : Envr X c sc g k W xa) (e : Expr), All X g W xa e (cE c n sc e)
  | 0, X, sc, W, ev, e => by unfold cE; exact .bad
  | n + 1, X, sc, W, ev, e => by
    have ih : ∀ e, All X g W xa e (cE c n sc e) := s_all n ev
    unfold cE
    split
    · -- a name
      rename_i x pos
      split
      · rename_i ho
        split
        · rename_i hv
          split
          · rename_i i hi
            obtain ⟨o1, o2, _⟩ := ok_names ho
            exact .of (sE_v ev ho hv hi) (sT_v ev ho hv hi) (fun _ _ _ z => by cases z) (fun j z => by cases z; exact pe_var (ev.at_ hi) (ev.vis_of hv) o1 o2)
          · exact .bad
        · split
          · rename_i hv
            split
            · rename_i i hi
              exact .of (sE_g ev ho hv hi) (sT_st fun _ => by unfold evT; rfl) (fun _ _ _ z => by cases z)
            · exact .bad
          · exact .bad
      · exact .bad
    · exact .of (sE_k pe_int (fun _ => .int _) rfl) (sT_st fun _ => by unfold evT; rfl) (fun _ _ _ z => by cases z)
    · exact .of (sE_k pe_bl (fun _ => .bl _) rfl) (sT_st fun _ => by unfold evT; rfl) (fun _ _ _ z => by cases z)
    · exact .of (sE_k pe_non (fun _ => .non) rfl) (sT_st fun _ => by unfold evT; rfl) (fun _ _ _ z => by cases z)
    · exact .of (sE_k pe_str (fun _ => .str _) rfl) (sT_st fun _ => by unfold evT; rfl) (fun _ _ _ z => by cases z)
    · exact .of (sE_bin ev (ih _).pe (ih _).pe) (sT_st fun _ => by unfold evT; rfl) (fun _ _ _ z => by cases z)
    · exact .of (sE_not (ih _).pe) (sT_not (ih _).pt) (fun _ _ _ z => by cases z)
    · exact .of (sE_neg (ih _).pe) (sT_st fun _ => by unfold evT; rfl) (fun _ _ _ z => by cases z)
    · -- and
      rename_i a b r p
      split
      · have w := sW_and (pos := p) (ih a).pt (pw_and1 (ih b).pt)
        exact ⟨sE_and (ih a).pe (pe_one (ih b).pe), w.pt, fun _ => w, fun _ z => by cases z⟩
      · have w := sW_and (ih a).pt ((ih (.BoolOp .And (b :: r) p)).pw ⟨_, _, _, rfl⟩)
        exact ⟨sE_and (ih a).pe (ih (.BoolOp .And (b :: r) p)).pe, w.pt, fun _ => w, fun _ z => by cases z⟩
    · -- or
      rename_i a b r p
      split
      · have w := sW_or (pos := p) (ih a).pt (pw_or1 (ih b).pt)
        exact ⟨sE_or (ih a).pe (pe_one (ih b).pe), w.pt, fun _ => w, fun _ z => by cases z⟩
      · have w := sW_or (ih a).pt ((ih (.BoolOp .Or (b :: r) p)).pw ⟨_, _, _, rfl⟩)
        exact ⟨sE_or (ih a).pe (ih (.BoolOp .Or (b :: r) p)).pe, w.pt, fun _ => w, fun _ z => by cases z⟩
    · -- one comparison
      split
      · exact .bad
      · rename_i h
        have h := fun op => behind_no (op := op) (Bool.eq_false_iff.mpr h)
        split
        · rename_i i hi
          split
          · rename_i ho; subst ho
            exact .of (sE_gin ev (ih _).pe hi (h _)) (sT_gin ev (ih _).pe hi (h _)) (fun _ _ _ z => by cases z)
          · split
            · rename_i ho; subst ho
              exact .of (sE_gnin ev (ih _).pe hi (h _)) (sT_gnin ev (ih _).pe hi (h _)) (fun _ _ _ z => by cases z)
            · exact .bad
        exact .of (sE_cmp ev (ih _).pe (ih _).pe (h _)) (sT_cmp ev (ih _).pe (ih _).pe (h _)) (fun _ _ _ z => by cases z)
    · -- two
      rename_i a op op' b b' pos
      split
      · exact .bad
      · rename_i h
        have h2 : behindInMarks op' b' = false := nobehind _ (fun z => h (.inr (.inr (.inl z)))) (fun z => h (.inr (.inr (.inr z))))
        exact .of (sE_chain ev (ih _).pe (ih _).pe (ih _).pe h2) (sT_chain ev (ih _).pe (ih _).pe (ih _).pe h2) (fun _ _ _ z => by cases z)
    · exact .of (sE_ite (ih _).pt (ih _).pe (ih _).pe) (sT_st fun _ => by unfold evT; rfl) (fun _ _ _ z => by cases z)
    · -- a tuple
      split
      · exact .bad
      · rename_i h
        exact .of (sE_tup (sEs (fun e _ => (ih e).pe) (Bool.eq_false_iff.mpr h))) (sT_st fun _ => by unfold evT; rfl) (fun _ _ _ z => by cases z)
    · split
      · exact .bad
      · rename_i h
        exact .of (sE_lst (sEs (fun e _ => (ih e).pe) (Bool.eq_false_iff.mpr h))) (sT_st fun _ => by unfold evT; rfl) (fun _ _ _ z => by cases z)
    · exact .of sE_dct0 (sT_st fun _ => by unfold evT; rfl) (fun _ _ _ z => by cases z)
    · -- a written display
      rename_i ks vs pos hne
      split
      · rename_i hl
        split
        · rename_i kds hk
          refine .of (sE_dctK hk (fun z => ?_) hl) (sT_st fun _ => by unfold evT; rfl) (fun _ _ _ z => by cases z)
          subst z
          cases vs with
          | nil => exact hne rfl rfl
          | cons v vs => cases hk
        · exact .bad
      · exact .bad
    · -- a slice
      rename_i a lo hi p2 pos
      refine .of (sE_sli (ih _).pe ?_ ?_) (sT_st fun _ => by unfold evT; rfl) (fun _ _ _ z => by cases z)
      · cases lo with
        | none => exact sO_no
        | some e => exact sO_yes (ih e).pe
      · cases hi with
        | none => exact sO_no
        | some e => exact sO_yes (ih e).pe
    · exact .of (sE_rev (ih _).pe) (sT_st fun _ => by unfold evT; rfl) (fun _ _ _ z => by cases z)
    · -- an index
      rename_i a i pos _ _
      split
      · rename_i h
        have hs : PlainIx i := by
          cases i <;> first | (simp [plainIx] at h; done) | exact fun _ _ => rfl
        split
        · rename_i k hk
          exact .of (sE_gix ev hk (ih _).pe hs) (sT_st fun _ => by unfold evT; rfl) (fun _ _ _ z => by cases z)
        exact .of (sE_sub ev (ih _).pe (ih _).pe hs) (sT_sub ev (ih _).pe (ih _).pe hs) (fun _ _ _ z => by cases z)
      · exact .bad
    · -- a call
      rename_i x p args pos
      split
      · rename_i h
        simp only [Bool.and_eq_true, Bool.not_eq_true'] at h
        obtain ⟨⟨ho, hg⟩, hs⟩ := h
        split
        · rename_i f hf
          have ha := sEs (f := cE c n sc) (fun e _ => (ih e).pe) hs
          have hn : args = [] → toEs (args.map (cE c n sc)) = .nil := fun z => by rw [z]; rfl
          exact .of (sE_call ev ho hg hf hs hn ha) (sT_call ev ho hg hf hs hn ha) (fun _ _ _ z => by cases z)
        · exact s_mkB ev (fun e => (ih e).pe) hg hs
      · exact .bad
    · -- bit_length
      split
      · rename_i h
        simp only [Bool.and_eq_true] at h
        obtain ⟨⟨h1, h2⟩, h3⟩ := h
        have h1 := of_decide_eq_true h1
        subst h1
        have he := sE_bits h3 h2 (ih _).pe
        exact .of he (sT_of he evT_bi fun _ => rfl) (fun _ _ _ z => by cases z)
      · exact .bad
    · -- a list comprehension
      rename_i elt tg iter ifs scope pos
      split
      · rename_i h
        simp only [Bool.and_eq_true, Bool.not_eq_true'] at h
        split
        · rename_i t ht
          split
          · rename_i hin
            have okb : BlkOk X.N X.env.scope scope (ownOf c.N scope) := by rw [ev.N, ev.sc]; exact blkOk_by h.1
            have hG : ∀ (s : Shared) (H : Hp) (C : Addr) (cl : List (Str × Addr)) (fp : List Addr), PG (X.blk s H scope (compEnvC scope cl C X.env) fp) tg (tG X.K t) := fun s H C cl fp =>
              sG (X := X.blk s H scope (compEnvC scope cl C X.env) fp) (osc := scope) ev.calm (isOwn_blk ev.sc s H scope C cl fp) ev.nd (by show cT X.N scope tg = some t; rw [ev.N]; exact ht)
            have hI : PI X tg iter (tI X.K g W xa (mkI c sc (cE c n sc) tg iter)) := s_mkI ev fun e => (ih e).pe
            have hE : ∀ e (s : Shared) (H : Hp) (C : Addr) (cl : List (Str × Addr)) (fp : List Addr), All (X.blk s H scope (compEnvC scope cl C X.env) fp) g W0 xa e (cE c n (relS scope sc) e) := fun e s H C cl fp => s_all n (ev.blk s H scope C cl fp) e
            have fin : ∀ {qs : List Expr} {cc : O}, (∀ (s : Shared) (H : Hp) (C : Addr) (cl : List (Str × Addr)) (fp : List Addr), PTs (X.blk s H scope (compEnvC scope cl C X.env) fp) qs (tC X.K g xa cc)) →
                All X g W xa (.ListComp elt [⟨tg, iter, qs, 0⟩] scope pos) (.comp (cE c n (relS scope sc) elt) t (mkI c sc (cE c n sc) tg iter) cc ((ownOf c.N scope).map (·.2))) := fun hT =>
              .of (PE.imp (pe_lc ev.calm ev.nd hI okb hG hT (fun s H C cl fp => (hE elt s H C cl fp).pe) (isSet_no h.2 _)) fun σ H Q q => rd_comp hin q) (sT_st fun _ => by unfold evT; rfl) (fun _ _ _ z => by cases z)
            split
            · exact fin fun s H C cl fp => pts_nil
            · rename_i q
              exact fin fun s H C cl fp => pts_one (hE q s H C cl fp).pt
            · exact .bad
          · exact .bad
        · exact .bad
      · exact .bad
    · exact .bad
end
end Mp

/-! MiniPy, part K: statements. -/
namespace Mp
open PySem PySem.Spec PyProof.Rows L2
/-! ### from the text -/
def isComp : Expr → Bool
  | .ListComp .. => true
  | .SetComp .. => true
  | .DictComp .. => true
  | _ => false
def ssOf (f : Stmt → S) : List Stmt → Ss
  | [] => .nil
  | s :: ss => .cons (f s) (ssOf f ss)
def eF : Nat := 40
/-- a slot that is read -/
def visIx (c : Cfg) (sc : Scope) (x : Str) : Option Nat := if okName x && isVis sc x then ixOf x c.N else none
def ownIx (c : Cfg) (sc : Scope) (x : Str) : Option Nat := if isOwn sc x then ixOf x c.N else none
def isLoc (sc : Scope) (x : Str) : Bool := match sc.names.lookup x with
  | some .local => true
  | _ => false
/-- a call of the text's own -/
def fnIx (c : Cfg) (sc : Scope) (f : Str) (args : List Expr) : Option Nat := if okName f && isGl sc f && !(args.any isStar) then noOf f c.fns else none
/-- arguments of which the last one is a call that changes an argument -/
def ioLast (c : Cfg) (sc : Scope) : List Expr → Option (List Expr × List Expr × Nat)
  | [] => none
  | [.Call (.Name f _) args [] _] => match fnIx c sc f args with
    | some k => if (c.io k).isEmpty then none else some ([], args, k)
    | none => none
  | e :: es => match ioLast c sc es with
    | some q => some (e :: q.1, q.2)
    | none => none
/-- name = e -/
def cSet (c : Cfg) (sc : Scope) (x : Str) (py : Pos) (i : Nat) (e : Expr) : S :=
  match e with
  | .ListComp elt gs scope p => .set (.n i) (cE c eF sc e)
  | .Call (.Attribute (.Name l pl) m apos) [] [] cpos => if m = "pop" then
      if apos.endLine == cpos.line then match visIx c sc l with
        | some j => .pop (some i) j
        | none => .bad
      else .bad
    else .set (.n i) (cE c eF sc e)
  | .Call (.Attribute (.Name l pl) m apos) [.Constant (.int z) _ _] [] cpos => if m = "pop" then
      if z = 0 ∧ apos.endLine == cpos.line then match visIx c sc l with
        | some j => .popF (some i) j
        | none => .bad
      else .bad
    else .set (.n i) (cE c eF sc e)
  | .Call (.Name f p) args [] cpos => match fnIx c sc f args with
    | some k => if (c.io k).isEmpty then (if c.fr k then .callF i k (toEs (args.map (cE c eF sc))) else match ioLast c sc args with
        | some q => .ioC i k (toEs (q.1.map (cE c eF sc))) q.2.2 (toEs (q.2.1.map (cE c eF sc)))
        | none => .set (.n i) (cE c eF sc e)) else .io (some i) k (toEs (args.map (cE c eF sc)))
    | none => .set (.n i) (cE c eF sc e)
  | _ => if isComp e then .bad else .set (.n i) (cE c eF sc e)
def parOk (sc : Scope) : List Expr → List Expr → Bool
  | [.Name x px, .Name y py], [a, b] => isLoc sc x && isLoc sc y && (py.line == px.line) && (x != y) && !([a, b].any isStar) && !([a, b].all (foldedForSure 8)) && !([a, b].all (constantsAlone 8))
  | [.Name x px, .Name y py, .Name z pz], [a, b, d] => isLoc sc x && isLoc sc y && isLoc sc z && (py.line == px.line) && (pz.line == px.line) && (x != y) && (x != z) && (y != z) && !([a, b, d].any isStar) && !([a, b, d].all (foldedForSure 8)) && !([a, b, d].all (constantsAlone 8))
  | _, _ => false
def cS (c : Cfg) : Nat → Scope → Stmt → S
  | 0, _, _ => .bad
  | n + 1, sc, st => match st with
    | .Assign [.Name x py] e _ => match ownIx c sc x with
      | some i => cSet c sc x py i e
      | none => .bad
    | .Assign [.Tuple ts k tp] e _ => match namesIx c.N sc ts with
      | some is => match e with
        | .Tuple es _ _ => if parOk sc ts es then .par is (toEs (es.map (cE c eF sc))) else .bad
        | _ => .set (.tup is) (cE c eF sc e)
      | none => .bad
    | .Assign [.Subscript (.Name l pl) i sp] e _ => if plainIx i then match visIx c sc l with
        | some j => .setIx j (cE c eF sc i) (cE c eF sc e)
        | none => .bad
      else .bad
    | .Expr (.Call (.Attribute (.Name l pl) m apos) args [] cpos) _ => if apos.endLine == cpos.line then match visIx c sc l with
        | some j => match args with
          | [] => if m = "pop" then .pop none j else .bad
          | [a] => if isStar a then .bad else if m = "append" then .app j (cE c eF sc a) else if m = "extend" then .ext j (cE c eF sc a) else .bad
          | [a, b] => if isStar a || isStar b then .bad else if m = "pop" then .dpop j (cE c eF sc a) (cE c eF sc b) else .bad
          | _ => .bad
        | none => .bad
      else .bad
    | .Expr (.Call (.Name f p) args [] cpos) _ => match fnIx c sc f args with
      | some k => if (c.io k).isEmpty then .ex (cE c eF sc (.Call (.Name f p) args [] cpos)) else .io none k (toEs (args.map (cE c eF sc)))
      | none => .bad
    | .If t a b _ => .ifS (cE c eF sc t) (ssOf (cS c n sc) a) (ssOf (cS c n sc) b)
    | .While t b [] _ => .wh [] (cE c eF sc t) (ssOf (cS c n sc) b)
    | .For tg iter b [] _ => if isSet iter then .bad else match cT c.N sc tg with
      | some t => .forS [] t (mkI c sc (cE c eF sc) tg iter) (ssOf (cS c n sc) b)
      | none => .bad
    | .Return (some (.Call (.Name f p) args [] cpos)) _ => match fnIx c sc f args with
      | some k => if (c.io k).isEmpty then .ret (cE c eF sc (.Call (.Name f p) args [] cpos)) else .ioR k (toEs (args.map (cE c eF sc)))
      | none => .ret (cE c eF sc (.Call (.Name f p) args [] cpos))
    | .Return (some e) _ => .ret (cE c eF sc e)
    | .Return none _ => .retN
    | .Break _ => .brk
    | .Continue _ => .ct
    | .Pass _ => .pass
    | .Raise (some (.Call (.Name x _) [a] [] _)) none _ => match xcOf x c.xcs with
      | some q => if isStar a || !isGl sc x || !okName x then .bad else .raise q.1 q.2 (cE c eF sc a)
      | none => .bad
    | _ => .bad

/-! ### the readings -/
def Post (K : PySem.W.Frag) (F : Fx) (W : WX) (xa : XA) (D : Ends) : Out → Prop
  | .nx τ => ∀ ps σ H, Rel K F ps H σ τ → D.nx σ H
  | .brk τ => ∀ ps σ H, Rel K F ps H σ τ → D.bk σ H
  | .ct τ => ∀ ps σ H, Rel K F ps H σ τ → D.ct σ H
  | .ret τ d => ∀ ps σ H v, Rel K F ps H σ τ → Dn K (wo (PP F.P0 ps) H) v d → (F.iol.contains mkN = true → isC d = true → ∃ p, v = .ref p ∧ F.nw p ∧ OwnAt K H (fun a => a = p ∨ PP F.P0 ps a) p d) → D.rt v H
  | .ex x τ => ∀ ps σ H cls dd, Rel K F ps H σ τ → xa x cls dd H → W cls dd σ H
  | .st => False
def tS (K : PySem.W.Frag) (g : G) (W : WX) (xa : XA) (io : List Nat) (s : S) : TS := fun D σ H => ∃ F ps τ, Rel K F ps H σ τ ∧ F.iol = io ∧ Post K F W xa D (evS g io s τ)
def tSs (K : PySem.W.Frag) (g : G) (W : WX) (xa : XA) (io : List Nat) (s : Ss) : TS := fun D σ H => ∃ F ps τ, Rel K F ps H σ τ ∧ F.iol = io ∧ Post K F W xa D (evSs g io s τ)
theorem PS.imp {X : Cx} {e : Stmt} {t t' : TS} (h : PS X e t) (i : ∀ D σ H, t' D σ H → t D σ H) : PS X e t' := ⟨fun pins s σ H D I q => h.run pins s σ H D I (i D σ H q)⟩
theorem PSs.imp {X : Cx} {e : List Stmt} {t t' : TS} (h : PSs X e t) (i : ∀ D σ H, t' D σ H → t D σ H) : PSs X e t' := ⟨fun pins s σ H D I q => h.run pins s σ H D I (i D σ H q)⟩
theorem oneS {K : PySem.W.Frag} {F : Fx} {W : WX} {xa : XA} {D : Ends} {α : Type} {r : R α} {τ : Tau} {f : α → Out} {ps : Ps} {H : Hp} {σ : L2.St} (h : Post K F W xa D (.ofR r τ f)) (rl : Rel K F ps H σ τ) : Sat r (fun a => Post K F W xa D (f a)) (XO W xa σ H) := by
  cases r with
  | ok a => exact h
  | ex x => exact fun cls dd H' e q => h ps σ H' cls dd (rl.mono e) q
  | st => exact h
structure EnvS (X : Cx) (c : Cfg) (sco : Scope) (g : G) (k : Nat) (W : WX) (xa : XA) : Prop extends Envr X c sco g k W xa where
  own : OwnN X sco
  hp : PassesOwn (model X.prog X.w) X.A X.env X.xe
  kind : X.env.scope.kind = .function
  io : c.io = g.io
  fr : c.fr = g.fr
section
variable {K : PySem.W.Frag} {F : Fx} {ps : Ps} {H H1 : Hp} {σ : L2.St} {τ τ' : Tau} {i : Nat} {v : V} {d : D} {L : List Nat} {e : E}
/-- a slot takes what an expression has made -/
theorem asg_n (r : Rel K F ps H σ τ) (pa : EPost K F.P0 ps H H1 e (d, L) v) (h : asg F.iol e.fresh (.n i) d (frz L τ) = some τ') : ∃ ps', Rel K F ps' H1 (σ.set i (some v)) τ' := by
  unfold asg at h
  dsimp only at h
  split at h
  · cases h
  rename_i hi
  cases h
  have r1 := (r.mono pa.same).frz L
  by_cases hf : (e.fresh && isC d) = true
  · rw [hf]
    simp only [Bool.and_eq_true] at hf
    obtain ⟨p, rfl, h1, h2⟩ := pa.fr hf.1 hf.2
    by_cases hlt : i < τ.length
    · exact ⟨_, (r.frz L).setNew pa.same hi (by rw [frz_length]; exact hlt) h1 h2⟩
    · rw [List.set_eq_of_length_le (show σ.length ≤ i by rw [r.ls]; omega), List.set_eq_of_length_le (show (frz L τ).length ≤ i by rw [frz_length]; omega)]
      exact ⟨_, r1⟩
  · rw [Bool.eq_false_iff.mpr hf]
    exact ⟨_, r1.set pa.den⟩
end
section
variable {X : Cx} {c : Cfg} {sc : Scope} {g : G} {k : Nat} {W : WX} {xa : XA} (ev : EnvS X c sc g k W xa) {io : List Nat}
theorem s_bad {st : Stmt} : PS X st (tS X.K g W xa io .bad) := ⟨fun _ _ _ _ _ _ h => by obtain ⟨_, _, _, _, _, h⟩ := h; exact h.elim⟩
theorem s_nil : PSs X [] (tSs X.K g W xa io .nil) := PSs.imp pss_nil fun D σ H h => by
  obtain ⟨F, ps, τ, r, _, h⟩ := h
  exact h ps σ H r
theorem s_cons {st : Stmt} {rest : List Stmt} {s : S} {ss : Ss} (h1 : PS X st (tS X.K g W xa io s)) (h2 : PSs X rest (tSs X.K g W xa io ss)) : PSs X (st :: rest) (tSs X.K g W xa io (.cons s ss)) := by
  refine PSs.imp (pss_cons h1 h2) fun D σ H h => ?_
  obtain ⟨F, ps, τ, r, hio, h⟩ := h
  refine ⟨F, ps, τ, r, hio, ?_⟩
  unfold evSs at h
  cases hs : evS g io s τ with
  | nx τ2 => rw [hs] at h; exact fun ps' σ' H' r' => ⟨F, ps', τ2, r', hio, h⟩
  | ret τ2 d => rw [hs] at h; exact h
  | brk τ2 => rw [hs] at h; exact h
  | ct τ2 => rw [hs] at h; exact h
  | ex x τ2 => rw [hs] at h; exact h
  | st => rw [hs] at h; exact h
theorem s_ssOfX {f : Stmt → S} : ∀ {ss : List Stmt} {cs : Ss}, (∀ s cc, cc.strip = f s → PS X s (tS X.K g W xa io cc)) → cs.strip = ssOf f ss → PSs X ss (tSs X.K g W xa io cs)
  | [], .nil, _, _ => s_nil
  | [], .cons _ _, _, h => by unfold Ss.strip at h; cases h
  | s :: ss, .nil, _, h => by unfold Ss.strip at h; cases h
  | s :: ss, .cons c cs, H, h => by
    unfold Ss.strip at h
    have h : Ss.cons c.strip cs.strip = .cons (f s) (ssOf f ss) := h
    injection h with h1 h2
    exact s_cons (H s c h1) (s_ssOfX (ss := ss) H h2)
theorem s_ssOf {f : Stmt → S} : ∀ {ss : List Stmt}, (∀ s, PS X s (tS X.K g W xa io (f s))) → PSs X ss (tSs X.K g W xa io (ssOf f ss))
  | [], _ => s_nil
  | _ :: _, h => s_cons (h _) (s_ssOf h)
theorem s_if {t : Expr} {a b : List Stmt} {pos : Pos} {ct : E} {ca cb : Ss} (ht : PT X t (tT X.K g W xa ct)) (ha : PSs X a (tSs X.K g W xa io ca)) (hb : PSs X b (tSs X.K g W xa io cb)) : PS X (.If t a b pos) (tS X.K g W xa io (.ifS ct ca cb)) := by
  refine PS.imp (ps_if ht ha hb) fun D σ H h => ?_
  obtain ⟨F, ps, τ, r, hio, h⟩ := h
  unfold evS at h
  refine ⟨F, ps, τ, r, (oneS h r).imp (fun b hb H' e => ?_) fun _ z => z⟩
  cases b with
  | true => rw [if_pos rfl]; exact ⟨F, ps, τ, r.mono e, hio, hb⟩
  | false => rw [if_neg (by decide)]; exact ⟨F, ps, τ, r.mono e, hio, hb⟩
theorem own_get0 {τ : Tau} {i : Nat} {d : D} (h : own? τ i = some d) : τ[i]? = some (some (true, d)) := by
  unfold own? at h
  split at h
  · rename_i e; cases h; exact e
  · cases h
theorem s_ret {e : Expr} {ce : E} {pos : Pos} (he : PE X e (tE X.K g W xa ce)) (hv : ∀ i, ce = .v i → PE X e (tVar i)) : PS X (.Return (some e) pos) (tS X.K g W xa io (.ret ce)) := by
  refine ⟨fun pins s σ H D I h => ?_⟩
  obtain ⟨F, ps, τ, r, hio, h⟩ := h
  unfold evS at h
  by_cases hm : io.contains mkN = true ∧ ∃ i, ce = .v i ∧ ∃ d, own? τ i = some d ∧ isC d = true
  · obtain ⟨hc, i, rfl, d, hd, hic⟩ := hm
    have hg := own_get0 hd
    obtain ⟨p, q1, q2, q3⟩ := r.own i d hg
    have hev : evE g (.v i) τ = .ok (d, [i]) := by unfold evE; rw [hg]; rfl
    rw [hev] at h
    have h : Post X.K F W xa D (retO io (.v i) (d, [i]) τ) := h
    unfold retO at h
    rw [hc] at h
    dsimp only at h
    rw [hic] at h
    have h : Post X.K F W xa D (match own? τ i with | some d => if i ∈ io then Out.st else .ret (frz1 τ i) d | none => .st) := h
    rw [hd] at h
    dsimp only at h
    split at h
    · exact h.elim
    rename_i hi
    refine (ps_ret (hv i rfl)).run pins s σ H D I ⟨.ref p, q2, ?_⟩
    have r2 := r.frz1 i
    refine h (dr [i] ps) σ H (.ref p) r2 ?_ fun _ _ => ⟨p, rfl, r.nw.1 i p q1 (by rw [hio]; exact hi), q3.mono (fun _ z => z) (wo_sub fun a z => ?_)⟩
    · refine q3.dn (fun q => ?_) PP_dr0
      rcases q with q | ⟨j, q⟩
      · exact r.out _ _ q1 q
      · obtain ⟨z1, z2⟩ := dr_some.mp q
        exact z1 (by simp [r.inj _ _ _ z2 q1])
    · rcases z with rfl | z
      · exact .inr ⟨i, q1⟩
      · exact PP_dr0 a z
  · refine (ps_ret he).run pins s σ H D I ⟨F, ps, τ, r, ?_⟩
    cases hev : evE g ce τ with
    | ex x => rw [hev] at h; exact fun cls dd H' e q => h ps σ H' cls dd (r.mono e) q
    | st => rw [hev] at h; exact h
    | ok x =>
      rw [hev] at h
      have h : Post X.K F W xa D (retO io ce x τ) := h
      intro v H1 pa
      have r2 := (r.mono pa.same).frz x.2
      unfold retO at h
      split at h
      · rename_i hc
        exact h (dr x.2 ps) σ H1 v r2 pa.den fun z => by rw [hio, hc] at z; cases z
      · rename_i hc
        split at h
        · rename_i hc2
          exact h (dr x.2 ps) σ H1 v r2 pa.den fun _ z => by rw [hc2] at z; cases z
        · rename_i hc2
          split at h
          · rename_i hf
            obtain ⟨p, e1, e2, e3⟩ := pa.fr hf hc2
            exact h (dr x.2 ps) σ H1 v r2 pa.den fun _ _ => ⟨p, e1, r.nw.2 p e2, e3⟩
          · split at h
            case h_2 => exact h.elim
            rename_i i _ _
            split at h
            case h_2 => exact h.elim
            rename_i d hd
            have hg := own_get0 hd
            have hev2 : evE g (.v i) τ = .ok (d, [i]) := by unfold evE; rw [hg]; rfl
            rw [hev2] at hev
            cases hev
            exact absurd ⟨hc, i, rfl, d, hd, hc2⟩ hm
theorem s_retN {pos : Pos} : PS X (.Return none pos) (tS X.K g W xa io .retN) := PS.imp ps_retN fun D σ H h => by
  obtain ⟨F, ps, τ, r, hio, h⟩ := h
  exact h ps σ H .non r .non fun _ z => by cases z
theorem s_brk {pos : Pos} : PS X (.Break pos) (tS X.K g W xa io .brk) := PS.imp ps_break fun D σ H h => by
  obtain ⟨F, ps, τ, r, hio, h⟩ := h
  exact h ps σ H r
theorem s_ct {pos : Pos} : PS X (.Continue pos) (tS X.K g W xa io .ct) := PS.imp ps_continue fun D σ H h => by
  obtain ⟨F, ps, τ, r, hio, h⟩ := h
  exact h ps σ H r
theorem s_pass {pos : Pos} : PS X (.Pass pos) (tS X.K g W xa io .pass) := PS.imp ps_pass fun D σ H h => by
  obtain ⟨F, ps, τ, r, hio, h⟩ := h
  exact h ps σ H r
theorem rd_set {i : Nat} {ce : E} {D : Ends} {σ : L2.St} {H : Hp} (h : tS X.K g W xa io (.set (.n i) ce) D σ H) : tAsg (tE X.K g W xa ce) (gName i) D σ H := by
  obtain ⟨F, ps, τ, r, hio, h⟩ := h
  unfold evS at h
  refine ⟨F, ps, τ, r, (oneS h r).imp (fun x hx v H1 pa => ?_) fun _ z => z⟩
  show D.nx (σ.set i (some v)) H1
  cases ha : asg io ce.fresh (.n i) x.1 (frz x.2 τ) with
  | none => rw [ha] at hx; exact hx.elim
  | some τ' =>
    rw [ha] at hx
    obtain ⟨ps', r'⟩ := asg_n (L := x.2) r pa (by rw [hio]; exact ha)
    exact hx ps' _ _ r'
theorem sw_no {e : Expr} (h : isComp e = false) (t : Option Expr) (l : Nat) (env : Env) : swapsWith e t l env = pure false := by
  unfold swapsWith
  cases e <;> first | rfl | (simp [isComp] at h)
theorem sw_tg {e tg : Expr} (h : ∀ x p, tg ≠ .Name x p) (h2 : isComp e = true → True) (l : Nat) (env : Env) : swapsWith e (some tg) l env = pure false := by
  unfold swapsWith
  cases e <;> first | rfl | (cases tg <;> first | rfl | exact absurd rfl (h _ _))
include ev
theorem ownIx_ok {x : Str} {i : Nat} (h : ownIx c sc x = some i) : X.N[i]? = some x ∧ Loc X.env.scope x ∧ (X.fn x = true ∨ X.env.scope.names.lookup x = some .local) := by
  unfold ownIx at h
  split at h
  · rename_i ho
    exact ⟨ev.at_ h, ev.own x ho⟩
  · cases h
theorem visIx_ok {x : Str} {i : Nat} {pos : Pos} (h : visIx c sc x = some i) : PE X (.Name x pos) (tVar i) ∧ PE X (.Name x pos) (tE X.K g W xa (.v i)) := by
  unfold visIx at h
  split at h
  · rename_i ho
    simp only [Bool.and_eq_true] at ho
    obtain ⟨o1, o2, _⟩ := ok_names ho.1
    exact ⟨pe_var (ev.at_ h) (ev.vis_of ho.2) o1 o2, sE_v ev.toEnvr ho.1 ho.2 h⟩
  · cases h
theorem s_set {x : Str} {py pos : Pos} {i : Nat} {e : Expr} {ce : E} (hx : ownIx c sc x = some i) (hc : isComp e = false) (he : PE X e (tE X.K g W xa ce)) : PS X (.Assign [.Name x py] e pos) (tS X.K g W xa io (.set (.n i) ce)) := by
  obtain ⟨h1, h2, h3⟩ := ownIx_ok ev hx
  exact PS.imp (ps_set ev.nd h1 h2 he (sw_no hc _ _ _) h3) fun D σ H h => rd_set h

end
end Mp

/-! MiniPy, part K2: the statements that change lists and dicts. -/
namespace Mp
open PySem PySem.Spec PyProof.Rows L2
theorem wo_upd {P : Addr → Prop} {H : Hp} {p : Addr} {o : HO} (h : P p) : Same (wo P H) (wo P (upd H p o)) := wo_gen fun a u h1 h2 => ⟨h1, by
  rw [upd_ne (fun z => h1 (by rw [z]; exact h))]; exact h2⟩
theorem own?_some {τ : Tau} {i : Nat} {d : D} (h : own? τ i = some d) : τ[i]? = some (some (true, d)) := by
  unfold own? at h
  split at h
  · rename_i d' e
    cases h; exact e
  · cases h
/-- keys that are put, dropped -/
theorem DnKV.append {K : PySem.W.Frag} {H : Hp} {kvs kws : List (Key × V)} {kds kes : List (D × D)} (h : DnKV K H kvs kds) (h' : DnKV K H kws kes) : DnKV K H (kvs ++ kws) (kds ++ kes) := by
  induction kds generalizing kvs with
  | nil => cases h; exact h'
  | cons x kds ih =>
    cases h with
    | int h1 h2 => exact .int h1 (ih h2)
    | str h1 h2 => exact .str h1 (ih h2)
theorem DnKV.anyK {K : PySem.W.Frag} {H : Hp} {k : D} (f : isKey k = true) : ∀ {kds : List (D × D)} {kvs : List (Key × V)}, DnKV K H kvs kds → (kvs.any fun kv => decide (kv.1 = keyOf k)) = kds.any fun p => keyEq p.1 k
  | [], _, h => by cases h; rfl
  | (x, d) :: kds, _, h => by
    cases h with
    | int h1 h2 =>
      rw [List.any_cons, List.any_cons, DnKV.anyK f h2, keyEq_iff f rfl]; rfl
    | str h1 h2 =>
      rw [List.any_cons, List.any_cons, DnKV.anyK f h2, keyEq_iff f rfl]; rfl
theorem DnKV.mapK {K : PySem.W.Frag} {H : Hp} {k : D} {v : V} {d : D} (f : isKey k = true) (hv : Dn K H v d) : ∀ {kds : List (D × D)} {kvs : List (Key × V)}, DnKV K H kvs kds → DnKV K H (kvs.map fun kv => if kv.1 = keyOf k then (kv.1, v) else kv) (kds.map fun p => if keyEq p.1 k then (p.1, d) else p)
  | [], _, h => by cases h; exact .nil
  | (x, d') :: kds, _, h => by
    cases h with
    | int h1 h2 =>
      rename_i i w kvs
      have ih := DnKV.mapK f hv h2
      have e := keyEq_iff f (x := .int i) rfl
      rw [List.map_cons, List.map_cons]
      by_cases q : (Sum.inl i : Key) = keyOf k
      · rw [if_pos q, if_pos (by rw [e]; exact decide_eq_true q)]; exact .int hv ih
      · rw [if_neg q, if_neg (by rw [e]; exact fun z => q (of_decide_eq_true z))]; exact .int h1 ih
    | str h1 h2 =>
      rename_i i w kvs
      have ih := DnKV.mapK f hv h2
      have e := keyEq_iff f (x := .str i) rfl
      rw [List.map_cons, List.map_cons]
      by_cases q : (Sum.inr i : Key) = keyOf k
      · rw [if_pos q, if_pos (by rw [e]; exact decide_eq_true q)]; exact .str hv ih
      · rw [if_neg q, if_neg (by rw [e]; exact fun z => q (of_decide_eq_true z))]; exact .str h1 ih
theorem DnKV.one {K : PySem.W.Frag} {H : Hp} {k : D} {v : V} {d : D} (f : isKey k = true) (hv : Dn K H v d) : DnKV K H [(keyOf k, v)] [(k, d)] := by
  cases k <;> first | exact .int hv .nil | exact .str hv .nil | (simp [isKey] at f)
theorem DnKV.put {K : PySem.W.Frag} {H : Hp} {k : D} {v : V} {d : D} (f : isKey k = true) (hv : Dn K H v d) {kds : List (D × D)} {kvs : List (Key × V)} (h : DnKV K H kvs kds) : DnKV K H (putK kvs (keyOf k) v) (dPut k d kds) := by
  unfold putK dPut
  rw [DnKV.anyK f h]
  split
  · exact DnKV.mapK f hv h
  · exact h.append (DnKV.one f hv)
theorem DnKV.drop {K : PySem.W.Frag} {H : Hp} {k : D} (f : isKey k = true) : ∀ {kds : List (D × D)} {kvs : List (Key × V)}, DnKV K H kvs kds → DnKV K H (dropK kvs (keyOf k)) (dDrop k kds)
  | [], _, h => by cases h; exact .nil
  | (x, d') :: kds, _, h => by
    unfold dropK dDrop
    cases h with
    | int h1 h2 =>
      rename_i i w kvs
      have ih : DnKV K H (kvs.filter fun kv => decide (kv.1 ≠ keyOf k)) (kds.filter fun p => !keyEq p.1 k) := DnKV.drop f h2
      have e := keyEq_iff f (x := .int i) rfl
      rw [List.filter_cons, List.filter_cons, e]
      by_cases q : (Sum.inl i : Key) = keyOf k
      · rw [if_neg (by simpa using q), if_neg (by rw [Bool.not_eq_true', decide_eq_false_iff_not]; exact fun z => z q)]; exact ih
      · rw [if_pos (by simpa using q), if_pos (by rw [Bool.not_eq_true', decide_eq_false_iff_not]; exact q)]; exact .int h1 ih
    | str h1 h2 =>
      rename_i i w kvs
      have ih : DnKV K H (kvs.filter fun kv => decide (kv.1 ≠ keyOf k)) (kds.filter fun p => !keyEq p.1 k) := DnKV.drop f h2
      have e := keyEq_iff f (x := .str i) rfl
      rw [List.filter_cons, List.filter_cons, e]
      by_cases q : (Sum.inr i : Key) = keyOf k
      · rw [if_neg (by simpa using q), if_neg (by rw [Bool.not_eq_true', decide_eq_false_iff_not]; exact fun z => z q)]; exact ih
      · rw [if_pos (by simpa using q), if_pos (by rw [Bool.not_eq_true', decide_eq_false_iff_not]; exact q)]; exact .str h1 ih
theorem key_dn' {K : PySem.W.Frag} {G : Hp} {x : V} {d : D} (h : Dn K G x d) (f : isKey d = true) : x = kV (keyOf d) := by
  cases h with
  | int i => rfl
  | str s => rfl
  | _ => simp [isKey] at f
theorem drop_none {k : D} : ∀ {kds : List (D × D)}, dGet k kds = none → dDrop k kds = kds
  | [], _ => rfl
  | (x, d) :: kds, h => by
    unfold dGet at h
    split at h
    · cases h
    · rename_i e
      unfold dDrop
      rw [List.filter_cons, if_pos (by simpa using e)]
      have := drop_none h
      unfold dDrop at this
      rw [this]

theorem set_own_self {τ : Tau} {i : Nat} {d : D} (h : own? τ i = some d) : τ.set i (some (true, d)) = τ := by
  have h := own?_some h
  apply List.ext_getElem?
  intro j
  by_cases e : i = j
  · subst e
    rw [List.getElem?_set_self (List.getElem?_eq_some_iff.mp h).1, h]
  · rw [List.getElem?_set_ne e]
theorem Rel.get {K : PySem.W.Frag} {F : Fx} {ps : Ps} {H : Hp} {σ : L2.St} {τ : Tau} (r : Rel K F ps H σ τ) {i : Nat} {d : D} (h : own? τ i = some d) : ∃ p, ps i = some p ∧ σ[i]? = some (some (.ref p)) ∧ OwnAt K H (PP F.P0 ps) p d := r.own i d (own?_some h)
/-- an owned list, written -/
theorem Rel.putL {K : PySem.W.Frag} {F : Fx} {ps : Ps} {H : Hp} {σ : L2.St} {τ : Tau} (r : Rel K F ps H σ τ) {i : Nat} {p : Addr} {vs : List V} {ds : List D} (hp : ps i = some p) (h : DnAll K (wo (PP F.P0 ps) H) vs ds) : Rel K F ps (upd H p (.lst vs)) σ (τ.set i (some (true, .list ds))) :=
  r.write hp ⟨vs, upd_same, DnAll.mono (wo_upd (.inr ⟨i, hp⟩)) _ h⟩ trivial
theorem Rel.putD {K : PySem.W.Frag} {F : Fx} {ps : Ps} {H : Hp} {σ : L2.St} {τ : Tau} (r : Rel K F ps H σ τ) {i : Nat} {p : Addr} {vs : List (Key × V)} {ds : List (D × D)} (hp : ps i = some p) (h : DnKV K (wo (PP F.P0 ps) H) vs ds) : Rel K F ps (upd H p (.dK vs)) σ (τ.set i (some (true, .dict ds))) :=
  r.write hp ⟨vs, upd_same, DnKV.mono (wo_upd (.inr ⟨i, hp⟩)) _ h⟩ trivial
section
variable {X : Cx} {c : Cfg} {sc : Scope} {g : G} {k : Nat} {W : WX} {xa : XA} {io : List Nat}
/-! ### o[i] = v -/
def rSetDk : TSet := fun o i v H Q => ∃ a H', o = .ref a ∧ DPut H a i v H' ∧ Q H'
def rSetA : TSet := fun o i v H Q => rSetL o i v H Q ∨ rSetDk o i v H Q
theorem set_any (hu : X.A.units + 1 < cLine) : PSet X rSetA := by
  intro pins s σ H o i v ov iv u Q I ro ri rv h
  rcases h with h | h
  · exact set_list pins s σ H o i v ov iv u Q I ro ri rv h
  · obtain ⟨a, H', eo, g, q⟩ := h
    subst eo
    cases (show ov = Value.ref a from ro)
    exact d_setItem hu I g ri rv fun s' I' => ⟨H', I', q⟩
theorem s_setIx {l : Str} {pl sp pos : Pos} {j : Nat} {i e : Expr} {ci ce : E} (hv : PE X (.Name l pl) (tVar j)) (hr : Room k X.A) (hi : PE X i (tE X.K g W xa ci)) (hp : plainIx i = true) (he : PE X e (tE X.K g W xa ce)) :
    PS X (.Assign [.Subscript (.Name l pl) i sp] e pos) (tS X.K g W xa io (.setIx j ci ce)) := by
  have ha : ∀ v, assign (.Subscript (.Name l pl) i sp) X.env v = (do
      let ov ← holding [v] (eval (.Name l pl) X.env)
      let iv ← holding [v, ov] (eval i X.env)
      standAt sp
      holding [v, ov, iv] (setItem ov iv v)
      release [v, ov, iv] []) := by
    cases i <;> first | (simp [plainIx] at hp; done) | exact fun _ => rfl
  refine PS.imp (ps_asg he (pg_sub hv hi (set_any (hu_of hr)) ha) (sw_tg (tg := .Subscript (.Name l pl) i sp) (fun _ _ z => by cases z) (fun _ => trivial) pos.line X.env) rfl rfl) fun D σ H h => ?_
  obtain ⟨F, ps, τ, r, hio, h⟩ := h
  unfold evS at h
  split at h
  · exact h.elim
  rename_i c0 hc0
  obtain ⟨p, hp1, hp2, _⟩ := r.get hc0
  refine ⟨F, ps, τ, r, (oneS h r).imp (fun x hx v H1 pa => ?_) fun _ z => z⟩
  have r1 := r.mono pa.same
  refine ⟨_, hp2, F, ps, τ, r1, (oneS hx r1).imp (fun y hy u H2 pb => ?_) fun _ z => z⟩
  have r2 := (r1.mono pb.same).frz x.2
  have hd := Dn.mono (wo_same pb.same) _ pa.den
  split at hy
  case h_2 => exact hy.elim
  rename_i cd hc
  split at hy
  case h_2 => exact hy.elim
  rename_i c' hs
  obtain ⟨p', q1, q2, q3⟩ := r2.get hc
  rw [hp2] at q2; cases q2
  have hk := pb.dn
  unfold setIxD at hs
  split at hs
  · rename_i ds i' heq
    obtain ⟨m, hm, rfl⟩ := Option.map_eq_some_iff.mp hs
    rw [heq] at hk
    cases dn_int hk
    obtain ⟨vs, z1, z2⟩ := q3
    refine .inl ⟨p, vs, i', m, rfl, rfl, z1, by rw [z2.length]; exact hm, ?_⟩
    exact hy _ _ _ (r2.putL q1 (z2.set hd m))
  · rename_i kds dk heq
    split at hs
    · rename_i hkk
      simp only [Bool.and_eq_true, decide_eq_true_eq] at hkk
      cases hs
      obtain ⟨kvs, z1, z2⟩ := q3
      have e := key_dn' hk hkk.1
      rw [e]
      refine .inr ⟨p, _, rfl, DPut.k z1 (by rw [z2.length]; exact hkk.2), ?_⟩
      exact hy _ _ _ (r2.putD q1 (DnKV.put hkk.1 hd z2))
    · cases hs
  · cases hs
/-! ### methods of lists -/
theorem few_of {e : Expr} {es : List Expr} {cpos : Pos} (h : (e :: es).any isStar = false) (hl : (e :: es).length < 30) : ((backTo cpos (starEach (e :: es) X.env)).all (fun x => !x.1) && (backToKw cpos (keywordEach [] X.env)).all (fun x => x.1.isSome)
      && decide ((e :: es).length + ([] : List Keyword).length + (if ([] : List Keyword).isEmpty then 0 else 1) < 30)) = true := by
  have h1 : (backTo cpos (starEach (e :: es) X.env)).all (fun x => !x.1) = true := by
    have := star_all (pos := cpos) (env := X.env) h
    rw [List.all_eq_true]
    rw [List.any_eq_false] at this
    exact fun x hx => by simpa using this x hx
  have h2 : (backToKw cpos (keywordEach [] X.env)).all (fun x => x.1.isSome) = true := rfl
  rw [h1, h2]
  simpa using hl
theorem tyL {K : PySem.W.Frag} {H : Hp} {p : Addr} {vs : List V} (h : H p = some (.lst vs)) : tyV K "list" (.ref p) H := .inl ⟨rfl, vs, SqL.of h⟩
theorem s_app {l m : Str} {pl apos cpos pos : Pos} {j : Nat} {e : Expr} {ce : E} (hm : m = "append") (hv : PE X (.Name l pl) (tVar j)) (hs : isStar e = false) (hl : (apos.endLine == cpos.line) = true) (he : PE X e (tE X.K g W xa ce)) :
    PS X (.Expr (.Call (.Attribute (.Name l pl) m apos) [e] [] cpos) pos) (tS X.K g W xa io (.app j ce)) := by
  subst hm
  have hs' : [e].any isStar = false := by simp [hs]
  refine PS.imp (ps_expr (pe_bm PySem.F.plainAttrs_list F.slot_list_append F.type_list_append mt_append hv (pa_cons he pa_nil (star_step hs _ _)) rfl (few_of hs' (by simp)) hl (star_step hs _ _) rfl)) fun D σ H h => ?_
  obtain ⟨F, ps, τ, r, hio, h⟩ := h
  unfold evS at h
  split at h
  case h_2 => exact h.elim
  rename_i c0 hc0
  obtain ⟨p, hp1, hp2, vs0, hp3, _⟩ := r.get hc0
  refine ⟨.ref p, hp2, tyL hp3, F, ps, τ, r, (oneS h r).imp (fun x hx v H1 pa => ?_) fun _ z => z⟩
  split at hx
  · rename_i ds hc
    split at hx
    · rename_i hlen
      obtain ⟨p', q1, q2, vs, z1, z2⟩ := ((r.mono pa.same).frz x.2).get hc
      rw [hp2] at q2; cases q2
      exact ⟨p, vs, v, rfl, rfl, z1, by rw [z2.length]; exact hlen, hx _ _ _ (((r.mono pa.same).frz x.2).putL q1 (z2.append (.cons pa.den .nil)))⟩
    · exact hx.elim
  · exact hx.elim
/-- extend by a list that is read -/
def rExtR (K : PySem.W.Frag) : V → List V → Hp → VK → Prop := fun x vs H Q => ∃ l b xs zs, x = .ref l ∧ vs = [.ref b] ∧ H l = some (.lst xs) ∧ LsR K H b zs ∧ xs.length + zs.length ≤ sizeLine ∧ Q .non (upd H l (.lst (xs ++ zs)))
theorem mt_extR : MtM X "list.extend" (rExtR X.K) := by
  intro pins s σ H x vs v us Q I rx rv h
  obtain ⟨l, b, xs, zs, rfl, rfl, hH, hB, hz, q⟩ := h
  cases rx
  obtain ⟨u, rfl, ru⟩ := rv.one
  cases ru
  obtain ⟨z, its, n, r, hl, e⟩ := I.lstM hH
  obtain ⟨z2, its2, n2, r2, hl2, e2⟩ := lstR I hB
  have hsz : its.toArray.size + its2.toArray.size ≤ sizeLine := by rw [List.size_toArray, List.size_toArray]; omega
  have hlong : ¬ (!its.toArray.isEmpty && Builtin.List.listTooLong (its.toArray.size + its2.toArray.size)) = true := by
    rw [notLongL hsz, Bool.and_false]
    exact Bool.false_ne_true
  refine call_meets F.slot_list_extend ⟨_, e, rfl⟩ F.entry_list_extend (F.args_list_extend_2 _ _)
    (AutoSeq1.list_extend_list_list_0 l its.toArray n b its2.toArray n2 hlong (by rw [List.size_toArray]; omega) (by omega)) ⟨e, e2, ?_⟩
  refine ⟨.non, _, I.lset (its' := its ++ its2) hH e (by simp) (r.append r2) ?_, rfl, q⟩
  rw [List.length_append]
  omega
theorem s_ext {l m : Str} {pl apos cpos pos : Pos} {j : Nat} {e : Expr} {ce : E} (hm : m = "extend") (hv : PE X (.Name l pl) (tVar j)) (hs : isStar e = false) (hl : (apos.endLine == cpos.line) = true) (he : PE X e (tE X.K g W xa ce)) :
    PS X (.Expr (.Call (.Attribute (.Name l pl) m apos) [e] [] cpos) pos) (tS X.K g W xa io (.ext j ce)) := by
  subst hm
  have hs' : [e].any isStar = false := by simp [hs]
  refine PS.imp (ps_expr (pe_bm PySem.F.plainAttrs_list F.slot_list_extend F.type_list_extend mt_extR hv (pa_cons he pa_nil (star_step hs _ _)) rfl (few_of hs' (by simp)) hl (star_step hs _ _) rfl)) fun D σ H h => ?_
  obtain ⟨F, ps, τ, r, hio, h⟩ := h
  unfold evS at h
  split at h
  case h_2 => exact h.elim
  rename_i c0 hc0
  obtain ⟨p, hp1, hp2, vs0, hp3, _⟩ := r.get hc0
  refine ⟨.ref p, hp2, tyL hp3, F, ps, τ, r, (oneS h r).imp (fun x hx v H1 pa => ?_) fun _ z => z⟩
  obtain ⟨d, L⟩ := x
  cases d with
  | list es =>
    obtain ⟨b, ws, rfl, w1, w2⟩ := pa.el
    dsimp only at hx
    split at hx
    · rename_i ds hc
      split at hx
      · rename_i hlen
        have r1 := (r.mono pa.same).frz (lkE ce L)
        obtain ⟨p', q1, q2, vs, z1, z2⟩ := r1.get hc
        rw [hp2] at q2; cases q2
        exact ⟨p, b, vs, ws, rfl, rfl, z1, w1, by rw [z2.length, w2.length]; exact hlen, hx _ _ _ (r1.putL q1 (z2.append w2))⟩
      · exact hx.elim
    · exact hx.elim
  | _ => exact hx.elim
theorem s_pop0 {l m : Str} {pl apos cpos pos : Pos} {j : Nat} (hm : m = "pop") (hv : PE X (.Name l pl) (tVar j)) (hl : (apos.endLine == cpos.line) = true) :
    PS X (.Expr (.Call (.Attribute (.Name l pl) m apos) [] [] cpos) pos) (tS X.K g W xa io (.pop none j)) := by
  subst hm
  refine PS.imp (ps_expr (pe_bm0 PySem.F.plainAttrs_list F.slot_list_pop F.type_list_pop mt_pop hv rfl hl)) fun D σ H h => ?_
  obtain ⟨F, ps, τ, r, hio, h⟩ := h
  unfold evS at h
  split at h
  case h_2 => exact h.elim
  rename_i ds hc
  obtain ⟨p, q1, q2, vs, z1, z2⟩ := r.get hc
  split at h
  case h_2 => exact h.elim
  rename_i d hd
  obtain ⟨v, hv1, hv2⟩ := z2.get hd
  exact ⟨.ref p, q2, tyL z1, p, vs, v, rfl, rfl, z1, by rw [z2.length]; exact hv1, h _ _ _ (r.putL q1 z2.dropLast)⟩
theorem s_pop1 {x l m : Str} {py pl apos cpos pos : Pos} {i j : Nat} (hN : X.N.Nodup) (hi : X.N[i]? = some x) (hx : Loc X.env.scope x) (hf : X.fn x = true ∨ X.env.scope.names.lookup x = some .local) (hm : m = "pop") (hv : PE X (.Name l pl) (tVar j)) (hl : (apos.endLine == cpos.line) = true) :
    PS X (.Assign [.Name x py] (.Call (.Attribute (.Name l pl) m apos) [] [] cpos) pos) (tS X.K g W xa io (.pop (some i) j)) := by
  subst hm
  refine PS.imp (ps_set hN hi hx (pe_bm0 PySem.F.plainAttrs_list F.slot_list_pop F.type_list_pop mt_pop hv rfl hl) (sw_no rfl _ _ _) hf) fun D σ H h => ?_
  obtain ⟨F, ps, τ, r, hio, h⟩ := h
  unfold evS at h
  split at h
  case h_2 => exact h.elim
  rename_i ds hc
  obtain ⟨p, q1, q2, vs, z1, z2⟩ := r.get hc
  split at h
  case h_2 => exact h.elim
  rename_i d hd
  obtain ⟨v, hv1, hv2⟩ := z2.get hd
  dsimp only at h
  split at h
  · exact h.elim
  · have r1 := r.putL q1 z2.dropLast
    exact ⟨.ref p, q2, tyL z1, p, vs, v, rfl, rfl, z1, by rw [z2.length]; exact hv1, h _ _ _ (r1.set (Dn.mono (wo_upd (.inr ⟨j, q1⟩)) _ hv2))⟩
theorem s_dpop {l m : Str} {pl apos cpos pos : Pos} {j : Nat} {a b : Expr} {ca cb : E} (hm : m = "pop") (hv : PE X (.Name l pl) (tVar j)) (hs : isStar a = false) (hs' : isStar b = false) (hl : (apos.endLine == cpos.line) = true) (ha : PE X a (tE X.K g W xa ca)) (hb : PE X b (tE X.K g W xa cb)) :
    PS X (.Expr (.Call (.Attribute (.Name l pl) m apos) [a, b] [] cpos) pos) (tS X.K g W xa io (.dpop j ca cb)) := by
  subst hm
  have hst : [a, b].any isStar = false := by simp [hs, hs']
  have m2 : M2 X (.Name l pl) "pop" apos a b cpos := ⟨rfl, few_of hst (by simp), hl, by rw [star_step hs, star_step hs']; rfl⟩
  refine PS.imp (ps_expr (pe_dpop2 hv ha hb m2)) fun D σ H h => ?_
  obtain ⟨F, ps, τ, r, hio, h⟩ := h
  unfold evS at h
  split at h
  case h_2 => exact h.elim
  rename_i kds hc
  obtain ⟨p, q1, q2, kvs0, z0, z0'⟩ := r.get hc
  refine ⟨.ref p, q2, p, rfl, .inl ⟨kvs0, .inl z0⟩, F, ps, τ, r, (oneS h r).imp (fun x hx v H1 pa => ?_) fun _ z => z⟩
  have r1 := r.mono pa.same
  refine ⟨F, ps, τ, r1, (oneS hx r1).imp (fun y hy u H2 pb => ?_) fun _ z => z⟩
  have r2 := r1.mono pb.same
  split at hy
  case isFalse => exact hy.elim
  rename_i hk
  obtain ⟨p', w1, w2, kvs, z1, z2⟩ := r2.get hc
  rw [q1] at w1; cases w1
  refine ⟨kvs, keyOf x.1, z1, key_dn' pa.dn hk, fun w hw => hy _ _ _ (r2.putD q1 (z2.drop hk)), fun hw => ?_⟩
  have hn : dGet x.1 kds = none := by
    have := valV_dn hk z2
    split at this
    · obtain ⟨w, w1, _⟩ := this
      rw [hw] at w1; cases w1
    · assumption
  rw [drop_none hn, set_own_self hc] at hy
  exact hy _ _ _ r2
/-! ### a value that is dropped; several names -/
theorem s_ex {x : Str} {p cpos pos : Pos} {args : List Expr} {ce : E} (he : PE X (.Call (.Name x p) args [] cpos) (tE X.K g W xa ce)) : PS X (.Expr (.Call (.Name x p) args [] cpos) pos) (tS X.K g W xa io (.ex ce)) := by
  refine PS.imp (ps_expr he) fun D σ H h => ?_
  obtain ⟨F, ps, τ, r, hio, h⟩ := h
  unfold evS at h
  exact ⟨F, ps, τ, r, (oneS h r).imp (fun x hx v H1 pa => hx _ _ _ (r.mono pa.same)) fun _ z => z⟩
theorem s_setT {es : List Expr} {n : Nat} {tp pos : Pos} {is : List Nat} {e : Expr} {ce : E} {osc : Scope} (hc : X.calm = true) (ho : OwnN X osc) (hN : X.N.Nodup) (hi : namesIx X.N osc es = some is) (ht : ∀ us k q, e ≠ .Tuple us k q) (he : PE X e (tE X.K g W xa ce)) :
    PS X (.Assign [.Tuple es n tp] e pos) (tS X.K g W xa io (.set (.tup is) ce)) := by
  have hw : swappedStores [.Tuple es n tp] e X.env = pure none := by
    unfold swappedStores
    cases e <;> first | rfl | exact absurd rfl (ht _ _ _)
  refine PS.imp (ps_asg he (sG_tup hc ho hN hi) (sw_tg (tg := .Tuple es n tp) (fun _ _ z => by cases z) (fun _ => trivial) pos.line X.env) hw rfl) fun D σ H h => ?_
  obtain ⟨F, ps, τ, r, hio, h⟩ := h
  unfold evS at h
  refine ⟨F, ps, τ, r, (oneS h r).imp (fun x hx v H1 pa => ?_) fun _ z => z⟩
  refine ⟨F, _, _, x.1, (r.mono pa.same).frz x.2, pa.den, ?_⟩
  cases hq : asg io ce.fresh (.tup is) x.1 (frz x.2 τ) with
  | none => rw [hq] at hx; exact hx.elim
  | some τ' =>
    rw [hq] at hx
    rw [hio]
    have : asg io false (.tup is) x.1 (frz x.2 τ) = some τ' := hq
    rw [this]
    exact fun σ' ps' r' _ _ _ _ => hx _ _ _ r'
end
end Mp

/-! MiniPy, part K3: pairs, calls that change an argument, loops. -/
namespace Mp
open PySem PySem.Spec PyProof.Rows L2
section
variable {X : Cx} {c : Cfg} {sc : Scope} {g : G} {k : Nat} {W : WX} {xa : XA} {io : List Nat}
/-! ### a, b = x, y -/
theorem isLoc_of {sc : Scope} {x : Str} (h : isLoc sc x = true) : sc.names.lookup x = some .local := by
  unfold isLoc at h
  split at h
  · assumption
  · cases h
theorem nst : ∀ {e : Expr}, isStar e = false → ¬ (match e with | .Starred .. => true | _ => false) = true := by
  intro e h
  cases e <;> first | (simp [isStar] at h; done) | simp
theorem sw_par2 {env : Env} {x y : Str} {px py pt p2 : Pos} {kt k2 : Nat} {a b : Expr} (hk : env.scope.kind = .function) (hx : env.scope.names.lookup x = some .local) (hy : env.scope.names.lookup y = some .local) (hl : (py.line == px.line) = true) (hxy : (x != y) = true)
    (hs : [a, b].any isStar = false) (h1 : [a, b].all (foldedForSure 8) = false) (h2 : [a, b].all (constantsAlone 8) = false) :
    swappedStores [.Tuple [.Name x px, .Name y py] kt pt] (.Tuple [a, b] k2 p2) env = pure (some [x, y]) := by
  have hb : env.blockKind = .function := by unfold Env.blockKind; rw [hk]; rfl
  have kx : env.kindOf x = some .local := hx
  have ky : env.kindOf y = some .local := hy
  simp only [List.any_cons, List.any_nil, Bool.or_false, Bool.or_eq_false_iff] at hs
  have sa := nst hs.1
  have sb := nst hs.2
  have hxy' : ¬ y = x := fun z => by simp [z] at hxy
  unfold swappedStores
  simp only [hb, h1, h2, kx, ky, Expr.pos, List.length_cons, List.length_nil, List.filterMap_cons, List.filterMap_nil, List.head?_cons, Option.map_some, Option.getD_some, hl, beq_self_eq_true, Bool.and_true, Bool.true_and, if_true]
  simp [List.eraseDups_cons, hxy', Ne.symm hxy']
  exact fun z => (z.elim sa sb).elim
theorem sw_par3 {env : Env} {x y z : Str} {px py pz pt p2 : Pos} {kt k2 : Nat} {a b d : Expr} (hk : env.scope.kind = .function) (hx : env.scope.names.lookup x = some .local) (hy : env.scope.names.lookup y = some .local) (hz : env.scope.names.lookup z = some .local) (hl : (py.line == px.line) = true) (hl' : (pz.line == px.line) = true)
    (hxy : (x != y) = true) (hxz : (x != z) = true) (hyz : (y != z) = true)
    (hs : [a, b, d].any isStar = false) (h1 : [a, b, d].all (foldedForSure 8) = false) (h2 : [a, b, d].all (constantsAlone 8) = false) :
    swappedStores [.Tuple [.Name x px, .Name y py, .Name z pz] kt pt] (.Tuple [a, b, d] k2 p2) env = pure (some [x, y, z]) := by
  have hb : env.blockKind = .function := by unfold Env.blockKind; rw [hk]; rfl
  have kx : env.kindOf x = some .local := hx
  have ky : env.kindOf y = some .local := hy
  have kz : env.kindOf z = some .local := hz
  simp only [List.any_cons, List.any_nil, Bool.or_false, Bool.or_eq_false_iff] at hs
  have sa := nst hs.1
  have sb := nst hs.2.1
  have sd := nst hs.2.2
  have hxy' : ¬ y = x := fun z => by simp [z] at hxy
  have hxz' : ¬ z = x := fun q => by simp [q] at hxz
  have hyz' : ¬ z = y := fun q => by simp [q] at hyz
  unfold swappedStores
  simp only [hb, h1, h2, kx, ky, kz, Expr.pos, List.length_cons, List.length_nil, List.filterMap_cons, List.filterMap_nil, List.head?_cons, Option.map_some, Option.getD_some, hl, hl', beq_self_eq_true, Bool.and_true, Bool.true_and, if_true]
  simp [List.eraseDups_cons, hxy', Ne.symm hxy', hxz', Ne.symm hxz', hyz', Ne.symm hyz']
  exact fun z => (z.elim sa fun q => q.elim sb sd).elim
theorem ix_ne {N : List Str} {i j : Nat} {x y : Str} (hi : N[i]? = some x) (hj : N[j]? = some y) (h : (x != y) = true) : i ≠ j := fun e => by
  subst e
  rw [hi] at hj
  have := Option.some.inj hj
  simp [this] at h
/-- what a list of expressions has made, put into names -/
theorem asgs_rel {K : PySem.W.Frag} {F : Fx} {H : Hp} : ∀ {is : List Nat} {vs : List V} {ds : List D} {σ : L2.St} {τ τ' : Tau} {ps : Ps}, Rel K F ps H σ τ → DnAll K (wo (PP F.P0 ps) H) vs ds → asgs F.iol is ds τ = some τ' → ∃ ps', Rel K F ps' H ((is.zip vs).foldl (fun σ p => σ.set p.1 (some p.2)) σ) τ' ∧ is.length = vs.length
  | [], _, _, _, _, _, ps, r, h, e => by
    cases h with
    | nil => cases e; exact ⟨ps, r, rfl⟩
    | cons _ _ => cases e
  | i :: is, _, _, σ, τ, τ', ps, r, h, e => by
    cases h with
    | nil => cases e
    | cons h1 h2 =>
      rename_i v vs d ds
      have e : (if i ∈ F.iol then none else asgs F.iol is ds (τ.set i (some (false, d)))) = some τ' := e
      split at e
      · cases e
      · obtain ⟨ps1, r1, _, e2⟩ := r.set' (i := i) h1
        obtain ⟨ps', r', hl⟩ := asgs_rel r1 (h2.sub (PP_le e2)) e
        exact ⟨ps', r', by simp [hl]⟩
theorem s_par {ts es : List Expr} {kt k2 : Nat} {pt p2 pos : Pos} {is : List Nat} {f : Expr → E} (hc : X.calm = true) (hN : X.N.Nodup) (hk : X.env.scope.kind = .function) (hsc : X.env.scope = sc) (hi : namesIx X.N sc ts = some is) (hp : parOk sc ts es = true) (he : ∀ e ∈ es, PE X e (tE X.K g W xa (f e))) :
    PS X (.Assign [.Tuple ts kt pt] (.Tuple es k2 p2) pos) (tS X.K g W xa io (.par is (toEs (es.map f)))) := by
  subst hsc
  -- what is read
  have rd : ∀ {Q : List V → Hp → Prop} {D : Ends} {σ : L2.St} {H : Hp}, tS X.K g W xa io (.par is (toEs (es.map f))) D σ H →
      (∀ vs H1, is.length = vs.length → D.nx ((is.zip vs).foldl (fun σ p => σ.set p.1 (some p.2)) σ) H1 → Q vs H1) → tA X.K g W xa (toEs (es.map f)) σ H Q := fun {Q D σ H} h q => by
    obtain ⟨F, ps, τ, r, hio, h⟩ := h
    unfold evS at h
    refine ⟨F, ps, τ, r, (oneS h r).imp (fun x hx vs H1 pa => ?_) fun _ z => z⟩
    cases hq : asgs io is x.1 (frz x.2 τ) with
    | none => rw [hq] at hx; exact hx.elim
    | some τ' =>
      rw [hq] at hx
      obtain ⟨ps', r', hl⟩ := asgs_rel ((r.mono pa.same).frz x.2) pa.den (by rw [hio]; exact hq)
      exact q vs H1 hl (hx _ _ _ r')
  unfold parOk at hp
  split at hp
  · rename_i x px y py a b
    simp only [Bool.and_eq_true, Bool.not_eq_true'] at hp
    obtain ⟨⟨⟨⟨⟨⟨h1, h2⟩, h3⟩, h4⟩, h5⟩, h6⟩, h7⟩ := hp
    have l1 := isLoc_of h1
    have l2 := isLoc_of h2
    simp only [namesIx] at hi
    have o1 : isOwn X.env.scope x = true := by unfold isOwn; rw [l1]
    have o2 : isOwn X.env.scope y = true := by unfold isOwn; rw [l2]
    rw [if_pos o1, if_pos o2] at hi
    cases hx : ixOf x X.N with
    | none => rw [hx] at hi; cases hi
    | some i =>
      cases hy : ixOf y X.N with
      | none => rw [hx, hy] at hi; cases hi
      | some j =>
        rw [hx, hy] at hi; cases hi
        refine PS.imp (ps_par hc hN (ixOf_get hx) (ixOf_get hy) (ix_ne (ixOf_get hx) (ixOf_get hy) h4) l1 l2 (sEs he h5) (sw_par2 hk l1 l2 h3 h4 h5 h6 h7)) fun D σ H h => ?_
        refine rd h fun vs H1 hl q => ?_
        match vs, hl, q with
        | [v, w], _, q => exact ⟨v, w, rfl, q⟩
  · rename_i x px y py z pz a b d
    simp only [Bool.and_eq_true, Bool.not_eq_true'] at hp
    obtain ⟨⟨⟨⟨⟨⟨⟨⟨⟨⟨h1, h2⟩, h3⟩, h4⟩, h5⟩, h6⟩, h7⟩, h8⟩, h9⟩, h10⟩, h11⟩ := hp
    have l1 := isLoc_of h1
    have l2 := isLoc_of h2
    have l3 := isLoc_of h3
    simp only [namesIx] at hi
    have o1 : isOwn X.env.scope x = true := by unfold isOwn; rw [l1]
    have o2 : isOwn X.env.scope y = true := by unfold isOwn; rw [l2]
    have o3 : isOwn X.env.scope z = true := by unfold isOwn; rw [l3]
    rw [if_pos o1, if_pos o2, if_pos o3] at hi
    cases hx : ixOf x X.N with
    | none => rw [hx] at hi; cases hi
    | some i =>
      cases hy : ixOf y X.N with
      | none => rw [hx, hy] at hi; cases hi
      | some j =>
        cases hz : ixOf z X.N with
        | none => rw [hx, hy, hz] at hi; cases hi
        | some m =>
          rw [hx, hy, hz] at hi; cases hi
          refine PS.imp (ps_par3 hc hN (ixOf_get hx) (ixOf_get hy) (ixOf_get hz) (ix_ne (ixOf_get hx) (ixOf_get hy) h6) (ix_ne (ixOf_get hx) (ixOf_get hz) h7) (ix_ne (ixOf_get hy) (ixOf_get hz) h8) l1 l2 l3 (sEs he h9) (sw_par3 hk l1 l2 l3 h4 h5 h6 h7 h8 h9 h10 h11)) fun D σ H h => ?_
          refine rd h fun vs H1 hl q => ?_
          match vs, hl, q with
          | [u, v, w], _, q => exact ⟨u, v, w, rfl, q⟩
  · cases hp
/-! ### a call that changes an argument -/
theorem Rel.writeG {K : PySem.W.Frag} {F : Fx} {ps : Ps} {H H' : Hp} {σ : L2.St} {τ : Tau} (r : Rel K F ps H σ τ) {i : Nat} {p : Addr} {d : D} (hp : ps i = some p) (kp : ∀ b o, H b = some o → b ≠ p → H' b = some o) (hd : OwnAt K H' (PP F.P0 ps) p d) :
    Rel K F ps H' σ (τ.set i (some (true, d))) := by
  have hl := r.ls
  obtain ⟨d0, hi⟩ := r.pown i p hp
  have hlt := (List.getElem?_eq_some_iff.mp hi).1
  have hpp : PP F.P0 ps p := .inr ⟨i, hp⟩
  have key : Same (wo (PP F.P0 ps) H) (wo (PP F.P0 ps) H') := wo_gen fun a u h1 h2 => ⟨h1, kp _ _ h2 (fun z => h1 (by rw [z]; exact hpp))⟩
  refine ⟨by simp [hl], fun j x he => ?_, fun j x he => ?_, fun j q hq => ?_, r.inj, r.out, fun a u h1 h2 => ?_, r.new, fun a h1 => ?_, r.pin, r.nw.1, fun a h => r.nw.2 a (by
    by_cases z : a = p
    · obtain ⟨o, q, _⟩ := hd.there
      rw [z, q] at h; cases h
    · cases h2 : H a with
      | none => rfl
      | some o => rw [kp _ _ h2 z] at h; cases h)⟩
  · by_cases hj : j = i
    · subst hj
      rw [List.getElem?_set_self hlt] at he; cases he
      obtain ⟨q, z1, z2, _⟩ := r.own j _ hi
      rw [hp] at z1; cases z1
      exact ⟨p, hp, z2, hd⟩
    · rw [List.getElem?_set_ne (fun z => hj z.symm)] at he
      obtain ⟨q, h1, h2, h3⟩ := r.own j x he
      exact ⟨q, h1, h2, h3.mono (fun u z => kp _ _ z (fun y => hj (r.inj j i p (by rw [h1, y]) hp))) key⟩
  · by_cases hj : j = i
    · subst hj
      rw [List.getElem?_set_self hlt] at he; cases he
    · rw [List.getElem?_set_ne (fun z => hj z.symm)] at he
      obtain ⟨w, h1, h2⟩ := r.cln j x he
      exact ⟨w, h1, Dn.mono key _ h2⟩
  · by_cases hj : j = i
    · subst hj
      exact ⟨d, by rw [List.getElem?_set_self hlt]⟩
    · obtain ⟨x, he⟩ := r.pown j q hq
      exact ⟨x, by rw [List.getElem?_set_ne (fun z => hj z.symm)]; exact he⟩
  · have := r.keep a u h1 h2
    have hne : a ≠ p := fun z => by
      rcases r.new i p hp with n | n
      · exact h2 (by rw [z]; exact n)
      · rw [z, n] at h1; cases h1
    exact kp _ _ this hne
  · obtain ⟨u, h2, h3⟩ := r.p0 a h1
    have hne : a ≠ p := fun z => r.out i p hp (by rw [← z]; exact h1)
    exact ⟨u, kp _ _ h2 hne, h3⟩
theorem mark_get {io : List Nat} : ∀ {ds : List D} {p m : Nat}, (mark io p ds)[m]? = (ds[m]?).map fun d => some (io.contains (p + m) && isC d, d)
  | [], _, _ => by simp [mark]
  | d :: ds, p, 0 => by simp [mark]
  | d :: ds, p, m + 1 => by
    have := mark_get (io := io) (ds := ds) (p := p + 1) (m := m)
    have e : p + 1 + m = p + (m + 1) := by omega
    rw [e] at this
    simpa [mark] using this
theorem mark_length {io : List Nat} : ∀ {ds : List D} {p : Nat}, (mark io p ds).length = ds.length
  | [], _ => rfl
  | d :: ds, p => by simp [mark, mark_length (ds := ds)]
structure IoPost (K : PySem.W.Frag) (P0 : Addr → Prop) (ps : Ps) (τ : Tau) (j : Nat) (H H' : Hp) (x : List D × List Nat × Nat) (vs : List V) : Prop where
  same : Same H H'
  own : ∃ a d, ps x.2.2 = some a ∧ vs[j]? = some (.ref a) ∧ x.1[j]? = some d ∧ own? τ x.2.2 = some d
  len : vs.length = x.1.length
  cln : ∀ (m : Nat) (v : V) (d : D), m ≠ j → vs[m]? = some v → x.1[m]? = some d → Dn K (wo (PP P0 (dr x.2.1 ps)) H') v d
def tAio (K : PySem.W.Frag) (g : G) (W : WX) (xa : XA) (j : Nat) (cs : Es) : TA := fun σ H Q => ∃ F ps τ, Rel K F ps H σ τ ∧ Sat (evIo g j cs τ) (fun x => ∀ vs H', IoPost K F.P0 ps τ j H H' x vs → Q vs H') (XO W xa σ H)
theorem sEsIo {f : Expr → E} : ∀ {es : List Expr} {j : Nat}, (∀ e ∈ es, PE X e (tE X.K g W xa (f e))) → (∀ e ∈ es, ∀ i, f e = .v i → PE X e (tVar i)) → es.any isStar = false → PA X es (tAio X.K g W xa j (toEs (es.map f)))
  | [], j, _, _, _ => PA.imp pa_nil fun σ H Q h => by
    obtain ⟨F, ps, τ, r, h⟩ := h
    have e : evIo g j .nil τ = .st := by cases j <;> (unfold evIo; rfl)
    have h : Sat (evIo g j .nil τ) _ _ := h
    rw [e] at h; exact h.elim
  | e :: es, 0, he, hv, hs => by
    simp only [List.any_cons, Bool.or_eq_false_iff] at hs
    have rest := sEs (X := X) (g := g) (W := W) (xa := xa) (f := f) (es := es) (fun e' q => he e' (List.mem_cons_of_mem _ q)) hs.2
    cases hf : f e with
    | v i =>
      refine PA.imp (pa_cons (hv e (by simp) i hf) rest (star_step hs.1 _ _)) fun σ H Q h => ?_
      obtain ⟨F, ps, τ, r, h⟩ := h
      have h : Sat (evIo g 0 (.cons (f e) (toEs (es.map f))) τ) _ _ := h
      rw [hf] at h
      unfold evIo at h
      dsimp only at h
      split at h
      case h_2 => exact h.elim
      rename_i d hd
      obtain ⟨a, q1, q2, q3⟩ := r.get hd
      refine ⟨.ref a, q2, F, ps, τ, r, (Sat.bind.mp h).imp (fun y hy vs H2 pb => ?_) fun _ z => z⟩
      refine hy (.ref a :: vs) H2 ⟨pb.same, ⟨a, d, q1, rfl, rfl, hd⟩, by simp [pb.den.length], fun m v d' hm h1 h2 => ?_⟩
      cases m with
      | zero => exact absurd rfl hm
      | succ m =>
        obtain ⟨d2, z1, z2⟩ := pb.den.get' (i := m) (v := v) h1
        have h2 : y.1[m]? = some d' := h2
        rw [h2] at z1; cases z1
        exact z2
    | _ =>
      refine PA.imp (pa_cons (he e (by simp)) rest (star_step hs.1 _ _)) fun σ H Q h => ?_
      obtain ⟨F, ps, τ, r, h⟩ := h
      have h : Sat (evIo g 0 (.cons (f e) (toEs (es.map f))) τ) _ _ := h
      rw [hf] at h
      unfold evIo at h
      exact h.elim
  | e :: es, j + 1, he, hv, hs => by
    simp only [List.any_cons, Bool.or_eq_false_iff] at hs
    refine PA.imp (pa_cons (he e (by simp)) (sEsIo (es := es) (j := j) (fun e' q => he e' (List.mem_cons_of_mem _ q)) (fun e' q => hv e' (List.mem_cons_of_mem _ q)) hs.2) (star_step hs.1 _ _)) fun σ H Q h => ?_
    obtain ⟨F, ps, τ, r, h⟩ := h
    have h : Sat (evIo g (j + 1) (.cons (f e) (toEs (es.map f))) τ) _ _ := h
    unfold evIo at h
    refine one r h fun x v H1 pa r1 hz => ⟨F, ps, τ, r1, (Sat.bind.mp hz).imp (fun y hy vs H2 pb => ?_) fun _ z => XO.mono z pa.same⟩
    obtain ⟨a, d, q1, q2, q3, q4⟩ := pb.own
    refine hy (v :: vs) H2 ⟨pa.same.trans pb.same, ⟨a, d, q1, q2, q3, q4⟩, by simp [pb.len], fun m w d' hm h1 h2 => ?_⟩
    cases m with
    | zero =>
      cases h1
      have h2 : some x.1 = some d' := h2
      cases h2
      exact Dn.mono (wo_same pb.same) _ (pa.den.sub (PP_dr fun i hi => List.mem_append_left _ hi))
    | succ m => exact (pb.cln m w d' (fun z => hm (by rw [z])) h1 h2).sub (PP_dr fun i hi => List.mem_append_right _ hi)
/-- the reading of a call that changes its argument j -/
theorem io_rd {f j : Nat} {cs : Es} (hio : g.io f = [j]) {F : Fx} {ps : Ps} {H : Hp} {σ : L2.St} {τ : Tau} (r : Rel X.K F ps H σ τ) {x : List D × List Nat × Nat} {rd d : D} {Q : VK}
    (h1 : evIo g j cs τ = .ok x) (h2 : x.2.2 ∉ x.2.1) (h3 : g.cf f x.1 = .ok (rd, [d]))
    (hq : ∀ v H', (∀ b o, ¬ PP F.P0 (dr x.2.1 ps) b → H b = some o → H' b = some o) → Dn X.K (wo (PP F.P0 (dr x.2.1 ps)) H') v rd → Rel X.K F (dr x.2.1 ps) H' σ ((frz x.2.1 τ).set x.2.2 (some (true, d))) → Q v H') : tCallS (spD X.K (g.cf f) (g.io f) (g.fr f) xa) (WE W) (tAio X.K g W xa j cs) σ H Q := by
  refine ⟨F, ps, τ, r, ?_⟩
  rw [h1, hio]
  intro vs H1 ip
  obtain ⟨a, d0, q1, q2, q3, q4⟩ := ip.own
  have r0 := r.mono ip.same
  have r1 := r0.frz x.2.1
  obtain ⟨a', w1, w2, w3⟩ := r0.get q4
  rw [q1] at w1; cases w1
  have hpa : dr x.2.1 ps x.2.2 = some a := dr_some.mpr ⟨h2, q1⟩
  -- the callee's heap
  let psc : Ps := fun m => if m = j then some a else none
  let P0c : Addr → Prop := fun b => PP F.P0 (dr x.2.1 ps) b ∧ b ≠ a
  have psc_some : ∀ {m p}, psc m = some p → m = j ∧ p = a := fun {m p} z => by
    by_cases hm : m = j
    · simp only [psc, hm, if_true] at z; exact ⟨hm, (Option.some.inj z).symm⟩
    · simp only [psc, hm, if_false] at z; cases z
  have psc_j : psc j = some a := by simp [psc]
  have hPP : ∀ b, PP P0c psc b ↔ PP F.P0 (dr x.2.1 ps) b := fun b => by
    constructor
    · rintro (z | ⟨m, z⟩)
      · exact z.1
      · rw [(psc_some z).2]; exact .inr ⟨_, hpa⟩
    · intro z
      by_cases e : b = a
      · exact .inr ⟨j, by rw [e]; exact psc_j⟩
      · exact .inl ⟨z, e⟩
  have hC : isC d0 = true := w3.isC
  refine ⟨⟨H1, fun b => ∃ i, psc i = some b, P0c, ioM [j] (g.fr f), psc, fun b => H1 b = none⟩, psc, x.1, ⟨?_, fun m e he => ?_, fun m e he => ?_, fun m p hp => ?_, fun m n p z1 z2 => ?_, fun m p hp z => ?_, fun _ _ z _ => z, fun m p hp => .inl ⟨m, hp⟩, fun b z => ?_, fun _ _ _ z => z, fun m p hp hm => absurd (mem_ioM (by rw [(psc_some hp).1]; simp)) hm, fun _ z => z⟩, rfl, rfl, rfl, rfl, rfl, ?_⟩
  · rw [mark_length, List.length_map, ip.len]
  · rw [mark_get] at he
    obtain ⟨d', e1, e2⟩ := Option.map_eq_some_iff.mp he
    simp only [Nat.zero_add, Option.some.injEq, Prod.mk.injEq, Bool.and_eq_true] at e2
    obtain ⟨⟨e3, e4⟩, rfl⟩ := e2
    have hm : m = j := by simpa using e3
    subst hm
    rw [q3] at e1; cases e1
    exact ⟨a, psc_j, by rw [List.getElem?_map, q2]; rfl, w3.mono (fun _ z => z) (wo_sub fun b z => PP_dr0 b ((hPP b).mp z))⟩
  · rw [mark_get] at he
    obtain ⟨d', e1, e2⟩ := Option.map_eq_some_iff.mp he
    simp only [Nat.zero_add, Option.some.injEq, Prod.mk.injEq] at e2
    obtain ⟨e3, rfl⟩ := e2
    have hm : m ≠ j := fun z => by
      subst z
      rw [q3] at e1; cases e1
      rw [hC] at e3
      simp at e3
    obtain ⟨v, hv⟩ := get_lt (l := vs) (i := m) (by rw [ip.len]; exact (List.getElem?_eq_some_iff.mp e1).1)
    exact ⟨v, by rw [List.getElem?_map, hv]; rfl, (ip.cln m v _ hm hv e1).sub fun b z => (hPP b).mp z⟩
  · obtain ⟨rfl, rfl⟩ := psc_some hp
    exact ⟨d0, by rw [mark_get, q3]; simp [hC]⟩
  · rw [(psc_some z1).1, (psc_some z2).1]
  · exact z.2 (psc_some hp).2
  · obtain ⟨o, z1, z2⟩ := r1.there z.1
    exact ⟨o, z1, z2⟩
  · rw [h3]
    intro v H2 cp
    obtain ⟨p, d', z1, z2, z3⟩ := cp.outs 0 j rfl
    obtain ⟨_, rfl⟩ := psc_some z1
    have z2 : some d = some d' := z2
    cases z2
    refine hq v H2 (fun b o hn hb => cp.keep b o (ip.same b o hb) fun ⟨m, hm⟩ => hn (by rw [(psc_some hm).2]; exact .inr ⟨_, hpa⟩)) (cp.den.sub fun b z => (hPP b).mpr z) (r1.writeG hpa (fun b o hb ne => cp.keep b o hb fun ⟨m, hm⟩ => ne (psc_some hm).2) (z3.mono (fun _ z => z) (wo_sub fun b z => (hPP b).mpr z)))
theorem sE_callIo (ev : Envr X c sc g k W xa) {x : Str} {args : List Expr} {f j : Nat} {fe : Expr → E} {p pos : Pos} (hf : fnIx c sc x args = some f) (he : ∀ e ∈ args, PE X e (tE X.K g W xa (fe e))) (hv : ∀ e ∈ args, ∀ i, fe e = .v i → PE X e (tVar i)) :
    PE X (.Call (.Name x p) args [] pos) (tCallS (spD X.K (g.cf f) (g.io f) (g.fr f) xa) (WE W) (tAio X.K g W xa j (toEs (args.map fe)))) := by
  unfold fnIx at hf
  split at hf
  case isFalse => cases hf
  rename_i hc
  simp only [Bool.and_eq_true, Bool.not_eq_true'] at hc
  obtain ⟨⟨ho, hg⟩, hs⟩ := hc
  obtain ⟨a, fd, qs, h1, h2, h3, h4⟩ := ev.fn f x hf
  obtain ⟨o1, _, _⟩ := ok_names ho
  have ha := sEsIo (X := X) (g := g) (W := W) (xa := xa) (f := fe) (es := args) (j := j) he hv hs
  cases args with
  | nil =>
    refine ⟨fun pins s σ H Q I h => ?_⟩
    obtain ⟨F, ps, τ, r, h⟩ := h
    have e : evIo g j .nil τ = .st := by cases j <;> (unfold evIo; rfl)
    have h : Sat (evIo g j .nil τ) _ _ := h
    rw [e] at h; exact h.elim
  | cons e es =>
    simp only [List.any_cons, Bool.or_eq_false_iff] at hs
    exact pe_callS h4 ev.room (ev.gl_of hg) h1 h2 h3 (fun σ => passAt ev.tk σ) ha o1 (star_step hs.1 _ _) (star_all hs.2)
theorem s_io0 (ev : Envr X c sc g k W xa) {x : Str} {args : List Expr} {f : Nat} {fe : Expr → E} {p cpos pos : Pos} (hf : fnIx c sc x args = some f) (he : ∀ e ∈ args, PE X e (tE X.K g W xa (fe e))) (hv : ∀ e ∈ args, ∀ i, fe e = .v i → PE X e (tVar i)) :
    PS X (.Expr (.Call (.Name x p) args [] cpos) pos) (tS X.K g W xa io (.io none f (toEs (args.map fe)))) := by
  cases hio : g.io f with
  | nil => exact ⟨fun _ _ _ _ _ _ h => by obtain ⟨_, _, _, _, _, h⟩ := h; unfold evS at h; rw [hio] at h; exact h.elim⟩
  | cons j js =>
    cases js with
    | cons _ _ => exact ⟨fun _ _ _ _ _ _ h => by obtain ⟨_, _, _, _, _, h⟩ := h; unfold evS at h; rw [hio] at h; exact h.elim⟩
    | nil =>
      refine PS.imp (ps_expr (sE_callIo (j := j) ev hf he hv)) fun D σ H h => ?_
      obtain ⟨F, ps, τ, r, hiol, h⟩ := h
      unfold evS at h
      rw [hio] at h
      dsimp only at h
      split at h
      case h_2 => exact h.elim
      rename_i y hy
      split at h
      · exact h.elim
      rename_i hn
      split at h
      case h_2 => exact h.elim
      rename_i rd d hcf
      split at h
      case isFalse => exact h.elim
      exact io_rd hio r hy (by simpa using hn) hcf fun v H' _ _ r' => h _ _ _ r'
theorem s_io1 (ev : EnvS X c sc g k W xa) {x z : Str} {args : List Expr} {f i : Nat} {fe : Expr → E} {py p cpos pos : Pos} (hx : ownIx c sc z = some i) (hf : fnIx c sc x args = some f) (he : ∀ e ∈ args, PE X e (tE X.K g W xa (fe e))) (hv : ∀ e ∈ args, ∀ i, fe e = .v i → PE X e (tVar i)) :
    PS X (.Assign [.Name z py] (.Call (.Name x p) args [] cpos) pos) (tS X.K g W xa io (.io (some i) f (toEs (args.map fe)))) := by
  obtain ⟨l1, l2, l3⟩ := ownIx_ok ev hx
  cases hio : g.io f with
  | nil => exact ⟨fun _ _ _ _ _ _ h => by obtain ⟨_, _, _, _, _, h⟩ := h; unfold evS at h; rw [hio] at h; exact h.elim⟩
  | cons j js =>
    cases js with
    | cons _ _ => exact ⟨fun _ _ _ _ _ _ h => by obtain ⟨_, _, _, _, _, h⟩ := h; unfold evS at h; rw [hio] at h; exact h.elim⟩
    | nil =>
      refine PS.imp (ps_set ev.nd l1 l2 (sE_callIo (j := j) ev.toEnvr hf he hv) (sw_no rfl _ _ _) l3) fun D σ H h => ?_
      obtain ⟨F, ps, τ, r, hiol, h⟩ := h
      unfold evS at h
      rw [hio] at h
      dsimp only at h
      split at h
      case h_2 => exact h.elim
      rename_i y hy
      split at h
      · exact h.elim
      rename_i hn
      split at h
      case h_2 => exact h.elim
      rename_i rd d hcf
      split at h
      case isFalse => exact h.elim
      split at h
      · exact h.elim
      exact io_rd hio r hy (by simpa using hn) hcf fun v H' _ dn r' => h _ _ _ (r'.set dn)
theorem s_callF (ev : EnvS X c sc g k W xa) {x z : Str} {args : List Expr} {f i : Nat} {fe : Expr → E} {py p cpos pos : Pos} (hx : ownIx c sc z = some i) (hf : fnIx c sc x args = some f) (he : ∀ e ∈ args, PE X e (tE X.K g W xa (fe e))) :
    PS X (.Assign [.Name z py] (.Call (.Name x p) args [] cpos) pos) (tS X.K g W xa io (.callF i f (toEs (args.map fe)))) := by
  obtain ⟨l1, l2, l3⟩ := ownIx_ok ev hx
  unfold fnIx at hf
  split at hf
  case isFalse => cases hf
  rename_i hc
  simp only [Bool.and_eq_true, Bool.not_eq_true'] at hc
  obtain ⟨⟨ho, hg⟩, hs⟩ := hc
  have main := sE_callMain ev.toEnvr (p := p) (pos := cpos) ho hg hf hs (cs := toEs (args.map fe)) (fun z => by rw [z]; rfl) (sEs he hs)
  refine PS.imp (ps_set ev.nd l1 l2 main (sw_no rfl _ _ _) l3) fun D σ H h => ?_
  obtain ⟨F, ps, τ, r, hiol, h⟩ := h
  unfold evS at h
  split at h
  case h_2 => exact h.elim
  rename_i hio
  have h1 := oneS h r
  have key : Sat ((evEs g (toEs (args.map fe)) τ).bind fun x => (g.cf f x.1).bind fun q => R.ok (q, x)) (fun y => Post X.K F W xa D (if g.fr f then (match y.1.2 with | [] => if i ∈ io then Out.st else .nx ((frz y.2.2 τ).set i (some (isC y.1.1, y.1.1))) | _ => .st) else .st)) (XO W xa σ H) := by
    refine Sat.bind.mpr (h1.imp (fun x hx => ?_) fun _ z => z)
    by_cases hfr : g.fr f = true
    · rw [if_pos hfr] at hx
      refine Sat.bind.mpr ((oneS hx r).imp (fun q hq => ?_) fun _ z => z)
      show Post X.K F W xa D (if g.fr f then _ else _)
      rw [if_pos hfr]
      exact hq
    · rw [if_neg hfr] at hx; exact hx.elim
  refine call_rd ev.toEnvr hio r key fun q x v H' h0 e den fr hz => ?_
  have hz : Post X.K F W xa D (if g.fr f then (match q.2 with | [] => if i ∈ io then Out.st else .nx ((frz x.2 τ).set i (some (isC q.1, q.1))) | _ => .st) else .st) := hz
  split at hz
  case isFalse => exact hz.elim
  rename_i hfr
  rw [h0] at hz
  dsimp only at hz
  split at hz
  · exact hz.elim
  rename_i hi
  have r1 := (r.mono e).frz x.2
  by_cases hq : isC q.1 = true
  · obtain ⟨a, rfl, e2, e3⟩ := fr hfr hq
    rw [hq] at hz
    by_cases hlt : i < τ.length
    · exact hz _ _ _ ((r.frz x.2).setNew e (by rw [hiol]; exact hi) (by rw [frz_length]; exact hlt) e2 e3)
    · have hz2 : (frz x.2 τ).set i (some (true, q.1)) = frz x.2 τ := List.set_eq_of_length_le (show (frz x.2 τ).length ≤ i by rw [frz_length]; omega)
      rw [hz2] at hz
      show D.nx (σ.set i (some (.ref a))) H'
      rw [List.set_eq_of_length_le (show σ.length ≤ i by rw [r.ls]; omega)]
      exact hz _ _ _ r1
  · rw [Bool.eq_false_iff.mpr hq] at hz
    exact hz _ _ _ (r1.set den)
end
end Mp

/-! MiniPy, part K4: loops; every statement. -/
namespace Mp
open PySem PySem.Spec PyProof.Rows L2
section
variable {X : Cx} {c : Cfg} {sc : Scope} {g : G} {k : Nat} {W : WX} {xa : XA} {io : List Nat}
theorem s_wh {dead : List Nat} {t : Expr} {b : List Stmt} {pos : Pos} {ct : E} {cb : Ss} (hp : PassesOwn (model X.prog X.w) X.A X.env X.xe) (ht : PT X t (tT X.K g W xa ct)) (hb : PSs X b (tSs X.K g W xa io cb)) : PS X (.While t b [] pos) (tS X.K g W xa io (.wh dead ct cb)) := by
  refine PS.imp (ps_while hp ht hb) fun D σ H h => ?_
  obtain ⟨F, ps, τ, r, hio, h⟩ := h
  unfold evS at h
  refine ⟨fun m σ H => ∃ ps τ, Rel X.K F ps H σ τ ∧ Post X.K F W xa D (whL dead (evT g ct) (evSs g io cb) m τ), ⟨g.wN, _, _, r.forget dead, h⟩, ?_⟩
  rintro m σ H ⟨ps, τ, r, h⟩
  cases m with
  | zero => exact h.elim
  | succ n =>
    unfold whL at h
    refine ⟨F, ps, τ, r, ?_⟩
    cases hev : evT g ct τ with
    | st => rw [hev] at h; exact h.elim
    | ex x => rw [hev] at h; exact fun cls dd H' e q => h ps σ H' cls dd (r.mono e) q
    | ok b =>
      rw [hev] at h
      intro H1 e
      cases b with
      | false => rw [if_neg (by decide)]; exact h _ _ _ (r.mono e)
      | true =>
        rw [if_pos rfl]
        refine ⟨fun σ H => ∃ ps τ, Rel X.K F ps H σ τ ∧ Post X.K F W xa D (whL dead (evT g ct) (evSs g io cb) n τ), fun σ' H' q => ⟨n, Nat.lt_succ_self _, q⟩, F, ps, τ, r.mono e, hio, ?_⟩
        dsimp only at h
        cases hs : evSs g io cb τ with
        | nx τ2 => rw [hs] at h; exact fun ps' σ' H' r' => ⟨_, _, r'.forget dead, h⟩
        | ct τ2 => rw [hs] at h; exact fun ps' σ' H' r' => ⟨_, _, r'.forget dead, h⟩
        | brk τ2 => rw [hs] at h; exact fun ps' σ' H' r' => h _ _ _ (r'.forget dead)
        | ret τ2 d => rw [hs] at h; exact h
        | ex x τ2 => rw [hs] at h; exact h
        | st => rw [hs] at h; exact h
/-- a loop's own ground -/
def Fx.loop (F : Fx) (ps : Ps) (H : Hp) : Fx := ⟨H, fun a => ∃ i, ps i = some a, F.P0, F.iol, ps, F.nw⟩
theorem Rel.toLoop {K : PySem.W.Frag} {F : Fx} {ps : Ps} {H : Hp} {σ : L2.St} {τ : Tau} (r : Rel K F ps H σ τ) : Rel K (F.loop ps H) ps H σ τ :=
  ⟨r.ls, r.own, r.cln, r.pown, r.inj, r.out, fun _ _ z _ => z, fun i p h => .inl ⟨i, h⟩, r.p0, fun _ _ _ z => z, r.nw⟩
theorem Rel.ofLoop {K : PySem.W.Frag} {F : Fx} {ps ps' : Ps} {H H' : Hp} {σ σ' : L2.St} {τ τ' : Tau} (r : Rel K F ps H σ τ) (r' : Rel K (F.loop ps H) ps' H' σ' τ') : Rel K F ps' H' σ' τ' := by
  have hio : ∀ {j : Nat} {p : Addr}, ps j = some p → F.io p ∨ F.H0 p = none := fun {j p} z => r.new j p z
  refine ⟨r'.ls, r'.own, r'.cln, r'.pown, r'.inj, r'.out, fun a o h1 h2 => ?_, fun i p h => ?_, r'.p0, fun i p hi h => r.pin i p hi (r'.pin i p hi h), r'.nw⟩
  · refine r'.keep a o (r.keep a o h1 h2) fun ⟨j, z⟩ => ?_
    rcases hio z with q | q
    · exact h2 q
    · rw [q] at h1; cases h1
  · rcases r'.new i p h with ⟨j, z⟩ | z
    · exact hio z
    · by_cases q : F.io p
      · exact .inl q
      · right
        cases h0 : F.H0 p with
        | none => rfl
        | some o =>
          have z : H p = none := z
          have := r.keep p o h0 q
          rw [z] at this; cases this
theorem Post.loop {K : PySem.W.Frag} {F : Fx} {ps : Ps} {H : Hp} {σ : L2.St} {τ : Tau} {D : Ends} {o : Out} (r : Rel K F ps H σ τ) (h : Post K F W xa D o) : Post K (F.loop ps H) W xa D o := by
  cases o with
  | nx τ' => exact fun ps' σ' H' r' => h ps' σ' H' (r.ofLoop r')
  | brk τ' => exact fun ps' σ' H' r' => h ps' σ' H' (r.ofLoop r')
  | ct τ' => exact fun ps' σ' H' r' => h ps' σ' H' (r.ofLoop r')
  | ret τ' d => exact fun ps' σ' H' v r' hd hf => h ps' σ' H' v (r.ofLoop r') hd hf
  | ex x τ' => exact fun ps' σ' H' cls dd r' q => h ps' σ' H' cls dd (r.ofLoop r') q
  | st => exact h
theorem s_for {dead : List Nat} {tg iter : Expr} {b : List Stmt} {pos : Pos} {t : T} {ci : I} {cb : Ss} (hp : PassesOwn (model X.prog X.w) X.A X.env X.xe) (hc : X.calm = true) (hi : PI X tg iter (tI X.K g W xa ci)) (hg : PG X tg (tG X.K t)) (hb : PSs X b (tSs X.K g W xa io cb)) (hs : isSet iter = false) :
    PS X (.For tg iter b [] pos) (tS X.K g W xa io (.forS dead t ci cb)) := by
  refine PS.imp (ps_for hp hc hi hg hb (isSet_no hs _)) fun D σ H h => ?_
  obtain ⟨F, ps, τ, r, hio, h⟩ := h
  unfold evS at h
  refine ⟨F, ps, τ, r, (oneS h r).imp (fun x hx J H1 e1 ok _ => ?_) fun _ z => z⟩
  have r1 := ((r.mono e1).frz x.2).forget dead
  have hle : ∀ a, PP F.P0 (dr dead (dr x.2 ps)) a → PP F.P0 (dr x.2 ps) a := PP_dr0
  refine ⟨fun i m σ H => m = x.1.length - i ∧ i ≤ x.1.length ∧ ∃ ps' τ', Rel X.K (F.loop (dr dead (dr x.2 ps)) H1) ps' H σ τ' ∧ Post X.K (F.loop (dr dead (dr x.2 ps)) H1) W xa D (forL io dead t (evSs g io cb) (x.1.drop i) τ'),
    ⟨x.1.length, by simp, Nat.zero_le _, dr dead (dr x.2 ps), _, r1.toLoop, Post.loop r1 hx⟩, ?_⟩
  rintro i m σ' H2 ⟨rfl, hi, ps', τ', r', h'⟩
  have hC : Same (wo (PP F.P0 (dr x.2 ps)) H1) H2 := fun a o z => by
    obtain ⟨z1, z2⟩ := wo_some.mp z
    exact r'.keep a o z2 fun ⟨j, q⟩ => z1 (.inr ⟨j, (dr_some.mp q).2⟩)
  have hC' : ∀ a o, ¬ PP F.P0 (dr x.2 ps) a → H1 a = some o → H2 a = some o := fun a o z1 z2 => r'.keep a o z2 fun ⟨j, q⟩ => z1 (.inr ⟨j, (dr_some.mp q).2⟩)
  have hG : Same (wo (PP F.P0 (dr x.2 ps)) H1) (wo (PP (F.loop (dr dead (dr x.2 ps)) H1).P0 ps') H2) := wo_gen fun a o z1 z2 => ⟨fun q => (by
    rcases q with q | ⟨j, q⟩
    · exact z1 (.inl q)
    · rcases r'.new j a q with ⟨j', w⟩ | w
      · exact z1 (.inr ⟨j', (dr_some.mp w).2⟩)
      · have w : H1 a = none := w
        rw [w] at z2; cases z2), hC' a o z1 z2⟩
  by_cases hlt : i < x.1.length
  · obtain ⟨d, hd⟩ := get_lt hlt
    have hdrop : x.1.drop i = d :: x.1.drop (i + 1) := by
      rw [List.drop_eq_getElem_cons hlt, (List.getElem?_eq_some_iff.mp hd).2]
    rw [hdrop] at h'
    unfold forL at h'
    refine .inr ⟨ok.go i H2 hC hlt, fun σ H => ∃ ps' τ', Rel X.K (F.loop (dr dead (dr x.2 ps)) H1) ps' H σ τ' ∧ Post X.K (F.loop (dr dead (dr x.2 ps)) H1) W xa D (forL io dead t (evSs g io cb) (x.1.drop (i + 1)) τ'), fun σ3 H3 q => ⟨x.1.length - (i + 1), by omega, rfl, by omega, q⟩, fun v H3 hy => ?_⟩
    obtain ⟨s23, hv⟩ := ok.yld i H2 v H3 d _ hC hG (fun a q => let ⟨o, q1, _⟩ := r'.there q; ⟨o, q1⟩) hy hd
    refine ⟨F.loop (dr dead (dr x.2 ps)) H1, ps', τ', d, r'.mono s23, hv, ?_⟩
    have hil : (F.loop (dr dead (dr x.2 ps)) H1).iol = io := hio
    rw [hil]
    split at h'
    · exact h'.elim
    rename_i τ1 ha
    rw [ha]
    intro σ4 ps4 r4 _ _ _ _
    refine ⟨F.loop (dr dead (dr x.2 ps)) H1, ps4, τ1, r4, hio, ?_⟩
    cases hs : evSs g io cb τ1 with
    | nx τ2 => rw [hs] at h'; exact fun ps' σ' H' r' => ⟨_, _, r'.forget dead, h'⟩
    | ct τ2 => rw [hs] at h'; exact fun ps' σ' H' r' => ⟨_, _, r'.forget dead, h'⟩
    | brk τ2 => rw [hs] at h'; exact fun ps' σ' H' r' => h' _ _ _ (r'.forget dead)
    | ret τ2 d => rw [hs] at h'; exact h'
    | ex x τ2 => rw [hs] at h'; exact h'
    | st => rw [hs] at h'; exact h'
  · have hie : i = x.1.length := by omega
    rw [hie, List.drop_length] at h'
    exact .inl ⟨ok.stop i H2 hC (by omega), h' ps' σ' H2 r'⟩
/-! ### a comprehension put into a name -/
theorem s_setLc (ev : EnvS X c sc g k W xa) {n : Nat} {x : Str} {py p pos : Pos} {i : Nat} {elt : Expr} {gs : List Comprehension} {scope : Scope} (hx : ownIx c sc x = some i) (hl : isLoc sc x = true) (hp : (py.line == p.line) = true)
    (ha : (scope.names.any fun (n, k) => n == x && (k == .local || k == .cell)) = false) : PS X (.Assign [.Name x py] (.ListComp elt gs scope p) pos) (tS X.K g W xa io (.set (.n i) (cE c (n + 1) sc (.ListComp elt gs scope p)))) := by
  obtain ⟨h1, _, _⟩ := ownIx_ok ev hx
  have hloc : X.env.scope.names.lookup x = some .local := by rw [ev.sc]; exact isLoc_of hl
  have hsw := fun l => sw_true (elt := elt) (gs := gs) (pos := p) (l := l) ev.kind hloc hp ha
  have bad : PS X (.Assign [.Name x py] (.ListComp elt gs scope p) pos) (tS X.K g W xa io (.set (.n i) .bad)) := ⟨fun _ _ _ _ _ _ h => by obtain ⟨_, _, _, _, _, h⟩ := h; exact h.elim⟩
  unfold cE
  split <;> first
    | exact bad
    | (rename_i z; cases z; done)
    | skip
  rename_i elt' tg iter ifs scope' p' z
  cases z
  split
  case isFalse => exact bad
  rename_i h
  simp only [Bool.and_eq_true, Bool.not_eq_true'] at h
  split
  case h_2 => exact bad
  rename_i t ht
  split
  case isFalse => exact bad
  rename_i hin
  have okb : BlkOk X.N X.env.scope scope (ownOf c.N scope) := by rw [ev.N, ev.sc]; exact blkOk_by h.1
  have hG : ∀ (s : Shared) (H : Hp) (C : Addr) (cl : List (Str × Addr)) (fp : List Addr), PG (X.blk s H scope (compEnvC scope cl C X.env) fp) tg (tG X.K t) := fun s H C cl fp =>
    sG (X := X.blk s H scope (compEnvC scope cl C X.env) fp) (osc := scope) ev.calm (isOwn_blk ev.sc s H scope C cl fp) ev.nd (by show cT X.N scope tg = some t; rw [ev.N]; exact ht)
  have hI : PI X tg iter (tI X.K g W xa (mkI c sc (cE c n sc) tg iter)) := s_mkI ev.toEnvr fun e => (s_all n ev.toEnvr e).pe
  have hE : ∀ e (s : Shared) (H : Hp) (C : Addr) (cl : List (Str × Addr)) (fp : List Addr), All (X.blk s H scope (compEnvC scope cl C X.env) fp) g W0 xa e (cE c n (relS scope sc) e) := fun e s H C cl fp => s_all n (ev.toEnvr.blk s H scope C cl fp) e
  have fin : ∀ {qs : List Expr} {cc : O}, (∀ (s : Shared) (H : Hp) (C : Addr) (cl : List (Str × Addr)) (fp : List Addr), PTs (X.blk s H scope (compEnvC scope cl C X.env) fp) qs (tC X.K g xa cc)) →
      (swapsWith (.ListComp elt [⟨tg, iter, qs, 0⟩] scope p) (some (.Name x py)) pos.line X.env = pure true) →
      PS X (.Assign [.Name x py] (.ListComp elt [⟨tg, iter, qs, 0⟩] scope p) pos) (tS X.K g W xa io (.set (.n i) (.comp (cE c n (relS scope sc) elt) t (mkI c sc (cE c n sc) tg iter) cc ((ownOf c.N scope).map (·.2))))) := fun hT hw =>
    PS.imp (ps_setLc ev.calm ev.nd h1 hloc hw hI okb hG hT (fun s H C cl fp => (hE elt s H C cl fp).pe) (isSet_no h.2 _)) fun D σ H q => rd_comp hin (rd_set q)
  split
  · exact fin (fun s H C cl fp => pts_nil) (hsw _)
  · rename_i q
    exact fin (fun s H C cl fp => pts_one (hE q s H C cl fp).pt) (hsw _)
  · exact bad
end
end Mp

/-! MiniPy, part K7: pop(0), calls that change an argument and are returned or handed to another call. -/
namespace Mp
open PySem PySem.Spec PyProof.Rows L2
section
variable {X : Cx} {c : Cfg} {sc : Scope} {g : G} {k : Nat} {W : WX} {xa : XA} {io : List Nat}
theorem s_popF {x l m : Str} {py pl p0 apos cpos pos : Pos} {i j t0 : Nat} {z : Int} (hN : X.N.Nodup) (hi : X.N[i]? = some x) (hx : Loc X.env.scope x) (hf : X.fn x = true ∨ X.env.scope.names.lookup x = some .local) (hm : m = "pop") (hz : z = 0) (hv : PE X (.Name l pl) (tVar j)) (hl : (apos.endLine == cpos.line) = true) :
    PS X (.Assign [.Name x py] (.Call (.Attribute (.Name l pl) m apos) [.Constant (.int z) t0 p0] [] cpos) pos) (tS X.K g W xa io (.popF (some i) j)) := by
  subst hm hz
  have hs : isStar (.Constant (.int 0) t0 p0) = false := rfl
  have hs' : [Expr.Constant (.int 0) t0 p0].any isStar = false := rfl
  refine PS.imp (ps_set hN hi hx (pe_bm PySem.F.plainAttrs_list F.slot_list_pop F.type_list_pop mt_popAt hv (pa_cons pe_int pa_nil (star_step hs _ _)) rfl (few_of hs' (by simp)) hl (star_step hs _ _) rfl) (sw_no rfl _ _ _) hf) fun D σ H h => ?_
  obtain ⟨F, ps, τ, r, hio, h⟩ := h
  unfold evS at h
  split at h
  case h_2 => exact h.elim
  rename_i d ds hc
  obtain ⟨p, q1, q2, vs, z1, z2⟩ := r.get hc
  dsimp only at h
  split at h
  · exact h.elim
  · cases z2 with
    | cons hv2 z2 =>
      rename_i v vs
      have r1 := r.putL q1 z2
      refine ⟨.ref p, q2, tyL z1, p, v :: vs, 0, 0, v, rfl, rfl, z1, by decide, by decide, ?_, rfl, h _ _ _ (r1.set (Dn.mono (wo_upd (.inr ⟨j, q1⟩)) _ hv2))⟩
      unfold seqIndex?
      simp
theorem s_ioR (ev : Envr X c sc g k W xa) {x : Str} {args : List Expr} {f : Nat} {fe : Expr → E} {p cpos pos : Pos} (hf : fnIx c sc x args = some f) (he : ∀ e ∈ args, PE X e (tE X.K g W xa (fe e))) (hv : ∀ e ∈ args, ∀ i, fe e = .v i → PE X e (tVar i)) :
    PS X (.Return (some (.Call (.Name x p) args [] cpos)) pos) (tS X.K g W xa io (.ioR f (toEs (args.map fe)))) := by
  cases hio : g.io f with
  | nil => exact ⟨fun _ _ _ _ _ _ h => by obtain ⟨_, _, _, _, _, h⟩ := h; unfold evS at h; rw [hio] at h; exact h.elim⟩
  | cons j js =>
    cases js with
    | cons _ _ => exact ⟨fun _ _ _ _ _ _ h => by obtain ⟨_, _, _, _, _, h⟩ := h; unfold evS at h; rw [hio] at h; exact h.elim⟩
    | nil =>
      refine PS.imp (ps_ret (sE_callIo (j := j) ev hf he hv)) fun D σ H h => ?_
      obtain ⟨F, ps, τ, r, hiol, h⟩ := h
      unfold evS at h
      rw [hio] at h
      dsimp only at h
      split at h
      case h_2 => exact h.elim
      rename_i y hy
      split at h
      · exact h.elim
      rename_i hn
      split at h
      case h_2 => exact h.elim
      rename_i rd d hcf
      split at h
      case isFalse => exact h.elim
      rename_i hc
      simp only [Bool.and_eq_true, Bool.not_eq_true'] at hc
      exact io_rd hio r hy (by simpa using hn) hcf fun v H' _ dn r' => h _ _ _ _ r' dn fun _ z => by rw [hc.2] at z; cases z
/-- the reading of arguments of which the last one is a call that changes its argument -/
def tAC (K : PySem.W.Frag) (g : G) (as : Es) (f j : Nat) (cs : Es) : TA := fun σ H Q => ∃ F ps τ, Rel K F ps H σ τ ∧ g.io f = [j] ∧ ∃ ds x rd d, evEs g as τ = .ok (ds, []) ∧ evIo g j cs τ = .ok x ∧ x.2.2 ∉ x.2.1 ∧ g.cf f x.1 = .ok (rd, [d]) ∧
  ∀ vs v H', (∀ b o, ¬ PP F.P0 (dr x.2.1 ps) b → H b = some o → H' b = some o) → DnAll K (wo (PP F.P0 (dr x.2.1 ps)) H') vs ds → Dn K (wo (PP F.P0 (dr x.2.1 ps)) H') v rd → Rel K F (dr x.2.1 ps) H' σ ((frz x.2.1 τ).set x.2.2 (some (true, d))) → Q (vs ++ [v]) H'
theorem ok_nil {α β : Type} {r : R (α × List β)} {q : R (List α × List β)} {ds : List α} (h : (r.bind fun x => q.bind fun y => R.ok (x.1 :: y.1, x.2 ++ y.2)) = .ok (ds, [])) : ∃ d0 ds', r = .ok (d0, []) ∧ q = .ok (ds', []) ∧ ds = d0 :: ds' := by
  cases r with
  | ex _ => cases h
  | st => cases h
  | ok x =>
    cases q with
    | ex _ => cases h
    | st => cases h
    | ok y =>
      obtain ⟨x1, x2⟩ := x
      obtain ⟨y1, y2⟩ := y
      have h : R.ok (x1 :: y1, x2 ++ y2) = .ok (ds, []) := h
      injection h with h
      injection h with h1 h2
      obtain ⟨rfl, rfl⟩ := List.append_eq_nil_iff.mp h2
      exact ⟨x1, y1, rfl, rfl, h1.symm⟩
theorem sEsIoC (ev : Envr X c sc g k W xa) {x : Str} {args : List Expr} {f j : Nat} {fe : Expr → E} {p cpos : Pos} (hf : fnIx c sc x args = some f) (he : ∀ e ∈ args, PE X e (tE X.K g W xa (fe e))) (hv : ∀ e ∈ args, ∀ i, fe e = .v i → PE X e (tVar i)) :
    ∀ {as : List Expr}, (∀ e ∈ as, PE X e (tE X.K g W xa (fe e))) → as.any isStar = false → PA X (as ++ [.Call (.Name x p) args [] cpos]) (tAC X.K g (toEs (as.map fe)) f j (toEs (args.map fe)))
  | [], _, _ => PA.imp (pa_cons (sE_callIo (j := j) ev hf he hv) pa_nil rfl) fun σ H Q h => by
    obtain ⟨F, ps, τ, r, hio, ds, y, rd, d, h1, h2, h3, h4, h5⟩ := h
    have h1 : R.ok (([] : List D), ([] : List Nat)) = .ok (ds, []) := h1
    injection h1 with h1
    injection h1 with h1 _
    subst h1
    exact io_rd hio r h2 h3 h4 fun v H' kp dn r' => h5 [] v H' kp .nil dn r'
  | e :: es, ha, hs => by
    simp only [List.any_cons, Bool.or_eq_false_iff] at hs
    refine PA.imp (pa_cons (ha e (by simp)) (sEsIoC (j := j) ev hf he hv (as := es) (fun e' q => ha e' (List.mem_cons_of_mem _ q)) hs.2) (star_step hs.1 _ _)) fun σ H Q h => ?_
    obtain ⟨F, ps, τ, r, hio, ds, y, rd, d, h1, h2, h3, h4, h5⟩ := h
    have h1 : ((evE g (fe e) τ).bind fun x => (evEs g (toEs (es.map fe)) τ).bind fun y => R.ok (x.1 :: y.1, x.2 ++ y.2)) = .ok (ds, []) := h1
    obtain ⟨d0, ds', e1, e2, rfl⟩ := ok_nil h1
    refine ⟨F, ps, τ, r, ?_⟩
    rw [e1]
    intro v H1 pa
    refine ⟨F, ps, τ, r.mono pa.same, hio, ds', y, rd, d, e2, h2, h3, h4, fun vs w H' kp dvs dw r' => ?_⟩
    refine h5 (v :: vs) w H' (fun b o n z => kp b o n (pa.same _ _ z)) (.cons (Dn.mono (wo_gen fun a u z1 z2 => ⟨fun q => z1 ?_, kp a u (fun q => z1 ?_) z2⟩) _ pa.den) dvs) dw r'
    · exact PP_dr (L := []) (fun i hi => nomatch hi) a q
    · exact PP_dr (L := []) (fun i hi => nomatch hi) a q
theorem sE_callG (ev : Envr X c sc g k W xa) {x : Str} {args : List Expr} {f : Nat} {ta : TA} {p pos : Pos} (hf : fnIx c sc x args = some f) (hn : args ≠ []) (ha : PA X args ta) :
    PE X (.Call (.Name x p) args [] pos) (tCallS (spD X.K (g.cf f) (g.io f) (g.fr f) xa) (WE W) ta) := by
  unfold fnIx at hf
  split at hf
  case isFalse => cases hf
  rename_i hc
  simp only [Bool.and_eq_true, Bool.not_eq_true'] at hc
  obtain ⟨⟨ho, hg⟩, hs⟩ := hc
  obtain ⟨a, fd, qs, h1, h2, h3, h4⟩ := ev.fn f x hf
  obtain ⟨o1, _, _⟩ := ok_names ho
  cases args with
  | nil => exact absurd rfl hn
  | cons e es =>
    simp only [List.any_cons, Bool.or_eq_false_iff] at hs
    exact pe_callS h4 ev.room (ev.gl_of hg) h1 h2 h3 (fun σ => passAt ev.tk σ) ha o1 (star_step hs.1 _ _) (star_all hs.2)
theorem ioLast_eq : ∀ {args as bs : List Expr} {f : Nat}, ioLast c sc args = some (as, bs, f) → ∃ x p cpos, args = as ++ [.Call (.Name x p) bs [] cpos] ∧ fnIx c sc x bs = some f
  | [], _, _, _, h => by cases h
  | e :: es, as, bs, f, h => by
    unfold ioLast at h
    split at h
    · cases h
    · rename_i x p args cpos hh
      split at h
      · rename_i k hk
        split at h
        · cases h
        · cases h
          injection hh with h1 h2
          subst h1 h2
          exact ⟨_, _, _, rfl, hk⟩
      · cases h
    · rename_i e' es' hh hh2
      injection hh2 with h1 h2
      subst h1 h2
      split at h
      · rename_i q hq
        obtain ⟨q1, q2, q3⟩ := q
        injection h with h
        injection h with h1 h2
        injection h2 with h2 h3
        subst h1 h2 h3
        obtain ⟨x, p, cpos, z1, z2⟩ := ioLast_eq hq
        exact ⟨x, p, cpos, by rw [z1]; rfl, z2⟩
      · cases h
theorem s_ioC (ev : EnvS X c sc g k W xa) {x z y : Str} {as args : List Expr} {h f i : Nat} {fe : Expr → E} {py p p2 cpos cpos2 pos : Pos} (hx : ownIx c sc z = some i) (hh : fnIx c sc y (as ++ [.Call (.Name x p2) args [] cpos2]) = some h) (hf : fnIx c sc x args = some f)
    (ha : ∀ e ∈ as, PE X e (tE X.K g W xa (fe e))) (he : ∀ e ∈ args, PE X e (tE X.K g W xa (fe e))) (hv : ∀ e ∈ args, ∀ i, fe e = .v i → PE X e (tVar i)) :
    PS X (.Assign [.Name z py] (.Call (.Name y p) (as ++ [.Call (.Name x p2) args [] cpos2]) [] cpos) pos) (tS X.K g W xa io (.ioC i h (toEs (as.map fe)) f (toEs (args.map fe)))) := by
  obtain ⟨l1, l2, l3⟩ := ownIx_ok ev hx
  have hs : as.any isStar = false := by
    unfold fnIx at hh
    split at hh
    case isFalse => cases hh
    rename_i hc
    simp only [Bool.and_eq_true, Bool.not_eq_true'] at hc
    have := hc.2
    rw [List.any_append, Bool.or_eq_false_iff] at this
    exact this.1
  cases hih : g.io h with
  | cons _ _ => exact ⟨fun _ _ _ _ _ _ q => by obtain ⟨_, _, _, _, _, q⟩ := q; unfold evS at q; rw [hih] at q; exact q.elim⟩
  | nil =>
  cases hio : g.io f with
  | nil => exact ⟨fun _ _ _ _ _ _ q => by obtain ⟨_, _, _, _, _, q⟩ := q; unfold evS at q; rw [hih, hio] at q; exact q.elim⟩
  | cons j js =>
    cases js with
    | cons _ _ => exact ⟨fun _ _ _ _ _ _ q => by obtain ⟨_, _, _, _, _, q⟩ := q; unfold evS at q; rw [hih, hio] at q; exact q.elim⟩
    | nil =>
      refine PS.imp (ps_set ev.nd l1 l2 (sE_callG ev.toEnvr hh (by simp) (sEsIoC (j := j) ev.toEnvr hf he hv ha hs)) (sw_no rfl _ _ _) l3) fun D σ H q => ?_
      obtain ⟨F, ps, τ, r, hiol, q⟩ := q
      unfold evS at q
      rw [hih, hio] at q
      dsimp only at q
      split at q
      case h_2 => exact q.elim
      rename_i ds hds
      split at q
      case h_2 => exact q.elim
      rename_i u hu
      split at q
      · exact q.elim
      rename_i hn
      split at q
      case h_2 => exact q.elim
      rename_i rd d hcf
      split at q
      case isFalse => exact q.elim
      split at q
      case h_2 => exact q.elim
      rename_i zz hz
      split at q
      · exact q.elim
      refine ⟨F, ps, τ, r, hio, ds, u, rd, d, hds, hu, by simpa using hn, hcf, fun vs v H' _ dvs dv r' => ?_⟩
      rw [hih]
      refine spD_pure (P := PP F.P0 (dr u.2.1 ps)) (dvs.append (.cons dv .nil)) (fun a z => r'.there z) ?_
      rw [hz]
      exact fun _ v' H'' e den => q _ _ _ ((r'.mono e).set den)
end
end Mp

/-! MiniPy, part K5: every statement. -/
namespace Mp
open PySem PySem.Spec PyProof.Rows L2
section
variable {X : Cx} {c : Cfg} {sc : Scope} {g : G} {k : Nat} {W : WX} {xa : XA} {io : List Nat}
theorem sw_off {elt : Expr} {gs : List Comprehension} {scope : Scope} {pos py : Pos} {y : Str} {l : Nat} {env : Env} (hk : env.scope.kind = .function)
    (h : (isLoc env.scope y && (py.line == pos.line) && !(scope.names.any fun (n, k) => n == y && (k == .local || k == .cell))) = false) : swapsWith (.ListComp elt gs scope pos) (some (.Name y py)) l env = pure false := by
  have hb : env.blockKind = .function := by unfold Env.blockKind; rw [hk]; rfl
  have hl : (env.kindOf y == some NameKind.local) = isLoc env.scope y := by
    show (env.scope.names.lookup y == some NameKind.local) = _
    unfold isLoc
    cases env.scope.names.lookup y with
    | none => rfl
    | some k => cases k <;> rfl
  unfold swapsWith
  simp only [hb, hl, Expr.pos]
  show pure ((ScopeKind.function == ScopeKind.function) && isLoc env.scope y && (py.line == pos.line) && !(scope.names.any fun (n, k) => n == y && (k == .local || k == .cell))) = pure false
  have e : (ScopeKind.function == ScopeKind.function) = true := rfl
  rw [e, Bool.true_and, h]
theorem s_cSet (ev : EnvS X c sc g k W xa) {x : Str} {py pos : Pos} {i : Nat} {e : Expr} (hx : ownIx c sc x = some i) : PS X (.Assign [.Name x py] e pos) (tS X.K g W xa io (cSet c sc x py i e)) := by
  have ih := fun e => s_all (c := c) (g := g) (k := k) (xa := xa) eF ev.toEnvr e
  obtain ⟨l1, l2, l3⟩ := ownIx_ok ev hx
  unfold cSet
  split
  · rename_i elt gs scope p
    by_cases h : (isLoc sc x && (py.line == p.line) && !(scope.names.any fun (n, k) => n == x && (k == .local || k == .cell))) = true
    · simp only [Bool.and_eq_true, Bool.not_eq_true'] at h
      exact s_setLc ev (n := 39) hx h.1.1 h.1.2 h.2
    · refine PS.imp (ps_set ev.nd l1 l2 (ih _).pe (sw_off ev.kind ?_) l3) fun D σ H h => rd_set h
      rw [ev.sc]
      exact Bool.eq_false_iff.mpr h
  · rename_i l pl m apos cpos
    split
    · rename_i hm
      split
      · rename_i hl
        split
        · rename_i j hj
          exact s_pop1 ev.nd l1 l2 l3 hm (visIx_ok ev hj).1 hl
        · exact s_bad
      · exact s_bad
    · exact s_set ev hx rfl (ih _).pe
  · rename_i l pl m apos z t0 p0 cpos
    split
    · rename_i hm
      split
      · rename_i hl
        split
        · rename_i j hj
          exact s_popF ev.nd l1 l2 l3 hm hl.1 (visIx_ok ev hj).1 hl.2
        · exact s_bad
      · exact s_bad
    · exact s_set ev hx rfl (ih _).pe
  · rename_i f p args cpos _
    split
    · rename_i q hq
      split
      · split
        · exact s_callF ev hx hq (fun e _ => (ih e).pe)
        · split
          · rename_i u hu
            obtain ⟨as, bs, f2⟩ := u
            obtain ⟨y, p2, cpos2, rfl, h2⟩ := ioLast_eq hu
            exact s_ioC ev hx hq h2 (fun e _ => (ih e).pe) (fun e _ => (ih e).pe) (fun e _ => (ih e).pv)
          · exact s_set ev hx rfl (ih _).pe
      · exact s_io1 ev hx hq (fun e _ => (ih e).pe) (fun e _ => (ih e).pv)
    · exact s_set ev hx rfl (ih _).pe
  · split
    · exact s_bad
    · rename_i h
      exact s_set ev hx (Bool.eq_false_iff.mpr h) (ih _).pe
/-- what is not a block of statements stands as it is -/
def flatS : S → Bool
  | .ifS .. => false
  | .wh .. => false
  | .forS .. => false
  | _ => true
theorem strip_flat {s s' : S} (h : s.strip = s') (f : flatS s' = true) : s = s' := by
  cases s <;> first
    | (unfold S.strip at h; exact h)
    | (unfold S.strip at h; subst h; cases f)
theorem PS.st {st : Stmt} {s s' : S} (h : s.strip = s') (f : flatS s' = true) (p : PS X st (tS X.K g W xa io s')) : PS X st (tS X.K g W xa io s) := by rw [strip_flat h f]; exact p
theorem cSet_flat {x : Str} {py : Pos} {i : Nat} {e : Expr} : flatS (cSet c sc x py i e) = true := by
  unfold cSet
  repeat' split
  all_goals rfl
theorem s_raise (ev : Envr X c sc g k W xa) {x : Str} {q : Nat × Str} {a : Expr} {p p2 p3 : Pos} (hq : xcOf x c.xcs = some q) (hs : (isStar a || !isGl sc x || !okName x) = false) (he : PE X a (tE X.K g W xa (cE c eF sc a))) :
    PS X (.Raise (some (.Call (.Name x p) [a] [] p2)) none p3) (tS X.K g W xa io (.raise q.1 q.2 (cE c eF sc a))) := by
  simp only [Bool.or_eq_false_iff, Bool.not_eq_false'] at hs
  obtain ⟨⟨hs1, hs2⟩, hs3⟩ := hs
  by_cases hr : g.xr = true
  case neg =>
    refine ⟨fun pins s σ H D I h => ?_⟩
    obtain ⟨F, ps, τ, r, hi, h⟩ := h
    unfold evS at h
    rw [if_neg hr] at h
    exact h.elim
  obtain ⟨C, fI, slf, part, fd, hm, sup, iC, tI, S, hb, hxa⟩ := (ev.xc x q.1 q.2 hq).ex
  obtain ⟨n, hn⟩ := Nat.exists_eq_add_of_le' (ev.xr hr)
  have m := ps_raiseC (n := n) (p := p) (pos := p2) (pos2 := p3) S sup iC tI hb (by rw [← hn]; exact ev.room) ev.calm ev.tk (ev.gl_of hs2) hm he (fun σ H Q Q' i h => by
    obtain ⟨F, ps, τ, r, h⟩ := h
    exact ⟨F, ps, τ, r, h.imp (fun x q v H' e => i _ _ (q v H' e)) fun _ z => z⟩) (ok_names hs3).1 (fun es => star_step hs1 es X.env)
  refine PS.imp m fun D σ H h => ?_
  obtain ⟨F, ps, τ, r, hi, h⟩ := h
  unfold evS at h
  rw [if_pos hr] at h
  refine ⟨F, ps, τ, r, (oneS h r).imp (fun x h v H' e dx hn => ?_) fun _ z => z⟩
  split at h
  · rename_i ha
    have sm : Same H' (upd H' dx (.xd [(q.2, v)])) := fun b o z => by rw [upd_ne (fun zz => by rw [zz, hn] at z; cases z)]; exact z
    exact h ps σ _ (.ref C) (some dx) (r.mono (e.same.trans sm)) (hxa dx _ v x.1 ha (Dn.mono sm _ (Dn.full e.den)) upd_same)
  · exact h.elim
theorem s_stmt (ev : EnvS X c sc g k W xa) : ∀ (n : Nat) (st : Stmt) (s : S), s.strip = cS c n sc st → PS X st (tS X.K g W xa io s)
  | 0, st, s, hst => by unfold cS at hst; exact PS.st hst rfl s_bad
  | n + 1, st, s, hst => by
    have ih := fun e => s_all (c := c) (g := g) (k := k) (xa := xa) eF ev.toEnvr e
    have is : ∀ ss (cs : Ss), cs.strip = ssOf (cS c n sc) ss → PSs X ss (tSs X.K g W xa io cs) := fun ss cs h => s_ssOfX (fun s cc hc => s_stmt ev n s cc hc) h
    unfold cS at hst
    split at hst
    · rename_i x py e pos
      split at hst
      · rename_i i hi
        exact PS.st hst cSet_flat (s_cSet ev hi)
      · exact PS.st hst rfl s_bad
    · rename_i ts k2 tp e pos
      split at hst
      · rename_i is' hi
        have hi' : namesIx X.N sc ts = some is' := by rw [ev.N]; exact hi
        split at hst
        · rename_i es k3 p3
          split at hst
          · rename_i hp
            exact PS.st hst rfl (s_par ev.calm ev.nd ev.kind ev.sc hi' hp fun e _ => (ih e).pe)
          · exact PS.st hst rfl s_bad
        · rename_i hn
          exact PS.st hst rfl (s_setT ev.calm ev.own ev.nd hi' (fun us q p z => hn us q p z) (ih _).pe)
      · exact PS.st hst rfl s_bad
    · rename_i l pl i sp e pos
      split at hst
      · rename_i hp
        split at hst
        · rename_i j hj
          exact PS.st hst rfl (s_setIx (visIx_ok ev hj).1 ev.room (ih _).pe hp (ih _).pe)
        · exact PS.st hst rfl s_bad
      · exact PS.st hst rfl s_bad
    · rename_i l pl m apos args cpos pos
      split at hst
      · rename_i hl
        split at hst
        · rename_i j hj
          have hv := fun p => (visIx_ok (pos := p) ev hj).1
          split at hst
          · split at hst
            · rename_i hm; exact PS.st hst rfl (s_pop0 hm (hv _) hl)
            · exact PS.st hst rfl s_bad
          · rename_i a
            split at hst
            · exact PS.st hst rfl s_bad
            · rename_i hs
              have hs := Bool.eq_false_iff.mpr hs
              split at hst
              · rename_i hm; exact PS.st hst rfl (s_app hm (hv _) hs hl (ih _).pe)
              · split at hst
                · rename_i hm; exact PS.st hst rfl (s_ext hm (hv _) hs hl (ih _).pe)
                · exact PS.st hst rfl s_bad
          · rename_i a b
            split at hst
            · exact PS.st hst rfl s_bad
            · rename_i hs
              have hs := Bool.eq_false_iff.mpr hs
              simp only [Bool.or_eq_false_iff] at hs
              split at hst
              · rename_i hm; exact PS.st hst rfl (s_dpop hm (hv _) hs.1 hs.2 hl (ih _).pe (ih _).pe)
              · exact PS.st hst rfl s_bad
          · exact PS.st hst rfl s_bad
        · exact PS.st hst rfl s_bad
      · exact PS.st hst rfl s_bad
    · rename_i f p args cpos pos
      split at hst
      · rename_i q hq
        split at hst
        · exact PS.st hst rfl (s_ex (ih _).pe)
        · exact PS.st hst rfl (s_io0 ev.toEnvr hq (fun e _ => (ih e).pe) (fun e _ => (ih e).pv))
      · exact PS.st hst rfl s_bad
    · cases s <;> first | (unfold S.strip at hst; cases hst; done) | skip
      unfold S.strip at hst
      injection hst with h1 h2 h3
      subst h1
      exact s_if (ih _).pt (is _ _ h2) (is _ _ h3)
    · cases s <;> first | (unfold S.strip at hst; cases hst; done) | skip
      unfold S.strip at hst
      injection hst with h1 h2 h3
      subst h2
      exact s_wh ev.hp (ih _).pt (is _ _ h3)
    · rename_i tg iter b pos
      split at hst
      · exact PS.st hst rfl s_bad
      · rename_i hs
        split at hst
        · rename_i t ht
          cases s <;> first | (unfold S.strip at hst; cases hst; done) | skip
          unfold S.strip at hst
          injection hst with h0 h1 h2 h3
          subst h1 h2
          exact s_for ev.hp ev.calm (s_mkI ev.toEnvr fun e => (ih e).pe) (sG ev.calm ev.own ev.nd (by rw [ev.N]; exact ht)) (is _ _ h3) (Bool.eq_false_iff.mpr hs)
        · exact PS.st hst rfl s_bad
    · rename_i f p args cpos pos
      split at hst
      · rename_i q hq
        split at hst
        · exact PS.st hst rfl (s_ret (ih _).pe (ih _).pv)
        · exact PS.st hst rfl (s_ioR ev.toEnvr hq (fun e _ => (ih e).pe) (fun e _ => (ih e).pv))
      · exact PS.st hst rfl (s_ret (ih _).pe (ih _).pv)
    · exact PS.st hst rfl (s_ret (ih _).pe (ih _).pv)
    · exact PS.st hst rfl (s_retN)
    · exact PS.st hst rfl (s_brk)
    · exact PS.st hst rfl (s_ct)
    · exact PS.st hst rfl (s_pass)
    · rename_i x p a p2 p3
      split at hst
      · rename_i q hq
        split at hst
        · exact PS.st hst rfl s_bad
        · rename_i hs
          exact PS.st hst rfl (s_raise ev.toEnvr hq (Bool.eq_false_iff.mpr hs) (ih _).pe)
      · exact PS.st hst rfl s_bad
    · exact PS.st hst rfl s_bad
theorem s_body (ev : EnvS X c sc g k W xa) (n : Nat) (ss : List Stmt) (cs : Ss) (h : cs.strip = ssOf (cS c n sc) ss) : PSs X ss (tSs X.K g W xa io cs) := s_ssOfX (fun s cc hc => s_stmt ev n s cc hc) h
end
end Mp

/-! MiniPy, part K6: a def whose body is a try statement with one clause 'except C as e', and more. -/
namespace Mp
open PySem PySem.Spec PyProof.Rows L2
section
variable {X : Cx} {c : Cfg} {sc : Scope} {g : G} {k : Nat} {W : WX} {xa : XA}
theorem EnvS.tr (ev : EnvS X c sc g k W xa) {W' : WX} {pn : List (Addr × Obj)} {xe : Value → Shared → Prop} (tk : Takes (X.tr pn xe) W') (hp : PassesOwn (model X.prog X.w) X.A X.env xe) : EnvS (X.tr pn xe) c sc g k W' xa :=
  ⟨⟨ev.N, ev.nd, ev.sc, ev.calm, ev.room, tk, ev.fn, ev.bi, ev.gl, ev.gd, ev.xr, fun x q f h => ⟨(ev.xc x q f h).ex⟩⟩, ev.own, hp, ev.kind, ev.io, ev.fr⟩
/-- a clause's meaning is right: what its suite wishes follows from what hd tells -/
structure HdAt (X : Cx) (g : G) (W : WX) (xa : XA) (x : Str) (i : Nat) (suite : List Stmt) (hd : Exc → Tau → Out) : Prop where
  ex : ∃ (cv : Value) (ts : Addr → Value → Option Addr → TS), Names X x cv ∧ (∀ (a : Addr) (oe : Obj) (cls : Value) (d : Option Addr) (pn : List (Addr × Obj)), Zc cls d oe → (∃ vs, oe.data = .fields vs) → PSs (X.suite a ((a, oe) :: pn)) suite (ts a cls d)) ∧
    ∀ (F : Fx) (ps : Ps) (τ : Tau) (σ : L2.St) (H : Hp) (e : Exc) (cls : Value) (d : Option Addr) (D : Ends), Rel X.K F ps H σ τ → F.iol = [] → xa e cls d H → Post X.K F W xa D (hd e τ) → wAs X.K cv i ts W D cls d σ H
def tTry (K : PySem.W.Frag) (g : G) (W : WX) (xa : XA) (b : Ss) (hd : Exc → Tau → Out) : TS := fun D σ H => ∃ F ps τ, Rel K F ps H σ τ ∧ F.iol = [] ∧ Post K F W xa D ((evSs g [] b τ).hand hd)
theorem s_try (ev : EnvS X c sc g k W xa) (hs : X.stack = X.env :: X.outer) (hf : X.env.frame = some X.env.locals) {x n : Str} {i : Nat} {body suite : List Stmt} {b₀ : Stmt} {np pos pos' : Pos} {b : Ss} {hd : Exc → Tau → Out} (hi : X.N[i]? = some n) (hln : X.env.kindOf n = some .local)
    (hb : b.strip = ssOf (cS c eF sc) body) (hh : HdAt X g W xa x i (b₀ :: suite) hd) :
    PS X (.Try body [.ExceptHandler (some (.Name x np)) (some n) (b₀ :: suite) pos'] [] [] pos) (tTry X.K g W xa b hd) := by
  obtain ⟨cv, ts, hN, hsu, hw⟩ := hh.ex
  refine PS.imp (ps_try_as (tb := fun W' => tSs X.K g W' xa [] b) hs hf ev.nd hi hln hN ev.tk (fun W' pn xe tk hp => s_body (ev.tr tk hp) eF body b hb) hsu) fun D σ H h => ?_
  obtain ⟨F, ps, τ, r, hio, h⟩ := h
  refine ⟨F, ps, τ, r, hio, ?_⟩
  cases ho : evSs g [] b τ with
  | nx τ2 => rw [ho] at h; exact h
  | ret τ2 d => rw [ho] at h; exact h
  | brk τ2 => rw [ho] at h; exact h
  | ct τ2 => rw [ho] at h; exact h
  | st => rw [ho] at h; exact h
  | ex e τ2 =>
    rw [ho] at h
    exact fun ps' σ' H' cls d r' q => hw F ps' τ2 σ' H' e cls d D r' hio q h
theorem s_tryThen {st : Stmt} {b : Ss} {hd : Exc → Tau → Out} (h1 : PS X st (tTry X.K g W xa b hd)) {rest : List Stmt} {ss : Ss} (h2 : PSs X rest (tSs X.K g W xa [] ss)) :
    PSs X (st :: rest) (fun D σ H => ∃ F ps τ, Rel X.K F ps H σ τ ∧ F.iol = [] ∧ Post X.K F W xa D (((evSs g [] b τ).hand hd).seq (evSs g [] ss))) := by
  refine PSs.imp (pss_cons h1 h2) fun D σ H h => ?_
  obtain ⟨F, ps, τ, r, hio, h⟩ := h
  refine ⟨F, ps, τ, r, hio, ?_⟩
  cases hs : (evSs g [] b τ).hand hd with
  | nx τ2 => rw [hs] at h; exact fun ps' σ' H' r' => ⟨F, ps', τ2, r', hio, h⟩
  | ret τ2 d => rw [hs] at h; exact h
  | brk τ2 => rw [hs] at h; exact h
  | ct τ2 => rw [hs] at h; exact h
  | ex x τ2 => rw [hs] at h; exact h
  | st => rw [hs] at h; exact h
end
/-! the parts of a try statement that is a def's first -/
def tryBody : List Stmt → List Stmt
  | .Try tb _ _ _ _ :: _ => tb
  | _ => []
def trySuite : List Stmt → List Stmt
  | .Try _ [.ExceptHandler _ _ (_ :: s) _] _ _ _ :: _ => s
  | _ => []
def tryS0 : List Stmt → Stmt
  | .Try _ [.ExceptHandler _ _ (b :: _) _] _ _ _ :: _ => b
  | _ => .Pass ⟨0, 0, 0, 0⟩
def tryP1 : List Stmt → Pos
  | .Try _ [.ExceptHandler (some (.Name _ p)) _ _ _] _ _ _ :: _ => p
  | _ => ⟨0, 0, 0, 0⟩
def tryP2 : List Stmt → Pos
  | .Try _ _ _ _ p :: _ => p
  | _ => ⟨0, 0, 0, 0⟩
def tryP3 : List Stmt → Pos
  | .Try _ [.ExceptHandler _ _ _ p] _ _ _ :: _ => p
  | _ => ⟨0, 0, 0, 0⟩
end Mp

/-! MiniPy, part L: defs, a program's defs all together, the law's end. -/
namespace Mp
open PySem PySem.Spec PyProof.Rows L2
section
variable {K : PySem.W.Frag} {F : Fx} {ps : Ps} {H : Hp} {σ : L2.St} {τ : Tau}
/-- further slots, empty -/
theorem Rel.pad (r : Rel K F ps H σ τ) (n : Nat) : Rel K F ps H (σ ++ List.replicate n none) (τ ++ List.replicate n none) := by
  have key : ∀ {i : Nat} {x : Bool × D}, (τ ++ List.replicate n none)[i]? = some (some x) → τ[i]? = some (some x) ∧ i < σ.length := fun {i x} h => by
    by_cases hi : i < τ.length
    · rw [List.getElem?_append_left hi] at h
      exact ⟨h, by rw [r.ls]; exact hi⟩
    · rw [List.getElem?_append_right (by omega), List.getElem?_replicate] at h
      split at h <;> cases h
  refine ⟨by simp [r.ls], fun i d h => ?_, fun i d h => ?_, fun i p h => ?_, r.inj, r.out, r.keep, r.new, r.p0, r.pin, r.nw⟩
  · obtain ⟨h, hi⟩ := key h
    obtain ⟨p, h1, h2, h3⟩ := r.own i d h
    exact ⟨p, h1, by rw [List.getElem?_append_left hi]; exact h2, h3⟩
  · obtain ⟨h, hi⟩ := key h
    obtain ⟨v, h1, h2⟩ := r.cln i d h
    exact ⟨v, by rw [List.getElem?_append_left hi]; exact h1, h2⟩
  · obtain ⟨d, h1⟩ := r.pown i p h
    exact ⟨d, by rw [List.getElem?_append_left (List.getElem?_eq_some_iff.mp h1).1]; exact h1⟩
theorem outs_get : ∀ {is : List Nat} {os : List D}, outs τ is = some os → os.length = is.length ∧ ∀ (m i : Nat), is[m]? = some i → ∃ d, os[m]? = some d ∧ τ[i]? = some (some (true, d))
  | [], os, h => by cases h; exact ⟨rfl, fun m i h => by simp at h⟩
  | i :: is, os, h => by
    unfold outs at h
    split at h
    · rename_i d hd
      obtain ⟨os', h1, rfl⟩ := Option.map_eq_some_iff.mp h
      obtain ⟨q1, q2⟩ := outs_get h1
      refine ⟨by simp [q1], fun m j hm => ?_⟩
      cases m with
      | zero => cases hm; exact ⟨d, rfl, hd⟩
      | succ m => exact q2 m j hm
    · cases h
end
/-- a def's body at its entry -/
theorem body_of {K : PySem.W.Frag} {xa : XA} {Fn' : Fn} {N : List Str} {np : Nat} {cf : List D → R (D × List D)} {o : Tau → Out} (hcf : ∀ ds, cf ds = if ds.length = Fn'.nps then (match o (startT Fn' ds) with
    | .nx τ => (R.of (outs τ Fn'.io)).bind fun os => .ok (.none, os)
    | .ret τ d => (R.of (outs τ Fn'.io)).bind fun os => .ok (d, os)
    | .ex x _ => .ex x
    | _ => .st) else .st) (hp : Fn'.nps = np) (hN : Fn'.nsl = N.length) {vs : List V} {H : Hp} {Q : VK} {E : XK}
    (h : spD K cf Fn'.io Fn'.fr xa vs H Q E) : vs.length = np ∧ ∃ F ps τ, Rel K F ps H (L2.start N vs) τ ∧ F.iol = ioM Fn'.io Fn'.fr ∧ Post K F (fun cls d _ H => E cls d H) xa { nx := fun _ H' => Q .non H', rt := Q } (o τ) := by
  obtain ⟨F, ps, ds, r, h0, hio, hil, hq, hnw, h⟩ := h
  rw [hcf] at h
  split at h
  case isFalse => exact h.elim
  rename_i hl
  have hlen : vs.length = np := by
    have := r.ls
    rw [List.length_map, mark_length] at this
    rw [this, hl, hp]
  refine ⟨hlen, F, ps, startT Fn' ds, ?_, hil, ?_⟩
  · have := r.pad (Fn'.nsl - Fn'.nps)
    unfold startT L2.start
    rw [hlen, ← hN, ← hp]
    exact this
  -- at the end every handed slot is where it was
  have hand : ∀ {ps' : Ps} {H' : Hp} {σ' : L2.St} {τ' : Tau} {os : List D} {v : V} {d : D}, Rel K F ps' H' σ' τ' → outs τ' Fn'.io = some os → Dn K (wo (PP F.P0 ps') H') v d → (F.iol.contains mkN = true → isC d = true → ∃ p, v = .ref p ∧ F.nw p ∧ OwnAt K H' (fun a => a = p ∨ PP F.P0 ps' a) p d) → CPost K F.P0 ps Fn'.io Fn'.fr H H' (d, os) v := fun {ps' H' σ' τ' os v d} r' ho hd hf => by
    obtain ⟨q1, q2⟩ := outs_get ho
    have stay : ∀ (i : Nat) (p : Addr), ps i = some p → ps' i = some p := fun i p hi => by
      obtain ⟨d0, h1⟩ := r.pown i p hi
      rw [mark_get] at h1
      obtain ⟨d1, h2, h3⟩ := Option.map_eq_some_iff.mp h1
      simp only [Nat.zero_add, Option.some.injEq, Prod.mk.injEq, Bool.and_eq_true] at h3
      have hm : i ∈ Fn'.io := by simpa using h3.1.1
      obtain ⟨m, hm2⟩ := List.getElem?_of_mem hm
      obtain ⟨d2, _, h5⟩ := q2 m i hm2
      obtain ⟨p2, h6, _, _⟩ := r'.own i d2 h5
      have := r'.pin i p2 (by rw [hil]; exact mem_ioM hm) h6
      rw [hq, hi] at this
      cases this
      exact h6
    have sub : ∀ a, PP F.P0 ps a → PP F.P0 ps' a := fun a z => by
      rcases z with z | ⟨i, z⟩
      · exact .inl z
      · exact .inr ⟨i, stay i a z⟩
    refine ⟨fun a o z1 z2 => r'.keep a o (by rw [h0]; exact z1) (by rw [hio]; exact z2), hd.sub sub, fun m i hm => ?_, q1, fun z1 z2 => ?_⟩
    · obtain ⟨d2, h4, h5⟩ := q2 m i hm
      obtain ⟨p2, h6, _, h7⟩ := r'.own i d2 h5
      have hq2 := r'.pin i p2 (by rw [hil]; exact mem_ioM (List.mem_of_getElem? hm)) h6
      rw [hq] at hq2
      exact ⟨p2, d2, hq2, h4, h7.mono (fun _ z => z) (wo_sub sub)⟩
    · obtain ⟨a, e1, e2, e3⟩ := hf (by rw [hil, z1]; simp [ioM]) z2
      rw [hnw] at e2
      exact ⟨a, e1, e2, e3.mono (fun _ z => z) (wo_sub fun b z => z.imp id (sub b))⟩
  cases hs : o (startT Fn' ds) with
  | nx τ =>
    rw [hs] at h
    dsimp only at h
    cases ho : outs τ Fn'.io with
    | none => rw [ho] at h; exact h.elim
    | some os =>
      rw [ho] at h
      exact fun ps' σ' H' r' => h .non H' (hand r' ho .non fun _ z => by cases z)
  | ret τ d =>
    rw [hs] at h
    dsimp only at h
    cases ho : outs τ Fn'.io with
    | none => rw [ho] at h; exact h.elim
    | some os =>
      rw [ho] at h
      exact fun ps' σ' H' v r' hd hf => h v H' (hand r' ho hd hf)
  | ex x τ =>
    rw [hs] at h
    exact fun ps' σ' H' cls dd r' q => h cls dd H' (fun a o z1 z2 => r'.keep a o (by rw [h0]; exact z1) (by rw [hio]; exact z2)) q
  | brk τ => rw [hs] at h; exact h.elim
  | ct τ => rw [hs] at h; exact h.elim
  | st => rw [hs] at h; exact h
/-- a def as it stands behind the top -/
structure DefAt (K : PySem.W.Frag) (x : Str) (st : Stmt) : Prop where
  ex : ∃ (f : Addr) (oc : Value) (od : Option Addr) (kV doc pm : Value) (an : Option Addr) (cdv ct : Value) (osl : Array (Option Value)),
    PySem.W.nsIn K mainGlobals x = some (some (.ref f)) ∧ K.lookup f = some ⟨oc, od, .func (PySem.W.fnOf x x (defArgs st) (defBody st) (defScope st) .none kV doc pm an cdv ct), osl⟩ ∧ PySem.W.codeIn K cdv x = true ∧ PySem.W.keepIn K (.ref f) = true
theorem mkDef {K : PySem.W.Frag} {x : Str} {st : Stmt} {f : Addr} {oc : Value} {od : Option Addr} {kV doc pm : Value} {an : Option Addr} {cdv ct : Value} {osl : Array (Option Value)}
    (a : PySem.W.nsIn K mainGlobals x = some (some (.ref f))) (l : K.lookup f = some ⟨oc, od, .func (PySem.W.fnOf x x (defArgs st) (defBody st) (defScope st) .none kV doc pm an cdv ct), osl⟩) (c : PySem.W.codeIn K cdv x = true) (k : PySem.W.keepIn K (.ref f) = true) : DefAt K x st :=
  ⟨⟨f, oc, od, kV, doc, pm, an, cdv, ct, osl, a, l, c, k⟩⟩
/-- a def of the text: its name, its statement, its slots, its parameters -/
structure DefT where
  x : Str
  no : Nat
  st : Stmt
  N : List Str
  ps : List Str
def cfgOf (ds : List DefT) (gls : List (Str × Nat)) (bis : List Str) (gds : List (Str × Nat)) (p : Pr) (d : DefT) : Cfg := ⟨d.N, ds.map (fun d => (d.x, d.no)), gls, bis, p.io, gds, p.xcs, p.fr⟩
/-- a def that is a try statement with one clause, and more -/
structure TrOk (ds : List DefT) (gls : List (Str × Nat)) (bis : List Str) (gds : List (Str × Nat)) (p : Pr) (d : DefT) : Prop where
  ex : ∃ (F : Fn) (t : Tr) (tb rest suite : List Stmt) (x n : Str) (i : Nat) (b₀ : Stmt) (np pos pos' : Pos), p.fs d.no = none ∧ p.ts d.no = some (F, t) ∧ F.io = [] ∧ F.fr = false ∧ F.nps = d.ps.length ∧ F.nsl = d.N.length ∧
    defBody d.st = .Try tb [.ExceptHandler (some (.Name x np)) (some n) (b₀ :: suite) pos'] [] [] pos :: rest ∧ d.N[i]? = some n ∧ (defScope d.st).names.lookup n = some .local ∧
    t.b1.strip = ssOf (cS (cfgOf ds gls bis gds p d) eF (defScope d.st)) tb ∧ F.body.strip = ssOf (cS (cfgOf ds gls bis gds p d) eF (defScope d.st)) rest
structure DefOk (ds : List DefT) (gls : List (Str × Nat)) (bis : List Str) (gds : List (Str × Nat)) (p : Pr) (d : DefT) : Prop where
  sc : FnScope d.N d.ps (defScope d.st)
  bind : ∀ (kV doc pm : Value) (an : Option Addr) (cdv ct : Value) (us : List Value), us.length = d.ps.length → bindArgs (PySem.W.fnOf d.x d.x (defArgs d.st) (defBody d.st) (defScope d.st) .none kV doc pm an cdv ct) ⟨us, []⟩ = pure (d.ps.zip us)
  fn : (∃ F, p.fs d.no = some F ∧ F.nps = d.ps.length ∧ F.nsl = d.N.length ∧ F.body.strip = ssOf (cS (cfgOf ds gls bis gds p d) eF (defScope d.st)) (defBody d.st)) ∨ TrOk ds gls bis gds p d
/-- the clause of such a def is right -/
def HdOK (P : Program) (K : PySem.W.Frag) (c : Cfg) (xa : XA) (d : DefT) (t : Tr) : Prop := ∀ (X : Cx) (g : G) (k : Nat) (W : WX), X.prog = P → X.K = K → (∀ x v, PySem.W.nsIn K mainGlobals x = some (some v) → X.mg x = some v) → (∀ x, PySem.W.nsIn K mainGlobals x = some none → X.mg x = none) →
  EnvS X c (defScope d.st) g k W xa → ∀ (tb rest suite : List Stmt) (x n : Str) (i : Nat) (b₀ : Stmt) (np pos pos' : Pos), defBody d.st = .Try tb [.ExceptHandler (some (.Name x np)) (some n) (b₀ :: suite) pos'] [] [] pos :: rest → d.N[i]? = some n → HdAt X g W xa x i (b₀ :: suite) (t.hd g)
theorem isOwn_loc {sc : Scope} {x : Str} (h : isOwn sc x = true) : sc.names.lookup x = some .local ∨ sc.names.lookup x = some .cell := by
  unfold isOwn at h
  split at h
  · exact .inl (by assumption)
  · exact .inr (by assumption)
  · cases h
section
variable {P : Program} {w : World} {K : PySem.W.Frag} {mg : Str → Option Value} {base : Heap}
theorem fns_ok {ds : List DefT} {gls : List (Str × Nat)} {bis : List Str} {gds : List (Str × Nat)} {p : Pr} {xa : XA} (ok : ∀ d ∈ ds, DefOk ds gls bis gds p d) (hat : ∀ d ∈ ds, DefAt K d.x d.st) (hmg : ∀ x v, PySem.W.nsIn K mainGlobals x = some (some v) → mg x = some v)
    (hmn : ∀ x, PySem.W.nsIn K mainGlobals x = some none → mg x = none)
    (hbi : ∀ x : Str, bis.contains x = true → mg x = none) (hgl : ∀ (i : Nat) (x : Str), noOf x gls = some i → ∃ u v, mg x = some u ∧ RelV v u ∧ ∀ d, p.gl i = some d → ∀ H, Dn K H v d) (hgd : ∀ (i : Nat) (x : Str), noOf x gds = some i → ∃ d kds, mg x = some (.ref d) ∧ p.gd i = some kds ∧ GdAt K w d kds)
    (hxc : ∀ (x : Str) (q : Nat) (f : Str), xcOf x p.xcs = some (q, f) → ∃ (C fI : Addr) (slf part : Str) (fd : FuncData), mg x = some (.ref C) ∧ mg "super" = none ∧ PySem.W.findIn K (.ref C) "__init__" = some (some (.ref fI)) ∧ PySem.W.typeIn K (.ref fI) = some (.type "function") ∧
      SupC P K C fI f slf part fd ∧ Binds K fd [slf, part] [] ∧ ∀ (dx : Addr) (H : Hp) (y : V) (d : D), isA d = true → Dn K H y d → H dx = some (.xd [(f, y)]) → xa ⟨q, [(f, d)]⟩ (.ref C) (some dx) H)
    (hhd : ∀ d ∈ ds, ∀ F t, p.ts d.no = some (F, t) → HdOK P K (cfgOf ds gls bis gds p d) xa d t) :
    ∀ (n : Nat) (d : DefT), d ∈ ds → ∀ (f : Addr) (oc : Value) (od : Option Addr) (kV doc pm : Value) (an : Option Addr) (cdv ct : Value) (osl : Array (Option Value)),
      K.lookup f = some ⟨oc, od, .func (PySem.W.fnOf d.x d.x (defArgs d.st) (defBody d.st) (defScope d.st) .none kV doc pm an cdv ct), osl⟩ → PySem.W.codeIn K cdv d.x = true → PySem.W.keepIn K (.ref f) = true →
      FnOk P w K mg base (L2.CX P w) n f (PySem.W.fnOf d.x d.x (defArgs d.st) (defBody d.st) (defScope d.st) .none kV doc pm an cdv ct) d.ps (spD K (callN p n d.no) (p.io d.no) (p.fr d.no) xa)
  | 0, d, hi, f, oc, od, kV, doc, pm, an, cdv, ct, osl, h2, h3, h4 => by
    have no : ∀ vs H Q E, ¬ spD K (callN p 0 d.no) (p.io d.no) (p.fr d.no) xa vs H Q E := fun vs H Q E h => by
      obtain ⟨F, ps, ds, r, _, _, _, _, _, h⟩ := h
      exact h.elim
    exact ⟨fun vs H Q E h => (no _ _ _ _ h).elim, fun A outer s H args us vs Q E _ _ _ _ h => (no _ _ _ _ h).elim⟩
  | n + 1, d, hi, f, oc, od, kV, doc, pm, an, cdv, ct, osl, h2, h3, h4 => by
    have o := ok d hi
    have Fu := fun_mk (st := d.st) h2 h3 h4
    have env : ∀ (cdv' : Value) (A : Around) (outer : List Env) (s : Shared) (H : Hp) (E : XK), Room n (A.deeper (envOfC d.x (defScope d.st) s.heap.objs.size f cdv')) →
        EnvS (cxOf (L2.CX P w) P w K mg base d.N d.x (defScope d.st) f cdv' A outer s H E) (cfgOf ds gls bis gds p d) (defScope d.st) ⟨callN p n, p.io, p.gl, p.wN, p.gd, Nat.ble 2 n, p.fr⟩ n (fun cls d _ H => E cls d H) xa := fun cdv' A outer s H E hr => by
      refine ⟨⟨rfl, o.sc.nd, rfl, rfl, hr, takes_of rfl rfl rfl rfl, fun f' x hx => ?_, hbi, hgl, hgd, fun z => Nat.ble_eq.mp z, fun x q f hx => ⟨hxc x q f hx⟩⟩, fun x hx => ⟨isOwn_loc hx, .inl rfl⟩, passes_of rfl, o.sc.kind, rfl, rfl⟩
      have hx : noOf x (ds.map fun d => (d.x, d.no)) = some f' := hx
      obtain ⟨d', hd', he'⟩ := List.mem_map.mp (noOf_get hx)
      cases he'
      obtain ⟨f2, oc2, od2, kV2, doc2, pm2, an2, cdv2, ct2, osl2, g1, g2, g3, g4⟩ := (hat d' hd').ex
      exact ⟨f2, _, d'.ps, hmg _ _ g1, g4, (fun_mk (st := d'.st) g2 g3 g4).binds (ok d' hd').bind, fns_ok ok hat hmg hmn hbi hgl hgd hxc hhd n d' hd' f2 oc2 od2 kV2 doc2 pm2 an2 cdv2 ct2 osl2 g2 g3 g4⟩
    rcases o.fn with ⟨F, hF, hp, hN, hb⟩ | ⟨F, t, tb, rest, suite, x, nm, i, b₀, np, pos, pos', hF, ht, hio, hfr, hp, hN, hbd, hi2, hl, hb1, hb⟩
    · have hio : p.io d.no = F.io := by unfold Pr.io; rw [hF]
      have hfr : p.fr d.no = F.fr := by unfold Pr.fr; rw [hF]
      have hcf : callN p (n + 1) d.no = runF ⟨callN p n, p.io, p.gl, p.wN, p.gd, Nat.ble 2 n, p.fr⟩ F := by
        funext ds
        show (match p.fs d.no with | some F => runF _ F ds | none => _) = _
        rw [hF]
      refine Fu.okX o.sc (fun vs H Q E h => ?_) (fun cdv' A outer s H vs Q E hr h => ?_)
      · rw [hio, hfr] at h
        exact (body_of (N := d.N) (fun ds => by rw [hcf]; rfl) hp hN h).1
      · rw [hio, hfr] at h
        obtain ⟨_, h⟩ := body_of (N := d.N) (o := evSs ⟨callN p n, p.io, p.gl, p.wN, p.gd, Nat.ble 2 n, p.fr⟩ (ioM F.io F.fr) F.body) (fun ds => by rw [hcf]; rfl) hp hN h
        exact ⟨_, s_body (env cdv' A outer s H E hr) eF _ _ hb, h⟩
    · have hio' : p.io d.no = F.io := by unfold Pr.io; rw [hF, hio]
      have hfr' : p.fr d.no = F.fr := by unfold Pr.fr; rw [hF, hfr]
      have hcf : callN p (n + 1) d.no = runT ⟨callN p n, p.io, p.gl, p.wN, p.gd, Nat.ble 2 n, p.fr⟩ F t := by
        funext ds
        show (match p.fs d.no with | some F => runF _ F ds | none => match p.ts d.no with | some (F, t) => runT _ F t ds | none => .st) = _
        rw [hF, ht]
      refine Fu.okX o.sc (fun vs H Q E h => ?_) (fun cdv' A outer s H vs Q E hr h => ?_)
      · rw [hio', hfr'] at h
        exact (body_of (N := d.N) (o := fun τ => ((evSs ⟨callN p n, p.io, p.gl, p.wN, p.gd, Nat.ble 2 n, p.fr⟩ F.io t.b1 τ).hand (t.hd ⟨callN p n, p.io, p.gl, p.wN, p.gd, Nat.ble 2 n, p.fr⟩)).seq (evSs ⟨callN p n, p.io, p.gl, p.wN, p.gd, Nat.ble 2 n, p.fr⟩ F.io F.body)) (fun ds => by rw [hcf]; rfl) hp hN h).1
      · rw [hio', hfr'] at h
        obtain ⟨_, h⟩ := body_of (N := d.N) (o := fun τ => ((evSs ⟨callN p n, p.io, p.gl, p.wN, p.gd, Nat.ble 2 n, p.fr⟩ F.io t.b1 τ).hand (t.hd ⟨callN p n, p.io, p.gl, p.wN, p.gd, Nat.ble 2 n, p.fr⟩)).seq (evSs ⟨callN p n, p.io, p.gl, p.wN, p.gd, Nat.ble 2 n, p.fr⟩ F.io F.body)) (fun ds => by rw [hcf]; rfl) hp hN h
        rw [hio, hfr, ioM_f] at h
        have ev := env cdv' A outer s H E hr
        rw [hbd]
        exact ⟨_, s_tryThen (s_try ev rfl rfl hi2 hl hb1 (hhd d hi F t ht _ _ _ _ rfl rfl hmg hmn ev tb rest suite x nm i b₀ np pos pos' hbd hi2)) (s_body ev eF _ _ hb), h⟩
end
/-! ### what stands in the module: tuples, dicts -/
inductive Its (K : PySem.W.Frag) : List Value → List D → Prop
  | nil : Its K [] []
  | cons {u : Value} {v : V} {d : D} {us : List Value} {ds : List D} : RelV v u → (∀ H, Dn K H v d) → Its K us ds → Its K (u :: us) (d :: ds)
theorem Its.get {K : PySem.W.Frag} : ∀ {us : List Value} {ds : List D}, Its K us ds → ∃ vs, Vals vs us ∧ ∀ H, DnAll K H vs ds
  | _, _, .nil => ⟨[], .nil, fun _ => .nil⟩
  | _, _, .cons h1 h2 r => let ⟨vs, q1, q2⟩ := r.get; ⟨_ :: vs, .cons h1 q1, fun H => .cons (h2 H) (q2 H)⟩
theorem Its.str {K : PySem.W.Frag} {x : Str} {t : Tok} {us : List Value} {ds : List D} (r : Its K us ds) : Its K (.str x t :: us) (.str x :: ds) := .cons (v := .str x) ⟨t, rfl⟩ (fun _ => .str x) r
theorem Its.int {K : PySem.W.Frag} {x : Int} {t : Tok} {us : List Value} {ds : List D} (r : Its K us ds) : Its K (.int x t :: us) (.int x :: ds) := .cons (v := .int x) ⟨t, rfl⟩ (fun _ => .int x) r
theorem gl_tup {K : PySem.W.Frag} {x : Str} {a : Addr} {dd : Option Addr} {its : List Value} {n : Nat} {sl : Array (Option Value)} {ds : List D} {gl : Option D} (h1 : PySem.W.nsIn K mainGlobals x = some (some (.ref a)))
    (h2 : K.lookup a = some ⟨.type "tuple", dd, .seq its.toArray n, sl⟩) (h3 : Its K its ds) (h4 : its.length ≤ sizeLine) (h5 : ∀ d, gl = some d → d = .tuple ds) :
    ∃ u v, PySem.W.nsIn K mainGlobals x = some (some u) ∧ RelV v u ∧ ∀ d, gl = some d → ∀ H, Dn K H v d := by
  obtain ⟨vs, q1, q2⟩ := h3.get
  refine ⟨_, .ref a, h1, rfl, fun d hd H => ?_⟩
  rw [h5 d hd]
  exact .tup (.inr ⟨_, its.toArray, n, h2, rfl, rfl, by simpa using h4, by simpa using q1⟩) (q2 H)
theorem Ents.str {K : PySem.W.Frag} {P : Params} {h : Int} {x y : Str} {t t' : Tok} {r : List DictEntry} {kr : List (Str × D)} (hh : (⟨h, .str x t, .str y t'⟩ : DictEntry).hash = PyData.keyHash P x) (rr : Ents K P r kr) : Ents K P (⟨h, .str x t, .str y t'⟩ :: r) ((x, .str y) :: kr) := .cons (v := .str y) rfl hh ⟨t', rfl⟩ (fun _ => .str y) rr
theorem gd_at {K : PySem.W.Frag} {w : World} {x : Str} {d : Addr} {es : List DictEntry} {n : Nat} {kds : List (Str × D)} {gd : Option (List (Str × D))} (h1 : PySem.W.nsIn K mainGlobals x = some (some (.ref d))) (h2 : gd = some kds) (h3 : (d == sysModules) = false)
    (h4 : K.lookup d = some ⟨.type "dict", none, .dict es.toArray n, #[]⟩) (h5 : Ents K w.params es kds) : ∃ d kds, PySem.W.nsIn K mainGlobals x = some (some (.ref d)) ∧ gd = some kds ∧ GdAt K w d kds :=
  ⟨d, kds, h1, h2, h3, es.toArray, n, h4, by simpa using h5⟩
/-- how an exception of the text's own classes lies in the heap -/
def xaK (K : PySem.W.Frag) (xcs : List (Str × (Nat × Str))) : XA := fun e cls dd H => ∃ (x : Str) (q : Nat) (f : Str) (C dx : Addr) (y : V) (d : D), xcOf x xcs = some (q, f) ∧ PySem.W.nsIn K mainGlobals x = some (some (.ref C)) ∧ e = ⟨q, [(f, d)]⟩ ∧ cls = .ref C ∧ dd = some dx ∧ isA d = true ∧ Dn K H y d ∧ H dx = some (.xd [(f, y)])
/-- what the written part says of an own exception class -/
def XcK (P : Program) (K : PySem.W.Frag) (f x : Str) : Prop := ∃ (C fI : Addr) (slf part : Str) (fd : FuncData), PySem.W.nsIn K mainGlobals x = some (some (.ref C)) ∧ PySem.W.nsIn K mainGlobals "super" = some none ∧ PySem.W.findIn K (.ref C) "__init__" = some (some (.ref fI)) ∧ PySem.W.typeIn K (.ref fI) = some (.type "function") ∧
  SupC P K C fI f slf part fd ∧ Binds K fd [slf, part] []
/-- THE END of a law: its meaning answers True at every script -/
theorem walk_mp {l : PySem.W.OpenLaw} {n m : Nat} {q : Program} {loose : List Str} {XP : (Str → Option Value) → Heap → Prop} {YP : World → Heap → Prop} {d : DefRec} {K : Params → PySem.W.Frag} {ds : List DefT} {gls : List (Str × Nat)} {bis : List Str} {gds : List (Str × Nat)} {p : Pr} {dL : DefT}
    (hn : l.most = some n) (hn2 : n ≤ sizeLine) (hdf : d.params.defaults = []) (hr : Room m callerA) (hY : ∀ (w : World) (h : Heap), YP w h → (K w.params).In h)
    (ok : ∀ d ∈ ds, DefOk ds gls bis gds p d) (hL : dL ∈ ds) (hx : dL.x = d.name) (hps : dL.ps = [("script" : Str)]) (hio : p.io dL.no = [])
    (hat : ∀ (w : World) (d : DefT), d ∈ ds → DefAt (K w.params) d.x d.st) (hbi : ∀ (w : World) (x : Str), bis.contains x = true → PySem.W.nsIn (K w.params) mainGlobals x = some none)
    (hgl : ∀ (w : World) (i : Nat) (x : Str), noOf x gls = some i → ∃ u v, PySem.W.nsIn (K w.params) mainGlobals x = some (some u) ∧ RelV v u ∧ ∀ d, p.gl i = some d → ∀ H, Dn (K w.params) H v d)
    (hgd : ∀ (w : World) (i : Nat) (x : Str), noOf x gds = some i → ∃ d kds, PySem.W.nsIn (K w.params) mainGlobals x = some (some (.ref d)) ∧ p.gd i = some kds ∧ GdAt (K w.params) w d kds)
    (hxc : ∀ (w : World) (x : Str) (q : Nat) (f : Str), xcOf x p.xcs = some (q, f) → XcK l.prog (K w.params) f x)
    (hhd : ∀ (w : World) (d : DefT), d ∈ ds → ∀ F t, p.ts d.no = some (F, t) → HdOK l.prog (K w.params) (cfgOf ds gls bis gds p d) (xaK (K w.params) p.xcs) d t)
    (law : ∀ ns : List Int, ns.length ≤ n → (∀ z ∈ ns, Builtin.Int.intBits z ≤ 1048576) → callN p m dL.no [.list (ns.map .int)] = .ok (.bool true, [])) :
    PySem.W.WalkO q loose XP YP l.row.toRowW d [] (fun f vs => PySem.call f vs) := by
  refine Att.attach_callB hn hdf fun w s₀ s₁ mg mb fa o pm cd doc a vs ns G Y ho hd hcd hmg hobj hints hlen hbits hg => ?_
  have KX := hY w _ Y
  have hdm := hat w dL hL
  obtain ⟨f, oc, od, kV, doc', pm', an, cdv, ct, osl, h1, h2, h3, h4⟩ := hdm.ex
  have hmg' := PySem.W.mg_of KX G.T.g h1
  rw [hx] at hmg'
  have e := Option.some.inj (hmg.symm.trans hmg')
  cases e
  have hb : Binds (K w.params) _ dL.ps [] := (fun_mk (st := dL.st) h2 h3 h4).binds (ok dL hL).bind
  refine law_call (x := ("script" : Str)) (CX := L2.CX l.prog w) KX G.T.g G.T.b G.T.builtins G.T.nolimit hg hobj hints (Nat.le_trans hlen hn2) hr (sp := spD (K w.params) (callN p m dL.no) (p.io dL.no) (p.fr dL.no) (xaK (K w.params) p.xcs)) (fun base kb gb => by
    have := fns_ok (P := l.prog) (w := w) (base := base) (xa := xaK (K w.params) p.xcs) ok (hat w) (fun x v hz => PySem.W.mg_of KX G.T.g hz) (fun x hz => PySem.W.mg_none_of KX G.T.g hz) (fun x hz => PySem.W.mg_none_of KX G.T.g (hbi w x hz)) (fun i x hz => let ⟨u, v, z1, z2⟩ := hgl w i x hz; ⟨u, v, PySem.W.mg_of KX G.T.g z1, z2⟩) (fun i x hz => let ⟨d, kds, z1, z2⟩ := hgd w i x hz; ⟨d, kds, PySem.W.mg_of KX G.T.g z1, z2⟩)
      (fun x q f hx => by
        obtain ⟨C, fI, slf, part, fd, z1, z2, z3, z4, z5, z6⟩ := hxc w x q f hx
        exact ⟨C, fI, slf, part, fd, PySem.W.mg_of KX G.T.g z1, PySem.W.mg_none_of KX G.T.g z2, z3, z4, z5, z6, fun dx H y d ha hd hH => ⟨x, q, f, C, dx, y, d, hx, z1, rfl, rfl, rfl, ha, hd, hH⟩⟩)
      (hhd w) m dL hL fa oc od kV doc' pm' an cdv ct osl h2 h3 h4
    rw [hps] at this
    exact this) (fun s u => ?_) (fun H hO hS => ?_) (fun H e s' hc => ?_)
  · have hq := (ok dL hL).bind kV doc' pm' an cdv ct [u] (by rw [hps]; rfl)
    rw [hps] at hq
    exact .of_eq hq
  · have hdn : Dn (K w.params) H (.ref a) (.list (ns.map .int)) := by
      refine .lst ?_ (DnAll.of_ints ns)
      rcases hS with hS | ⟨o', its, k, hk, _, _, hdt, hz, hv⟩
      · exact .inl hS
      · have := KX _ _ hk
        rw [hobj] at this
        cases this
        cases hdt
        exact .inr ⟨vs, _, hk, by simpa using hz, by simpa using hv⟩
    rw [hio]
    refine spD_pure (P := fun _ => False) (ds := [.list (ns.map .int)]) (.cons (Dn.mono (fun b o z => wo_some.mpr ⟨fun z => z, z⟩) _ hdn) .nil) (fun _ z => z.elim) ?_
    rw [law ns hlen hbits]
    intro _ v H' _ hv
    cases hv
    rfl
  · obtain ⟨_, _, _, _, _, _, _, _, _, _, _, _, z⟩ := hc
    exact z.elim
end Mp

/-! the core text of k13, printed by mp.py: the defs that no earlier law has -/
namespace Mp
open PySem PySem.Spec PyProof.Rows L2
def b_written_cells : Ss := (.cons (.ifS (.cmp .In (.sub (.v 0) (.k (.int 0))) (.tup (.cons (.k (.str "add")) (.cons (.k (.str "sub")) (.cons (.k (.str "mul")) .nil))))) (.cons (.ret (.lst (.cons (.sub (.v 0) (.k (.int 1))) (.cons (.sub (.v 0) (.k (.int 2))) .nil)))) .nil) .nil) (.cons (.ret (.lst (.cons (.sub (.v 0) (.k (.int 1))) .nil))) .nil))
/-- number 1 -/
def F_written_cells : Fn := ⟨1, 1, [], b_written_cells, false⟩
def b_read_cells : Ss := (.cons (.ifS (.cmp .Eq (.sub (.v 0) (.k (.int 0))) (.k (.str "put"))) (.cons (.ret (.lst .nil)) .nil) .nil) (.cons (.ret (.bi .list (.cons (.sli (.v 0) (.yes (.k (.int 2))) .no) .nil))) .nil))
/-- number 2 -/
def F_read_cells : Fn := ⟨1, 1, [], b_read_cells, false⟩
def b_lean_1 : Ss := (.cons (.setIx 2 (.v 3) (.k (.bool true))) .nil)
def b_lean_2 : Ss := (.cons (.dpop 2 (.v 3) (.k .none)) .nil)
def b_lean_0 : Ss := (.cons (.set (.n 6) (.call 1 (.cons (.v 5) .nil))) (.cons (.ifS (.not (.bi .any (.cons (.comp (.cmp .In (.v 3) (.v 2)) (.n 3) (.it (.v 6)) .no [3]) .nil))) (.cons .ct .nil) .nil) (.cons (.app 4 (.v 5)) (.cons (.forS [0, 1, 3, 6] (.n 3) (.it (.v 6)) b_lean_2) (.cons (.forS [0, 1, 3, 5, 6] (.n 3) (.it (.call 2 (.cons (.v 5) .nil))) b_lean_1) .nil)))))
def b_lean_3 : Ss := (.cons (.setIx 2 (.v 3) (.k (.bool true))) .nil)
def b_lean : Ss := (.cons (.set (.n 2) .dct0) (.cons (.forS [1, 3, 4, 5, 6] (.n 3) (.it (.v 1)) b_lean_3) (.cons (.set (.n 4) (.lst .nil)) (.cons (.forS [0, 1, 3, 5, 6] (.n 5) (.rev (.bi .list (.cons (.v 0) .nil))) b_lean_0) (.cons (.ret (.trev (.bi .list (.cons (.v 4) .nil)))) .nil)))))
/-- number 3 -/
def F_lean : Fn := ⟨2, 7, [], b_lean, false⟩
def b_run_add : Ss := (.cons (.set (.n 3) (.ite (.cmp .NotEq (.sub (.v 0) (.sub (.v 1) (.k (.int 2)))) (.k (.int 0))) (.k (.int 1)) (.k (.int 0)))) (.cons (.set (.n 4) (.sub (.v 0) (.sub (.v 1) (.k (.int 3))))) (.cons (.set (.n 5) (.sub (.v 0) (.sub (.v 1) (.k (.int 4))))) (.cons (.ifS (.cmp .Eq (.sub (.v 1) (.k (.int 0))) (.k (.str "add"))) (.cons (.set (.n 6) (.bin .Add (.bin .Add (.v 4) (.v 5)) (.v 3))) (.cons (.set (.n 7) (.ite (.cmp .GtE (.v 6) (.v 2)) (.k (.int 1)) (.k (.int 0)))) .nil)) (.cons (.set (.n 6) (.bin .Sub (.bin .Sub (.v 4) (.v 5)) (.v 3))) (.cons (.set (.n 7) (.ite (.cmp .Lt (.v 6) (.k (.int 0))) (.k (.int 1)) (.k (.int 0)))) .nil))) (.cons (.setIx 0 (.sub (.v 1) (.k (.int 1))) (.bin .Mod (.v 6) (.v 2))) (.cons (.setIx 0 (.sub (.v 1) (.k (.int 2))) (.v 7)) .nil))))))
/-- number 4 -/
def F_run_add : Fn := ⟨3, 8, [0], b_run_add, false⟩
def b_run_mul : Ss := (.cons (.set (.n 3) (.bin .Add (.bin .Add (.bin .Mult (.sub (.v 0) (.sub (.v 1) (.k (.int 3)))) (.sub (.v 0) (.sub (.v 1) (.k (.int 4))))) (.sub (.v 0) (.sub (.v 1) (.k (.int 5))))) (.sub (.v 0) (.sub (.v 1) (.k (.int 2)))))) (.cons (.setIx 0 (.sub (.v 1) (.k (.int 1))) (.bin .Mod (.v 3) (.v 2))) (.cons (.setIx 0 (.sub (.v 1) (.k (.int 2))) (.bin .FloorDiv (.v 3) (.v 2))) .nil)))
/-- number 5 -/
def F_run_mul : Fn := ⟨3, 4, [0], b_run_mul, false⟩
def b_run_other : Ss := (.cons (.set (.n 3) (.sub (.v 1) (.k (.int 0)))) (.cons (.ifS (.cmp .Eq (.v 3) (.k (.str "put"))) (.cons (.set (.n 4) (.sub (.v 1) (.k (.int 2)))) .nil) (.cons (.ifS (.cmp .Eq (.v 3) (.k (.str "copy"))) (.cons (.set (.n 4) (.sub (.v 0) (.sub (.v 1) (.k (.int 2))))) .nil) (.cons (.ifS (.cmp .Eq (.v 3) (.k (.str "xor"))) (.cons (.set (.n 4) (.bin .BitXor (.sub (.v 0) (.sub (.v 1) (.k (.int 2)))) (.sub (.v 0) (.sub (.v 1) (.k (.int 3)))))) .nil) (.cons (.ifS (.cmp .Eq (.v 3) (.k (.str "and"))) (.cons (.set (.n 4) (.bin .BitAnd (.sub (.v 0) (.sub (.v 1) (.k (.int 2)))) (.sub (.v 0) (.sub (.v 1) (.k (.int 3)))))) .nil) (.cons (.ifS (.cmp .Eq (.v 3) (.k (.str "sign"))) (.cons (.set (.n 4) (.ite (.cmp .GtE (.sub (.v 0) (.sub (.v 1) (.k (.int 2)))) (.bin .FloorDiv (.v 2) (.k (.int 2)))) (.bin .Sub (.v 2) (.k (.int 1))) (.k (.int 0)))) .nil) (.cons (.ifS (.cmp .Eq (.v 3) (.k (.str "top"))) (.cons (.set (.n 4) (.ite (.cmp .GtE (.sub (.v 0) (.sub (.v 1) (.k (.int 2)))) (.bin .FloorDiv (.v 2) (.k (.int 2)))) (.k (.int 1)) (.k (.int 0)))) .nil) (.cons (.ifS (.cmp .NotEq (.sub (.v 0) (.sub (.v 1) (.k (.int 2)))) (.k (.int 0))) (.cons (.set (.n 4) (.sub (.v 0) (.sub (.v 1) (.k (.int 3))))) .nil) (.cons (.set (.n 4) (.sub (.v 0) (.sub (.v 1) (.k (.int 4))))) .nil)) .nil)) .nil)) .nil)) .nil)) .nil)) .nil)) (.cons (.setIx 0 (.sub (.v 1) (.k (.int 1))) (.v 4)) .nil)))
/-- number 6 -/
def F_run_other : Fn := ⟨3, 5, [0], b_run_other, false⟩
def b_run_steps_0 : Ss := (.cons (.set (.n 5) (.sub (.v 4) (.k (.int 0)))) (.cons (.ifS (.or (.cmp .Eq (.v 5) (.k (.str "add"))) (.cmp .Eq (.v 5) (.k (.str "sub")))) (.cons (.io none 4 (.cons (.v 1) (.cons (.v 4) (.cons (.v 3) .nil)))) .nil) (.cons (.ifS (.cmp .Eq (.v 5) (.k (.str "mul"))) (.cons (.io none 5 (.cons (.v 1) (.cons (.v 4) (.cons (.v 3) .nil)))) .nil) (.cons (.io none 6 (.cons (.v 1) (.cons (.v 4) (.cons (.v 3) .nil)))) .nil)) .nil)) .nil))
def b_run_steps : Ss := (.cons (.set (.n 3) (.bin .LShift (.k (.int 1)) (.v 2))) (.cons (.forS [0, 2, 4, 5] (.n 4) (.it (.v 0)) b_run_steps_0) .nil))
/-- number 7 -/
def F_run_steps : Fn := ⟨3, 6, [1], b_run_steps, false⟩
def b_run_code : Ss := (.cons (.set (.n 3) (.bi .list (.cons (.v 1) .nil))) (.cons (.io none 7 (.cons (.v 0) (.cons (.v 3) (.cons (.v 2) .nil)))) (.cons (.ret (.bi .tuple (.cons (.v 3) .nil))) .nil)))
/-- number 8 -/
def F_run_code : Fn := ⟨3, 4, [], b_run_code, false⟩
def b__law_cell : Ss := (.cons (.ifS (.cmp .Eq (.bi .len (.cons (.v 0) .nil)) (.k (.int 0))) (.cons (.ret (.k (.int 0))) .nil) .nil) (.cons (.set (.n 2) (.sub (.v 0) (.bin .Mod (.v 1) (.bi .len (.cons (.v 0) .nil))))) (.cons (.ifS (.cmp .Lt (.v 2) (.k (.int 0))) (.cons (.ret (.bin .Add (.bin .Mult (.neg (.k (.int 2))) (.v 2)) (.k (.int 1)))) .nil) .nil) (.cons (.ret (.bin .Mult (.k (.int 2)) (.v 2))) .nil))))
/-- number 9 -/
def F__law_cell : Fn := ⟨2, 3, [], b__law_cell, false⟩
def b__law_row_0 : Ss := (.cons (.set (.n 8) (.bin .Mod (.bi .int (.cons (.bin .Add (.bin .Add (.bin .Add (.bin .Mult (.bin .Add (.v 4) (.k (.int 7))) (.k (.int 48271))) (.bin .Mult (.bin .Add (.v 1) (.k (.int 1))) (.k (.int 69621)))) (.bin .Mult (.v 7) (.k (.int 16807)))) (.k (.int 12345))) .nil)) (.k (.int 2147483647)))) (.cons (.set (.n 8) (.bin .Mod (.bi .int (.cons (.bin .Add (.bin .Add (.bin .Mult (.v 8) (.v 8)) (.bin .Mult (.k (.int 40692)) (.bin .Add (.v 7) (.v 1)))) (.k (.int 11))) .nil)) (.k (.int 2147483399)))) (.cons (.app 5 (.bin .Mod (.bi .int (.cons (.bin .FloorDiv (.v 8) (.k (.int 5))) .nil)) (.v 3))) .nil)))
def b__law_row_1 : Ss := (.cons (.ifS (.cmp .Eq (.v 6) (.k (.int 0))) (.cons (.set (.n 6) (.bin .Add (.bin .FloorDiv (.v 4) (.k (.int 3))) (.v 7))) .nil) .nil) (.cons (.app 5 (.bin .Mod (.bi .int (.cons (.v 6) .nil)) (.v 3))) (.cons (.set (.n 6) (.bin .FloorDiv (.v 6) (.v 3))) .nil)))
def b__law_row : Ss := (.cons (.set (.n 4) (.call 9 (.cons (.v 0) (.cons (.v 1) .nil)))) (.cons (.set (.n 5) (.lst .nil)) (.cons (.ifS (.cmp .GtE (.v 4) (.bin .Pow (.k (.int 10)) (.k (.int 18)))) (.cons (.set (.n 6) (.bin .Add (.bin .FloorDiv (.v 4) (.k (.int 2))) (.v 1))) (.cons (.forS [0, 1, 2, 7, 8] (.n 7) (.r1 (.v 2)) b__law_row_1) (.cons (.ret (.v 5)) .nil))) .nil) (.cons (.forS [0, 2, 6, 7, 8] (.n 7) (.r1 (.v 2)) b__law_row_0) (.cons (.ret (.v 5)) .nil)))))
/-- number 10 -/
def F__law_row : Fn := ⟨4, 9, [], b__law_row, false⟩
def b__law_one : Ss := (.cons (.ret (.sub (.call 10 (.cons (.v 0) (.cons (.v 1) (.cons (.k (.int 1)) (.cons (.v 2) .nil))))) (.k (.int 0)))) .nil)
/-- number 11 -/
def F__law_one : Fn := ⟨3, 3, [], b__law_one, false⟩
def b__law_words : Ss := (.cons (.set (.n 4) (.call 10 (.cons (.v 0) (.cons (.v 1) (.cons (.v 2) (.cons (.v 3) .nil)))))) (.cons (.set (.n 5) (.call 10 (.cons (.v 0) (.cons (.bin .Add (.v 1) (.k (.int 31))) (.cons (.v 2) (.cons (.k (.int 10)) .nil)))))) (.cons (.set (.n 6) (.lst (.cons (.k (.int 0)) (.cons (.k (.int 1)) (.cons (.bin .Sub (.bin .FloorDiv (.v 3) (.k (.int 2))) (.k (.int 1))) (.cons (.bin .FloorDiv (.v 3) (.k (.int 2))) (.cons (.bin .Sub (.v 3) (.k (.int 1))) .nil))))))) (.cons (.ret (.comp (.ite (.cmp .Lt (.sub (.v 5) (.v 7)) (.k (.int 5))) (.sub (.v 6) (.sub (.v 5) (.v 7))) (.sub (.v 4) (.v 7))) (.n 7) (.r1 (.v 2)) .no [7])) .nil))))
/-- number 12 -/
def F__law_words : Fn := ⟨4, 8, [], b__law_words, false⟩
def b__law_step : Ss := (.cons (.set (.n 3) (.comp (.bin .Mod (.bi .int (.cons (.v 4) .nil)) (.v 2)) (.n 4) (.it (.v 0)) .no [4])) (.cons (.set (.n 5) (.lst (.cons (.k (.str "put")) (.cons (.k (.str "copy")) (.cons (.k (.str "xor")) (.cons (.k (.str "and")) (.cons (.k (.str "sign")) (.cons (.k (.str "top")) (.cons (.k (.str "pick")) (.cons (.k (.str "add")) (.cons (.k (.str "sub")) (.cons (.k (.str "mul")) .nil)))))))))))) (.cons (.set (.n 6) (.sub (.v 5) (.bin .Mod (.bi .int (.cons (.sub (.v 0) (.k (.int 0))) .nil)) (.k (.int 10))))) (.cons (.set (.n 7) (.sub (.v 3) (.k (.int 1)))) (.cons (.ifS (.cmp .Eq (.v 6) (.k (.str "put"))) (.cons (.ret (.tup (.cons (.v 6) (.cons (.v 7) (.cons (.v 1) .nil))))) .nil) .nil) (.cons (.ifS (.cmp .In (.v 6) (.lst (.cons (.k (.str "copy")) (.cons (.k (.str "sign")) (.cons (.k (.str "top")) .nil))))) (.cons (.ret (.tup (.cons (.v 6) (.cons (.v 7) (.cons (.sub (.v 3) (.k (.int 3))) .nil))))) .nil) .nil) (.cons (.ifS (.cmp .In (.v 6) (.lst (.cons (.k (.str "xor")) (.cons (.k (.str "and")) .nil)))) (.cons (.ret (.tup (.cons (.v 6) (.cons (.v 7) (.cons (.sub (.v 3) (.k (.int 3))) (.cons (.sub (.v 3) (.k (.int 4))) .nil)))))) .nil) .nil) (.cons (.ifS (.cmp .Eq (.v 6) (.k (.str "pick"))) (.cons (.ret (.tup (.cons (.v 6) (.cons (.v 7) (.cons (.sub (.v 3) (.k (.int 2))) (.cons (.sub (.v 3) (.k (.int 3))) (.cons (.sub (.v 3) (.k (.int 4))) .nil))))))) .nil) .nil) (.cons (.set (.n 8) (.bin .Mod (.bi .int (.cons (.bin .Add (.bin .Add (.v 7) (.k (.int 1))) (.bin .Mod (.bi .int (.cons (.sub (.v 0) (.k (.int 2))) .nil)) (.bin .Sub (.v 2) (.k (.int 1))))) .nil)) (.v 2))) (.cons (.ifS (.cmp .Eq (.v 6) (.k (.str "mul"))) (.cons (.ret (.tup (.cons (.v 6) (.cons (.v 7) (.cons (.v 8) (.cons (.sub (.v 3) (.k (.int 3))) (.cons (.sub (.v 3) (.k (.int 4))) (.cons (.sub (.v 3) (.k (.int 5))) .nil)))))))) .nil) .nil) (.cons (.ret (.tup (.cons (.v 6) (.cons (.v 7) (.cons (.v 8) (.cons (.sub (.v 3) (.k (.int 3))) (.cons (.sub (.v 3) (.k (.int 4))) .nil))))))) .nil)))))))))))
/-- number 13 -/
def F__law_step : Fn := ⟨3, 9, [], b__law_step, false⟩
def b__law_code : Ss := (.cons (.set (.n 5) (.call 10 (.cons (.v 0) (.cons (.v 1) (.cons (.bin .Mult (.k (.int 6)) (.v 2)) (.cons (.k (.int 240)) .nil)))))) (.cons (.set (.n 6) (.call 12 (.cons (.v 0) (.cons (.bin .Add (.v 1) (.k (.int 3))) (.cons (.v 2) (.cons (.v 4) .nil)))))) (.cons (.ret (.comp (.call 13 (.cons (.sli (.v 5) (.yes (.bin .Mult (.k (.int 6)) (.v 7))) (.yes (.bin .Add (.bin .Mult (.k (.int 6)) (.v 7)) (.k (.int 6))))) (.cons (.sub (.v 6) (.v 7)) (.cons (.v 3) .nil)))) (.n 7) (.r1 (.v 2)) .no [7])) .nil)))
/-- number 14 -/
def F__law_code : Fn := ⟨5, 8, [], b__law_code, false⟩
def b__law_kept : Ss := (.cons (.set (.n 2) (.call 10 (.cons (.v 0) (.cons (.k (.int 6)) (.cons (.v 1) (.cons (.k (.int 4)) .nil)))))) (.cons (.set (.n 3) (.bi .tuple (.cons (.comp (.v 4) (.n 4) (.r1 (.v 1)) (.yes (.cmp .Eq (.sub (.v 2) (.v 4)) (.k (.int 0)))) [4]) .nil))) (.cons (.set (.n 5) (.call 11 (.cons (.v 0) (.cons (.k (.int 8)) (.cons (.k (.int 10)) .nil))))) (.cons (.ifS (.cmp .Eq (.v 5) (.k (.int 0))) (.cons (.set (.n 3) (.tup .nil)) .nil) .nil) (.cons (.ifS (.cmp .Eq (.v 5) (.k (.int 1))) (.cons (.set (.n 3) (.bi .tuple (.cons (.comp (.bin .Sub (.bin .Sub (.v 1) (.k (.int 1))) (.v 4)) (.n 4) (.r1 (.v 1)) .no [4]) .nil))) .nil) .nil) (.cons (.ifS (.cmp .Eq (.v 5) (.k (.int 2))) (.cons (.set (.n 3) (.bin .Add (.rev (.v 3)) (.v 3))) .nil) .nil) (.cons (.ret (.tup (.cons (.v 3) (.cons (.bin .Add (.v 3) (.bi .tuple (.cons (.comp (.v 4) (.n 4) (.r1 (.v 1)) (.yes (.cmp .Eq (.sub (.v 2) (.v 4)) (.k (.int 1)))) [4]) .nil))) .nil)))) .nil)))))))
/-- number 15 -/
def F__law_kept : Fn := ⟨2, 6, [], b__law_kept, false⟩
def b__law_written : Ss := (.cons (.ifS (.cmp .In (.sub (.v 0) (.k (.int 0))) (.lst (.cons (.k (.str "add")) (.cons (.k (.str "sub")) (.cons (.k (.str "mul")) .nil))))) (.cons (.ret (.lst (.cons (.sub (.v 0) (.k (.int 1))) (.cons (.sub (.v 0) (.k (.int 2))) .nil)))) .nil) .nil) (.cons (.ret (.lst (.cons (.sub (.v 0) (.k (.int 1))) .nil))) .nil))
/-- number 16 -/
def F__law_written : Fn := ⟨1, 1, [], b__law_written, false⟩
def b__law_reads : Ss := (.cons (.ret (.and (.cmp .NotEq (.sub (.v 0) (.k (.int 0))) (.k (.str "put"))) (.cmp .In (.v 1) (.sli (.v 0) (.yes (.k (.int 2))) .no)))) .nil)
/-- number 17 -/
def F__law_reads : Fn := ⟨2, 2, [], b__law_reads, false⟩
def b__law_matters_0 : Ss := (.cons (.ifS (.and (.sub (.v 1) (.v 5)) (.call 17 (.cons (.sub (.v 0) (.v 5)) (.cons (.v 3) .nil)))) (.cons (.ret (.k (.bool true))) .nil) .nil) (.cons (.ifS (.and (.sub (.v 1) (.v 5)) (.cmp .In (.v 3) (.call 16 (.cons (.sub (.v 0) (.v 5)) .nil)))) (.cons (.ret (.k (.bool false))) .nil) .nil) .nil))
def b__law_matters : Ss := (.cons (.forS [2, 5] (.n 5) (.r2 (.bin .Add (.v 2) (.k (.int 1))) (.bi .len (.cons (.v 0) .nil))) b__law_matters_0) (.cons (.ret (.cmp .In (.v 3) (.v 4))) .nil))
/-- number 18 -/
def F__law_matters : Fn := ⟨5, 6, [], b__law_matters, false⟩
def b__law_lean_1 : Ss := (.cons (.ifS (.call 18 (.cons (.v 0) (.cons (.v 2) (.cons (.v 5) (.cons (.v 6) (.cons (.v 1) .nil)))))) (.cons (.setIx 2 (.v 5) (.k (.bool true))) .nil) .nil) .nil)
def b__law_lean_0 : Ss := (.cons (.set (.n 5) (.bin .Sub (.bin .Sub (.bi .len (.cons (.v 0) .nil)) (.k (.int 1))) (.v 4))) (.cons (.forS [3, 4, 6, 7] (.n 6) (.it (.call 16 (.cons (.sub (.v 0) (.v 5)) .nil))) b__law_lean_1) .nil))
def b__law_lean : Ss := (.cons (.set (.n 2) (.comp (.k (.bool false)) (.n 3) (.it (.v 0)) .no [3])) (.cons (.forS [3, 4, 5, 6, 7] (.n 4) (.r1 (.bi .len (.cons (.v 0) .nil))) b__law_lean_0) (.cons (.ret (.bi .tuple (.cons (.comp (.sub (.v 0) (.v 7)) (.n 7) (.r1 (.bi .len (.cons (.v 0) .nil))) (.yes (.sub (.v 2) (.v 7))) [7]) .nil))) .nil)))
/-- number 19 -/
def F__law_lean : Fn := ⟨2, 8, [], b__law_lean, false⟩
def b__law_word : Ss := (.cons (.ifS (.cmp .Eq (.v 0) (.k (.str "xor"))) (.cons (.ret (.bin .BitXor (.sub (.v 1) (.k (.int 0))) (.sub (.v 1) (.k (.int 1))))) .nil) .nil) (.cons (.ifS (.cmp .Eq (.v 0) (.k (.str "and"))) (.cons (.ret (.bin .BitAnd (.sub (.v 1) (.k (.int 0))) (.sub (.v 1) (.k (.int 1))))) .nil) .nil) (.cons (.ifS (.cmp .Eq (.v 0) (.k (.str "sign"))) (.cons (.ret (.ite (.cmp .GtE (.sub (.v 1) (.k (.int 0))) (.bin .FloorDiv (.v 2) (.k (.int 2)))) (.bin .Sub (.v 2) (.k (.int 1))) (.k (.int 0)))) .nil) .nil) (.cons (.ifS (.cmp .Eq (.v 0) (.k (.str "top"))) (.cons (.ret (.ite (.cmp .GtE (.sub (.v 1) (.k (.int 0))) (.bin .FloorDiv (.v 2) (.k (.int 2)))) (.k (.int 1)) (.k (.int 0)))) .nil) .nil) (.cons (.ifS (.cmp .Eq (.v 0) (.k (.str "pick"))) (.cons (.ret (.ite (.cmp .NotEq (.sub (.v 1) (.k (.int 0))) (.k (.int 0))) (.sub (.v 1) (.k (.int 1))) (.sub (.v 1) (.k (.int 2))))) .nil) .nil) (.cons (.ret (.sub (.v 1) (.k (.int 0)))) .nil))))))
/-- number 20 -/
def F__law_word : Fn := ⟨3, 3, [], b__law_word, false⟩
def b__law_run_0 : Ss := (.cons (.set (.n 5) (.sub (.v 4) (.k (.int 0)))) (.cons (.ifS (.cmp .Eq (.v 5) (.k (.str "put"))) (.cons (.setIx 3 (.sub (.v 4) (.k (.int 1))) (.sub (.v 4) (.k (.int 2)))) (.cons .ct .nil)) .nil) (.cons (.set (.n 6) (.comp (.sub (.v 3) (.v 7)) (.n 7) (.it (.sli (.v 4) (.yes (.k (.int 2))) .no)) .no [7])) (.cons (.ifS (.cmp .NotIn (.v 5) (.lst (.cons (.k (.str "add")) (.cons (.k (.str "sub")) (.cons (.k (.str "mul")) .nil))))) (.cons (.setIx 3 (.sub (.v 4) (.k (.int 1))) (.call 20 (.cons (.v 5) (.cons (.v 6) (.cons (.v 2) .nil))))) (.cons .ct .nil)) .nil) (.cons (.set (.n 8) (.ite (.cmp .NotEq (.sub (.v 6) (.k (.int 0))) (.k (.int 0))) (.k (.int 1)) (.k (.int 0)))) (.cons (.ifS (.cmp .Eq (.v 5) (.k (.str "mul"))) (.cons (.set (.n 9) (.bin .Add (.bin .Add (.bin .Mult (.sub (.v 6) (.k (.int 1))) (.sub (.v 6) (.k (.int 2)))) (.sub (.v 6) (.k (.int 3)))) (.sub (.v 6) (.k (.int 0))))) (.cons (.set (.n 8) (.bin .FloorDiv (.v 9) (.v 2))) .nil)) (.cons (.ifS (.cmp .Eq (.v 5) (.k (.str "add"))) (.cons (.set (.n 9) (.bin .Add (.bin .Add (.sub (.v 6) (.k (.int 1))) (.sub (.v 6) (.k (.int 2)))) (.v 8))) (.cons (.set (.n 8) (.ite (.cmp .GtE (.v 9) (.v 2)) (.k (.int 1)) (.k (.int 0)))) .nil)) (.cons (.set (.n 9) (.bin .Sub (.bin .Sub (.sub (.v 6) (.k (.int 1))) (.sub (.v 6) (.k (.int 2)))) (.v 8))) (.cons (.set (.n 8) (.ite (.cmp .Lt (.v 9) (.k (.int 0))) (.k (.int 1)) (.k (.int 0)))) .nil))) .nil)) (.cons (.setIx 3 (.sub (.v 4) (.k (.int 1))) (.bin .Mod (.bi .int (.cons (.v 9) .nil)) (.v 2))) (.cons (.setIx 3 (.sub (.v 4) (.k (.int 2))) (.v 8)) .nil))))))))
def b__law_run : Ss := (.cons (.set (.n 3) (.bi .list (.cons (.v 1) .nil))) (.cons (.forS [0, 1, 4, 5, 6, 7, 8, 9] (.n 4) (.it (.v 0)) b__law_run_0) (.cons (.ret (.v 3)) .nil)))
/-- number 21 -/
def F__law_run : Fn := ⟨3, 10, [], b__law_run, false⟩
def b_law_0 : Ss := (.cons (.set (.n 10) (.call 12 (.cons (.v 0) (.cons (.v 9) (.cons (.v 3) (.cons (.v 2) .nil)))))) (.cons (.set (.n 11) (.call 8 (.cons (.bi .tuple (.cons (.v 4) .nil)) (.cons (.bi .tuple (.cons (.v 10) .nil)) (.cons (.v 1) .nil))))) (.cons (.set (.n 12) (.call 8 (.cons (.v 8) (.cons (.bi .tuple (.cons (.v 10) .nil)) (.cons (.v 1) .nil))))) (.cons (.ifS (.or (.cmp .NotEq (.v 11) (.bi .tuple (.cons (.call 21 (.cons (.v 4) (.cons (.v 10) (.cons (.v 2) .nil)))) .nil))) (.cmp .NotEq (.v 12) (.bi .tuple (.cons (.call 21 (.cons (.v 7) (.cons (.v 10) (.cons (.v 2) .nil)))) .nil)))) (.cons (.ret (.k (.bool false))) .nil) .nil) (.cons (.ifS (.cmp .NotEq (.comp (.sub (.v 11) (.v 13)) (.n 13) (.it (.v 5)) .no [13]) (.comp (.sub (.v 12) (.v 13)) (.n 13) (.it (.v 5)) .no [13])) (.cons (.ret (.k (.bool false))) .nil) .nil) .nil)))))
def b_law : Ss := (.cons (.set (.n 1) (.bin .Add (.k (.int 8)) (.call 11 (.cons (.v 0) (.cons (.k (.int 0)) (.cons (.k (.int 9)) .nil)))))) (.cons (.set (.n 2) (.bin .LShift (.k (.int 1)) (.v 1))) (.cons (.set (.n 3) (.bin .Add (.k (.int 2)) (.call 11 (.cons (.v 0) (.cons (.k (.int 1)) (.cons (.k (.int 11)) .nil)))))) (.cons (.set (.n 4) (.call 14 (.cons (.v 0) (.cons (.k (.int 9)) (.cons (.call 11 (.cons (.v 0) (.cons (.k (.int 4)) (.cons (.k (.int 30)) .nil)))) (.cons (.v 3) (.cons (.v 2) .nil))))))) (.cons (.ifS (.cmp .Eq (.call 11 (.cons (.v 0) (.cons (.k (.int 5)) (.cons (.k (.int 16)) .nil)))) (.k (.int 0))) (.cons (.set (.n 4) (.bin .Mult (.v 4) (.k (.int 4)))) .nil) .nil) (.cons (.set (.tup [5, 6]) (.call 15 (.cons (.v 0) (.cons (.v 3) .nil)))) (.cons (.set (.n 7) (.call 19 (.cons (.v 4) (.cons (.v 5) .nil)))) (.cons (.set (.n 8) (.call 3 (.cons (.bi .tuple (.cons (.v 4) .nil)) (.cons (.v 5) .nil)))) (.cons (.ifS (.or (.not (.isi (.v 8) [.b "tuple"])) (.cmp .NotEq (.v 8) (.v 7))) (.cons (.ret (.k (.bool false))) .nil) .nil) (.cons (.ifS (.or (.cmp .NotEq (.call 3 (.cons (.v 8) (.cons (.v 5) .nil))) (.v 7)) (.cmp .NotEq (.call 3 (.cons (.call 3 (.cons (.bi .tuple (.cons (.v 4) .nil)) (.cons (.v 6) .nil))) (.cons (.v 5) .nil))) (.v 7))) (.cons (.ret (.k (.bool false))) .nil) .nil) (.cons (.forS [6, 9, 10, 11, 12, 13] (.n 9) (.it (.lst (.cons (.k (.int 3)) (.cons (.k (.int 17)) .nil)))) b_law_0) (.cons (.ret (.k (.bool true))) .nil))))))))))))
/-- number 22 -/
def F_law : Fn := ⟨1, 14, [], b_law, false⟩
end Mp

/-! the core text of k11, printed by mp.py: the defs that no earlier law has -/
namespace Mp
open PySem PySem.Spec PyProof.Rows L2
def b_is_whole : Ss := (.cons (.ret (.and (.isi (.v 0) [.b "int"]) (.not (.isi (.v 0) [.b "bool"])))) .nil)
/-- number 23 -/
def F_is_whole : Fn := ⟨1, 1, [], b_is_whole, false⟩
def b_write_row_0 : Ss := (.cons (.setIx 0 (.v 3) (.v 4)) .nil)
def b_write_row : Ss := (.cons (.forS [1, 2, 3, 4] (.tup [3, 4]) (.zip (.v 1) (.v 2)) b_write_row_0) .nil)
/-- number 24 -/
def F_write_row : Fn := ⟨3, 5, [0], b_write_row, false⟩
def b_read_row : Ss := (.cons (.ret (.bi .tuple (.cons (.comp (.sub (.v 0) (.v 2)) (.n 2) (.it (.v 1)) .no [2]) .nil))) .nil)
/-- number 25 -/
def F_read_row : Fn := ⟨2, 3, [], b_read_row, false⟩
def b_run_piece_0 : Ss := (.cons (.io none 24 (.cons (.v 3) (.cons (.v 4) (.cons (.v 5) .nil)))) .nil)
def b_run_piece : Ss := (.cons (.set (.n 3) (.bin .Mult (.lst (.cons (.k (.int 0)) .nil)) (.sub (.v 0) (.k (.int 2))))) (.cons (.forS [1, 4, 5] (.tup [4, 5]) (.zip (.sub (.v 0) (.k (.int 3))) (.v 1)) b_run_piece_0) (.cons (.io none 7 (.cons (.sub (.v 0) (.k (.int 1))) (.cons (.v 3) (.cons (.v 2) .nil)))) (.cons (.ret (.bi .tuple (.cons (.comp (.call 25 (.cons (.v 3) (.cons (.v 4) .nil))) (.n 4) (.it (.sub (.v 0) (.k (.int 4)))) .no [4]) .nil))) .nil))))
/-- number 26 -/
def F_run_piece : Fn := ⟨3, 6, [], b_run_piece, false⟩
def b_is_cell : Ss := (.cons (.ret (.and (.call 23 (.cons (.v 0) .nil)) (.chain .LtE .Lt (.k (.int 0)) (.v 0) (.v 1)))) .nil)
/-- number 27 -/
def F_is_cell : Fn := ⟨2, 2, [], b_is_cell, false⟩
def b_is_instruction_0 : Ss := (.cons (.ifS (.cmp .Eq (.v 4) (.k (.str "n"))) (.cons (.ifS (.or (.not (.call 23 (.cons (.v 5) .nil))) (.or (.cmp .Lt (.v 5) (.k (.int 0))) (.cmp .GtE (.v 5) (.bin .LShift (.k (.int 1)) (.v 2))))) (.cons (.ret (.k (.bool false))) .nil) .nil) .nil) (.cons (.ifS (.not (.call 27 (.cons (.v 5) (.cons (.v 1) .nil)))) (.cons (.ret (.k (.bool false))) .nil) .nil) .nil)) .nil)
def b_is_instruction : Ss := (.cons (.ifS (.or (.not (.isi (.v 0) [.b "tuple"])) (.or (.cmp .Eq (.bi .len (.cons (.v 0) .nil)) (.k (.int 0))) (.not (.isi (.sub (.v 0) (.k (.int 0))) [.b "str"])))) (.cons (.ret (.k (.bool false))) .nil) .nil) (.cons (.ifS (.gin true 1 (.sub (.v 0) (.k (.int 0)))) (.cons (.ret (.k (.bool false))) .nil) .nil) (.cons (.set (.n 3) (.gix 1 (.sub (.v 0) (.k (.int 0))))) (.cons (.ifS (.cmp .NotEq (.bi .len (.cons (.v 0) .nil)) (.bin .Add (.bi .len (.cons (.v 3) .nil)) (.k (.int 1)))) (.cons (.ret (.k (.bool false))) .nil) .nil) (.cons (.forS [4, 5] (.tup [4, 5]) (.zip (.v 3) (.sli (.v 0) (.yes (.k (.int 1))) .no)) b_is_instruction_0) (.cons (.ret (.or (.cmp .NotEq (.sli (.v 3) .no (.yes (.k (.int 2)))) (.k (.str "dd"))) (.cmp .NotEq (.sub (.v 0) (.k (.int 1))) (.sub (.v 0) (.k (.int 2)))))) .nil))))))
/-- number 28 -/
def F_is_instruction : Fn := ⟨3, 6, [], b_is_instruction, false⟩
def b_check_code_0 : Ss := (.cons (.ifS (.not (.call 28 (.cons (.v 4) (.cons (.v 1) (.cons (.v 2) .nil))))) (.cons .bad .nil) .nil) .nil)
def b_check_code : Ss := (.cons (.forS [0, 3, 4] (.tup [3, 4]) (.enum (.v 0)) b_check_code_0) .nil)
/-- number 29 -/
def F_check_code : Fn := ⟨3, 5, [], b_check_code, false⟩
def b_counts_of_0 : Ss := (.cons (.ifS (.cmp .Eq (.sub (.v 4) (.k (.int 0))) (.k (.str "mul"))) (.cons (.set (.n 1) (.bin .Add (.v 1) (.k (.int 1)))) .nil) (.cons (.ifS (.cmp .In (.sub (.v 4) (.k (.int 0))) (.tup (.cons (.k (.str "add")) (.cons (.k (.str "sub")) .nil)))) (.cons (.set (.n 2) (.bin .Add (.v 2) (.k (.int 1)))) .nil) (.cons (.set (.n 3) (.bin .Add (.v 3) (.k (.int 1)))) .nil)) .nil)) .nil)
def b_counts_of : Ss := (.cons (.set (.n 1) (.k (.int 0))) (.cons (.set (.n 2) (.k (.int 0))) (.cons (.set (.n 3) (.k (.int 0))) (.cons (.forS [0, 4] (.n 4) (.it (.v 0)) b_counts_of_0) (.cons (.ret (.tup (.cons (.v 1) (.cons (.v 2) (.cons (.v 3) .nil))))) .nil)))))
/-- number 30 -/
def F_counts_of : Fn := ⟨1, 5, [], b_counts_of, false⟩
def b_price_of : Ss := (.cons (.ret (.bin .Add (.bin .Add (.bin .Mult (.sub (.v 0) (.k (.int 0))) (.sub (.v 1) (.k (.int 0)))) (.bin .Mult (.sub (.v 0) (.k (.int 1))) (.sub (.v 1) (.k (.int 1))))) (.bin .Mult (.sub (.v 0) (.k (.int 2))) (.sub (.v 1) (.k (.int 2)))))) .nil)
/-- number 31 -/
def F_price_of : Fn := ⟨2, 2, [], b_price_of, false⟩
def b__law_step__v2 : Ss := (.cons (.set (.n 4) (.bin .Sub (.v 3) (.v 2))) (.cons (.set (.n 5) (.comp (.bin .Mod (.bi .int (.cons (.v 6) .nil)) (.v 3)) (.n 6) (.it (.v 0)) .no [6])) (.cons (.set (.n 7) (.lst (.cons (.k (.str "put")) (.cons (.k (.str "copy")) (.cons (.k (.str "xor")) (.cons (.k (.str "and")) (.cons (.k (.str "sign")) (.cons (.k (.str "top")) (.cons (.k (.str "pick")) (.cons (.k (.str "add")) (.cons (.k (.str "sub")) (.cons (.k (.str "mul")) .nil)))))))))))) (.cons (.set (.n 8) (.sub (.v 7) (.bin .Mod (.bi .int (.cons (.sub (.v 0) (.k (.int 0))) .nil)) (.ite (.cmp .Gt (.v 4) (.k (.int 1))) (.k (.int 10)) (.k (.int 7)))))) (.cons (.set (.n 9) (.bin .Add (.v 2) (.bin .Mod (.bi .int (.cons (.sub (.v 0) (.k (.int 1))) .nil)) (.v 4)))) (.cons (.ifS (.cmp .Eq (.v 8) (.k (.str "put"))) (.cons (.ret (.tup (.cons (.v 8) (.cons (.v 9) (.cons (.v 1) .nil))))) .nil) .nil) (.cons (.ifS (.cmp .In (.v 8) (.lst (.cons (.k (.str "copy")) (.cons (.k (.str "sign")) (.cons (.k (.str "top")) .nil))))) (.cons (.ret (.tup (.cons (.v 8) (.cons (.v 9) (.cons (.sub (.v 5) (.k (.int 3))) .nil))))) .nil) .nil) (.cons (.ifS (.cmp .In (.v 8) (.lst (.cons (.k (.str "xor")) (.cons (.k (.str "and")) .nil)))) (.cons (.ret (.tup (.cons (.v 8) (.cons (.v 9) (.cons (.sub (.v 5) (.k (.int 3))) (.cons (.sub (.v 5) (.k (.int 4))) .nil)))))) .nil) .nil) (.cons (.ifS (.cmp .Eq (.v 8) (.k (.str "pick"))) (.cons (.ret (.tup (.cons (.v 8) (.cons (.v 9) (.cons (.sub (.v 5) (.k (.int 2))) (.cons (.sub (.v 5) (.k (.int 3))) (.cons (.sub (.v 5) (.k (.int 4))) .nil))))))) .nil) .nil) (.cons (.set (.n 10) (.bin .Add (.v 2) (.bin .Mod (.bi .int (.cons (.bin .Add (.bin .Add (.bin .Sub (.v 9) (.v 2)) (.k (.int 1))) (.bin .Mod (.bi .int (.cons (.sub (.v 0) (.k (.int 2))) .nil)) (.bin .Sub (.v 4) (.k (.int 1))))) .nil)) (.v 4)))) (.cons (.ifS (.cmp .Eq (.v 8) (.k (.str "mul"))) (.cons (.ret (.tup (.cons (.v 8) (.cons (.v 9) (.cons (.v 10) (.cons (.sub (.v 5) (.k (.int 3))) (.cons (.sub (.v 5) (.k (.int 4))) (.cons (.sub (.v 5) (.k (.int 5))) .nil)))))))) .nil) .nil) (.cons (.ret (.tup (.cons (.v 8) (.cons (.v 9) (.cons (.v 10) (.cons (.sub (.v 5) (.k (.int 3))) (.cons (.sub (.v 5) (.k (.int 4))) .nil))))))) .nil))))))))))))
/-- number 32 -/
def F__law_step__v2 : Fn := ⟨4, 11, [], b__law_step__v2, false⟩
def b__law_code__v2 : Ss := (.cons (.set (.n 6) (.call 10 (.cons (.v 0) (.cons (.v 1) (.cons (.bin .Mult (.k (.int 6)) (.v 2)) (.cons (.k (.int 240)) .nil)))))) (.cons (.set (.n 7) (.call 12 (.cons (.v 0) (.cons (.bin .Add (.v 1) (.k (.int 3))) (.cons (.v 2) (.cons (.v 5) .nil)))))) (.cons (.ret (.comp (.call 32 (.cons (.sli (.v 6) (.yes (.bin .Mult (.k (.int 6)) (.v 8))) (.yes (.bin .Add (.bin .Mult (.k (.int 6)) (.v 8)) (.k (.int 6))))) (.cons (.sub (.v 7) (.v 8)) (.cons (.v 3) (.cons (.v 4) .nil))))) (.n 8) (.r1 (.v 2)) .no [8])) .nil)))
/-- number 33 -/
def F__law_code__v2 : Fn := ⟨6, 9, [], b__law_code__v2, false⟩
def b__law_mixed_0 : Ss := (.cons (.set (.n 7) (.bin .Add (.bin .Mod (.bi .int (.cons (.bin .FloorDiv (.v 1) (.v 5)) .nil)) (.k (.int 2))) (.bin .Mod (.bi .int (.cons (.bin .FloorDiv (.v 2) (.v 5)) .nil)) (.k (.int 2))))) (.cons (.ifS (.or (.and (.cmp .Eq (.v 0) (.k (.str "xor"))) (.cmp .Eq (.v 7) (.k (.int 1)))) (.and (.cmp .Eq (.v 0) (.k (.str "and"))) (.cmp .Eq (.v 7) (.k (.int 2))))) (.cons (.set (.n 4) (.bin .Add (.v 4) (.v 5))) .nil) .nil) (.cons (.set (.n 5) (.bin .Mult (.k (.int 2)) (.v 5))) .nil)))
def b__law_mixed : Ss := (.cons (.set (.n 4) (.k (.int 0))) (.cons (.set (.n 5) (.k (.int 1))) (.cons (.forS [3, 6, 7] (.n 6) (.r1 (.v 3)) b__law_mixed_0) (.cons (.ret (.v 4)) .nil))))
/-- number 34 -/
def F__law_mixed : Fn := ⟨4, 8, [], b__law_mixed, false⟩
def b__law_behind : Ss := (.cons (.set (.n 3) (.bin .LShift (.k (.int 1)) (.v 2))) (.cons (.set (.n 4) (.sub (.v 0) (.k (.int 0)))) (.cons (.set (.n 5) (.bi .list (.cons (.v 1) .nil))) (.cons (.ifS (.cmp .Eq (.v 4) (.k (.str "put"))) (.cons (.setIx 5 (.sub (.v 0) (.k (.int 1))) (.sub (.v 0) (.k (.int 2)))) (.cons (.ret (.v 5)) .nil)) .nil) (.cons (.set (.n 6) (.comp (.sub (.v 1) (.v 7)) (.n 7) (.it (.sli (.v 0) (.yes (.k (.int 2))) .no)) .no [7])) (.cons (.ifS (.cmp .Eq (.v 4) (.k (.str "add"))) (.cons (.set (.n 8) (.bin .Add (.bin .Add (.sub (.v 6) (.k (.int 1))) (.sub (.v 6) (.k (.int 2)))) (.ite (.cmp .NotEq (.sub (.v 6) (.k (.int 0))) (.k (.int 0))) (.k (.int 1)) (.k (.int 0))))) (.cons (.setIx 5 (.sub (.v 0) (.k (.int 1))) (.bin .Mod (.bi .int (.cons (.v 8) .nil)) (.v 3))) (.cons (.setIx 5 (.sub (.v 0) (.k (.int 2))) (.ite (.cmp .GtE (.v 8) (.v 3)) (.k (.int 1)) (.k (.int 0)))) (.cons (.ret (.v 5)) .nil)))) .nil) (.cons (.ifS (.cmp .Eq (.v 4) (.k (.str "sub"))) (.cons (.set (.n 8) (.bin .Sub (.bin .Sub (.sub (.v 6) (.k (.int 1))) (.sub (.v 6) (.k (.int 2)))) (.ite (.cmp .NotEq (.sub (.v 6) (.k (.int 0))) (.k (.int 0))) (.k (.int 1)) (.k (.int 0))))) (.cons (.setIx 5 (.sub (.v 0) (.k (.int 1))) (.bin .Mod (.bi .int (.cons (.v 8) .nil)) (.v 3))) (.cons (.setIx 5 (.sub (.v 0) (.k (.int 2))) (.ite (.cmp .Lt (.v 8) (.k (.int 0))) (.k (.int 1)) (.k (.int 0)))) (.cons (.ret (.v 5)) .nil)))) .nil) (.cons (.ifS (.cmp .Eq (.v 4) (.k (.str "mul"))) (.cons (.set (.n 8) (.bin .Add (.bin .Add (.bin .Mult (.sub (.v 6) (.k (.int 1))) (.sub (.v 6) (.k (.int 2)))) (.sub (.v 6) (.k (.int 3)))) (.sub (.v 6) (.k (.int 0))))) (.cons (.setIx 5 (.sub (.v 0) (.k (.int 1))) (.bin .Mod (.bi .int (.cons (.v 8) .nil)) (.v 3))) (.cons (.setIx 5 (.sub (.v 0) (.k (.int 2))) (.bin .FloorDiv (.v 8) (.v 3))) (.cons (.ret (.v 5)) .nil)))) .nil) (.cons (.set (.n 9) (.sub (.v 6) (.k (.int 0)))) (.cons (.ifS (.or (.cmp .Eq (.v 4) (.k (.str "xor"))) (.cmp .Eq (.v 4) (.k (.str "and")))) (.cons (.set (.n 9) (.call 34 (.cons (.v 4) (.cons (.sub (.v 6) (.k (.int 0))) (.cons (.sub (.v 6) (.k (.int 1))) (.cons (.v 2) .nil)))))) .nil) .nil) (.cons (.ifS (.cmp .Eq (.v 4) (.k (.str "sign"))) (.cons (.set (.n 9) (.ite (.cmp .GtE (.sub (.v 6) (.k (.int 0))) (.bin .FloorDiv (.v 3) (.k (.int 2)))) (.bin .Sub (.v 3) (.k (.int 1))) (.k (.int 0)))) .nil) .nil) (.cons (.ifS (.cmp .Eq (.v 4) (.k (.str "top"))) (.cons (.set (.n 9) (.ite (.cmp .GtE (.sub (.v 6) (.k (.int 0))) (.bin .FloorDiv (.v 3) (.k (.int 2)))) (.k (.int 1)) (.k (.int 0)))) .nil) .nil) (.cons (.ifS (.cmp .Eq (.v 4) (.k (.str "pick"))) (.cons (.set (.n 9) (.ite (.cmp .NotEq (.sub (.v 6) (.k (.int 0))) (.k (.int 0))) (.sub (.v 6) (.k (.int 1))) (.sub (.v 6) (.k (.int 2))))) .nil) .nil) (.cons (.setIx 5 (.sub (.v 0) (.k (.int 1))) (.v 9)) (.cons (.ret (.v 5)) .nil)))))))))))))))
/-- number 35 -/
def F__law_behind : Fn := ⟨3, 10, [], b__law_behind, false⟩
def b__law_is_memory_0 : Ss := (.cons (.ifS (.or (.isi (.v 2) [.b "bool"]) (.not (.isi (.v 2) [.b "int"]))) (.cons (.ret (.k (.bool false))) .nil) .nil) .nil)
def b__law_is_memory : Ss := (.cons (.ifS (.or (.not (.isi (.v 0) [.b "tuple"])) (.cmp .NotEq (.bi .len (.cons (.v 0) .nil)) (.bi .len (.cons (.v 1) .nil)))) (.cons (.ret (.k (.bool false))) .nil) .nil) (.cons (.forS [2] (.n 2) (.it (.v 0)) b__law_is_memory_0) (.cons (.ret (.cmp .Eq (.v 0) (.bi .tuple (.cons (.v 1) .nil)))) .nil)))
/-- number 36 -/
def F__law_is_memory : Fn := ⟨2, 3, [], b__law_is_memory, false⟩
def b__law_steps_right_0 : Ss := (.cons (.set (.n 5) (.call 35 (.cons (.v 4) (.cons (.v 3) (.cons (.v 2) .nil))))) (.cons (.ifS (.not (.call 36 (.cons (.call 8 (.cons (.tup (.cons (.v 4) .nil)) (.cons (.bi .tuple (.cons (.v 3) .nil)) (.cons (.v 2) .nil)))) (.cons (.v 5) .nil)))) (.cons (.ret (.k (.bool false))) .nil) .nil) (.cons (.set (.n 3) (.v 5)) .nil)))
def b__law_steps_right : Ss := (.cons (.set (.n 3) (.v 1)) (.cons (.forS [0, 4, 5] (.n 4) (.it (.v 0)) b__law_steps_right_0) (.cons (.ret (.call 36 (.cons (.call 8 (.cons (.tup .nil) (.cons (.bi .tuple (.cons (.v 1) .nil)) (.cons (.v 2) .nil)))) (.cons (.v 1) .nil)))) .nil)))
/-- number 37 -/
def F__law_steps_right : Fn := ⟨3, 6, [], b__law_steps_right, false⟩
def b__law_counts_right_0 : Ss := (.cons (.set (.n 8) (.bin .Add (.bin .Add (.bin .Mult (.sub (.v 7) (.k (.int 0))) (.sub (.v 2) (.k (.int 0)))) (.bin .Mult (.sub (.v 7) (.k (.int 1))) (.sub (.v 2) (.k (.int 1))))) (.bin .Mult (.sub (.v 7) (.k (.int 2))) (.sub (.v 2) (.k (.int 2)))))) (.cons (.ifS (.cmp .NotEq (.call 31 (.cons (.bi .tuple (.cons (.v 7) .nil)) (.cons (.bi .tuple (.cons (.v 2) .nil)) .nil))) (.v 8)) (.cons (.ret (.k (.bool false))) .nil) .nil) .nil))
def b__law_counts_right_1 : Ss := (.cons (.set (.n 6) (.k (.int 2))) (.cons (.ifS (.cmp .Eq (.sub (.v 5) (.k (.int 0))) (.k (.str "mul"))) (.cons (.set (.n 6) (.k (.int 0))) .nil) .nil) (.cons (.ifS (.or (.cmp .Eq (.sub (.v 5) (.k (.int 0))) (.k (.str "add"))) (.cmp .Eq (.sub (.v 5) (.k (.int 0))) (.k (.str "sub")))) (.cons (.set (.n 6) (.k (.int 1))) .nil) .nil) (.cons (.setIx 4 (.v 6) (.bin .Add (.sub (.v 4) (.v 6)) (.k (.int 1)))) .nil))))
def b__law_counts_right : Ss := (.cons (.set (.n 2) (.comp (.bin .Add (.k (.int 1)) (.v 3)) (.n 3) (.it (.call 10 (.cons (.v 0) (.cons (.k (.int 45)) (.cons (.k (.int 3)) (.cons (.k (.int 1000)) .nil)))))) .no [3])) (.cons (.set (.n 4) (.lst (.cons (.k (.int 0)) (.cons (.k (.int 0)) (.cons (.k (.int 0)) .nil))))) (.cons (.forS [3, 5, 6, 7, 8] (.n 5) (.it (.v 1)) b__law_counts_right_1) (.cons (.ifS (.cmp .NotEq (.call 30 (.cons (.bi .tuple (.cons (.v 1) .nil)) .nil)) (.bi .tuple (.cons (.v 4) .nil))) (.cons (.ret (.k (.bool false))) .nil) .nil) (.cons (.forS [0, 1, 3, 4, 5, 6, 7, 8] (.n 7) (.it (.lst (.cons (.v 4) (.cons (.call 10 (.cons (.v 0) (.cons (.k (.int 46)) (.cons (.k (.int 3)) (.cons (.k (.int 30001)) .nil))))) .nil)))) b__law_counts_right_0) (.cons (.ret (.k (.bool true))) .nil))))))
/-- number 38 -/
def F__law_counts_right : Fn := ⟨2, 9, [], b__law_counts_right, false⟩
def b__law_piece_right_0 : Ss := (.cons (.app 21 (.bi .tuple (.cons (.sli (.v 8) (.yes (.v 23)) (.yes (.bin .Add (.v 23) (.v 4)))) .nil))) (.cons (.app 22 (.bi .tuple (.cons (.sli (.v 15) (.yes (.v 23)) (.yes (.bin .Add (.v 23) (.v 4)))) .nil))) (.cons (.set (.n 23) (.bin .Add (.v 23) (.v 4))) .nil)))
def b__law_piece_right_1 : Ss := (.cons (.set (.n 16) (.call 35 (.cons (.v 18) (.cons (.v 16) (.cons (.v 1) .nil))))) .nil)
def b__law_piece_right_2 : Ss := (.cons (.setIx 16 (.sub (.v 8) (.v 9)) (.sub (.v 15) (.v 9))) .nil)
def b__law_piece_right : Ss := (.cons (.set (.n 2) (.bin .LShift (.k (.int 1)) (.v 1))) (.cons (.set (.n 3) (.comp (.bin .Add (.k (.int 1)) (.v 4)) (.n 4) (.it (.call 10 (.cons (.v 0) (.cons (.k (.int 14)) (.cons (.bin .Add (.k (.int 1)) (.call 11 (.cons (.v 0) (.cons (.k (.int 15)) (.cons (.k (.int 3)) .nil))))) (.cons (.k (.int 3)) .nil)))))) .no [4])) (.cons (.set (.n 5) (.bi .sum (.cons (.v 3) .nil))) (.cons (.set (.n 6) (.bin .Add (.bin .Add (.v 5) (.k (.int 2))) (.call 11 (.cons (.v 0) (.cons (.k (.int 16)) (.cons (.k (.int 6)) .nil)))))) (.cons (.set (.n 7) (.call 11 (.cons (.v 0) (.cons (.k (.int 17)) (.cons (.v 5) .nil))))) (.cons (.set (.n 8) (.comp (.bin .Mod (.bi .int (.cons (.bin .Sub (.v 7) (.v 9)) .nil)) (.v 5)) (.n 9) (.r1 (.v 5)) .no [9])) (.cons (.set (.n 10) (.call 12 (.cons (.v 0) (.cons (.k (.int 18)) (.cons (.bin .Sub (.v 6) (.v 5)) (.cons (.v 2) .nil)))))) (.cons (.set (.n 11) (.comp (.tup (.cons (.k (.str "put")) (.cons (.bin .Add (.v 5) (.v 9)) (.cons (.sub (.v 10) (.v 9)) .nil)))) (.n 9) (.r1 (.bin .Sub (.v 6) (.v 5))) .no [9])) (.cons (.set (.n 11) (.bin .Add (.v 11) (.call 33 (.cons (.v 0) (.cons (.k (.int 22)) (.cons (.call 11 (.cons (.v 0) (.cons (.k (.int 19)) (.cons (.k (.int 13)) .nil)))) (.cons (.v 5) (.cons (.v 6) (.cons (.v 2) .nil))))))))) (.cons (.set (.n 12) (.call 10 (.cons (.v 0) (.cons (.k (.int 20)) (.cons (.k (.int 12)) (.cons (.v 6) .nil)))))) (.cons (.set (.n 13) (.call 10 (.cons (.v 0) (.cons (.k (.int 21)) (.cons (.bin .Add (.k (.int 1)) (.call 11 (.cons (.v 0) (.cons (.k (.int 23)) (.cons (.k (.int 3)) .nil))))) (.cons (.k (.int 4)) .nil)))))) (.cons (.set (.n 14) (.comp (.bi .tuple (.cons (.sli (.v 12) (.yes (.bin .Mult (.k (.int 4)) (.v 9))) (.yes (.bin .Add (.bin .Add (.bin .Mult (.k (.int 4)) (.v 9)) (.k (.int 1))) (.sub (.v 13) (.v 9))))) .nil)) (.n 9) (.r1 (.bi .len (.cons (.v 13) .nil))) .no [9])) (.cons (.set (.n 15) (.call 12 (.cons (.v 0) (.cons (.k (.int 24)) (.cons (.v 5) (.cons (.v 2) .nil)))))) (.cons (.set (.n 16) (.comp (.k (.int 0)) (.n 17) (.r1 (.v 6)) .no [17])) (.cons (.forS [0, 2, 4, 5, 7, 9, 10, 12, 13, 17, 18, 19, 20, 21, 22, 23, 24] (.n 9) (.r1 (.v 5)) b__law_piece_right_2) (.cons (.forS [0, 2, 4, 5, 7, 9, 10, 12, 13, 17, 18, 19, 20, 21, 22, 23, 24] (.n 18) (.it (.v 11)) b__law_piece_right_1) (.cons (.set (.n 19) (.bi .tuple (.cons (.comp (.bi .tuple (.cons (.comp (.sub (.v 16) (.v 17)) (.n 17) (.it (.v 20)) .no [17]) .nil)) (.n 20) (.it (.v 14)) .no [20]) .nil))) (.cons (.set (.n 21) (.lst .nil)) (.cons (.set (.n 22) (.lst .nil)) (.cons (.set (.n 23) (.k (.int 0))) (.cons (.forS [0, 2, 3, 4, 5, 7, 9, 10, 12, 13, 16, 17, 18, 20, 24] (.n 4) (.it (.v 3)) b__law_piece_right_0) (.cons (.set (.n 24) (.tup (.cons (.k (.str "piece")) (.cons (.bi .tuple (.cons (.v 11) .nil)) (.cons (.v 6) (.cons (.bi .tuple (.cons (.v 21) .nil)) (.cons (.bi .tuple (.cons (.v 14) .nil)) .nil))))))) (.cons (.ret (.cmp .Eq (.call 26 (.cons (.v 24) (.cons (.bi .tuple (.cons (.v 22) .nil)) (.cons (.v 1) .nil)))) (.v 19))) .nil)))))))))))))))))))))))
/-- number 39 -/
def F__law_piece_right : Fn := ⟨2, 25, [], b__law_piece_right, false⟩
def b_law__v2_0 : Ss := (.cons (.set (.n 6) (.call 35 (.cons (.v 7) (.cons (.v 6) (.cons (.v 1) .nil))))) .nil)
def b_law__v2 : Ss := (.cons (.set (.n 1) (.bin .Add (.k (.int 8)) (.call 11 (.cons (.v 0) (.cons (.k (.int 0)) (.cons (.k (.int 9)) .nil)))))) (.cons (.set (.n 2) (.bin .LShift (.k (.int 1)) (.v 1))) (.cons (.set (.n 3) (.ite (.cmp .Eq (.call 11 (.cons (.v 0) (.cons (.k (.int 2)) (.cons (.k (.int 8)) .nil)))) (.k (.int 0))) (.k (.int 200)) (.bin .Add (.k (.int 1)) (.call 11 (.cons (.v 0) (.cons (.k (.int 1)) (.cons (.k (.int 12)) .nil))))))) (.cons (.set (.n 4) (.call 12 (.cons (.v 0) (.cons (.k (.int 3)) (.cons (.v 3) (.cons (.v 2) .nil)))))) (.cons (.set (.n 5) (.call 33 (.cons (.v 0) (.cons (.k (.int 9)) (.cons (.call 11 (.cons (.v 0) (.cons (.k (.int 4)) (.cons (.k (.int 25)) .nil)))) (.cons (.k (.int 0)) (.cons (.v 3) (.cons (.v 2) .nil)))))))) (.cons (.ifS (.not (.call 37 (.cons (.v 5) (.cons (.v 4) (.cons (.v 1) .nil))))) (.cons (.ret (.k (.bool false))) .nil) .nil) (.cons (.ifS (.cmp .Eq (.call 11 (.cons (.v 0) (.cons (.k (.int 5)) (.cons (.k (.int 8)) .nil)))) (.k (.int 0))) (.cons (.set (.n 5) (.bin .Mult (.v 5) (.k (.int 40)))) .nil) .nil) (.cons (.set (.n 6) (.v 4)) (.cons (.forS [2, 7] (.n 7) (.it (.v 5)) b_law__v2_0) (.cons (.ifS (.not (.call 36 (.cons (.call 8 (.cons (.bi .tuple (.cons (.v 5) .nil)) (.cons (.bi .tuple (.cons (.v 4) .nil)) (.cons (.v 1) .nil)))) (.cons (.v 6) .nil)))) (.cons (.ret (.k (.bool false))) .nil) .nil) (.cons (.ifS (.cmp .IsNot (.call 29 (.cons (.bi .tuple (.cons (.v 5) .nil)) (.cons (.v 3) (.cons (.v 1) .nil)))) (.k .none)) (.cons (.ret (.k (.bool false))) .nil) .nil) (.cons (.ret (.and (.call 38 (.cons (.v 0) (.cons (.v 5) .nil))) (.call 39 (.cons (.v 0) (.cons (.v 1) .nil))))) .nil))))))))))))
/-- number 40 -/
def F_law__v2 : Fn := ⟨1, 8, [], b_law__v2, false⟩
end Mp

/-! the core text of k16, printed by mp.py: the defs that no earlier law has -/
namespace Mp
open PySem PySem.Spec PyProof.Rows L2
def b_bits_of : Ss := (.cons (.ret (.bi .bitlen (.cons (.bi .abs (.cons (.v 0) .nil)) .nil))) .nil)
/-- number 52 -/
def F_bits_of : Fn := ⟨1, 1, [], b_bits_of, false⟩
def b_words_of_0 : Ss := (.cons (.app 4 (.bin .Mod (.v 2) (.v 3))) (.cons (.set (.n 2) (.bin .FloorDiv (.v 2) (.v 3))) .nil))
def b_words_of : Ss := (.cons (.set (.n 2) (.bi .abs (.cons (.v 0) .nil))) (.cons (.set (.n 3) (.bin .LShift (.k (.int 1)) (.v 1))) (.cons (.set (.n 4) (.lst .nil)) (.cons (.wh [0, 1] (.cmp .Gt (.v 2) (.k (.int 0))) b_words_of_0) (.cons (.ret (.bi .tuple (.cons (.v 4) .nil))) .nil)))))
/-- number 53 -/
def F_words_of : Fn := ⟨2, 5, [], b_words_of, false⟩
def b_number_of_0 : Ss := (.cons (.set (.n 2) (.bin .Add (.bin .LShift (.v 2) (.v 1)) (.v 3))) .nil)
def b_number_of : Ss := (.cons (.set (.n 2) (.k (.int 0))) (.cons (.forS [0, 3] (.n 3) (.rev (.bi .list (.cons (.v 0) .nil))) b_number_of_0) (.cons (.ret (.v 2)) .nil)))
/-- number 54 -/
def F_number_of : Fn := ⟨2, 4, [], b_number_of, false⟩
def b_length_for_0 : Ss := (.cons (.set (.n 2) (.bin .Add (.v 2) (.k (.int 1)))) (.cons (.set (.n 3) (.bin .LShift (.v 3) (.v 1))) .nil))
def b_length_for : Ss := (.cons (.set (.n 2) (.k (.int 1))) (.cons (.set (.n 3) (.bin .LShift (.k (.int 1)) (.bin .Sub (.v 1) (.k (.int 1))))) (.cons (.wh [] (.cmp .GtE (.v 0) (.v 3)) b_length_for_0) (.cons (.ret (.v 2)) .nil))))
/-- number 55 -/
def F_length_for : Fn := ⟨2, 4, [], b_length_for, false⟩
def b_row_of_0 : Ss := (.cons (.app 5 (.bin .Mod (.v 3) (.v 4))) (.cons (.set (.n 3) (.bin .FloorDiv (.v 3) (.v 4))) .nil))
def b_row_of : Ss := (.cons (.set (.n 3) (.bin .Mod (.v 0) (.bin .LShift (.k (.int 1)) (.bin .Mult (.v 2) (.v 1))))) (.cons (.set (.n 4) (.bin .LShift (.k (.int 1)) (.v 2))) (.cons (.set (.n 5) (.lst .nil)) (.cons (.forS [0, 1, 2, 6] (.n 6) (.r1 (.v 1)) b_row_of_0) (.cons (.ret (.bi .tuple (.cons (.v 5) .nil))) .nil)))))
/-- number 56 -/
def F_row_of : Fn := ⟨3, 7, [], b_row_of, false⟩
def b_signed : Ss := (.cons (.set (.n 2) (.call 54 (.cons (.v 0) (.cons (.v 1) .nil)))) (.cons (.set (.n 3) (.bin .LShift (.k (.int 1)) (.bin .Mult (.v 1) (.bi .len (.cons (.v 0) .nil))))) (.cons (.ifS (.cmp .GtE (.v 2) (.bin .FloorDiv (.v 3) (.k (.int 2)))) (.cons (.ret (.bin .Sub (.v 2) (.v 3))) .nil) .nil) (.cons (.ret (.v 2)) .nil))))
/-- number 57 -/
def F_signed : Fn := ⟨2, 4, [], b_signed, false⟩
def b_good_prices_0 : Ss := (.cons (.ifS (.or (.not (.call 23 (.cons (.v 1) .nil))) (.or (.cmp .Lt (.v 1) (.k (.int 1))) (.cmp .Gt (.v 1) (.g 4)))) (.cons (.ret (.k (.bool false))) .nil) .nil) .nil)
def b_good_prices : Ss := (.cons (.ifS (.or (.not (.isi (.v 0) [.b "tuple"])) (.cmp .NotEq (.bi .len (.cons (.v 0) .nil)) (.k (.int 3)))) (.cons (.ret (.k (.bool false))) .nil) .nil) (.cons (.forS [0, 1] (.n 1) (.it (.v 0)) b_good_prices_0) (.cons (.ret (.k (.bool true))) .nil)))
/-- number 58 -/
def F_good_prices : Fn := ⟨1, 2, [], b_good_prices, false⟩
def b_setup_of : Ss := (.cons (.ifS (.or (.not (.call 23 (.cons (.v 0) .nil))) (.or (.cmp .Lt (.v 0) (.g 2)) (.cmp .Gt (.v 0) (.g 3)))) (.cons (.raise 2 "part" (.k (.str "bits"))) .nil) .nil) (.cons (.ifS (.or (.not (.isi (.v 1) [.b "str"])) (.cmp .NotIn (.v 1) (.g 1))) (.cons (.raise 2 "part" (.k (.str "road"))) .nil) .nil) (.cons (.ifS (.not (.call 58 (.cons (.v 2) .nil))) (.cons (.raise 2 "part" (.k (.str "prices"))) .nil) .nil) (.cons (.ret (.tup (.cons (.k (.str "setup")) (.cons (.v 0) (.cons (.v 1) (.cons (.bi .tuple (.cons (.v 2) .nil)) .nil)))))) .nil))))
/-- number 59 -/
def F_setup_of : Fn := ⟨3, 3, [], b_setup_of, false⟩
def b_plain_setup : Ss := (.cons (.ret (.call 59 (.cons (.k (.int 16)) (.cons (.k (.str "cheapest")) (.cons (.tup (.cons (.k (.int 3)) (.cons (.k (.int 1)) (.cons (.k (.int 1)) .nil)))) .nil))))) .nil)
/-- number 60 -/
def F_plain_setup : Fn := ⟨0, 0, [], b_plain_setup, false⟩
def b__law_words_row : Ss := (.cons (.set (.n 4) (.call 10 (.cons (.v 0) (.cons (.v 1) (.cons (.v 2) (.cons (.v 3) .nil)))))) (.cons (.set (.n 5) (.call 11 (.cons (.v 0) (.cons (.bin .Add (.v 1) (.k (.int 1))) (.cons (.k (.int 10)) .nil))))) (.cons (.set (.n 6) (.call 11 (.cons (.v 0) (.cons (.bin .Add (.v 1) (.k (.int 2))) (.cons (.v 2) .nil))))) (.cons (.ifS (.cmp .Eq (.v 5) (.k (.int 0))) (.cons (.ret (.comp (.k (.int 0)) (.n 7) (.r1 (.v 2)) .no [7])) .nil) .nil) (.cons (.ifS (.cmp .Eq (.v 5) (.k (.int 1))) (.cons (.ret (.comp (.bin .Sub (.v 3) (.k (.int 1))) (.n 7) (.r1 (.v 2)) .no [7])) .nil) .nil) (.cons (.ifS (.cmp .Eq (.v 5) (.k (.int 2))) (.cons (.ret (.bin .Add (.comp (.k (.int 0)) (.n 7) (.r1 (.bin .Sub (.v 2) (.k (.int 1)))) .no [7]) (.lst (.cons (.bin .FloorDiv (.v 3) (.k (.int 2))) .nil)))) .nil) .nil) (.cons (.ifS (.cmp .Eq (.v 5) (.k (.int 3))) (.cons (.ret (.bin .Add (.comp (.bin .Sub (.v 3) (.k (.int 1))) (.n 7) (.r1 (.bin .Sub (.v 2) (.k (.int 1)))) .no [7]) (.lst (.cons (.bin .Sub (.bin .FloorDiv (.v 3) (.k (.int 2))) (.k (.int 1))) .nil)))) .nil) .nil) (.cons (.ifS (.cmp .Eq (.v 5) (.k (.int 4))) (.cons (.ret (.bin .Add (.sli (.v 4) .no (.yes (.v 6))) (.comp (.k (.int 0)) (.n 7) (.r1 (.bin .Sub (.v 2) (.v 6))) .no [7]))) .nil) .nil) (.cons (.ifS (.cmp .Eq (.v 5) (.k (.int 5))) (.cons (.ret (.bin .Add (.sli (.v 4) .no (.yes (.v 6))) (.comp (.bin .Sub (.v 3) (.k (.int 1))) (.n 7) (.r1 (.bin .Sub (.v 2) (.v 6))) .no [7]))) .nil) .nil) (.cons (.ifS (.cmp .Eq (.v 5) (.k (.int 6))) (.cons (.ret (.bin .Add (.comp (.k (.int 0)) (.n 7) (.r1 (.v 6)) .no [7]) (.sli (.v 4) (.yes (.v 6)) .no))) .nil) .nil) (.cons (.ifS (.cmp .Eq (.v 5) (.k (.int 7))) (.cons (.ret (.bin .Add (.comp (.bin .Sub (.v 3) (.k (.int 1))) (.n 7) (.r1 (.v 6)) .no [7]) (.sli (.v 4) (.yes (.v 6)) .no))) .nil) .nil) (.cons (.ret (.v 4)) .nil))))))))))))
/-- number 61 -/
def F__law_words_row : Fn := ⟨4, 8, [], b__law_words_row, false⟩
def b__law_is_whole : Ss := (.cons (.ret (.and (.isi (.v 0) [.b "int"]) (.not (.isi (.v 0) [.b "bool"])))) .nil)
/-- number 62 -/
def F__law_is_whole : Fn := ⟨1, 1, [], b__law_is_whole, false⟩
def b__law_is_number : Ss := (.cons (.ret (.and (.call 62 (.cons (.v 0) .nil)) (.cmp .Eq (.v 0) (.v 1)))) .nil)
/-- number 63 -/
def F__law_is_number : Fn := ⟨2, 2, [], b__law_is_number, false⟩
def b__law_are_words_0 : Ss := (.cons (.ifS (.not (.call 63 (.cons (.sub (.v 0) (.v 2)) (.cons (.sub (.v 1) (.v 2)) .nil)))) (.cons (.ret (.k (.bool false))) .nil) .nil) .nil)
def b__law_are_words : Ss := (.cons (.ifS (.or (.not (.isi (.v 0) [.b "tuple"])) (.cmp .NotEq (.bi .len (.cons (.v 0) .nil)) (.bi .len (.cons (.v 1) .nil)))) (.cons (.ret (.k (.bool false))) .nil) .nil) (.cons (.forS [2] (.n 2) (.r1 (.bi .len (.cons (.v 1) .nil))) b__law_are_words_0) (.cons (.ret (.k (.bool true))) .nil)))
/-- number 64 -/
def F__law_are_words : Fn := ⟨2, 3, [], b__law_are_words, false⟩
def b__law_number_0 : Ss := (.cons (.set (.n 2) (.bin .Add (.bin .Mult (.v 2) (.v 1)) (.sub (.v 0) (.bin .Sub (.bin .Sub (.bi .len (.cons (.v 0) .nil)) (.k (.int 1))) (.v 3))))) .nil)
def b__law_number : Ss := (.cons (.set (.n 2) (.k (.int 0))) (.cons (.forS [3] (.n 3) (.r1 (.bi .len (.cons (.v 0) .nil))) b__law_number_0) (.cons (.ret (.v 2)) .nil)))
/-- number 65 -/
def F__law_number : Fn := ⟨2, 4, [], b__law_number, false⟩
def b__law_trimmed_0 : Ss := (.cons (.ifS (.cmp .NotEq (.sub (.v 0) (.v 2)) (.k (.int 0))) (.cons (.set (.n 1) (.bin .Add (.v 2) (.k (.int 1)))) .nil) .nil) .nil)
def b__law_trimmed : Ss := (.cons (.set (.n 1) (.k (.int 0))) (.cons (.forS [2] (.n 2) (.r1 (.bi .len (.cons (.v 0) .nil))) b__law_trimmed_0) (.cons (.ret (.sli (.v 0) .no (.yes (.v 1)))) .nil)))
/-- number 66 -/
def F__law_trimmed : Fn := ⟨1, 3, [], b__law_trimmed, false⟩
def b__law_due_row_0 : Ss := (.cons (.app 4 (.bin .Mod (.bi .int (.cons (.v 3) .nil)) (.v 2))) (.cons (.set (.n 3) (.bin .FloorDiv (.v 3) (.v 2))) .nil))
def b__law_due_row : Ss := (.cons (.set (.n 3) (.v 0)) (.cons (.set (.n 4) (.lst .nil)) (.cons (.forS [0, 1, 5] (.n 5) (.r1 (.v 1)) b__law_due_row_0) (.cons (.ret (.v 4)) .nil))))
/-- number 67 -/
def F__law_due_row : Fn := ⟨3, 6, [], b__law_due_row, false⟩
def b__law_digits_0 : Ss := (.cons (.ifS (.cmp .Gt (.v 4) (.k (.int 0))) (.cons (.set (.n 3) (.bin .Add (.v 3) (.k (.int 1)))) (.cons (.set (.n 4) (.bin .FloorDiv (.v 4) (.k (.int 2)))) .nil)) .nil) .nil)
def b__law_digits : Ss := (.cons (.set (.n 2) (.call 66 (.cons (.v 0) .nil))) (.cons (.ifS (.cmp .Eq (.bi .len (.cons (.v 2) .nil)) (.k (.int 0))) (.cons (.ret (.k (.int 0))) .nil) .nil) (.cons (.set (.n 3) (.bin .Mult (.v 1) (.bin .Sub (.bi .len (.cons (.v 2) .nil)) (.k (.int 1))))) (.cons (.set (.n 4) (.sub (.v 2) (.neg (.k (.int 1))))) (.cons (.forS [0, 1, 2, 5] (.n 5) (.r1 (.v 1)) b__law_digits_0) (.cons (.ret (.v 3)) .nil))))))
/-- number 68 -/
def F__law_digits : Fn := ⟨2, 6, [], b__law_digits, false⟩
def b__law_length : Ss := (.cons (.set (.n 2) (.call 66 (.cons (.v 0) .nil))) (.cons (.ifS (.cmp .Eq (.bi .len (.cons (.v 2) .nil)) (.k (.int 0))) (.cons (.ret (.k (.int 1))) .nil) .nil) (.cons (.ret (.bin .Add (.bi .len (.cons (.v 2) .nil)) (.ite (.cmp .GtE (.sub (.v 2) (.neg (.k (.int 1)))) (.bin .FloorDiv (.v 1) (.k (.int 2)))) (.k (.int 1)) (.k (.int 0))))) .nil)))
/-- number 69 -/
def F__law_length : Fn := ⟨2, 3, [], b__law_length, false⟩
def b__law_words_told : Ss := (.cons (.set (.n 3) (.call 66 (.cons (.v 0) .nil))) (.cons (.ifS (.or (.not (.call 64 (.cons (.call 53 (.cons (.v 1) (.cons (.v 2) .nil))) (.cons (.v 3) .nil)))) (.not (.call 64 (.cons (.call 53 (.cons (.neg (.v 1)) (.cons (.v 2) .nil))) (.cons (.v 3) .nil))))) (.cons (.ret (.k (.bool false))) .nil) .nil) (.cons (.ifS (.not (.call 63 (.cons (.call 54 (.cons (.bi .tuple (.cons (.v 0) .nil)) (.cons (.v 2) .nil))) (.cons (.v 1) .nil)))) (.cons (.ret (.k (.bool false))) .nil) .nil) (.cons (.ifS (.not (.call 63 (.cons (.call 54 (.cons (.bi .tuple (.cons (.v 3) .nil)) (.cons (.v 2) .nil))) (.cons (.v 1) .nil)))) (.cons (.ret (.k (.bool false))) .nil) .nil) (.cons (.set (.n 4) (.call 68 (.cons (.v 0) (.cons (.v 2) .nil)))) (.cons (.ret (.and (.call 63 (.cons (.call 52 (.cons (.v 1) .nil)) (.cons (.v 4) .nil))) (.call 63 (.cons (.call 52 (.cons (.neg (.v 1)) .nil)) (.cons (.v 4) .nil))))) .nil))))))
/-- number 70 -/
def F__law_words_told : Fn := ⟨3, 5, [], b__law_words_told, false⟩
def b__law_rows_told : Ss := (.cons (.set (.n 6) (.bin .LShift (.k (.int 1)) (.v 2))) (.cons (.set (.n 7) (.bi .len (.cons (.v 0) .nil))) (.cons (.set (.n 8) (.bin .LShift (.k (.int 1)) (.bin .Mult (.v 2) (.v 7)))) (.cons (.ifS (.not (.call 64 (.cons (.call 56 (.cons (.bin .Add (.v 1) (.bin .Mult (.v 3) (.v 8))) (.cons (.v 7) (.cons (.v 2) .nil)))) (.cons (.v 0) .nil)))) (.cons (.ret (.k (.bool false))) .nil) .nil) (.cons (.ifS (.not (.call 64 (.cons (.call 56 (.cons (.neg (.v 1)) (.cons (.v 7) (.cons (.v 2) .nil)))) (.cons (.call 67 (.cons (.neg (.v 1)) (.cons (.v 7) (.cons (.v 6) .nil)))) .nil)))) (.cons (.ret (.k (.bool false))) .nil) .nil) (.cons (.set (.n 9) (.cmp .GtE (.sub (.v 0) (.neg (.k (.int 1)))) (.bin .FloorDiv (.v 6) (.k (.int 2))))) (.cons (.set (.n 10) (.ite (.v 9) (.bin .Sub (.v 1) (.v 8)) (.v 1))) (.cons (.ifS (.not (.call 63 (.cons (.call 57 (.cons (.bi .tuple (.cons (.v 0) .nil)) (.cons (.v 2) .nil))) (.cons (.v 10) .nil)))) (.cons (.ret (.k (.bool false))) .nil) .nil) (.cons (.set (.n 11) (.ite (.v 9) (.bin .Sub (.v 6) (.k (.int 1))) (.k (.int 0)))) (.cons (.ifS (.not (.call 64 (.cons (.call 56 (.cons (.v 10) (.cons (.bin .Add (.v 7) (.v 4)) (.cons (.v 2) .nil)))) (.cons (.bin .Add (.v 0) (.comp (.v 11) (.n 12) (.r1 (.v 4)) .no [12])) .nil)))) (.cons (.ret (.k (.bool false))) .nil) .nil) (.cons (.ifS (.not (.call 64 (.cons (.call 56 (.cons (.v 1) (.cons (.bin .Add (.v 7) (.v 4)) (.cons (.v 2) .nil)))) (.cons (.bin .Add (.v 0) (.comp (.k (.int 0)) (.n 12) (.r1 (.v 4)) .no [12])) .nil)))) (.cons (.ret (.k (.bool false))) .nil) .nil) (.cons (.ret (.call 64 (.cons (.call 56 (.cons (.v 10) (.cons (.v 5) (.cons (.v 2) .nil)))) (.cons (.sli (.v 0) .no (.yes (.v 5))) .nil)))) .nil))))))))))))
/-- number 71 -/
def F__law_rows_told : Fn := ⟨6, 13, [], b__law_rows_told, false⟩
def b__law_two_within : Ss := (.cons (.set (.tup [3, 4]) (.call 10 (.cons (.v 0) (.cons (.v 1) (.cons (.k (.int 2)) (.cons (.bin .Add (.bin .Mult (.k (.int 2)) (.v 2)) (.k (.int 1))) .nil)))))) (.cons (.set (.n 5) (.call 11 (.cons (.v 0) (.cons (.bin .Add (.v 1) (.k (.int 1))) (.cons (.k (.int 4)) .nil))))) (.cons (.set (.n 6) (.sub (.lst (.cons (.bin .Sub (.v 3) (.v 2)) (.cons (.bin .Sub (.v 2) (.v 3)) (.cons (.v 2) (.cons (.neg (.v 2)) .nil))))) (.v 5))) (.cons (.set (.n 5) (.call 11 (.cons (.v 0) (.cons (.bin .Add (.v 1) (.k (.int 2))) (.cons (.k (.int 4)) .nil))))) (.cons (.ifS (.cmp .Eq (.v 5) (.k (.int 0))) (.cons (.ret (.tup (.cons (.v 6) (.cons (.v 6) .nil)))) .nil) .nil) (.cons (.ifS (.cmp .Eq (.v 5) (.k (.int 1))) (.cons (.ret (.tup (.cons (.v 6) (.cons (.neg (.v 6)) .nil)))) .nil) .nil) (.cons (.ifS (.cmp .Eq (.v 5) (.k (.int 2))) (.cons (.ret (.tup (.cons (.v 6) (.cons (.ite (.cmp .Gt (.v 6) (.neg (.v 2))) (.bin .Sub (.v 6) (.k (.int 1))) (.ite (.cmp .Lt (.v 6) (.v 2)) (.bin .Add (.v 6) (.k (.int 1))) (.v 6))) .nil)))) .nil) .nil) (.cons (.ret (.tup (.cons (.v 6) (.cons (.bin .Sub (.v 4) (.v 2)) .nil)))) .nil))))))))
/-- number 72 -/
def F__law_two_within : Fn := ⟨3, 7, [], b__law_two_within, false⟩
def b__law_lengths_told : Ss := (.cons (.set (.n 5) (.bin .LShift (.k (.int 1)) (.v 4))) (.cons (.set (.n 6) (.bin .LShift (.k (.int 1)) (.bin .Sub (.bin .Mult (.v 4) (.bi .len (.cons (.v 2) .nil))) (.k (.int 1))))) (.cons (.set (.n 7) (.call 69 (.cons (.v 2) (.cons (.v 5) .nil)))) (.cons (.ifS (.or (.not (.call 63 (.cons (.call 55 (.cons (.v 3) (.cons (.v 4) .nil))) (.cons (.v 7) .nil)))) (.not (.call 63 (.cons (.call 55 (.cons (.k (.int 0)) (.cons (.v 4) .nil))) (.cons (.k (.int 1)) .nil))))) (.cons (.ret (.k (.bool false))) .nil) .nil) (.cons (.ifS (.not (.call 63 (.cons (.call 55 (.cons (.bin .Sub (.v 6) (.k (.int 1))) (.cons (.v 4) .nil))) (.cons (.bi .len (.cons (.v 2) .nil)) .nil)))) (.cons (.ret (.k (.bool false))) .nil) .nil) (.cons (.ifS (.not (.call 63 (.cons (.call 55 (.cons (.v 6) (.cons (.v 4) .nil))) (.cons (.bin .Add (.bi .len (.cons (.v 2) .nil)) (.k (.int 1))) .nil)))) (.cons (.ret (.k (.bool false))) .nil) .nil) (.cons (.set (.tup [8, 9]) (.call 72 (.cons (.v 0) (.cons (.v 1) (.cons (.v 3) .nil))))) (.cons (.set (.n 10) (.call 56 (.cons (.v 8) (.cons (.v 7) (.cons (.v 4) .nil))))) (.cons (.set (.n 11) (.call 56 (.cons (.v 9) (.cons (.v 7) (.cons (.v 4) .nil))))) (.cons (.ifS (.not (.call 64 (.cons (.v 10) (.cons (.call 67 (.cons (.v 8) (.cons (.v 7) (.cons (.v 5) .nil)))) .nil)))) (.cons (.ret (.k (.bool false))) .nil) .nil) (.cons (.ifS (.not (.call 64 (.cons (.v 11) (.cons (.call 67 (.cons (.v 9) (.cons (.v 7) (.cons (.v 5) .nil)))) .nil)))) (.cons (.ret (.k (.bool false))) .nil) .nil) (.cons (.ifS (.or (.not (.call 63 (.cons (.call 57 (.cons (.v 10) (.cons (.v 4) .nil))) (.cons (.v 8) .nil)))) (.not (.call 63 (.cons (.call 57 (.cons (.v 11) (.cons (.v 4) .nil))) (.cons (.v 9) .nil))))) (.cons (.ret (.k (.bool false))) .nil) .nil) (.cons (.ret (.cmp .Eq (.cmp .Eq (.v 10) (.v 11)) (.cmp .Eq (.v 8) (.v 9)))) .nil)))))))))))))
/-- number 73 -/
def F__law_lengths_told : Fn := ⟨5, 12, [], b__law_lengths_told, false⟩
def b__law_round : Ss := (.cons (.set (.n 2) (.bin .Add (.k (.int 8)) (.call 11 (.cons (.v 0) (.cons (.v 1) (.cons (.k (.int 9)) .nil)))))) (.cons (.set (.n 3) (.bin .Add (.k (.int 1)) (.call 11 (.cons (.v 0) (.cons (.bin .Add (.v 1) (.k (.int 1))) (.cons (.k (.int 12)) .nil)))))) (.cons (.ifS (.cmp .Eq (.call 11 (.cons (.v 0) (.cons (.bin .Add (.v 1) (.k (.int 2))) (.cons (.k (.int 8)) .nil)))) (.k (.int 0))) (.cons (.set (.n 3) (.bin .Add (.k (.int 1)) (.call 11 (.cons (.v 0) (.cons (.bin .Add (.v 1) (.k (.int 1))) (.cons (.k (.int 64)) .nil)))))) .nil) .nil) (.cons (.ifS (.and (.cmp .Eq (.v 1) (.k (.int 1))) (.cmp .Eq (.call 11 (.cons (.v 0) (.cons (.k (.int 62)) (.cons (.k (.int 24)) .nil)))) (.k (.int 0)))) (.cons (.set (.n 3) (.bin .Add (.k (.int 200)) (.call 11 (.cons (.v 0) (.cons (.bin .Add (.v 1) (.k (.int 1))) (.cons (.k (.int 200)) .nil)))))) .nil) .nil) (.cons (.set (.n 4) (.call 61 (.cons (.v 0) (.cons (.bin .Add (.v 1) (.k (.int 3))) (.cons (.v 3) (.cons (.bin .LShift (.k (.int 1)) (.v 2)) .nil)))))) (.cons (.set (.n 5) (.call 65 (.cons (.v 4) (.cons (.bin .LShift (.k (.int 1)) (.v 2)) .nil)))) (.cons (.set (.tup [6, 7, 8]) (.call 10 (.cons (.v 0) (.cons (.bin .Add (.v 1) (.k (.int 6))) (.cons (.k (.int 3)) (.cons (.k (.int 65)) .nil)))))) (.cons (.set (.n 7) (.bin .Add (.k (.int 1)) (.bin .Mod (.bi .int (.cons (.v 7) .nil)) (.k (.int 5))))) (.cons (.set (.n 8) (.bin .Add (.k (.int 1)) (.bin .Mod (.bi .int (.cons (.v 8) .nil)) (.v 3)))) (.cons (.ifS (.or (.not (.call 70 (.cons (.v 4) (.cons (.v 5) (.cons (.v 2) .nil))))) (.not (.call 71 (.cons (.v 4) (.cons (.v 5) (.cons (.v 2) (.cons (.bin .Sub (.v 6) (.k (.int 32))) (.cons (.v 7) (.cons (.v 8) .nil))))))))) (.cons (.ret (.k (.bool false))) .nil) .nil) (.cons (.ret (.call 73 (.cons (.v 0) (.cons (.bin .Add (.v 1) (.k (.int 6))) (.cons (.v 4) (.cons (.v 5) (.cons (.v 2) .nil))))))) .nil)))))))))))
/-- number 74 -/
def F__law_round : Fn := ⟨2, 9, [], b__law_round, false⟩
def b__law_part_bits : Ss := (.cons (.set (.n 3) (.call 11 (.cons (.v 0) (.cons (.v 1) (.cons (.k (.int 9)) .nil))))) (.cons (.ifS (.v 2) (.cons (.ret (.bin .Add (.k (.int 8)) (.v 3))) .nil) .nil) (.cons (.set (.n 4) (.lst (.cons (.bin .Sub (.k (.int 7)) (.v 3)) (.cons (.bin .Add (.k (.int 17)) (.v 3)) (.cons (.k (.int 7)) (.cons (.k (.int 17)) (.cons (.bin .Sub (.neg (.k (.int 8))) (.v 3)) (.cons (.k (.bool true)) (.cons (.k (.bool false)) (.cons (.k .none) (.cons (.bi .str (.cons (.bin .Add (.k (.int 8)) (.v 3)) .nil)) (.cons (.tup (.cons (.bin .Add (.k (.int 8)) (.v 3)) .nil)) (.cons (.lst (.cons (.bin .Add (.k (.int 8)) (.v 3)) .nil)) .nil))))))))))))) (.cons (.ret (.sub (.v 4) (.call 11 (.cons (.v 0) (.cons (.bin .Add (.v 1) (.k (.int 1))) (.cons (.k (.int 11)) .nil)))))) .nil))))
/-- number 75 -/
def F__law_part_bits : Fn := ⟨3, 5, [], b__law_part_bits, false⟩
def b__law_part_road : Ss := (.cons (.ifS (.v 2) (.cons (.ret (.sub (.lst (.cons (.k (.str "cheapest")) (.cons (.k (.str "plain")) (.cons (.k (.str "halves")) (.cons (.k (.str "thirds")) .nil))))) (.call 11 (.cons (.v 0) (.cons (.v 1) (.cons (.k (.int 4)) .nil)))))) .nil) .nil) (.cons (.set (.n 3) (.lst (.cons (.k (.str "")) (.cons (.k (.str "Plain")) (.cons (.k (.str "plain ")) (.cons (.k (.str "half")) (.cons (.k (.str "third")) (.cons (.k (.str "split")) (.cons (.k (.str "whole")) (.cons (.k (.str "low")) (.cons (.k .none) (.cons (.k (.int 0)) (.cons (.tup (.cons (.k (.str "plain")) .nil)) (.cons (.k (.bool true)) (.cons (.lst (.cons (.k (.str "plain")) .nil)) .nil))))))))))))))) (.cons (.ret (.sub (.v 3) (.call 11 (.cons (.v 0) (.cons (.v 1) (.cons (.k (.int 13)) .nil)))))) .nil)))
/-- number 76 -/
def F__law_part_road : Fn := ⟨3, 4, [], b__law_part_road, false⟩
def b__law_part_prices : Ss := (.cons (.set (.n 3) (.comp (.bin .Add (.k (.int 1)) (.v 4)) (.n 4) (.it (.call 10 (.cons (.v 0) (.cons (.v 1) (.cons (.k (.int 3)) (.cons (.k (.int 1000)) .nil)))))) .no [4])) (.cons (.set (.n 5) (.call 11 (.cons (.v 0) (.cons (.bin .Add (.v 1) (.k (.int 1))) (.cons (.k (.int 16)) .nil))))) (.cons (.set (.n 6) (.bin .Mod (.bi .int (.cons (.v 5) .nil)) (.k (.int 3)))) (.cons (.ifS (.cmp .Eq (.bin .Mod (.bi .int (.cons (.v 5) .nil)) (.k (.int 4))) (.k (.int 1))) (.cons (.setIx 3 (.v 6) (.k (.int 1))) .nil) .nil) (.cons (.ifS (.cmp .Eq (.bin .Mod (.bi .int (.cons (.v 5) .nil)) (.k (.int 4))) (.k (.int 2))) (.cons (.setIx 3 (.v 6) (.k (.int 1000))) .nil) .nil) (.cons (.ifS (.v 2) (.cons (.ret (.bi .tuple (.cons (.v 3) .nil))) .nil) .nil) (.cons (.ifS (.cmp .Eq (.v 5) (.k (.int 0))) (.cons (.ret (.bi .list (.cons (.v 3) .nil))) .nil) .nil) (.cons (.ifS (.cmp .Eq (.v 5) (.k (.int 1))) (.cons (.ret (.bi .tuple (.cons (.sli (.v 3) .no (.yes (.k (.int 2)))) .nil))) .nil) .nil) (.cons (.ifS (.cmp .Eq (.v 5) (.k (.int 2))) (.cons (.ret (.bin .Add (.bi .tuple (.cons (.v 3) .nil)) (.tup (.cons (.k (.int 1)) .nil)))) .nil) .nil) (.cons (.ifS (.cmp .Lt (.v 5) (.k (.int 6))) (.cons (.ret (.sub (.lst (.cons (.tup (.cons (.bi .tuple (.cons (.v 3) .nil)) .nil)) (.cons (.k .none) (.cons (.sub (.v 3) (.k (.int 0))) .nil)))) (.bin .Sub (.v 5) (.k (.int 3))))) .nil) .nil) (.cons (.setIx 3 (.v 6) (.sub (.lst (.cons (.k (.int 0)) (.cons (.neg (.k (.int 1))) (.cons (.k (.int 1001)) (.cons (.bin .Add (.k (.int 1000)) (.sub (.v 3) (.v 6))) (.cons (.k (.bool true)) (.cons (.k (.bool false)) (.cons (.k .none) (.cons (.k (.str "3")) (.cons (.tup (.cons (.k (.int 3)) .nil)) (.cons (.neg (.sub (.v 3) (.v 6))) .nil))))))))))) (.bin .Sub (.v 5) (.k (.int 6))))) (.cons (.ret (.bi .tuple (.cons (.v 3) .nil))) .nil))))))))))))
/-- number 77 -/
def F__law_part_prices : Fn := ⟨3, 7, [], b__law_part_prices, false⟩
def b__law_setup_told : Ss := (.cons (.ret (.tup (.cons (.k (.str "good")) (.cons (.v 3) .nil)))) .nil)
def b__law_setup_told_t : Ss := (.cons (.set (.n 3) (.call 59 (.cons (.v 0) (.cons (.v 1) (.cons (.v 2) .nil))))) .nil)
/-- number 78 -/
def F__law_setup_told : Fn := ⟨3, 5, [], b__law_setup_told, false⟩
def b__law_setups_told_0 : Ss := (.cons (.set (.n 3) (.sub (.v 1) (.v 2))) (.cons (.set (.n 4) (.lst (.cons (.cmp .Eq (.bin .Mod (.bi .int (.cons (.v 3) .nil)) (.k (.int 2))) (.k (.int 0))) (.cons (.cmp .Eq (.bin .Mod (.bi .int (.cons (.bin .FloorDiv (.v 3) (.k (.int 2))) .nil)) (.k (.int 2))) (.k (.int 0))) (.cons (.cmp .Eq (.bin .Mod (.bi .int (.cons (.bin .FloorDiv (.v 3) (.k (.int 4))) .nil)) (.k (.int 2))) (.k (.int 0))) .nil))))) (.cons (.set (.n 5) (.call 75 (.cons (.v 0) (.cons (.bin .Add (.k (.int 46)) (.v 2)) (.cons (.sub (.v 4) (.k (.int 0))) .nil))))) (.cons (.set (.n 6) (.call 76 (.cons (.v 0) (.cons (.bin .Add (.k (.int 48)) (.v 2)) (.cons (.sub (.v 4) (.k (.int 1))) .nil))))) (.cons (.set (.n 7) (.call 77 (.cons (.v 0) (.cons (.bin .Add (.k (.int 50)) (.v 2)) (.cons (.sub (.v 4) (.k (.int 2))) .nil))))) (.cons (.set (.tup [8, 9]) (.call 78 (.cons (.v 5) (.cons (.v 6) (.cons (.v 7) .nil))))) (.cons (.ifS (.cmp .Gt (.v 3) (.k (.int 0))) (.cons (.set (.n 10) (.ite (.not (.sub (.v 4) (.k (.int 0)))) (.k (.str "bits")) (.ite (.not (.sub (.v 4) (.k (.int 1)))) (.k (.str "road")) (.k (.str "prices"))))) (.cons (.ifS (.or (.cmp .NotEq (.v 8) (.k (.str "bad"))) (.or (.not (.isi (.v 9) [.b "str"])) (.cmp .NotEq (.v 9) (.v 10)))) (.cons (.ret (.k (.bool false))) .nil) .nil) .nil)) (.cons (.ifS (.or (.cmp .NotEq (.v 8) (.k (.str "good"))) (.or (.not (.isi (.v 9) [.b "tuple"])) (.cmp .NotEq (.v 9) (.tup (.cons (.k (.str "setup")) (.cons (.v 5) (.cons (.v 6) (.cons (.v 7) .nil)))))))) (.cons (.ret (.k (.bool false))) .nil) (.cons (.ifS (.or (.not (.call 62 (.cons (.sub (.v 9) (.k (.int 1))) .nil))) (.not (.call 64 (.cons (.sub (.v 9) (.k (.int 3))) (.cons (.v 7) .nil))))) (.cons (.ret (.k (.bool false))) .nil) .nil) .nil)) .nil)) .nil)))))))
def b__law_setups_told : Ss := (.cons (.set (.n 1) (.lst (.cons (.k (.int 0)) (.cons (.k (.int 1)) (.cons (.k (.int 2)) (.cons (.k (.int 3)) (.cons (.k (.int 4)) (.cons (.k (.int 5)) (.cons (.k (.int 6)) (.cons (.k (.int 7)) (.cons (.k (.int 1)) (.cons (.k (.int 2)) (.cons (.k (.int 4)) (.cons (.k (.int 4)) .nil)))))))))))))) (.cons (.forS [2, 3, 4, 5, 6, 7, 8, 9, 10] (.n 2) (.r1 (.bi .len (.cons (.v 1) .nil))) b__law_setups_told_0) (.cons (.ret (.cmp .Eq (.call 60 .nil) (.tup (.cons (.k (.str "setup")) (.cons (.k (.int 16)) (.cons (.k (.str "cheapest")) (.cons (.tup (.cons (.k (.int 3)) (.cons (.k (.int 1)) (.cons (.k (.int 1)) .nil)))) .nil))))))) .nil)))
/-- number 79 -/
def F__law_setups_told : Fn := ⟨1, 11, [], b__law_setups_told, false⟩
def b_law__v4_0 : Ss := (.cons (.ifS (.not (.call 74 (.cons (.v 0) (.cons (.bin .Add (.k (.int 1)) (.bin .Mult (.k (.int 9)) (.v 1))) .nil)))) (.cons (.ret (.k (.bool false))) .nil) .nil) .nil)
def b_law__v4 : Ss := (.cons (.forS [1] (.n 1) (.r1 (.k (.int 5))) b_law__v4_0) (.cons (.ret (.call 79 (.cons (.v 0) .nil))) .nil))
/-- number 80 -/
def F_law__v4 : Fn := ⟨1, 2, [], b_law__v4, false⟩
end Mp

/-! the core text of k19, printed by mp.py: the defs that no earlier law has -/
namespace Mp
open PySem PySem.Spec PyProof.Rows L2
def b_setup_of__v2 : Ss := (.cons (.ifS (.or (.not (.call 23 (.cons (.v 0) .nil))) (.or (.cmp .Lt (.v 0) (.g 2)) (.cmp .Gt (.v 0) (.g 3)))) (.cons .bad .nil) .nil) (.cons (.ifS (.or (.not (.isi (.v 1) [.b "str"])) (.cmp .NotIn (.v 1) (.g 1))) (.cons .bad .nil) .nil) (.cons (.ifS (.not (.call 58 (.cons (.v 2) .nil))) (.cons .bad .nil) .nil) (.cons (.ret (.tup (.cons (.k (.str "setup")) (.cons (.v 0) (.cons (.v 1) (.cons (.bi .tuple (.cons (.v 2) .nil)) .nil)))))) .nil))))
/-- number 81 -/
def F_setup_of__v2 : Fn := ⟨3, 3, [], b_setup_of__v2, false⟩
def b_sum_counts : Ss := (.cons (.ret (.tup (.cons (.bin .Add (.sub (.v 0) (.k (.int 0))) (.sub (.v 1) (.k (.int 0)))) (.cons (.bin .Add (.sub (.v 0) (.k (.int 1))) (.sub (.v 1) (.k (.int 1)))) (.cons (.bin .Add (.sub (.v 0) (.k (.int 2))) (.sub (.v 1) (.k (.int 2)))) .nil))))) .nil)
/-- number 82 -/
def F_sum_counts : Fn := ⟨2, 2, [], b_sum_counts, false⟩
def b_times_counts : Ss := (.cons (.ret (.tup (.cons (.bin .Mult (.v 0) (.sub (.v 1) (.k (.int 0)))) (.cons (.bin .Mult (.v 0) (.sub (.v 1) (.k (.int 1)))) (.cons (.bin .Mult (.v 0) (.sub (.v 1) (.k (.int 2)))) .nil))))) .nil)
/-- number 83 -/
def F_times_counts : Fn := ⟨2, 2, [], b_times_counts, false⟩
def b_full_allowed : Ss := (.cons (.ifS (.cmp .Eq (.v 0) (.k (.str "halves"))) (.cons (.ret (.cmp .GtE (.v 1) (.k (.int 4)))) .nil) .nil) (.cons (.ifS (.cmp .Eq (.v 0) (.k (.str "thirds"))) (.cons (.ret (.or (.cmp .Eq (.v 1) (.k (.int 3))) (.cmp .GtE (.v 1) (.k (.int 5))))) .nil) .nil) (.cons (.ret (.k (.bool true))) .nil)))
/-- number 84 -/
def F_full_allowed : Fn := ⟨2, 2, [], b_full_allowed, false⟩
def b_low_allowed : Ss := (.cons (.ret (.or (.cmp .NotEq (.v 0) (.k (.str "split"))) (.cmp .GtE (.v 1) (.k (.int 2))))) .nil)
/-- number 85 -/
def F_low_allowed : Fn := ⟨2, 2, [], b_low_allowed, false⟩
def b_full_counts : Ss := (.cons (.ifS (.cmp .Eq (.v 0) (.k (.str "plain"))) (.cons (.ret (.tup (.cons (.bin .Mult (.v 1) (.v 1)) (.cons (.k (.int 0)) (.cons (.bin .Add (.v 1) (.k (.int 1))) .nil))))) .nil) .nil) (.cons (.ifS (.cmp .Eq (.v 0) (.k (.str "halves"))) (.cons (.set (.n 3) (.bin .FloorDiv (.bin .Add (.v 1) (.k (.int 1))) (.k (.int 2)))) (.cons (.set (.n 4) (.call 83 (.cons (.k (.int 2)) (.cons (.sub (.sub (.v 2) (.v 3)) (.k (.int 1))) .nil)))) (.cons (.set (.n 4) (.call 82 (.cons (.v 4) (.cons (.sub (.sub (.v 2) (.bin .Add (.v 3) (.k (.int 1)))) (.k (.int 1))) .nil)))) (.cons (.ret (.call 82 (.cons (.v 4) (.cons (.tup (.cons (.k (.int 0)) (.cons (.bin .Add (.bin .Add (.bin .Mult (.k (.int 2)) (.v 3)) (.bin .Mult (.k (.int 2)) (.bin .Add (.bin .Mult (.k (.int 2)) (.v 3)) (.k (.int 2))))) (.bin .Sub (.bin .Mult (.k (.int 2)) (.v 1)) (.v 3))) (.cons (.k (.int 6)) .nil)))) .nil)))) .nil)))) .nil) (.cons (.set (.n 5) (.bin .FloorDiv (.bin .Add (.v 1) (.k (.int 2))) (.k (.int 3)))) (.cons (.set (.n 4) (.call 83 (.cons (.k (.int 3)) (.cons (.sub (.sub (.v 2) (.v 5)) (.k (.int 1))) .nil)))) (.cons (.set (.n 4) (.call 82 (.cons (.v 4) (.cons (.call 83 (.cons (.k (.int 3)) (.cons (.sub (.sub (.v 2) (.bin .Add (.v 5) (.k (.int 1)))) (.k (.int 1))) .nil))) .nil)))) (.cons (.set (.n 6) (.bin .Sub (.bin .Add (.bin .Add (.bin .Mult (.k (.int 6)) (.v 5)) (.bin .Mult (.k (.int 7)) (.bin .Add (.bin .Mult (.k (.int 2)) (.v 5)) (.k (.int 2))))) (.bin .Mult (.k (.int 6)) (.v 1))) (.bin .Mult (.k (.int 6)) (.v 5)))) (.cons (.ret (.call 82 (.cons (.v 4) (.cons (.tup (.cons (.k (.int 0)) (.cons (.v 6) (.cons (.k (.int 17)) .nil)))) .nil)))) .nil)))))))
/-- number 86 -/
def F_full_counts : Fn := ⟨3, 7, [], b_full_counts, false⟩
def b_low_counts : Ss := (.cons (.ifS (.cmp .Eq (.v 0) (.k (.str "plain"))) (.cons (.ret (.tup (.cons (.bin .FloorDiv (.bin .Mult (.v 1) (.bin .Add (.v 1) (.k (.int 1)))) (.k (.int 2))) (.cons (.k (.int 0)) (.cons (.bin .Add (.v 1) (.k (.int 1))) .nil))))) .nil) .nil) (.cons (.ifS (.cmp .Eq (.v 0) (.k (.str "whole"))) (.cons (.ret (.sub (.sub (.v 2) (.v 1)) (.k (.int 1)))) .nil) .nil) (.cons (.set (.n 4) (.bin .FloorDiv (.bin .Add (.v 1) (.k (.int 1))) (.k (.int 2)))) (.cons (.set (.n 5) (.bin .Sub (.v 1) (.v 4))) (.cons (.set (.n 6) (.call 82 (.cons (.sub (.sub (.v 2) (.v 4)) (.k (.int 1))) (.cons (.call 83 (.cons (.k (.int 2)) (.cons (.sub (.sub (.v 3) (.v 5)) (.k (.int 1))) .nil))) .nil)))) (.cons (.ret (.call 82 (.cons (.v 6) (.cons (.tup (.cons (.k (.int 0)) (.cons (.bin .Mult (.k (.int 2)) (.v 5)) (.cons (.k (.int 2)) .nil)))) .nil)))) .nil))))))
/-- number 87 -/
def F_low_counts : Fn := ⟨4, 7, [], b_low_counts, false⟩
def b_cheapest_0 : Ss := (.cons (.ifS (.cmp .Lt (.call 31 (.cons (.sub (.v 3) (.k (.int 1))) (.cons (.v 1) .nil))) (.call 31 (.cons (.sub (.v 2) (.k (.int 1))) (.cons (.v 1) .nil)))) (.cons (.set (.n 2) (.v 3)) .nil) .nil) .nil)
def b_cheapest : Ss := (.cons (.set (.n 2) (.sub (.v 0) (.k (.int 0)))) (.cons (.forS [0, 3] (.n 3) (.it (.sli (.v 0) (.yes (.k (.int 1))) .no)) b_cheapest_0) (.cons (.ret (.v 2)) .nil)))
/-- number 88 -/
def F_cheapest : Fn := ⟨2, 4, [], b_cheapest, false⟩
def b_full_entry : Ss := (.cons (.set (.n 3) (.sub (.v 1) (.k (.int 2)))) (.cons (.ifS (.cmp .Eq (.v 3) (.k (.str "cheapest"))) (.cons (.set (.n 4) (.comp (.v 5) (.n 5) (.it (.g 5)) (.yes (.call 84 (.cons (.v 5) (.cons (.v 0) .nil)))) [5])) (.cons (.ret (.call 88 (.cons (.comp (.tup (.cons (.v 5) (.cons (.call 86 (.cons (.v 5) (.cons (.v 0) (.cons (.v 2) .nil)))) .nil))) (.n 5) (.it (.v 4)) .no [5]) (.cons (.sub (.v 1) (.k (.int 3))) .nil)))) .nil)) .nil) (.cons (.ifS (.not (.call 84 (.cons (.v 3) (.cons (.v 0) .nil)))) (.cons (.set (.n 3) (.k (.str "plain"))) .nil) .nil) (.cons (.ret (.tup (.cons (.v 3) (.cons (.call 86 (.cons (.v 3) (.cons (.v 0) (.cons (.v 2) .nil)))) .nil)))) .nil))))
/-- number 89 -/
def F_full_entry : Fn := ⟨3, 6, [], b_full_entry, false⟩
def b_low_entry : Ss := (.cons (.set (.n 4) (.sub (.dctK [("plain", .str "plain"), ("halves", .str "split"), ("thirds", .str "whole"), ("cheapest", .str "")]) (.sub (.v 1) (.k (.int 2))))) (.cons (.ifS (.cmp .Eq (.v 4) (.k (.str ""))) (.cons (.set (.n 5) (.comp (.v 6) (.n 6) (.it (.g 6)) (.yes (.call 85 (.cons (.v 6) (.cons (.v 0) .nil)))) [6])) (.cons (.ret (.call 88 (.cons (.comp (.tup (.cons (.v 6) (.cons (.call 87 (.cons (.v 6) (.cons (.v 0) (.cons (.v 2) (.cons (.v 3) .nil))))) .nil))) (.n 6) (.it (.v 5)) .no [6]) (.cons (.sub (.v 1) (.k (.int 3))) .nil)))) .nil)) .nil) (.cons (.ifS (.not (.call 85 (.cons (.v 4) (.cons (.v 0) .nil)))) (.cons (.set (.n 4) (.k (.str "plain"))) .nil) .nil) (.cons (.ret (.tup (.cons (.v 4) (.cons (.call 87 (.cons (.v 4) (.cons (.v 0) (.cons (.v 2) (.cons (.v 3) .nil))))) .nil)))) .nil))))
/-- number 90 -/
def F_low_entry : Fn := ⟨4, 7, [], b_low_entry, false⟩
def b_road_table_0 : Ss := (.cons (.app 2 (.call 89 (.cons (.v 4) (.cons (.v 1) (.cons (.v 2) .nil))))) (.cons (.app 3 (.call 90 (.cons (.v 4) (.cons (.v 1) (.cons (.v 2) (.cons (.v 3) .nil)))))) .nil))
def b_road_table : Ss := (.cons (.set (.n 2) (.lst (.cons (.k .none) .nil))) (.cons (.set (.n 3) (.lst (.cons (.k .none) .nil))) (.cons (.forS [0, 4] (.n 4) (.r2 (.k (.int 1)) (.bin .Add (.v 0) (.k (.int 1)))) b_road_table_0) (.cons (.ret (.tup (.cons (.k (.str "roads")) (.cons (.bi .tuple (.cons (.v 2) .nil)) (.cons (.bi .tuple (.cons (.v 3) .nil)) .nil))))) .nil))))
/-- number 91 -/
def F_road_table : Fn := ⟨2, 5, [], b_road_table, false⟩
def b__law_sum : Ss := (.cons (.ret (.tup (.cons (.bin .Add (.sub (.v 0) (.k (.int 0))) (.sub (.v 1) (.k (.int 0)))) (.cons (.bin .Add (.sub (.v 0) (.k (.int 1))) (.sub (.v 1) (.k (.int 1)))) (.cons (.bin .Add (.sub (.v 0) (.k (.int 2))) (.sub (.v 1) (.k (.int 2)))) .nil))))) .nil)
/-- number 92 -/
def F__law_sum : Fn := ⟨2, 2, [], b__law_sum, false⟩
def b__law_many : Ss := (.cons (.ret (.tup (.cons (.bin .Mult (.v 0) (.sub (.v 1) (.k (.int 0)))) (.cons (.bin .Mult (.v 0) (.sub (.v 1) (.k (.int 1)))) (.cons (.bin .Mult (.v 0) (.sub (.v 1) (.k (.int 2)))) .nil))))) .nil)
/-- number 93 -/
def F__law_many : Fn := ⟨2, 2, [], b__law_many, false⟩
def b__law_price : Ss := (.cons (.ret (.bin .Add (.bin .Add (.bin .Mult (.sub (.v 0) (.k (.int 0))) (.sub (.v 1) (.k (.int 0)))) (.bin .Mult (.sub (.v 0) (.k (.int 1))) (.sub (.v 1) (.k (.int 1))))) (.bin .Mult (.sub (.v 0) (.k (.int 2))) (.sub (.v 1) (.k (.int 2)))))) .nil)
/-- number 94 -/
def F__law_price : Fn := ⟨2, 2, [], b__law_price, false⟩
def b__law_full_ways : Ss := (.cons (.set (.n 2) (.lst (.cons (.tup (.cons (.k (.str "plain")) (.cons (.tup (.cons (.bin .Mult (.v 0) (.v 0)) (.cons (.k (.int 0)) (.cons (.bin .Add (.v 0) (.k (.int 1))) .nil)))) .nil))) .nil))) (.cons (.ifS (.cmp .GtE (.v 0) (.k (.int 4))) (.cons (.set (.n 3) (.bin .FloorDiv (.bin .Add (.v 0) (.k (.int 1))) (.k (.int 2)))) (.cons (.set (.n 4) (.call 92 (.cons (.call 93 (.cons (.k (.int 2)) (.cons (.sub (.sub (.v 1) (.v 3)) (.k (.int 1))) .nil))) (.cons (.sub (.sub (.v 1) (.bin .Add (.v 3) (.k (.int 1)))) (.k (.int 1))) .nil)))) (.cons (.app 2 (.tup (.cons (.k (.str "halves")) (.cons (.call 92 (.cons (.v 4) (.cons (.tup (.cons (.k (.int 0)) (.cons (.bin .Add (.bin .Add (.bin .Mult (.k (.int 2)) (.v 3)) (.bin .Mult (.k (.int 2)) (.bin .Add (.bin .Mult (.k (.int 2)) (.v 3)) (.k (.int 2))))) (.bin .Sub (.bin .Mult (.k (.int 2)) (.v 0)) (.v 3))) (.cons (.k (.int 6)) .nil)))) .nil))) .nil)))) .nil))) .nil) (.cons (.ifS (.or (.cmp .Eq (.v 0) (.k (.int 3))) (.cmp .GtE (.v 0) (.k (.int 5)))) (.cons (.set (.n 5) (.bin .FloorDiv (.bin .Add (.v 0) (.k (.int 2))) (.k (.int 3)))) (.cons (.set (.n 4) (.call 92 (.cons (.call 93 (.cons (.k (.int 3)) (.cons (.sub (.sub (.v 1) (.v 5)) (.k (.int 1))) .nil))) (.cons (.call 93 (.cons (.k (.int 3)) (.cons (.sub (.sub (.v 1) (.bin .Add (.v 5) (.k (.int 1)))) (.k (.int 1))) .nil))) .nil)))) (.cons (.set (.n 6) (.bin .Add (.bin .Add (.bin .Add (.bin .Add (.bin .Mult (.k (.int 6)) (.v 5)) (.bin .Mult (.k (.int 7)) (.bin .Add (.bin .Mult (.k (.int 2)) (.v 5)) (.k (.int 2))))) (.bin .Sub (.bin .Mult (.k (.int 2)) (.v 0)) (.v 5))) (.bin .Sub (.bin .Mult (.k (.int 2)) (.v 0)) (.bin .Mult (.k (.int 2)) (.v 5)))) (.bin .Sub (.bin .Mult (.k (.int 2)) (.v 0)) (.bin .Mult (.k (.int 3)) (.v 5))))) (.cons (.app 2 (.tup (.cons (.k (.str "thirds")) (.cons (.call 92 (.cons (.v 4) (.cons (.tup (.cons (.k (.int 0)) (.cons (.v 6) (.cons (.k (.int 17)) .nil)))) .nil))) .nil)))) .nil)))) .nil) (.cons (.ret (.v 2)) .nil))))
/-- number 95 -/
def F__law_full_ways : Fn := ⟨2, 7, [], b__law_full_ways, false⟩
def b__law_low_ways : Ss := (.cons (.set (.n 3) (.lst (.cons (.tup (.cons (.k (.str "plain")) (.cons (.tup (.cons (.bin .FloorDiv (.bin .Mult (.v 0) (.bin .Add (.v 0) (.k (.int 1)))) (.k (.int 2))) (.cons (.k (.int 0)) (.cons (.bin .Add (.v 0) (.k (.int 1))) .nil)))) .nil))) .nil))) (.cons (.ifS (.cmp .GtE (.v 0) (.k (.int 2))) (.cons (.set (.n 4) (.bin .FloorDiv (.bin .Add (.v 0) (.k (.int 1))) (.k (.int 2)))) (.cons (.set (.n 5) (.call 92 (.cons (.sub (.sub (.v 1) (.v 4)) (.k (.int 1))) (.cons (.call 93 (.cons (.k (.int 2)) (.cons (.sub (.sub (.v 2) (.bin .Sub (.v 0) (.v 4))) (.k (.int 1))) .nil))) .nil)))) (.cons (.app 3 (.tup (.cons (.k (.str "split")) (.cons (.call 92 (.cons (.v 5) (.cons (.tup (.cons (.k (.int 0)) (.cons (.bin .Mult (.k (.int 2)) (.bin .Sub (.v 0) (.v 4))) (.cons (.k (.int 2)) .nil)))) .nil))) .nil)))) .nil))) .nil) (.cons (.app 3 (.tup (.cons (.k (.str "whole")) (.cons (.sub (.sub (.v 1) (.v 0)) (.k (.int 1))) .nil)))) (.cons (.ret (.v 3)) .nil))))
/-- number 96 -/
def F__law_low_ways : Fn := ⟨3, 6, [], b__law_low_ways, false⟩
def b__law_chosen_0 : Ss := (.cons (.ifS (.cmp .Eq (.sub (.v 4) (.k (.int 0))) (.v 1)) (.cons (.ret (.v 4)) .nil) .nil) (.cons (.ifS (.and (.cmp .Eq (.v 1) (.k (.str "cheapest"))) (.cmp .Lt (.call 94 (.cons (.sub (.v 4) (.k (.int 1))) (.cons (.v 2) .nil))) (.call 94 (.cons (.sub (.v 3) (.k (.int 1))) (.cons (.v 2) .nil))))) (.cons (.set (.n 3) (.v 4)) .nil) .nil) .nil))
def b__law_chosen : Ss := (.cons (.set (.n 3) (.sub (.v 0) (.k (.int 0)))) (.cons (.forS [0, 4] (.n 4) (.it (.v 0)) b__law_chosen_0) (.cons (.ret (.v 3)) .nil)))
/-- number 97 -/
def F__law_chosen : Fn := ⟨3, 5, [], b__law_chosen, false⟩
def b__law_roads_0 : Ss := (.cons (.app 3 (.call 97 (.cons (.call 95 (.cons (.v 6) (.cons (.v 3) .nil))) (.cons (.v 1) (.cons (.v 2) .nil))))) (.cons (.app 4 (.call 97 (.cons (.call 96 (.cons (.v 6) (.cons (.v 3) (.cons (.v 4) .nil)))) (.cons (.v 5) (.cons (.v 2) .nil))))) .nil))
def b__law_roads : Ss := (.cons (.set (.n 3) (.lst (.cons (.k .none) .nil))) (.cons (.set (.n 4) (.lst (.cons (.k .none) .nil))) (.cons (.set (.n 5) (.sub (.dctK [("plain", .str "plain"), ("halves", .str "split"), ("thirds", .str "whole"), ("cheapest", .str "cheapest")]) (.v 1))) (.cons (.forS [0, 6] (.n 6) (.r2 (.k (.int 1)) (.bin .Add (.v 0) (.k (.int 1)))) b__law_roads_0) (.cons (.ret (.tup (.cons (.v 3) (.cons (.v 4) .nil)))) .nil)))))
/-- number 98 -/
def F__law_roads : Fn := ⟨3, 7, [], b__law_roads, false⟩
def b__law_prices : Ss := (.cons (.callF 2 10 (.cons (.v 0) (.cons (.v 1) (.cons (.k (.int 3)) (.cons (.k (.int 9)) .nil))))) (.cons (.callF 3 10 (.cons (.v 0) (.cons (.bin .Add (.v 1) (.k (.int 1))) (.cons (.k (.int 3)) (.cons (.k (.int 1000)) .nil))))) (.cons (.set (.n 4) (.call 11 (.cons (.v 0) (.cons (.bin .Add (.v 1) (.k (.int 2))) (.cons (.k (.int 3)) .nil))))) (.cons (.ifS (.cmp .Eq (.v 4) (.k (.int 0))) (.cons (.ret (.tup (.cons (.bin .Add (.sub (.v 2) (.k (.int 0))) (.k (.int 1))) (.cons (.bin .Add (.sub (.v 2) (.k (.int 1))) (.k (.int 1))) (.cons (.bin .Add (.sub (.v 2) (.k (.int 2))) (.k (.int 1))) .nil))))) .nil) .nil) (.cons (.ifS (.cmp .Eq (.v 4) (.k (.int 1))) (.cons (.ret (.tup (.cons (.bin .Add (.sub (.v 3) (.k (.int 0))) (.k (.int 1))) (.cons (.bin .Add (.sub (.v 3) (.k (.int 1))) (.k (.int 1))) (.cons (.bin .Add (.sub (.v 3) (.k (.int 2))) (.k (.int 1))) .nil))))) .nil) .nil) (.cons (.ret (.tup (.cons (.bin .Add (.sub (.v 3) (.k (.int 0))) (.k (.int 1))) (.cons (.bin .Add (.k (.int 1)) (.bin .Mod (.bi .int (.cons (.sub (.v 2) (.k (.int 1))) .nil)) (.k (.int 3)))) (.cons (.bin .Add (.k (.int 1)) (.bin .Mod (.bi .int (.cons (.sub (.v 2) (.k (.int 2))) .nil)) (.k (.int 3)))) .nil))))) .nil))))))
/-- number 99 -/
def F__law_prices : Fn := ⟨2, 5, [], b__law_prices, false⟩
def b__law_near_prices : Ss := (.cons (.set (.n 2) (.bin .Add (.k (.int 1)) (.call 11 (.cons (.v 0) (.cons (.v 1) (.cons (.k (.int 9)) .nil)))))) (.cons (.set (.n 3) (.bin .Add (.k (.int 1)) (.call 11 (.cons (.v 0) (.cons (.bin .Add (.v 1) (.k (.int 1))) (.cons (.k (.int 100)) .nil)))))) (.cons (.ret (.tup (.cons (.bin .Sub (.bin .Add (.bin .Add (.bin .Mult (.k (.int 31)) (.v 2)) (.bin .Mult (.k (.int 6)) (.v 3))) (.call 11 (.cons (.v 0) (.cons (.bin .Add (.v 1) (.k (.int 2))) (.cons (.k (.int 3)) .nil))))) (.k (.int 1))) (.cons (.bin .Mult (.k (.int 2)) (.v 2)) (.cons (.v 3) .nil))))) .nil)))
/-- number 100 -/
def F__law_near_prices : Fn := ⟨2, 4, [], b__law_near_prices, false⟩
def b__law_is_entry_0 : Ss := (.cons (.ifS (.not (.call 62 (.cons (.v 2) .nil))) (.cons (.ret (.k (.bool false))) .nil) .nil) .nil)
def b__law_is_entry : Ss := (.cons (.ifS (.or (.not (.isi (.v 0) [.b "tuple"])) (.or (.cmp .NotEq (.bi .len (.cons (.v 0) .nil)) (.k (.int 2))) (.not (.isi (.sub (.v 0) (.k (.int 0))) [.b "str"])))) (.cons (.ret (.k (.bool false))) .nil) .nil) (.cons (.ifS (.or (.not (.isi (.sub (.v 0) (.k (.int 1))) [.b "tuple"])) (.cmp .NotEq (.bi .len (.cons (.sub (.v 0) (.k (.int 1))) .nil)) (.k (.int 3)))) (.cons (.ret (.k (.bool false))) .nil) .nil) (.cons (.forS [2] (.n 2) (.it (.sub (.v 0) (.k (.int 1)))) b__law_is_entry_0) (.cons (.ret (.cmp .Eq (.v 0) (.v 1))) .nil))))
/-- number 101 -/
def F__law_is_entry : Fn := ⟨2, 3, [], b__law_is_entry, false⟩
def b__law_is_table_0 : Ss := (.cons (.ifS (.or (.not (.call 101 (.cons (.sub (.sub (.v 0) (.k (.int 1))) (.v 5)) (.cons (.sub (.v 2) (.v 5)) .nil)))) (.not (.call 101 (.cons (.sub (.sub (.v 0) (.k (.int 2))) (.v 5)) (.cons (.sub (.v 3) (.v 5)) .nil))))) (.cons (.ret (.k (.bool false))) .nil) .nil) .nil)
def b__law_is_table_1 : Ss := (.cons (.ifS (.or (.not (.isi (.sub (.v 0) (.bin .Add (.k (.int 1)) (.v 4))) [.b "tuple"])) (.or (.cmp .NotEq (.bi .len (.cons (.sub (.v 0) (.bin .Add (.k (.int 1)) (.v 4))) .nil)) (.bin .Add (.v 1) (.k (.int 1)))) (.cmp .IsNot (.sub (.sub (.v 0) (.bin .Add (.k (.int 1)) (.v 4))) (.k (.int 0))) (.k .none)))) (.cons (.ret (.k (.bool false))) .nil) .nil) .nil)
def b__law_is_table : Ss := (.cons (.ifS (.or (.not (.isi (.v 0) [.b "tuple"])) (.or (.cmp .NotEq (.bi .len (.cons (.v 0) .nil)) (.k (.int 3))) (.cmp .NotEq (.sub (.v 0) (.k (.int 0))) (.k (.str "roads"))))) (.cons (.ret (.k (.bool false))) .nil) .nil) (.cons (.forS [4, 5] (.n 4) (.r1 (.k (.int 2))) b__law_is_table_1) (.cons (.forS [1, 4, 5] (.n 5) (.r2 (.k (.int 1)) (.bin .Add (.v 1) (.k (.int 1)))) b__law_is_table_0) (.cons (.ret (.k (.bool true))) .nil))))
/-- number 102 -/
def F__law_is_table : Fn := ⟨4, 6, [], b__law_is_table, false⟩
def b__law_full_tree_0 : Ss := (.cons (.ioC 7 92 (.cons (.v 7) .nil) 103 (.cons (.v 10) (.cons (.v 1) (.cons (.v 2) .nil)))) .nil)
def b__law_full_tree : Ss := (.cons (.ifS (.cmp .Eq (.bi .len (.cons (.v 1) .nil)) (.k (.int 0))) (.cons (.ret (.sub (.sub (.v 2) (.v 0)) (.k (.int 1)))) .nil) .nil) (.cons (.popF (some 3) 1) (.cons (.set (.n 4) (.bin .Add (.bin .Add (.lst (.cons (.k (.str "plain")) .nil)) (.ite (.cmp .GtE (.v 0) (.k (.int 4))) (.lst (.cons (.k (.str "halves")) .nil)) (.lst .nil))) (.ite (.or (.cmp .Eq (.v 0) (.k (.int 3))) (.cmp .GtE (.v 0) (.k (.int 5)))) (.lst (.cons (.k (.str "thirds")) .nil)) (.lst .nil)))) (.cons (.set (.n 5) (.ite (.cmp .Eq (.bin .Mod (.bi .int (.cons (.v 3) .nil)) (.k (.int 2))) (.k (.int 0))) (.sub (.sub (.v 2) (.v 0)) (.k (.int 0))) (.sub (.v 4) (.bin .Mod (.bi .int (.cons (.bin .FloorDiv (.v 3) (.k (.int 2))) .nil)) (.bi .len (.cons (.v 4) .nil)))))) (.cons (.ifS (.cmp .Eq (.v 5) (.k (.str "plain"))) (.cons (.ret (.tup (.cons (.bin .Mult (.v 0) (.v 0)) (.cons (.k (.int 0)) (.cons (.bin .Add (.v 0) (.k (.int 1))) .nil))))) .nil) .nil) (.cons (.ifS (.cmp .Eq (.v 5) (.k (.str "halves"))) (.cons (.set (.n 6) (.bin .FloorDiv (.bin .Add (.v 0) (.k (.int 1))) (.k (.int 2)))) (.cons (.set (.n 7) (.tup (.cons (.k (.int 0)) (.cons (.bin .Add (.bin .Add (.bin .Mult (.k (.int 2)) (.v 6)) (.bin .Mult (.k (.int 2)) (.bin .Add (.bin .Mult (.k (.int 2)) (.v 6)) (.k (.int 2))))) (.bin .Sub (.bin .Mult (.k (.int 2)) (.v 0)) (.v 6))) (.cons (.k (.int 6)) .nil))))) (.cons (.set (.n 8) (.lst (.cons (.v 6) (.cons (.v 6) (.cons (.bin .Add (.v 6) (.k (.int 1))) .nil))))) .nil))) (.cons (.set (.n 9) (.bin .FloorDiv (.bin .Add (.v 0) (.k (.int 2))) (.k (.int 3)))) (.cons (.set (.n 7) (.tup (.cons (.k (.int 0)) (.cons (.bin .Add (.bin .Add (.bin .Add (.bin .Add (.bin .Mult (.k (.int 6)) (.v 9)) (.bin .Mult (.k (.int 7)) (.bin .Add (.bin .Mult (.k (.int 2)) (.v 9)) (.k (.int 2))))) (.bin .Sub (.bin .Mult (.k (.int 2)) (.v 0)) (.v 9))) (.bin .Sub (.bin .Mult (.k (.int 2)) (.v 0)) (.bin .Mult (.k (.int 2)) (.v 9)))) (.bin .Sub (.bin .Mult (.k (.int 2)) (.v 0)) (.bin .Mult (.k (.int 3)) (.v 9)))) (.cons (.k (.int 17)) .nil))))) (.cons (.set (.n 8) (.lst (.cons (.v 9) (.cons (.v 9) (.cons (.v 9) (.cons (.bin .Add (.v 9) (.k (.int 1))) (.cons (.bin .Add (.v 9) (.k (.int 1))) (.cons (.bin .Add (.v 9) (.k (.int 1))) .nil)))))))) .nil)))) (.cons (.forS [0, 3, 4, 5, 6, 8, 9, 10] (.n 10) (.it (.v 8)) b__law_full_tree_0) (.cons (.ret (.v 7)) .nil))))))))
/-- number 103 -/
def F__law_full_tree : Fn := ⟨3, 11, [1], b__law_full_tree, false⟩
def b__law_low_tree_0 : Ss := (.cons (.ioC 8 92 (.cons (.v 8) .nil) 104 (.cons (.bin .Sub (.v 0) (.v 7)) (.cons (.v 1) (.cons (.v 2) (.cons (.v 3) .nil))))) .nil)
def b__law_low_tree : Ss := (.cons (.ifS (.cmp .Eq (.bi .len (.cons (.v 1) .nil)) (.k (.int 0))) (.cons (.ret (.sub (.sub (.v 3) (.v 0)) (.k (.int 1)))) .nil) .nil) (.cons (.popF (some 4) 1) (.cons (.set (.n 5) (.bin .Add (.lst (.cons (.k (.str "plain")) (.cons (.k (.str "whole")) .nil))) (.ite (.cmp .GtE (.v 0) (.k (.int 2))) (.lst (.cons (.k (.str "split")) .nil)) (.lst .nil)))) (.cons (.set (.n 6) (.ite (.cmp .Eq (.bin .Mod (.bi .int (.cons (.v 4) .nil)) (.k (.int 2))) (.k (.int 0))) (.sub (.sub (.v 3) (.v 0)) (.k (.int 0))) (.sub (.v 5) (.bin .Mod (.bi .int (.cons (.bin .FloorDiv (.v 4) (.k (.int 2))) .nil)) (.bi .len (.cons (.v 5) .nil)))))) (.cons (.ifS (.cmp .Eq (.v 6) (.k (.str "plain"))) (.cons (.ret (.tup (.cons (.bin .FloorDiv (.bin .Mult (.v 0) (.bin .Add (.v 0) (.k (.int 1)))) (.k (.int 2))) (.cons (.k (.int 0)) (.cons (.bin .Add (.v 0) (.k (.int 1))) .nil))))) .nil) .nil) (.cons (.ifS (.cmp .Eq (.v 6) (.k (.str "whole"))) (.cons (.ioR 103 (.cons (.v 0) (.cons (.v 1) (.cons (.v 2) .nil)))) .nil) .nil) (.cons (.set (.n 7) (.bin .FloorDiv (.bin .Add (.v 0) (.k (.int 1))) (.k (.int 2)))) (.cons (.ioC 8 92 (.cons (.tup (.cons (.k (.int 0)) (.cons (.bin .Mult (.k (.int 2)) (.bin .Sub (.v 0) (.v 7))) (.cons (.k (.int 2)) .nil)))) .nil) 103 (.cons (.v 7) (.cons (.v 1) (.cons (.v 2) .nil)))) (.cons (.forS [4, 5, 6, 9] (.n 9) (.r1 (.k (.int 2))) b__law_low_tree_0) (.cons (.ret (.v 8)) .nil))))))))))
/-- number 104 -/
def F__law_low_tree : Fn := ⟨4, 10, [1], b__law_low_tree, false⟩
def b__law_none_cheaper_0 : Ss := (.cons (.set (.n 8) (.bin .Add (.k (.int 1)) (.call 11 (.cons (.v 0) (.cons (.bin .Add (.k (.int 20)) (.bin .Mult (.k (.int 3)) (.v 7))) (.cons (.v 2) .nil)))))) (.cons (.callF 9 10 (.cons (.v 0) (.cons (.bin .Add (.k (.int 21)) (.bin .Mult (.k (.int 3)) (.v 7))) (.cons (.k (.int 60)) (.cons (.k (.int 60)) .nil))))) (.cons (.io (some 10) 103 (.cons (.v 8) (.cons (.v 9) (.cons (.v 5) .nil)))) (.cons (.ifS (.cmp .Gt (.call 94 (.cons (.sub (.sub (.sub (.v 1) (.k (.int 1))) (.v 8)) (.k (.int 1))) (.cons (.v 4) .nil))) (.call 94 (.cons (.v 10) (.cons (.v 4) .nil)))) (.cons (.ret (.k (.bool false))) .nil) .nil) (.cons (.callF 9 10 (.cons (.v 0) (.cons (.bin .Add (.k (.int 22)) (.bin .Mult (.k (.int 3)) (.v 7))) (.cons (.k (.int 60)) (.cons (.k (.int 60)) .nil))))) (.cons (.io (some 10) 104 (.cons (.v 8) (.cons (.v 9) (.cons (.v 5) (.cons (.v 6) .nil))))) (.cons (.ifS (.cmp .Gt (.call 94 (.cons (.sub (.sub (.sub (.v 1) (.k (.int 2))) (.v 8)) (.k (.int 1))) (.cons (.v 4) .nil))) (.call 94 (.cons (.v 10) (.cons (.v 4) .nil)))) (.cons (.ret (.k (.bool false))) .nil) .nil) (.cons (.set (.n 11) (.call 31 (.cons (.v 10) (.cons (.v 4) .nil)))) (.cons (.ifS (.or (.not (.call 62 (.cons (.v 11) .nil))) (.cmp .NotEq (.v 11) (.call 94 (.cons (.v 10) (.cons (.v 4) .nil))))) (.cons (.ret (.k (.bool false))) .nil) .nil) .nil)))))))))
def b__law_none_cheaper : Ss := (.cons (.set (.tup [5, 6]) (.v 3)) (.cons (.forS [3, 7, 8, 9, 10, 11] (.n 7) (.r1 (.k (.int 4))) b__law_none_cheaper_0) (.cons (.ret (.k (.bool true))) .nil)))
/-- number 105 -/
def F__law_none_cheaper : Fn := ⟨5, 12, [], b__law_none_cheaper, false⟩
def b_law__v5_1 : Ss := (.cons (.ifS (.cmp .Gt (.call 94 (.cons (.sub (.sub (.sub (.v 8) (.v 12)) (.v 11)) (.k (.int 1))) (.cons (.v 1) .nil))) (.call 94 (.cons (.sub (.sub (.sub (.v 10) (.v 12)) (.v 11)) (.k (.int 1))) (.cons (.v 1) .nil)))) (.cons (.ret (.k (.bool false))) .nil) .nil) .nil)
def b_law__v5_0 : Ss := (.cons (.forS [0, 2, 4, 12] (.n 12) (.r2 (.k (.int 1)) (.k (.int 3))) b_law__v5_1) .nil)
def b_law__v5 : Ss := (.cons (.set (.n 1) (.call 99 (.cons (.v 0) (.cons (.k (.int 1)) .nil)))) (.cons (.ifS (.cmp .Eq (.call 11 (.cons (.v 0) (.cons (.k (.int 4)) (.cons (.k (.int 4)) .nil)))) (.k (.int 0))) (.cons (.set (.n 1) (.call 100 (.cons (.v 0) (.cons (.k (.int 5)) .nil)))) .nil) .nil) (.cons (.set (.n 2) (.ite (.cmp .Eq (.call 11 (.cons (.v 0) (.cons (.k (.int 8)) (.cons (.k (.int 4)) .nil)))) (.k (.int 0))) (.k (.int 64)) (.bin .Add (.k (.int 1)) (.call 11 (.cons (.v 0) (.cons (.k (.int 9)) (.cons (.k (.int 63)) .nil))))))) (.cons (.set (.n 3) (.comp (.bin .Add (.k (.int 8)) (.v 4)) (.n 4) (.it (.call 10 (.cons (.v 0) (.cons (.k (.int 10)) (.cons (.k (.int 2)) (.cons (.k (.int 9)) .nil)))))) .no [4])) (.cons (.set (.n 5) (.sub (.lst (.cons (.k (.str "cheapest")) (.cons (.k (.str "plain")) (.cons (.k (.str "halves")) (.cons (.k (.str "thirds")) .nil))))) (.call 11 (.cons (.v 0) (.cons (.k (.int 11)) (.cons (.k (.int 4)) .nil)))))) (.cons (.set (.tup [6, 7]) (.call 98 (.cons (.v 2) (.cons (.k (.str "cheapest")) (.cons (.v 1) .nil))))) (.cons (.set (.n 8) (.call 91 (.cons (.v 2) (.cons (.call 81 (.cons (.sub (.v 3) (.k (.int 0))) (.cons (.k (.str "cheapest")) (.cons (.v 1) .nil)))) .nil)))) (.cons (.ifS (.or (.not (.call 102 (.cons (.v 8) (.cons (.v 2) (.cons (.v 6) (.cons (.v 7) .nil)))))) (.not (.call 105 (.cons (.v 0) (.cons (.v 8) (.cons (.v 2) (.cons (.tup (.cons (.v 6) (.cons (.v 7) .nil))) (.cons (.v 1) .nil)))))))) (.cons (.ret (.k (.bool false))) .nil) .nil) (.cons (.set (.n 9) (.bin .Add (.k (.int 1)) (.call 11 (.cons (.v 0) (.cons (.k (.int 12)) (.cons (.v 2) .nil)))))) (.cons (.ifS (.not (.call 102 (.cons (.call 91 (.cons (.v 9) (.cons (.call 81 (.cons (.sub (.v 3) (.k (.int 1))) (.cons (.k (.str "cheapest")) (.cons (.v 1) .nil)))) .nil))) (.cons (.v 9) (.cons (.v 6) (.cons (.v 7) .nil)))))) (.cons (.ret (.k (.bool false))) .nil) .nil) (.cons (.ifS (.cmp .Eq (.v 5) (.k (.str "cheapest"))) (.cons (.ret (.cmp .Eq (.v 8) (.call 91 (.cons (.v 2) (.cons (.call 81 (.cons (.sub (.v 3) (.k (.int 1))) (.cons (.v 5) (.cons (.v 1) .nil)))) .nil))))) .nil) .nil) (.cons (.set (.tup [6, 7]) (.call 98 (.cons (.v 2) (.cons (.v 5) (.cons (.v 1) .nil))))) (.cons (.set (.n 10) (.call 91 (.cons (.v 2) (.cons (.call 81 (.cons (.sub (.v 3) (.k (.int 1))) (.cons (.v 5) (.cons (.v 1) .nil)))) .nil)))) (.cons (.ifS (.not (.call 102 (.cons (.v 10) (.cons (.v 2) (.cons (.v 6) (.cons (.v 7) .nil)))))) (.cons (.ret (.k (.bool false))) .nil) .nil) (.cons (.forS [0, 2, 4, 11, 12] (.n 11) (.r2 (.k (.int 1)) (.bin .Add (.v 2) (.k (.int 1)))) b_law__v5_0) (.cons (.ret (.call 102 (.cons (.call 91 (.cons (.v 9) (.cons (.call 81 (.cons (.sub (.v 3) (.k (.int 0))) (.cons (.v 5) (.cons (.v 1) .nil)))) .nil))) (.cons (.v 9) (.cons (.v 6) (.cons (.v 7) .nil)))))) .nil))))))))))))))))
/-- number 106 -/
def F_law__v5 : Fn := ⟨1, 13, [], b_law__v5, false⟩
end Mp

/-! MiniPy, part M: lemmas to reckon with. -/
namespace Mp
open PySem PySem.Spec PyProof.Rows L2
theorem nat_inj : ∀ {a b : List Char}, a.map Char.toNat = b.map Char.toNat → a = b
  | [], [], _ => rfl
  | [], _ :: _, h => by simp at h
  | _ :: _, [], h => by simp at h
  | x :: a, y :: b, h => by
    rw [List.map_cons, List.map_cons, List.cons.injEq] at h
    have e : x = y := Char.toNat_inj.mp h.1
    rw [e, nat_inj h.2]
@[simp] theorem ofStr_inj {a b : String} : (Str.ofString a = Str.ofString b) = (a = b) := by
  refine propext ⟨fun h => ?_, fun h => by rw [h]⟩
  rw [Str.ofString_eq_toList, Str.ofString_eq_toList] at h
  have h2 := congrArg (fun s : Str => s.cps.toList) h
  simp only at h2
  exact String.toList_inj.mp (nat_inj h2)
theorem ixN_nat {n j : Nat} (h : j < n) : ixN n (j : Int) = some j := by
  unfold ixN
  rw [if_pos (by omega), if_pos (by omega)]; simp
theorem atI_map {α β : Type} {f : α → β} {xs : List α} {j : Nat} {x : α} (h : xs[j]? = some x) : atI (xs.map f) (j : Int) = some (f x) := by
  unfold atI
  rw [ixN_nat (by rw [List.length_map]; exact (List.getElem?_eq_some_iff.mp h).1)]
  simp [h]
theorem atI_some {α : Type} {xs : List α} {j : Nat} {x : α} (h : xs[j]? = some x) : atI xs (j : Int) = some x := by
  unfold atI
  rw [ixN_nat (List.getElem?_eq_some_iff.mp h).1]
  simp [h]
@[simp] theorem atI_0 {α : Type} {x : α} {xs : List α} : atI (x :: xs) 0 = some x := atI_some (j := 0) rfl
@[simp] theorem atI_1 {α : Type} {x y : α} {xs : List α} : atI (x :: y :: xs) 1 = some y := atI_some (j := 1) rfl
@[simp] theorem atI_2 {α : Type} {x y z : α} {xs : List α} : atI (x :: y :: z :: xs) 2 = some z := atI_some (j := 2) rfl
@[simp] theorem atI_3 {α : Type} {x y z u : α} {xs : List α} : atI (x :: y :: z :: u :: xs) 3 = some u := atI_some (j := 3) rfl
@[simp] theorem atI_4 {α : Type} {x y z u v : α} {xs : List α} : atI (x :: y :: z :: u :: v :: xs) 4 = some v := atI_some (j := 4) rfl
@[simp] theorem atI_5 {α : Type} {x y z u v w : α} {xs : List α} : atI (x :: y :: z :: u :: v :: w :: xs) 5 = some w := atI_some (j := 5) rfl
@[simp] theorem atI_6 {α : Type} {a0 a1 a2 a3 a4 a5 a6 : α} {xs : List α} : atI (a0 :: a1 :: a2 :: a3 :: a4 :: a5 :: a6 :: xs) 6 = some a6 := atI_some (j := 6) rfl
@[simp] theorem atI_7 {α : Type} {a0 a1 a2 a3 a4 a5 a6 a7 : α} {xs : List α} : atI (a0 :: a1 :: a2 :: a3 :: a4 :: a5 :: a6 :: a7 :: xs) 7 = some a7 := atI_some (j := 7) rfl
@[simp] theorem atI_8 {α : Type} {a0 a1 a2 a3 a4 a5 a6 a7 a8 : α} {xs : List α} : atI (a0 :: a1 :: a2 :: a3 :: a4 :: a5 :: a6 :: a7 :: a8 :: xs) 8 = some a8 := atI_some (j := 8) rfl
@[simp] theorem atI_9 {α : Type} {a0 a1 a2 a3 a4 a5 a6 a7 a8 a9 : α} {xs : List α} : atI (a0 :: a1 :: a2 :: a3 :: a4 :: a5 :: a6 :: a7 :: a8 :: a9 :: xs) 9 = some a9 := atI_some (j := 9) rfl
@[simp] theorem atI_10 {α : Type} {a0 a1 a2 a3 a4 a5 a6 a7 a8 a9 a10 : α} {xs : List α} : atI (a0 :: a1 :: a2 :: a3 :: a4 :: a5 :: a6 :: a7 :: a8 :: a9 :: a10 :: xs) 10 = some a10 := atI_some (j := 10) rfl
@[simp] theorem atI_11 {α : Type} {a0 a1 a2 a3 a4 a5 a6 a7 a8 a9 a10 a11 : α} {xs : List α} : atI (a0 :: a1 :: a2 :: a3 :: a4 :: a5 :: a6 :: a7 :: a8 :: a9 :: a10 :: a11 :: xs) 11 = some a11 := atI_some (j := 11) rfl
@[simp] theorem atI_12 {α : Type} {a0 a1 a2 a3 a4 a5 a6 a7 a8 a9 a10 a11 a12 : α} {xs : List α} : atI (a0 :: a1 :: a2 :: a3 :: a4 :: a5 :: a6 :: a7 :: a8 :: a9 :: a10 :: a11 :: a12 :: xs) 12 = some a12 := atI_some (j := 12) rfl
/-! ### loops -/
/-- a loop that runs to its end -/
theorem forL_to {io dead : List Nat} {t : T} {body : Tau → Out} (P : Nat → Tau → Prop) : ∀ (ds : List D) (k : Nat) (τ : Tau), P k τ →
    (∀ (i : Nat) (d : D) (τ : Tau), ds[i]? = some d → P (k + i) τ → ∃ τ1, asg io false t d τ = some τ1 ∧ ∃ τ2, (body τ1 = .nx τ2 ∨ body τ1 = .ct τ2) ∧ P (k + i + 1) (wipeT τ2 dead)) →
    ∃ τ', forL io dead t body ds τ = .nx τ' ∧ P (k + ds.length) τ'
  | [], k, τ, h, _ => ⟨τ, rfl, h⟩
  | d :: ds, k, τ, h, st => by
    obtain ⟨τ1, h1, τ2, h2, h3⟩ := st 0 d τ rfl h
    obtain ⟨τ', h4, h5⟩ := forL_to P ds (k + 1) (wipeT τ2 dead) h3 fun i d' τ hd hp => by
      have := st (i + 1) d' τ hd (by rw [show k + (i + 1) = k + 1 + i by omega]; exact hp)
      rw [show k + (i + 1) + 1 = k + 1 + i + 1 by omega] at this
      exact this
    refine ⟨τ', ?_, by rw [List.length_cons, show k + (ds.length + 1) = k + 1 + ds.length by omega]; exact h5⟩
    unfold forL
    rw [h1]
    rcases h2 with h2 | h2
    · simp only [h2]; exact h4
    · simp only [h2]; exact h4
/-- one turn that goes on -/
def Turn (io dead : List Nat) (t : T) (body : Tau → Out) (d : D) (τ τ' : Tau) : Prop := ∃ τ1, asg io false t d τ = some τ1 ∧ ∃ τ2, (body τ1 = .nx τ2 ∨ body τ1 = .ct τ2) ∧ wipeT τ2 dead = τ'
theorem Turn.nx {io dead : List Nat} {t : T} {body : Tau → Out} {d : D} {τ τ' τ1 τ2 : Tau} (h : asg io false t d τ = some τ1) (h2 : body τ1 = .nx τ2) (h3 : wipeT τ2 dead = τ') : Turn io dead t body d τ τ' := ⟨τ1, h, τ2, .inl h2, h3⟩
theorem Turn.ct {io dead : List Nat} {t : T} {body : Tau → Out} {d : D} {τ τ' τ1 τ2 : Tau} (h : asg io false t d τ = some τ1) (h2 : body τ1 = .ct τ2) (h3 : wipeT τ2 dead = τ') : Turn io dead t body d τ τ' := ⟨τ1, h, τ2, .inr h2, h3⟩
/-- the state behind a turn that goes on -/
def Out.wp (dead : List Nat) : Out → Option Tau
  | .nx τ => some (wipeT τ dead)
  | .ct τ => some (wipeT τ dead)
  | _ => none
@[simp] theorem Out.wp_nx (dead : List Nat) (τ : Tau) : Out.wp dead (.nx τ) = some (wipeT τ dead) := rfl
@[simp] theorem Out.wp_ct (dead : List Nat) (τ : Tau) : Out.wp dead (.ct τ) = some (wipeT τ dead) := rfl
theorem Turn.of {io dead : List Nat} {t : T} {body : Tau → Out} {d : D} {τ τ' τ1 : Tau} (h : asg io false t d τ = some τ1) (h2 : Out.wp dead (body τ1) = some τ') : Turn io dead t body d τ τ' := by
  cases hb : body τ1 with
  | nx τ2 => rw [hb] at h2; exact ⟨τ1, h, τ2, .inl hb, Option.some.inj h2⟩
  | ct τ2 => rw [hb] at h2; exact ⟨τ1, h, τ2, .inr hb, Option.some.inj h2⟩
  | _ => rw [hb] at h2; cases h2
/-- a loop as a fold: the state is told by a datum -/
theorem forL_fold {io dead : List Nat} {t : T} {body : Tau → Out} {α β : Type} (S : α → Tau) (f : β → D) (step : α → β → α) (I : α → Prop) : ∀ (xs : List β) (a : α), I a →
    (∀ (a : α) (x : β), x ∈ xs → I a → Turn io dead t body (f x) (S a) (S (step a x)) ∧ I (step a x)) → forL io dead t body (xs.map f) (S a) = .nx (S (xs.foldl step a)) ∧ I (xs.foldl step a)
  | [], a, h, _ => ⟨rfl, h⟩
  | x :: xs, a, h, st => by
    obtain ⟨⟨τ1, h1, τ2, h2, h3⟩, h4⟩ := st a x (by simp) h
    have ih := forL_fold S f step I xs (step a x) h4 fun a y hy => st a y (List.mem_cons_of_mem _ hy)
    refine ⟨?_, ih.2⟩
    rw [List.map_cons]
    unfold forL
    rw [h1]
    rcases h2 with h2 | h2 <;> simp only [h2, h3] <;> exact ih.1
/-- a loop whose turns change nothing that is kept -/
theorem forL_same {io dead : List Nat} {t : T} {body : Tau → Out} {τ : Tau} : ∀ (ds : List D), (∀ d ∈ ds, Turn io dead t body d τ τ) → forL io dead t body ds τ = .nx τ
  | [], _ => rfl
  | d :: ds, st => by
    obtain ⟨τ1, h1, τ2, h2, h3⟩ := st d (by simp)
    have ih := forL_same ds fun d hd => st d (List.mem_cons_of_mem _ hd)
    unfold forL
    rw [h1]
    rcases h2 with h2 | h2 <;> simp only [h2, h3] <;> exact ih
/-- a loop, turn by turn: the state is told by the turn's number -/
theorem forL_ix {io dead : List Nat} {t : T} {body : Tau → Out} : ∀ (ds : List D) (S : Nat → Tau) (k : Nat),
    (∀ (i : Nat) (d : D), ds[i]? = some d → Turn io dead t body d (S (k + i)) (S (k + i + 1))) → forL io dead t body ds (S k) = .nx (S (k + ds.length))
  | [], S, k, _ => rfl
  | d :: ds, S, k, st => by
    obtain ⟨τ1, h1, τ2, h2, h3⟩ := st 0 d rfl
    rw [Nat.add_zero] at h1 h3
    have ih := forL_ix (io := io) (t := t) (body := body) (dead := dead) ds S (k + 1) fun i d' hd => by
      have := st (i + 1) d' hd
      rw [show k + (i + 1) = k + 1 + i by omega] at this
      exact this
    unfold forL
    rw [List.length_cons, show k + (ds.length + 1) = k + 1 + ds.length by omega, ← ih, h1]
    rcases h2 with h2 | h2 <;> simp only [h2, h3]
/-- a while loop, by a measure -/
theorem whL_to {dead : List Nat} {c : Tau → R Bool} {body : Tau → Out} {α : Type} (S : α → Tau) (m : α → Nat) (I : α → Prop) (b : α → Bool) (step : α → α)
    (hc : ∀ a, I a → c (S a) = .ok (b a)) (hb : ∀ a, I a → b a = true → (∃ τ2, (body (S a) = .nx τ2 ∨ body (S a) = .ct τ2) ∧ wipeT τ2 dead = S (step a)) ∧ I (step a) ∧ m (step a) < m a) :
    ∀ (n : Nat) (a : α), I a → m a < n → ∃ a', whL dead c body n (S a) = .nx (S a') ∧ I a' ∧ b a' = false
  | 0, a, _, h => absurd h (Nat.not_lt_zero _)
  | n + 1, a, h, hm => by
    cases hba : b a with
    | false =>
      refine ⟨a, ?_, h, hba⟩
      unfold whL
      rw [hc a h, hba]
    | true =>
      obtain ⟨⟨τ2, h1, h2⟩, h3, h4⟩ := hb a h hba
      obtain ⟨a', q1, q2, q3⟩ := whL_to S m I b step hc hb n (step a) h3 (by omega)
      refine ⟨a', ?_, q2, q3⟩
      unfold whL
      rw [hc a h, hba]
      rcases h1 with h1 | h1 <;> simp only [h1, h2] <;> exact q1
/-- a comprehension, exactly -/
theorem compL_eq {elt : Tau → R (D × List Nat)} {cond : Tau → R Bool} {t : T} {own : List Nat} {τw : Tau} {α : Type} {g : α → D} {f : α → D} {p : α → Bool} : ∀ (xs : List α),
    (∀ x ∈ xs, ∃ τ1, asg [] false t (g x) τw = some τ1 ∧ cond τ1 = .ok (p x) ∧ (p x = true → elt τ1 = .ok (f x, []))) → compL elt cond t own τw (xs.map g) = .ok ((xs.filter p).map f, [])
  | [], _ => rfl
  | x :: xs, h => by
    obtain ⟨τ1, h1, h2, h3⟩ := h x (by simp)
    have ih := compL_eq (own := own) xs fun y hy => h y (List.mem_cons_of_mem _ hy)
    rw [List.map_cons]
    unfold compL
    rw [h1]
    simp only [h2]
    cases hp : p x with
    | true => simp only [h3 hp, ih, List.filter_cons, hp, if_true, List.map_cons, List.append_nil]
    | false => simp only [ih, List.filter_cons, hp]; rfl
theorem filter_tt {α : Type} (xs : List α) : (xs.filter fun _ => true) = xs := by simp

/-! ### operations on what is known -/
@[simp] theorem bAdd (i j : Int) : binD .Add (.int i) (.int j) = some (.int (i + j)) := rfl
@[simp] theorem bSub (i j : Int) : binD .Sub (.int i) (.int j) = some (.int (i - j)) := rfl
@[simp] theorem bMul (i j : Int) : binD .Mult (.int i) (.int j) = if mulOk i j then some (.int (i * j)) else none := rfl
@[simp] theorem bDiv (i j : Int) : binD .FloorDiv (.int i) (.int j) = if divOk i j then some (.int (i / j)) else none := rfl
@[simp] theorem bMod (i j : Int) : binD .Mod (.int i) (.int j) = if 0 < j then some (.int (i % j)) else none := rfl
@[simp] theorem bPow (i j : Int) : binD .Pow (.int i) (.int j) = if powOk i j then some (.int (i ^ j.toNat)) else none := rfl
@[simp] theorem bShl (i j : Int) : binD .LShift (.int i) (.int j) = if shlOk i j then some (.int (i * 2 ^ j.toNat)) else none := rfl
@[simp] theorem bShr (i j : Int) : binD .RShift (.int i) (.int j) = if 0 ≤ j then some (.int (i / 2 ^ j.toNat)) else none := rfl
@[simp] theorem bXor (i j : Int) : binD .BitXor (.int i) (.int j) = some (.int (Builtin.bitXor i j)) := rfl
@[simp] theorem bAnd (i j : Int) : binD .BitAnd (.int i) (.int j) = some (.int (Builtin.bitAnd i j)) := rfl
@[simp] theorem bOr (i j : Int) : binD .BitOr (.int i) (.int j) = some (.int (Builtin.bitOr i j)) := rfl
@[simp] theorem bAddT (a b : List D) : binD .Add (.tuple a) (.tuple b) = if a.length + b.length ≤ sizeLine then some (.tuple (a ++ b)) else none := rfl
@[simp] theorem bAddL (a b : List D) : binD .Add (.list a) (.list b) = if a.length + b.length ≤ sizeLine then some (.list (a ++ b)) else none := rfl
@[simp] theorem bMulL (a : List D) (k : Int) : binD .Mult (.list a) (.int k) = if lmOk a.length k then some (.list (List.replicate k.toNat a).flatten) else none := rfl
@[simp] theorem cEq (x y : D) : cmpD .Eq x y = eqD x y := rfl
@[simp] theorem cNe (x y : D) : cmpD .NotEq x y = (eqD x y).map (!·) := rfl
@[simp] theorem cIn (x y : D) : cmpD .In x y = inD x y := rfl
@[simp] theorem cNi (x y : D) : cmpD .NotIn x y = (inD x y).map (!·) := rfl
@[simp] theorem cLt (i j : Int) : cmpD .Lt (.int i) (.int j) = some (decide (i < j)) := rfl
@[simp] theorem cLe (i j : Int) : cmpD .LtE (.int i) (.int j) = some (decide (i ≤ j)) := rfl
@[simp] theorem cGt (i j : Int) : cmpD .Gt (.int i) (.int j) = some (decide (j < i)) := rfl
@[simp] theorem cGe (i j : Int) : cmpD .GtE (.int i) (.int j) = some (decide (j ≤ i)) := rfl
@[simp] theorem cIs (x : D) : cmpD .Is x .none = some (isNone x) := rfl
@[simp] theorem cIsn (x : D) : cmpD .IsNot x .none = some (!isNone x) := rfl
@[simp] theorem eqI (i j : Int) : eqD (.int i) (.int j) = some (decide (i = j)) := rfl
@[simp] theorem eqS (i j : Str) : eqD (.str i) (.str j) = some (decide (i = j)) := rfl
@[simp] theorem eqB (i j : Bool) : eqD (.bool i) (.bool j) = some (decide (i = j)) := rfl
@[simp] theorem sL (ds : List D) (i : Int) : subD (.list ds) (.int i) = atI ds i := rfl
@[simp] theorem sT (ds : List D) (i : Int) : subD (.tuple ds) (.int i) = atI ds i := rfl
@[simp] theorem slL (ds : List D) (l h : Option Int) : sliD (.list ds) l h = some (.list (cutD ds l h)) := rfl
@[simp] theorem slT (ds : List D) (l h : Option Int) : sliD (.tuple ds) l h = some (.tuple (cutD ds l h)) := rfl
@[simp] theorem tB (b : Bool) : truD (.bool b) = some b := rfl
@[simp] theorem tI' (i : Int) : truD (.int i) = some (i != 0) := rfl
@[simp] theorem tL (ds : List D) : truD (.list ds) = some (!ds.isEmpty) := rfl
@[simp] theorem tT' (ds : List D) : truD (.tuple ds) = some (!ds.isEmpty) := rfl
@[simp] theorem lenL (xs : List D) : biD .len [.list xs] = some (.int xs.length) := rfl
@[simp] theorem lenT (xs : List D) : biD .len [.tuple xs] = some (.int xs.length) := rfl
@[simp] theorem intI (i : Int) : biD .int [.int i] = some (.int i) := rfl
@[simp] theorem absI (i : Int) : biD .abs [.int i] = some (.int (if i < 0 then -i else i)) := rfl
@[simp] theorem tupL (xs : List D) : biD .tuple [.list xs] = some (.tuple xs) := rfl
@[simp] theorem tupT (xs : List D) : biD .tuple [.tuple xs] = some (.tuple xs) := rfl
@[simp] theorem lstL (xs : List D) : biD .list [.list xs] = some (.list xs) := rfl
@[simp] theorem lstT (xs : List D) : biD .list [.tuple xs] = some (.list xs) := rfl
@[simp] theorem anyL (xs : List D) : biD .any [.list xs] = (boolsOf xs).map fun bs => .bool (bs.any id) := rfl
@[simp] theorem revL (xs : List D) : revD (.list xs) = some (.list xs.reverse) := rfl
@[simp] theorem revT (xs : List D) : revD (.tuple xs) = some (.tuple xs.reverse) := rfl
@[simp] theorem inL (x : D) (ds : List D) : inD x (.list ds) = if flatD x && ds.all flatD then some (ds.any fun d => PyData.eqv d x) else none := rfl
@[simp] theorem inT (x : D) (ds : List D) : inD x (.tuple ds) = if flatD x && ds.all flatD then some (ds.any fun d => PyData.eqv d x) else none := rfl
@[simp] theorem inDc (x : D) (kds : List (D × D)) : inD x (.dict kds) = if isKey x then some (dGet x kds).isSome else none := rfl
@[simp] theorem fI (i : Int) : flatD (.int i) = true := rfl
@[simp] theorem fS (i : Str) : flatD (.str i) = true := rfl
@[simp] theorem fB (i : Bool) : flatD (.bool i) = true := rfl
@[simp] theorem fN : flatD .none = true := rfl
@[simp] theorem kI (i : Int) : isKey (.int i) = true := rfl
@[simp] theorem kS (i : Str) : isKey (.str i) = true := rfl
@[simp] theorem stL (ds : List D) (i : Int) (v : D) : setIxD (.list ds) (.int i) v = (ixN ds.length i).map fun j => .list (ds.set j v) := rfl
@[simp] theorem stD (kds : List (D × D)) (k v : D) : setIxD (.dict kds) k v = if isKey k && decide (kds.length < sizeLine) then some (.dict (dPut k v kds)) else none := rfl
@[simp] theorem icL (ds : List D) : isC (.list ds) = true := rfl
@[simp] theorem icD (ds : List (D × D)) : isC (.dict ds) = true := rfl
@[simp] theorem icT (ds : List D) : isC (.tuple ds) = false := rfl
@[simp] theorem icI (i : Int) : isC (.int i) = false := rfl
@[simp] theorem icS (i : Str) : isC (.str i) = false := rfl
@[simp] theorem icB (i : Bool) : isC (.bool i) = false := rfl
@[simp] theorem icN : isC .none = false := rfl
@[simp] theorem nlI (i : Int) : noL (.int i) = true := rfl
@[simp] theorem nlS (i : Str) : noL (.str i) = true := rfl
@[simp] theorem nlB (i : Bool) : noL (.bool i) = true := rfl
@[simp] theorem nlN : noL .none = true := rfl
@[simp] theorem it1L (ds : List D) : iter1 (.list ds) = some ds := rfl
@[simp] theorem it1S (s : Str) : iter1 (.str s) = some (strL s) := rfl
@[simp] theorem it1T (ds : List D) : iter1 (.tuple ds) = some ds := rfl
@[simp] theorem iteR_int (b : Bool) (i j : Int) (L : List Nat) : iteR b (R.ok (PyData.int i, L)) (R.ok (PyData.int j, L)) = R.ok (PyData.int (if b then i else j), L) := by cases b <;> rfl
@[simp] theorem lk_nil (d : D) : lk d [] = [] := rfl
@[simp] theorem frz_cons (i : Nat) (L : List Nat) (τ : Tau) : frz (i :: L) τ = frz L (frz1 τ i) := rfl
theorem eqv_int (i j : Int) : PyData.eqv (.int i) (.int j) = decide (i = j) := rfl
@[simp] theorem lkE_v' (i : Nat) (L : List Nat) : lkE (.v i) L = [] := rfl
@[simp] theorem lkE_bad'  (L : List Nat) : lkE (.bad ) L = L := rfl
@[simp] theorem lkE_k' (d : D) (L : List Nat) : lkE (.k d) L = L := rfl
@[simp] theorem lkE_g' (i : Nat) (L : List Nat) : lkE (.g i) L = L := rfl
@[simp] theorem lkE_bin' (op : Operator) (a b : E) (L : List Nat) : lkE (.bin op a b) L = L := rfl
@[simp] theorem lkE_neg' (a : E) (L : List Nat) : lkE (.neg a) L = L := rfl
@[simp] theorem lkE_cmp' (op : CmpOp) (a b : E) (L : List Nat) : lkE (.cmp op a b) L = L := rfl
@[simp] theorem lkE_chain' (op op2 : CmpOp) (a b c : E) (L : List Nat) : lkE (.chain op op2 a b c) L = L := rfl
@[simp] theorem lkE_and' (a b : E) (L : List Nat) : lkE (.and a b) L = L := rfl
@[simp] theorem lkE_or' (a b : E) (L : List Nat) : lkE (.or a b) L = L := rfl
@[simp] theorem lkE_not' (a : E) (L : List Nat) : lkE (.not a) L = L := rfl
@[simp] theorem lkE_ite' (c a b : E) (L : List Nat) : lkE (.ite c a b) L = L := rfl
@[simp] theorem lkE_tup' (es : Es) (L : List Nat) : lkE (.tup es) L = L := rfl
@[simp] theorem lkE_lst' (es : Es) (L : List Nat) : lkE (.lst es) L = L := rfl
@[simp] theorem lkE_dct0'  (L : List Nat) : lkE (.dct0 ) L = L := rfl
@[simp] theorem lkE_sub' (a b : E) (L : List Nat) : lkE (.sub a b) L = L := rfl
@[simp] theorem lkE_sli' (a : E) (l h : O) (L : List Nat) : lkE (.sli a l h) L = L := rfl
@[simp] theorem lkE_rev' (a : E) (L : List Nat) : lkE (.rev a) L = L := rfl
@[simp] theorem lkE_call' (f : Nat) (es : Es) (L : List Nat) : lkE (.call f es) L = L := rfl
@[simp] theorem lkE_bi' (f : Bi) (es : Es) (L : List Nat) : lkE (.bi f es) L = L := rfl
@[simp] theorem lkE_isi' (a : E) (ts : List Ty) (L : List Nat) : lkE (.isi a ts) L = L := rfl
@[simp] theorem lkE_trev' (a : E) (L : List Nat) : lkE (.trev a) L = L := rfl
@[simp] theorem lkE_comp' (e : E) (t : T) (it : I) (c : O) (own : List Nat) (L : List Nat) : lkE (.comp e t it c own) L = L := rfl
@[simp] theorem fr_bad  : (E.bad ).fresh = false := rfl
@[simp] theorem fr_k (d : D) : (E.k d).fresh = false := rfl
@[simp] theorem fr_g (i : Nat) : (E.g i).fresh = false := rfl
@[simp] theorem fr_bin (op : Operator) (a b : E) : (E.bin op a b).fresh = true := rfl
@[simp] theorem fr_neg (a : E) : (E.neg a).fresh = false := rfl
@[simp] theorem fr_cmp (op : CmpOp) (a b : E) : (E.cmp op a b).fresh = false := rfl
@[simp] theorem fr_chain (op op2 : CmpOp) (a b c : E) : (E.chain op op2 a b c).fresh = false := rfl
@[simp] theorem fr_and (a b : E) : (E.and a b).fresh = false := rfl
@[simp] theorem fr_or (a b : E) : (E.or a b).fresh = false := rfl
@[simp] theorem fr_not (a : E) : (E.not a).fresh = false := rfl
@[simp] theorem fr_ite (c a b : E) : (E.ite c a b).fresh = false := rfl
@[simp] theorem fr_tup (es : Es) : (E.tup es).fresh = false := rfl
@[simp] theorem fr_lst (es : Es) : (E.lst es).fresh = true := rfl
@[simp] theorem fr_dct0  : (E.dct0 ).fresh = true := rfl
@[simp] theorem fr_sub (a b : E) : (E.sub a b).fresh = false := rfl
@[simp] theorem fr_sli (a : E) (l h : O) : (E.sli a l h).fresh = true := rfl
@[simp] theorem fr_rev (a : E) : (E.rev a).fresh = true := rfl
@[simp] theorem fr_call (f : Nat) (es : Es) : (E.call f es).fresh = false := rfl
@[simp] theorem fr_isi (a : E) (ts : List Ty) : (E.isi a ts).fresh = false := rfl
@[simp] theorem fr_trev (a : E) : (E.trev a).fresh = false := rfl
@[simp] theorem fr_comp (e : E) (t : T) (it : I) (c : O) (own : List Nat) : (E.comp e t it c own).fresh = true := rfl
@[simp] theorem fr_v (i : Nat) : (E.v i).fresh = false := rfl
@[simp] theorem fr_bi_len (es : Es) : (E.bi .len es).fresh = false := rfl
@[simp] theorem fr_bi_int (es : Es) : (E.bi .int es).fresh = false := rfl
@[simp] theorem fr_bi_abs (es : Es) : (E.bi .abs es).fresh = false := rfl
@[simp] theorem fr_bi_max (es : Es) : (E.bi .max es).fresh = false := rfl
@[simp] theorem fr_bi_min (es : Es) : (E.bi .min es).fresh = false := rfl
@[simp] theorem fr_bi_tuple (es : Es) : (E.bi .tuple es).fresh = false := rfl
@[simp] theorem fr_bi_sum (es : Es) : (E.bi .sum es).fresh = false := rfl
@[simp] theorem fr_bi_any (es : Es) : (E.bi .any es).fresh = false := rfl
@[simp] theorem fr_bi_all (es : Es) : (E.bi .all es).fresh = false := rfl
@[simp] theorem fr_bi_str (es : Es) : (E.bi .str es).fresh = false := rfl
@[simp] theorem fr_bi_bool (es : Es) : (E.bi .bool es).fresh = false := rfl
@[simp] theorem fr_bi_sorted (es : Es) : (E.bi .sorted es).fresh = false := rfl
@[simp] theorem fr_bi_bitlen (es : Es) : (E.bi .bitlen es).fresh = false := rfl
@[simp] theorem fr_bi_list (es : Es) : (E.bi .list es).fresh = true := rfl
@[simp] theorem lkI_it (e : E) (L : List Nat) : lkI (.it e) L = lkE e L := rfl
@[simp] theorem lkI_r1 (e : E) (L : List Nat) : lkI (.r1 e) L = L := rfl
@[simp] theorem lkI_r2 (e f : E) (L : List Nat) : lkI (.r2 e f) L = L := rfl
@[simp] theorem lkI_zip (e f : E) (L : List Nat) : lkI (.zip e f) L = L := rfl
@[simp] theorem lkI_enum (e : E) (L : List Nat) : lkI (.enum e) L = L := rfl
@[simp] theorem lkI_rev (e : E) (L : List Nat) : lkI (.rev e) L = L := rfl
/-! ### the meaning, equation by equation -/
@[simp] theorem ev_evE_bad (g : G) (τ : Tau) : evE g (.bad) τ = .st := by
  (conv => lhs; unfold evE); try rfl
@[simp] theorem ev_evE_v (g : G) (τ : Tau) : ∀ i, evE g (.v i) τ = match τ[i]? with
    | some (some (o, d)) => .ok (d, if o then [i] else [])
    | _ => .st := by
  intro i; (conv => lhs; unfold evE); try rfl
@[simp] theorem ev_evE_k (g : G) (τ : Tau) : ∀ d, evE g (.k d) τ = .ok (d, []) := by
  intro d; (conv => lhs; unfold evE); try rfl
@[simp] theorem ev_evE_g (g : G) (τ : Tau) : ∀ i, evE g (.g i) τ = match g.gl i with
    | some d => .ok (d, [])
    | none => .st := by
  intro i; (conv => lhs; unfold evE); try rfl
@[simp] theorem ev_evE_bin (g : G) (τ : Tau) : ∀ op a b, evE g (.bin op a b) τ = (evE g a τ).bind fun x => (evE g b τ).bind fun y => match binD op x.1 y.1 with
    | some z => .ok (z, lk z (lkE a x.2 ++ lkE b y.2))
    | none => .st := by
  intro op a b; (conv => lhs; unfold evE); try rfl
@[simp] theorem ev_evE_neg (g : G) (τ : Tau) : ∀ a, evE g (.neg a) τ = (evE g a τ).bind fun x => match x.1 with
    | .int i => .ok (.int (-i), [])
    | _ => .st := by
  intro a; (conv => lhs; unfold evE); try rfl
@[simp] theorem ev_evE_cmp (g : G) (τ : Tau) : ∀ op a b, evE g (.cmp op a b) τ = (evE g a τ).bind fun x => (evE g b τ).bind fun y => match cmpD op x.1 y.1 with
    | some z => .ok (.bool z, [])
    | none => .st := by
  intro op a b; (conv => lhs; unfold evE); try rfl
@[simp] theorem ev_evE_chain (g : G) (τ : Tau) : ∀ op op' a b c, evE g (.chain op op' a b c) τ = (evE g a τ).bind fun x => (evE g b τ).bind fun y => match cmpD op x.1 y.1 with
    | some true => (evE g c τ).bind fun z => match cmpD op' y.1 z.1 with
      | some r => .ok (.bool r, [])
      | none => .st
    | some false => .ok (.bool false, [])
    | none => .st := by
  intro op op' a b c; (conv => lhs; unfold evE); try rfl
@[simp] theorem ev_evE_and (g : G) (τ : Tau) : ∀ a b, evE g (.and a b) τ = (evE g a τ).bind fun x => match x.1 with
    | .bool true => evE g b τ
    | .bool false => .ok (.bool false, [])
    | _ => .st := by
  intro a b; (conv => lhs; unfold evE); try rfl
@[simp] theorem ev_evE_or (g : G) (τ : Tau) : ∀ a b, evE g (.or a b) τ = (evE g a τ).bind fun x => match x.1 with
    | .bool true => .ok (.bool true, [])
    | .bool false => evE g b τ
    | _ => .st := by
  intro a b; (conv => lhs; unfold evE); try rfl
@[simp] theorem ev_evE_not (g : G) (τ : Tau) : ∀ a, evE g (.not a) τ = (evE g a τ).bind fun x => match x.1 with
    | .bool b => .ok (.bool (!b), [])
    | _ => .st := by
  intro a; (conv => lhs; unfold evE); try rfl
@[simp] theorem ev_evE_ite (g : G) (τ : Tau) : ∀ c a b, evE g (.ite c a b) τ = (evT g c τ).bind fun x => iteR x (evE g a τ) (evE g b τ) := by
  intro c a b; (conv => lhs; unfold evE); try rfl
@[simp] theorem ev_evE_tup (g : G) (τ : Tau) : ∀ es, evE g (.tup es) τ = (evEs g es τ).bind fun x => if x.1.length ≤ sizeLine then .ok (.tuple x.1, x.2) else .st := by
  intro es; (conv => lhs; unfold evE); try rfl
@[simp] theorem ev_evE_lst (g : G) (τ : Tau) : ∀ es, evE g (.lst es) τ = (evEs g es τ).bind fun x => if x.1.length ≤ sizeLine then .ok (.list x.1, x.2) else .st := by
  intro es; (conv => lhs; unfold evE); try rfl
@[simp] theorem ev_evE_dct0 (g : G) (τ : Tau) : evE g (.dct0) τ = .ok (.dict [], []) := by
  (conv => lhs; unfold evE); try rfl
@[simp] theorem ev_evE_sub (g : G) (τ : Tau) : ∀ a b, evE g (.sub a b) τ = (evE g a τ).bind fun x => (evE g b τ).bind fun y => match subD x.1 y.1 with
    | some z => .ok (z, lk z (lkE a x.2))
    | none => .st := by
  intro a b; (conv => lhs; unfold evE); try rfl
@[simp] theorem ev_evE_sli (g : G) (τ : Tau) : ∀ a lo hi, evE g (.sli a lo hi) τ = (evE g a τ).bind fun x => (evO g lo τ).bind fun l => (evO g hi τ).bind fun h => match sliD x.1 l h with
    | some z => .ok (z, lk z (lkE a x.2))
    | none => .st := by
  intro a lo hi; (conv => lhs; unfold evE); try rfl
@[simp] theorem ev_evE_rev (g : G) (τ : Tau) : ∀ a, evE g (.rev a) τ = (evE g a τ).bind fun x => match revD x.1 with
    | some z => .ok (z, lk z (lkE a x.2))
    | none => .st := by
  intro a; (conv => lhs; unfold evE); try rfl
@[simp] theorem ev_evE_call (g : G) (τ : Tau) : ∀ f es, evE g (.call f es) τ = match g.io f with
    | [] => (evEs g es τ).bind fun x => (g.cf f x.1).bind fun r => match r.2 with
      | [] => .ok (r.1, lk r.1 x.2)
      | _ :: _ => .st
    | _ :: _ => .st := by
  intro f es; (conv => lhs; unfold evE); try rfl
@[simp] theorem ev_evE_bi (g : G) (τ : Tau) : ∀ f es, evE g (.bi f es) τ = (evEs g es τ).bind fun x => match biD f x.1 with
    | some z => .ok (z, lk z (match es with | .cons e .nil => lkE e x.2 | _ => x.2))
    | none => .st := by
  intro f es; (conv => lhs; unfold evE); try rfl
@[simp] theorem ev_evE_isi (g : G) (τ : Tau) : ∀ a ts, evE g (.isi a ts) τ = (evE g a τ).bind fun x => match isiD x.1 ts with
    | some b => .ok (.bool b, [])
    | none => .st := by
  intro a ts; (conv => lhs; unfold evE); try rfl
@[simp] theorem ev_evE_trev (g : G) (τ : Tau) : ∀ a, evE g (.trev a) τ = (evE g a τ).bind fun x => match x.1 with
    | .list ds => .ok (.tuple ds.reverse, lk (.tuple ds) (lkE a x.2))
    | _ => .st := by
  intro a; (conv => lhs; unfold evE); try rfl
@[simp] theorem ev_evE_gin (g : G) (τ : Tau) : ∀ neg i a, evE g (.gin neg i a) τ = (evE g a τ).bind fun x => match gdIn (g.gd i) x.1 with
    | some b => .ok (.bool (neg != b), [])
    | none => .st := by
  intro neg i a; (conv => lhs; unfold evE); try rfl
@[simp] theorem ev_evE_gix (g : G) (τ : Tau) : ∀ i a, evE g (.gix i a) τ = (evE g a τ).bind fun x => match gdIx (g.gd i) x.1 with
    | some d => .ok (d, [])
    | none => .st := by
  intro i a; (conv => lhs; unfold evE); try rfl
@[simp] theorem ev_evE_dctK (g : G) (τ : Tau) : ∀ kds, evE g (.dctK kds) τ = .ok (.dict (kds.map fun p => (.str p.1, p.2)), []) := by
  intro kds; (conv => lhs; unfold evE); try rfl
@[simp] theorem ev_evE_comp (g : G) (τ : Tau) : ∀ elt t it c own, evE g (.comp elt t it c own) τ = (evI g it τ).bind fun x => if x.1.length ≤ sizeLine then
      (compL (evE g elt) (evC g c) t own (wipeT (frz (lkI it x.2) τ) own) x.1).bind fun y => .ok (.list y.1, lkI it x.2 ++ y.2)
    else .st := by
  intro elt t it c own; (conv => lhs; unfold evE); try rfl
@[simp] theorem ev_evT_not (g : G) (τ : Tau) : ∀ a, evT g (.not a) τ = (evT g a τ).bind fun x => .ok (!x) := by
  intro a; (conv => lhs; unfold evT); try rfl
@[simp] theorem ev_evT_and (g : G) (τ : Tau) : ∀ a b, evT g (.and a b) τ = (evT g a τ).bind fun x => match x with
    | true => evT g b τ
    | false => .ok false := by
  intro a b; (conv => lhs; unfold evT); try rfl
@[simp] theorem ev_evT_or (g : G) (τ : Tau) : ∀ a b, evT g (.or a b) τ = (evT g a τ).bind fun x => match x with
    | true => .ok true
    | false => evT g b τ := by
  intro a b; (conv => lhs; unfold evT); try rfl
@[simp] theorem ev_evT_ite (g : G) (τ : Tau) : ∀ u0 u1 u2, evT g (.ite u0 u1 u2) τ = .st := by
  intro u0 u1 u2; (conv => lhs; unfold evT); try rfl
@[simp] theorem ev_evT_cmp (g : G) (τ : Tau) : ∀ op a b, evT g (.cmp op a b) τ = (evE g a τ).bind fun x => (evE g b τ).bind fun y => match cmpD op x.1 y.1 with
    | some z => .ok z
    | none => .st := by
  intro op a b; (conv => lhs; unfold evT); try rfl
@[simp] theorem ev_evT_chain (g : G) (τ : Tau) : ∀ op op' a b c, evT g (.chain op op' a b c) τ = (evE g a τ).bind fun x => (evE g b τ).bind fun y => match cmpD op x.1 y.1 with
    | some true => (evE g c τ).bind fun z => match cmpD op' y.1 z.1 with
      | some r => .ok r
      | none => .st
    | some false => .ok false
    | none => .st := by
  intro op op' a b c; (conv => lhs; unfold evT); try rfl
@[simp] theorem ev_evT_call (g : G) (τ : Tau) : ∀ f es, evT g (.call f es) τ = match g.io f with
    | [] => (evEs g es τ).bind fun x => (g.cf f x.1).bind fun r => match r.2 with
      | [] => R.of (truD r.1)
      | _ :: _ => .st
    | _ :: _ => .st := by
  intro f es; (conv => lhs; unfold evT); try rfl
@[simp] theorem ev_evT_v (g : G) (τ : Tau) : ∀ i, evT g (.v i) τ = match τ[i]? with
    | some (some (o, d)) => R.of (truD d)
    | _ => .st := by
  intro i; (conv => lhs; unfold evT); try rfl
@[simp] theorem ev_evT_bi (g : G) (τ : Tau) : ∀ f es, evT g (.bi f es) τ = (evEs g es τ).bind fun x => (R.of (biD f x.1)).bind fun z => R.of (truD z) := by
  intro f es; (conv => lhs; unfold evT); try rfl
@[simp] theorem ev_evT_isi (g : G) (τ : Tau) : ∀ a ts, evT g (.isi a ts) τ = (evE g a τ).bind fun x => R.of (isiD x.1 ts) := by
  intro a ts; (conv => lhs; unfold evT); try rfl
@[simp] theorem ev_evT_gin (g : G) (τ : Tau) : ∀ neg i a, evT g (.gin neg i a) τ = (evE g a τ).bind fun x => (R.of (gdIn (g.gd i) x.1)).bind fun b => .ok (neg != b) := by
  intro neg i a; (conv => lhs; unfold evT); try rfl
@[simp] theorem ev_evT_sub (g : G) (τ : Tau) : ∀ a b, evT g (.sub a b) τ = (evE g a τ).bind fun x => (evE g b τ).bind fun y => (R.of (subD x.1 y.1)).bind fun z => R.of (truD z) := by
  intro a b; (conv => lhs; unfold evT); try rfl
@[simp] theorem ev_evEs_nil (g : G) (τ : Tau) : evEs g (.nil) τ = .ok ([], []) := by
  (conv => lhs; unfold evEs); try rfl
@[simp] theorem ev_evEs_cons (g : G) (τ : Tau) : ∀ e es, evEs g (.cons e es) τ = (evE g e τ).bind fun x => (evEs g es τ).bind fun y => .ok (x.1 :: y.1, x.2 ++ y.2) := by
  intro e es; (conv => lhs; unfold evEs); try rfl
@[simp] theorem ev_evO_no (g : G) (τ : Tau) : evO g (.no) τ = .ok none := by
  (conv => lhs; unfold evO); try rfl
@[simp] theorem ev_evO_yes (g : G) (τ : Tau) : ∀ e, evO g (.yes e) τ = (evE g e τ).bind fun x => match x.1 with
    | .int i => .ok (some i)
    | _ => .st := by
  intro e; (conv => lhs; unfold evO); try rfl
@[simp] theorem ev_evC_no (g : G) (τ : Tau) : evC g (.no) τ = .ok true := by
  (conv => lhs; unfold evC); try rfl
@[simp] theorem ev_evC_yes (g : G) (τ : Tau) : ∀ e, evC g (.yes e) τ = evT g e τ := by
  intro e; (conv => lhs; unfold evC); try rfl
@[simp] theorem ev_evI_it (g : G) (τ : Tau) : ∀ e, evI g (.it e) τ = (evE g e τ).bind fun x => match iter1 x.1 with
    | some ds => .ok (ds, x.2)
    | none => .st := by
  intro e; (conv => lhs; unfold evI); try rfl
@[simp] theorem ev_evI_r1 (g : G) (τ : Tau) : ∀ a, evI g (.r1 a) τ = (evE g a τ).bind fun x => match x.1 with
    | .int j => rngR1 j
    | _ => .st := by
  intro a; (conv => lhs; unfold evI); try rfl
@[simp] theorem ev_evI_r2 (g : G) (τ : Tau) : ∀ a b, evI g (.r2 a b) τ = (evE g a τ).bind fun x => (evE g b τ).bind fun y => match x.1, y.1 with
    | .int i, .int j => rngR i j
    | _, _ => .st := by
  intro a b; (conv => lhs; unfold evI); try rfl
@[simp] theorem ev_evI_zip (g : G) (τ : Tau) : ∀ a b, evI g (.zip a b) τ = (evE g a τ).bind fun x => (evE g b τ).bind fun y => match iter1 x.1, iter1 y.1 with
    | some xs, some ys => .ok (zipL xs ys, x.2 ++ y.2)
    | _, _ => .st := by
  intro a b; (conv => lhs; unfold evI); try rfl
@[simp] theorem ev_evI_enum (g : G) (τ : Tau) : ∀ a, evI g (.enum a) τ = (evE g a τ).bind fun x => match iter1 x.1 with
    | some xs => .ok (enumL 0 xs, x.2)
    | none => .st := by
  intro a; (conv => lhs; unfold evI); try rfl
@[simp] theorem ev_evI_rev (g : G) (τ : Tau) : ∀ a, evI g (.rev a) τ = (evE g a τ).bind fun x => match x.1 with
    | .list xs => .ok (xs.reverse, x.2)
    | .tuple xs => .ok (xs.reverse, x.2)
    | _ => .st := by
  intro a; (conv => lhs; unfold evI); try rfl
@[simp] theorem ev_evS_bad (g : G) (io : List Nat) (τ : Tau) : evS g io (.bad) τ = .st := by
  (conv => lhs; unfold evS); try rfl
@[simp] theorem ev_evS_set (g : G) (io : List Nat) (τ : Tau) : ∀ t e, evS g io (.set t e) τ = .ofR (evE g e τ) τ fun x => .ofO (asg io e.fresh t x.1 (frz x.2 τ)) := by
  intro t e; (conv => lhs; unfold evS); try rfl
@[simp] theorem ev_evS_par (g : G) (io : List Nat) (τ : Tau) : ∀ is es, evS g io (.par is es) τ = .ofR (evEs g es τ) τ fun x => .ofO (asgs io is x.1 (frz x.2 τ)) := by
  intro is es; (conv => lhs; unfold evS); try rfl
@[simp] theorem ev_evS_setIx (g : G) (io : List Nat) (τ : Tau) : ∀ i x e, evS g io (.setIx i x e) τ = match own? τ i with
    | none => .st
    | some _ => .ofR (evE g e τ) τ fun v => .ofR (evE g x τ) τ fun k => match own? (frz v.2 τ) i with
      | some c => match setIxD c k.1 v.1 with
        | some c' => .nx ((frz v.2 τ).set i (some (true, c')))
        | none => .st
      | none => .st := by
  intro i x e; (conv => lhs; unfold evS); try rfl
@[simp] theorem ev_evS_app (g : G) (io : List Nat) (τ : Tau) : ∀ i e, evS g io (.app i e) τ = match own? τ i with
    | some (.list _) => .ofR (evE g e τ) τ fun v => match own? (frz v.2 τ) i with
      | some (.list ds) => if ds.length < sizeLine then .nx ((frz v.2 τ).set i (some (true, .list (ds ++ [v.1])))) else .st
      | _ => .st
    | _ => .st := by
  intro i e; (conv => lhs; unfold evS); try rfl
@[simp] theorem ev_evS_ext (g : G) (io : List Nat) (τ : Tau) : ∀ i e, evS g io (.ext i e) τ = match own? τ i with
    | some (.list _) => .ofR (evE g e τ) τ fun v => match v.1 with
      | .list es => match own? (frz (lkE e v.2) τ) i with
        | some (.list ds) => if ds.length + es.length ≤ sizeLine then .nx ((frz (lkE e v.2) τ).set i (some (true, .list (ds ++ es)))) else .st
        | _ => .st
      | _ => .st
    | _ => .st := by
  intro i e; (conv => lhs; unfold evS); try rfl
@[simp] theorem ev_evS_pop (g : G) (io : List Nat) (τ : Tau) : ∀ t i, evS g io (.pop t i) τ = match own? τ i with
    | some (.list ds) => match ds[ds.length - 1]? with
      | some d => match t with
        | none => .nx (τ.set i (some (true, .list ds.dropLast)))
        | some j => if j ∈ io ∨ j = i then .st else .nx ((τ.set i (some (true, .list ds.dropLast))).set j (some (false, d)))
      | none => .st
    | _ => .st := by
  intro t i; (conv => lhs; unfold evS); try rfl
@[simp] theorem ev_evS_dpop (g : G) (io : List Nat) (τ : Tau) : ∀ i k d, evS g io (.dpop i k d) τ = match own? τ i with
    | some (.dict kds) => .ofR (evE g k τ) τ fun x => .ofR (evE g d τ) τ fun y => if isKey x.1 then .nx (τ.set i (some (true, .dict (dDrop x.1 kds)))) else .st
    | _ => .st := by
  intro i k d; (conv => lhs; unfold evS); try rfl
@[simp] theorem ev_evS_ex (g : G) (io : List Nat) (τ : Tau) : ∀ e, evS g io (.ex e) τ = .ofR (evE g e τ) τ fun _ => .nx τ := by
  intro e; (conv => lhs; unfold evS); try rfl
@[simp] theorem ev_evS_io (g : G) (io : List Nat) (τ : Tau) : ∀ t f es, evS g io (.io t f es) τ = match g.io f with
    | [j] => match evIo g j es τ with
      | .ok x => if x.2.1.contains x.2.2 then .st else match g.cf f x.1 with
        | .ok (r, [d]) => if isC d then match t with
            | none => .nx ((frz x.2.1 τ).set x.2.2 (some (true, d)))
            | some i => if i ∈ io ∨ i = x.2.2 then .st else .nx (((frz x.2.1 τ).set x.2.2 (some (true, d))).set i (some (false, r)))
          else .st
        | _ => .st
      | _ => .st
    | _ => .st := by
  intro t f es; (conv => lhs; unfold evS); try rfl
@[simp] theorem ev_evS_popF (g : G) (io : List Nat) (τ : Tau) : ∀ t i, evS g io (.popF t i) τ = match own? τ i with
    | some (.list (d :: ds)) => match t with
        | none => .nx (τ.set i (some (true, .list ds)))
        | some j => if j ∈ io ∨ j = i then .st else .nx ((τ.set i (some (true, .list ds))).set j (some (false, d)))
    | _ => .st := by
  intro t i; (conv => lhs; unfold evS); try rfl
@[simp] theorem ev_evS_ioR (g : G) (io : List Nat) (τ : Tau) : ∀ f es, evS g io (.ioR f es) τ = match g.io f with
    | [j] => match evIo g j es τ with
      | .ok x => if x.2.1.contains x.2.2 then .st else match g.cf f x.1 with
        | .ok (r, [d]) => if isC d && !isC r then .ret ((frz x.2.1 τ).set x.2.2 (some (true, d))) r else .st
        | _ => .st
      | _ => .st
    | _ => .st := by
  intro f es; (conv => lhs; unfold evS); try rfl
@[simp] theorem ev_evS_ioC (g : G) (io : List Nat) (τ : Tau) : ∀ t h as f es, evS g io (.ioC t h as f es) τ = match g.io h, g.io f with
    | [], [j] => match evEs g as τ with
      | .ok (ds, []) => match evIo g j es τ with
        | .ok x => if x.2.1.contains x.2.2 then .st else match g.cf f x.1 with
          | .ok (r, [d]) => if isC d then match g.cf h (ds ++ [r]) with
              | .ok (z, []) => if t ∈ io ∨ t = x.2.2 then .st else .nx (((frz x.2.1 τ).set x.2.2 (some (true, d))).set t (some (false, z)))
              | _ => .st
            else .st
          | _ => .st
        | _ => .st
      | _ => .st
    | _, _ => .st := by
  intro t h as f es; (conv => lhs; unfold evS); try rfl
@[simp] theorem ev_evS_ifS (g : G) (io : List Nat) (τ : Tau) : ∀ c a b, evS g io (.ifS c a b) τ = .ofR (evT g c τ) τ (ifK (evSs g io a) (evSs g io b) τ) := by
  intro c a b; (conv => lhs; unfold evS); try rfl
@[simp] theorem ev_evS_wh (g : G) (io : List Nat) (τ : Tau) : ∀ dead c b, evS g io (.wh dead c b) τ = whL dead (evT g c) (evSs g io b) g.wN (wipeT τ dead) := by
  intro dead c b; (conv => lhs; unfold evS); try rfl
@[simp] theorem ev_evS_forS (g : G) (io : List Nat) (τ : Tau) : ∀ dead t it b, evS g io (.forS dead t it b) τ = .ofR (evI g it τ) τ fun x => forL io dead t (evSs g io b) x.1 (wipeT (frz x.2 τ) dead) := by
  intro dead t it b; (conv => lhs; unfold evS); try rfl
@[simp] theorem ev_evS_callF (g : G) (io : List Nat) (τ : Tau) : ∀ i f es, evS g io (.callF i f es) τ = match g.io f with
    | [] => .ofR (evEs g es τ) τ fun x => if g.fr f then .ofR (g.cf f x.1) τ fun r => match r.2 with
      | [] => if i ∈ io then .st else .nx ((frz x.2 τ).set i (some (isC r.1, r.1)))
      | _ => .st
      else .st
    | _ => .st := by
  intro i f es; (conv => lhs; unfold evS); try rfl
@[simp] theorem retO_nil (e : E) (x : D × List Nat) (τ : Tau) : retO [] e x τ = .ret (frz x.2 τ) x.1 := retO_no rfl
@[simp] theorem retO_one {j : Nat} (e : E) (x : D × List Nat) (τ : Tau) (h : (1000000 == j) = false) : retO [j] e x τ = .ret (frz x.2 τ) x.1 := retO_no (by
  show (mkN == j || false) = false
  rw [Bool.or_false]; exact h)
@[simp] theorem retO_mk (io : List Nat) (e : E) (x : D × List Nat) (τ : Tau) : retO (1000000 :: io) e x τ = match isC x.1 with
    | false => .ret (frz x.2 τ) x.1
    | true => match e.fresh with
      | true => .ret (frz x.2 τ) x.1
      | false => match e with
        | .v i => match own? τ i with
          | some d => if i ∈ 1000000 :: io then .st else .ret (frz1 τ i) d
          | none => .st
        | _ => .st := by
  unfold retO
  have h : (1000000 :: io).contains mkN = true := by simp [mkN]
  first
    | (rw [h]; done)
    | (rw [h]; rfl)
@[simp] theorem ev_evS_ret (g : G) (io : List Nat) (τ : Tau) : ∀ e, evS g io (.ret e) τ = .ofR (evE g e τ) τ fun x => retO io e x τ := by
  intro e; (conv => lhs; unfold evS); try rfl
@[simp] theorem ev_evS_retN (g : G) (io : List Nat) (τ : Tau) : evS g io (.retN) τ = .ret τ .none := by
  (conv => lhs; unfold evS); try rfl
@[simp] theorem ev_evS_brk (g : G) (io : List Nat) (τ : Tau) : evS g io (.brk) τ = .brk τ := by
  (conv => lhs; unfold evS); try rfl
@[simp] theorem ev_evS_ct (g : G) (io : List Nat) (τ : Tau) : evS g io (.ct) τ = .ct τ := by
  (conv => lhs; unfold evS); try rfl
@[simp] theorem ev_evS_pass (g : G) (io : List Nat) (τ : Tau) : evS g io (.pass) τ = .nx τ := by
  (conv => lhs; unfold evS); try rfl
@[simp] theorem ev_evS_raise (g : G) (io : List Nat) (τ : Tau) : ∀ c f e, evS g io (.raise c f e) τ = if g.xr then .ofR (evE g e τ) τ fun x => if isA x.1 then .ex ⟨c, [(f, x.1)]⟩ τ else .st else .st := by
  intro u0 u1 u2; (conv => lhs; unfold evS); try rfl
theorem evSs_c (g : G) (io : List Nat) (s : S) (ss : Ss) (τ : Tau) : evSs g io (.cons s ss) τ = (evS g io s τ).seq (evSs g io ss) := by unfold evSs; rfl
theorem evSs_n (g : G) (io : List Nat) (τ : Tau) : evSs g io .nil τ = .nx τ := by unfold evSs; rfl
theorem runF_eq (g : G) (F : Fn) (ds : List D) (h : ds.length = F.nps) : runF g F ds = match evSs g (ioM F.io F.fr) F.body (startT F ds) with
    | .nx τ => (R.of (outs τ F.io)).bind fun os => .ok (.none, os)
    | .ret τ d => (R.of (outs τ F.io)).bind fun os => .ok (d, os)
    | .ex x _ => .ex x
    | _ => .st := by
  unfold runF
  first
    | (rw [if_pos h]; done)
    | (rw [if_pos h]; rfl)

theorem divS {i j : Int} (h : 0 < j) (h2 : j < 1073741824) : divOk i j = true := by
  exact divOk_iff.mpr ⟨h, .inl h2⟩
/-- what is handed in, by the slots that may be changed -/
theorem ofI {α : Type} {x : α} : R.of (some x) = R.ok x := rfl
theorem cut_from {α : Type} (xs : List α) (n : Nat) : cutD xs (some (n : Int)) none = xs.drop n := by
  unfold cutD
  rw [HT.sIx_nat, HT.sIx_none]
  by_cases h : n ≤ xs.length
  · rw [Nat.min_eq_left h, List.take_of_length_le (by rw [List.length_drop]; omega)]
  · rw [Nat.min_eq_right (by omega), List.drop_of_length_le (by omega), List.drop_of_length_le (by omega)]; simp
theorem cut_mid {α : Type} (xs : List α) (n m : Nat) (h : m ≤ xs.length) (h2 : n ≤ m) : cutD xs (some (n : Int)) (some (m : Int)) = (xs.drop n).take (m - n) := by
  unfold cutD
  rw [HT.sIx_nat, HT.sIx_nat, Nat.min_eq_left (by omega), Nat.min_eq_left (by omega)]
@[simp] theorem cut2 {α : Type} (x y : α) (xs : List α) : cutD (x :: y :: xs) (some 2) none = xs := cut_from (x :: y :: xs) 2
@[simp] theorem sz_0 : (0 ≤ sizeLine) = True := eq_true (by decide)
@[simp] theorem sz_1 : (1 ≤ sizeLine) = True := eq_true (by decide)
@[simp] theorem sz_2 : (2 ≤ sizeLine) = True := eq_true (by decide)
@[simp] theorem sz_3 : (3 ≤ sizeLine) = True := eq_true (by decide)
@[simp] theorem sz_4 : (4 ≤ sizeLine) = True := eq_true (by decide)
@[simp] theorem sz_5 : (5 ≤ sizeLine) = True := eq_true (by decide)
@[simp] theorem sz_6 : (6 ≤ sizeLine) = True := eq_true (by decide)
@[simp] theorem sz_7 : (7 ≤ sizeLine) = True := eq_true (by decide)
@[simp] theorem sz_8 : (8 ≤ sizeLine) = True := eq_true (by decide)
@[simp] theorem sz_9 : (9 ≤ sizeLine) = True := eq_true (by decide)
@[simp] theorem sz_10 : (10 ≤ sizeLine) = True := eq_true (by decide)
@[simp] theorem sz_11 : (11 ≤ sizeLine) = True := eq_true (by decide)
@[simp] theorem sz_12 : (12 ≤ sizeLine) = True := eq_true (by decide)
@[simp] theorem sz_13 : (13 ≤ sizeLine) = True := eq_true (by decide)
@[simp] theorem sz_14 : (14 ≤ sizeLine) = True := eq_true (by decide)
@[simp] theorem sz_15 : (15 ≤ sizeLine) = True := eq_true (by decide)
@[simp] theorem sz_16 : (16 ≤ sizeLine) = True := eq_true (by decide)
@[simp] theorem eqv_I (i j : Int) : PyData.eqv (.int i) (.int j) = decide (i = j) := rfl
@[simp] theorem eqv_S (i j : Str) : PyData.eqv (.str i) (.str j) = decide (i = j) := rfl
theorem szs {n : Nat} (h : n ≤ 100000) : n ≤ sizeLine := Nat.le_trans h (by decide)
theorem szl {n : Nat} (h : n < 100000) : n < sizeLine := Nat.lt_of_lt_of_le h (by decide)
theorem turn_nx {X : Out} {P : Tau → Prop} (h : ∃ τ2, X = .nx τ2 ∧ P τ2) : ∃ τ2, (X = .nx τ2 ∨ X = .ct τ2) ∧ P τ2 := let ⟨t, a, b⟩ := h; ⟨t, .inl a, b⟩
theorem turn_ct {X : Out} {P : Tau → Prop} (h : ∃ τ2, X = .ct τ2 ∧ P τ2) : ∃ τ2, (X = .nx τ2 ∨ X = .ct τ2) ∧ P τ2 := let ⟨t, a, b⟩ := h; ⟨t, .inr a, b⟩
@[simp] theorem lk_I (i : Int) (L : List Nat) : lk (.int i) L = [] := lk_flat rfl
@[simp] theorem lk_S (i : Str) (L : List Nat) : lk (.str i) L = [] := lk_flat rfl
@[simp] theorem lk_B (i : Bool) (L : List Nat) : lk (.bool i) L = [] := lk_flat rfl
@[simp] theorem lk_N (L : List Nat) : lk .none L = [] := lk_flat rfl
theorem sm62 {i : Int} (h : -1000000 ≤ i) (h2 : i ≤ 1000000) : small62 i = true := by
  unfold small62
  rw [Nat.ble_eq]
  omega
theorem rng1 {n : Nat} (h : n ≤ 100000) : rngR1 (n : Nat) = .ok (rngL 0 n, []) := by
  rw [rngR1_ok (sm62 (by omega) (by omega))]; rfl
theorem rng2 {a n : Nat} (h : a ≤ n) (h2 : n ≤ 100000) : rngR (a : Nat) (n : Nat) = .ok (rngL (a : Nat) (n - a), []) := by
  rw [rngR_ok (sm62 (by omega) (by omega)) (sm62 (by omega) (by omega))]
  rw [show ((n : Int) - (a : Int)).toNat = n - a by omega]
theorem r2_ok {g : G} {a b : E} {τ : Tau} {i j : Int} {L M : List Nat} (ha : evE g a τ = .ok (.int i, L)) (hb : evE g b τ = .ok (.int j, M)) : evI g (.r2 a b) τ = rngR i j := by
  unfold evI
  rw [ha, hb]; rfl
theorem r1_ok {g : G} {a : E} {τ : Tau} {i : Int} {L : List Nat} (ha : evE g a τ = .ok (.int i, L)) : evI g (.r1 a) τ = rngR1 i := by
  unfold evI
  rw [ha]; rfl
/-! ### ints, step by step -/
def EvI (g : G) (e : E) (τ : Tau) (i : Int) : Prop := evE g e τ = .ok (.int i, [])
section
variable {g : G} {τ : Tau} {a b : E} {i j : Int}
theorem EvI.v {k : Nat} (h : τ[k]? = some (some (false, .int i))) : EvI g (.v k) τ i := by unfold EvI evE; rw [h]; rfl
theorem EvI.k : EvI g (.k (.int i)) τ i := by unfold EvI evE; rfl
theorem EvI.bin {op : Operator} {z : Int} (ha : EvI g a τ i) (hb : EvI g b τ j) (h : binD op (.int i) (.int j) = some (.int z)) : EvI g (.bin op a b) τ z := by
  unfold EvI at *
  conv => lhs; unfold evE
  rw [ha, hb]
  simp only [R.bind_ok, h, lk_I]
theorem EvI.add (ha : EvI g a τ i) (hb : EvI g b τ j) : EvI g (.bin .Add a b) τ (i + j) := ha.bin hb rfl
theorem EvI.sub (ha : EvI g a τ i) (hb : EvI g b τ j) : EvI g (.bin .Sub a b) τ (i - j) := ha.bin hb rfl
theorem EvI.mul (h : mulOk i j = true) (ha : EvI g a τ i) (hb : EvI g b τ j) : EvI g (.bin .Mult a b) τ (i * j) := ha.bin hb (by rw [bMul, if_pos h])
theorem EvI.div (h : divOk i j = true) (ha : EvI g a τ i) (hb : EvI g b τ j) : EvI g (.bin .FloorDiv a b) τ (i / j) := ha.bin hb (by rw [bDiv, if_pos h])
theorem EvI.mod (h : 0 < j) (ha : EvI g a τ i) (hb : EvI g b τ j) : EvI g (.bin .Mod a b) τ (i % j) := ha.bin hb (by rw [bMod, if_pos h])
theorem EvI.pow (h : powOk i j = true) (ha : EvI g a τ i) (hb : EvI g b τ j) : EvI g (.bin .Pow a b) τ (i ^ j.toNat) := ha.bin hb (by rw [bPow, if_pos h])
theorem EvI.cmp {op : CmpOp} {z : Bool} (ha : EvI g a τ i) (hb : EvI g b τ j) (h : cmpD op (.int i) (.int j) = some z) : evT g (.cmp op a b) τ = .ok z := by
  unfold EvI at *
  conv => lhs; unfold evT
  rw [ha, hb]
  simp only [R.bind_ok, h]
theorem evS_if {io : List Nat} {c : E} {x y : Ss} {z : Bool} (h : evT g c τ = .ok z) : evS g io (.ifS c x y) τ = if z then evSs g io x τ else evSs g io y τ := by
  unfold evS
  rw [h]
  cases z <;> rfl
theorem EvI.neg (ha : EvI g a τ i) : EvI g (.neg a) τ (-i) := by
  unfold EvI at *
  conv => lhs; unfold evE
  rw [ha]; rfl
theorem EvI.int (ha : EvI g a τ i) : EvI g (.bi .int (.cons a .nil)) τ i := by
  unfold EvI at *
  conv => lhs; unfold evE
  unfold evEs
  rw [ha]
  unfold evEs
  simp only [R.bind_ok, intI, lk_I]
theorem EvI.set {io : List Nat} {k : Nat} (h : EvI g a τ i) (hio : k ∉ io) : evS g io (.set (.n k) a) τ = .nx (τ.set k (some (false, .int i))) := by
  unfold EvI at h
  unfold evS
  rw [h]
  show Out.ofO (asg io a.fresh (.n k) (.int i) (frz [] τ)) = _
  unfold asg
  dsimp only
  rw [if_neg hio, frz_nil, icI, Bool.and_false]
  rfl
theorem EvI.app {io : List Nat} {k : Nat} {ds : List D} (h : EvI g a τ i) (ho : own? τ k = some (.list ds)) (hz : ds.length < sizeLine) : evS g io (.app k a) τ = .nx (τ.set k (some (true, .list (ds ++ [.int i])))) := by
  unfold EvI at h
  unfold evS
  rw [ho, h]
  show (match own? (frz [] τ) k with | some (.list ds) => if ds.length < sizeLine then _ else _ | _ => _) = _
  rw [frz_nil, ho]
  show (if ds.length < sizeLine then _ else _) = _
  rw [if_pos hz]
end
/-! ### comprehensions over what is known -/
theorem comp_map {g : G} {τ : Tau} {elt : E} {it : I} {i : Nat} {own : List Nat} {α : Type} (xs : List α) (gf f : α → D) {L : List Nat} (hI : evI g it τ = .ok (xs.map gf, L)) (hk : lkI it L = []) (hz : xs.length ≤ sizeLine)
    (h : ∀ x ∈ xs, evE g elt ((wipeT τ own).set i (some (false, gf x))) = .ok (f x, [])) : evE g (.comp elt (.n i) it .no own) τ = .ok (.list (xs.map f), []) := by
  unfold evE
  rw [hI]
  simp only [R.bind_ok, List.length_map, if_pos hz, hk, frz_nil]
  have := compL_eq (elt := evE g elt) (cond := evC g .no) (t := .n i) (own := own) (τw := wipeT τ own) (g := gf) (f := f) (p := fun _ => true) xs fun x hx => ⟨(wipeT τ own).set i (some (false, gf x)), by
    unfold asg; simp, by unfold evC; rfl, fun _ => h x hx⟩
  rw [filter_tt] at this
  rw [this]
  rfl
theorem lkI_nil (it : I) : lkI it [] = [] := by
  cases it <;> first | rfl | (rename_i e; cases e <;> rfl)
/-- a comprehension over range(n) -/
theorem comp_rng {g : G} {τ : Tau} {elt e : E} {i : Nat} {own : List Nat} (n : Nat) (f : Nat → D) (he : EvI g e τ (n : Nat)) (hn : n ≤ 100000)
    (h : ∀ k < n, evE g elt ((wipeT τ own).set i (some (false, .int (k : Nat)))) = .ok (f k, [])) : evE g (.comp elt (.n i) (.r1 e) .no own) τ = .ok (.list ((List.range n).map f), []) := by
  refine comp_map (List.range n) (fun k => .int (k : Nat)) f ?_ rfl (by rw [List.length_range]; exact szs hn) fun k hk => h k (List.mem_range.mp hk)
  rw [r1_ok he, rng1 hn]
  unfold rngL
  congr 2
  apply List.map_congr_left
  intro k _
  rw [show (0 : Int) + (k : Nat) = (k : Nat) by omega]
/-! ### calls -/
/-- what a def's body sees -/
def gN (p : Pr) (n : Nat) : G := ⟨callN p n, p.io, p.gl, p.wN, p.gd, Nat.ble 2 n, p.fr⟩
theorem gN_cf (p : Pr) (n : Nat) : (gN p n).cf = callN p n := rfl
theorem gN_io (p : Pr) (n : Nat) : (gN p n).io = p.io := rfl
theorem gN_gl (p : Pr) (n : Nat) : (gN p n).gl = p.gl := rfl
theorem gN_gd (p : Pr) (n : Nat) : (gN p n).gd = p.gd := rfl
theorem gN_fr (p : Pr) (n : Nat) : (gN p n).fr = p.fr := rfl
theorem gN_xr (p : Pr) (n : Nat) : (gN p n).xr = Nat.ble 2 n := rfl
theorem gN_wN (p : Pr) (n : Nat) : (gN p n).wN = p.wN := rfl
/-- at every depth from k on the call hands back r -/
def Cl (p : Pr) (k f : Nat) (ds : List D) (r : D × List D) : Prop := ∀ n, k ≤ n → callN p n f ds = .ok r
theorem Cl.mk {p : Pr} {k f : Nat} {ds : List D} {r : D × List D} {F : Fn} (h : p.fs f = some F) (H : ∀ m, k ≤ m → runF (gN p m) F ds = .ok r) : Cl p (k + 1) f ds r := fun n hn => by
  cases n with
  | zero => omega
  | succ m =>
    show (match p.fs f with | some F => runF ⟨callN p m, p.io, p.gl, p.wN, p.gd, Nat.ble 2 m, p.fr⟩ F ds | none => _) = _
    rw [h]
    exact H m (by omega)
theorem Cl.at {p : Pr} {k f : Nat} {ds : List D} {r : D × List D} (h : Cl p k f ds r) {n : Nat} (hn : k ≤ n) : callN p n f ds = .ok r := h n hn
theorem fr_of {p : Pr} {f : Nat} {F : Fn} (h : p.fs f = some F) : p.fr f = F.fr := by unfold Pr.fr; rw [h]
theorem io_of {p : Pr} {f : Nat} {F : Fn} (h : p.fs f = some F) : p.io f = F.io := by unfold Pr.io; rw [h]
/-- a pure def by its body's end -/
theorem run_ret {g : G} {F : Fn} {ds : List D} {τ : Tau} {d : D} (hl : ds.length = F.nps) (hio : F.io = []) (h : evSs g [] F.body (startT F ds) = .ret τ d) (hfr : F.fr = false := by rfl) : runF g F ds = .ok (d, []) := by
  rw [runF_eq _ _ _ hl, hio, hfr, ioM_f, h]; rfl
@[simp] theorem wipeT_nil (τ : Tau) : wipeT τ [] = τ := rfl
@[simp] theorem wipeT_cons (τ : Tau) (v : Nat) (vs : List Nat) : wipeT τ (v :: vs) = (wipeT τ vs).set v none := rfl
end Mp
namespace Mp
open PySem PySem.Spec PyProof.Rows L2
/-- a call that raises, at every depth from k on -/
def ClX (p : Pr) (k f : Nat) (ds : List D) (e : Exc) : Prop := ∀ n, k ≤ n → callN p n f ds = .ex e
theorem ClX.mk {p : Pr} {k f : Nat} {ds : List D} {e : Exc} {F : Fn} (h : p.fs f = some F) (H : ∀ m, k ≤ m → runF (gN p m) F ds = .ex e) : ClX p (k + 1) f ds e := fun n hn => by
  cases n with
  | zero => omega
  | succ m =>
    show (match p.fs f with | some F => runF ⟨callN p m, p.io, p.gl, p.wN, p.gd, Nat.ble 2 m, p.fr⟩ F ds | none => _) = _
    rw [h]
    exact H m (by omega)
theorem ClX.at {p : Pr} {k f : Nat} {ds : List D} {e : Exc} (h : ClX p k f ds e) {n : Nat} (hn : k ≤ n) : callN p n f ds = .ex e := h n hn
theorem Cl.mkT {p : Pr} {k f : Nat} {ds : List D} {r : D × List D} {F : Fn} {t : Tr} (h0 : p.fs f = none) (h : p.ts f = some (F, t)) (H : ∀ m, k ≤ m → runT (gN p m) F t ds = .ok r) : Cl p (k + 1) f ds r := fun n hn => by
  cases n with
  | zero => omega
  | succ m =>
    show (match p.fs f with | some F => _ | none => match p.ts f with | some (F, t) => runT ⟨callN p m, p.io, p.gl, p.wN, p.gd, Nat.ble 2 m, p.fr⟩ F t ds | none => .st) = _
    rw [h0, h]
    exact H m (by omega)
theorem runT_eq (g : G) (F : Fn) (t : Tr) (ds : List D) (h : ds.length = F.nps) : runT g F t ds = match ((evSs g F.io t.b1 (startT F ds)).hand (t.hd g)).seq (evSs g F.io F.body) with
    | .nx τ => (R.of (outs τ F.io)).bind fun os => .ok (.none, os)
    | .ret τ d => (R.of (outs τ F.io)).bind fun os => .ok (d, os)
    | .ex x _ => .ex x
    | _ => .st := by
  unfold runT
  first
    | (rw [if_pos h]; done)
    | (rw [if_pos h]; rfl)
@[simp] theorem hand_nx (τ : Tau) (f : Exc → Tau → Out) : Out.hand (.nx τ) f = .nx τ := Eq.trans rfl rfl
@[simp] theorem hand_ret (τ : Tau) (d : D) (f : Exc → Tau → Out) : Out.hand (.ret τ d) f = .ret τ d := Eq.trans rfl rfl
@[simp] theorem hand_ex (τ : Tau) (e : Exc) (f : Exc → Tau → Out) : Out.hand (.ex e τ) f = f e τ := Eq.trans rfl rfl
@[simp] theorem isA_int (i : Int) : isA (.int i) = true := rfl
@[simp] theorem isA_str (x : Str) : isA (.str x) = true := rfl
@[simp] theorem isA_bool (b : Bool) : isA (.bool b) = true := rfl
@[simp] theorem isA_none : isA .none = true := rfl
end Mp

/-! equality of data -/
namespace Mp
open PySem PySem.Spec PyProof.Rows L2
theorem eqvAll_ints : ∀ xs ys : List Int, PyData.eqvAll (xs.map .int) (ys.map .int) = decide (xs = ys)
  | [], [] => rfl
  | [], _ :: _ => rfl
  | _ :: _, [] => rfl
  | x :: xs, y :: ys => by
    rw [List.map_cons, List.map_cons, PyData.eqvAll, eqvAll_ints xs ys, eqv_I]
    by_cases h : x = y <;> simp [h]
theorem eqv_tints (xs ys : List Int) : PyData.eqv (.tuple (xs.map .int)) (.tuple (ys.map .int)) = decide (xs = ys) := eqvAll_ints xs ys
theorem eqv_lints (xs ys : List Int) : PyData.eqv (.list (xs.map .int)) (.list (ys.map .int)) = decide (xs = ys) := eqvAll_ints xs ys
/-- what may be compared, and how deep it is -/
def Sh (n : Nat) (d : D) : Prop := d.canLay0 = true ∧ d.depth ≤ n
theorem Sh.int (n : Nat) (i : Int) : Sh n (.int i) := ⟨rfl, Nat.zero_le _⟩
theorem Sh.non (n : Nat) : Sh n .none := ⟨rfl, Nat.zero_le _⟩
theorem Sh.bool (n : Nat) (i : Bool) : Sh n (.bool i) := ⟨rfl, Nat.zero_le _⟩
theorem Sh.str (n : Nat) {x : Str} (h : PyData.canLay0 (.str x) = true) : Sh n (.str x) := ⟨h, Nat.zero_le _⟩
theorem Sh.mono {n m : Nat} {d : D} (h : Sh n d) (e : n ≤ m) : Sh m d := ⟨h.1, Nat.le_trans h.2 e⟩
theorem Sh.all {n : Nat} : ∀ {ds : List D}, (∀ d ∈ ds, Sh n d) → PyData.canLayAll0 ds = true ∧ PyData.depthAll ds ≤ n
  | [], _ => ⟨rfl, Nat.zero_le _⟩
  | d :: ds, h => by
    have h1 := h d (by simp)
    have h2 := Sh.all fun d hd => h d (List.mem_cons_of_mem _ hd)
    exact ⟨by simp [PyData.canLayAll0, h1.1, h2.1], by simp only [PyData.depthAll]; exact Nat.max_le.mpr ⟨h1.2, h2.2⟩⟩
theorem Sh.tup {n : Nat} {ds : List D} (h : ∀ d ∈ ds, Sh n d) : Sh (n + 1) (.tuple ds) := ⟨by simp [PyData.canLay0, (Sh.all h).1], by simp only [PyData.depth]; have := (Sh.all h).2; omega⟩
theorem Sh.lst {n : Nat} {ds : List D} (h : ∀ d ∈ ds, Sh n d) : Sh (n + 1) (.list ds) := ⟨by simp [PyData.canLay0, (Sh.all h).1], by simp only [PyData.depth]; have := (Sh.all h).2; omega⟩
theorem Sh.shaped {n : Nat} {d : D} (h : Sh n d) (hn : n ≤ 64) : SeqAt.shaped d = true := by
  unfold SeqAt.shaped
  rw [h.1, decide_eq_true (Nat.le_trans h.2 hn)]; rfl
theorem Sh.ints (xs : List Int) : ∀ d ∈ xs.map PyData.int, Sh 0 d := fun d hd => by
  obtain ⟨x, _, rfl⟩ := List.mem_map.mp hd
  exact .int 0 x
theorem eqD_T {xs ys : List D} (h1 : SeqAt.shaped (.tuple xs) = true) (h2 : SeqAt.shaped (.tuple ys) = true) : eqD (.tuple xs) (.tuple ys) = some (PyData.eqv (.tuple xs) (.tuple ys)) := by
  show (if SeqAt.shaped (.tuple xs) && SeqAt.shaped (.tuple ys) then some (PyData.eqv (.tuple xs) (.tuple ys)) else none) = _
  rw [h1, h2]; rfl
theorem eqD_L {xs ys : List D} (h1 : SeqAt.shaped (.list xs) = true) (h2 : SeqAt.shaped (.list ys) = true) : eqD (.list xs) (.list ys) = some (PyData.eqv (.list xs) (.list ys)) := by
  show (if SeqAt.shaped (.list xs) && SeqAt.shaped (.list ys) then some (PyData.eqv (.list xs) (.list ys)) else none) = _
  rw [h1, h2]; rfl
theorem eqT_ints (xs ys : List Int) : eqD (.tuple (xs.map .int)) (.tuple (ys.map .int)) = some (decide (xs = ys)) := by
  rw [eqD_T ((Sh.tup (Sh.ints xs)).shaped (by decide)) ((Sh.tup (Sh.ints ys)).shaped (by decide)), eqv_tints]
theorem eqL_ints (xs ys : List Int) : eqD (.list (xs.map .int)) (.list (ys.map .int)) = some (decide (xs = ys)) := by
  rw [eqD_L ((Sh.lst (Sh.ints xs)).shaped (by decide)) ((Sh.lst (Sh.ints ys)).shaped (by decide)), eqv_lints]
theorem eqT_refl {n : Nat} {xs : List D} (h : Sh n (.tuple xs)) (hn : n ≤ 64) : eqD (.tuple xs) (.tuple xs) = some true := by
  rw [eqD_T (h.shaped hn) (h.shaped hn), SeqAt.eqv_refl _ h.1]
theorem eqL_refl {n : Nat} {xs : List D} (h : Sh n (.list xs)) (hn : n ≤ 64) : eqD (.list xs) (.list xs) = some true := by
  rw [eqD_L (h.shaped hn) (h.shaped hn), SeqAt.eqv_refl _ h.1]
end Mp

/-! the draws of the laws: a cell, a row, one number -/
namespace Mp
open PySem PySem.Spec PyProof.Rows L2
def rd (ms : List Int) (j : Nat) : Int := ms.getD j 0
theorem at_rd {ms : List Int} {j : Nat} (h : j < ms.length) : atI (ms.map PyData.int) (j : Int) = some (.int (rd ms j)) := by
  refine atI_map ?_
  unfold rd
  simp [h]
/-- a word -/
def Wd (base x : Int) : Prop := 0 ≤ x ∧ x < base
theorem mod_wd {base x : Int} (hb : 0 < base) : Wd base (x % base) := ⟨Int.emod_nonneg _ (by omega), Int.emod_lt_of_pos _ hb⟩
theorem mulR {i j : Int} (h : -(2 ^ 64) < j ∧ j < 2 ^ 64) : mulOk i j = true := mulOk_iff.mpr (.inr (.inl h))
theorem mulL {i j : Int} (h : -(2 ^ 64) < i ∧ i < 2 ^ 64) : mulOk i j = true := mulOk_iff.mpr (.inl h)
def cellF (ns : List Int) (p : Int) : Int := if ns = [] then 0 else if rd ns (p % (ns.length : Nat)).toNat < 0 then -2 * rd ns (p % (ns.length : Nat)).toNat + 1 else 2 * rd ns (p % (ns.length : Nat)).toNat
theorem cellF_nn (ns : List Int) (p : Int) : 0 ≤ cellF ns p := by
  unfold cellF
  split
  · omega
  · split <;> omega
structure HRow (p : Pr) : Prop where
  cell : p.fs 9 = some F__law_cell
  row : ∃ b, p.fs 10 = some { F__law_row with fr := b }
  one : p.fs 11 = some F__law_one
theorem cell_cl {p : Pr} (h : p.fs 9 = some F__law_cell) (ns : List Int) (pl : Int) : Cl p 1 9 [.list (ns.map .int), .int pl] (.int (cellF ns pl), []) := by
  refine Cl.mk h fun m _ => ?_
  unfold cellF
  by_cases h : ns = []
  · subst h
    rw [runF_eq _ _ _ rfl]; simp only [F__law_cell, b__law_cell, ioM_f, ioM_t, startT, mark, List.replicate, List.cons_append, List.nil_append, List.contains_cons, List.contains_nil, icL, icT, icI, icS, icB, icN, icD, Nat.reduceBEq, Nat.reduceSub, Nat.reduceAdd, Bool.true_and, Bool.false_and, Bool.or_false, beq_self_eq_true]; repeat (rw [evSs_c]; simp [evIo, evSs_n, asg, asgs, frz1, own?, ixN_nat, outs, ofI, divS, gN_cf, gN_io, gN_gl, gN_gd, gN_xr, gN_fr, wipeT_nil, wipeT_cons])
  · have hl : 0 < ns.length := List.length_pos_iff.mpr h
    have h1 : (0 : Int) < (ns.length : Nat) := by omega
    have e : pl % (ns.length : Nat) = (((pl % (ns.length : Nat)).toNat : Nat) : Int) := (Int.toNat_of_nonneg (Int.emod_nonneg _ (by omega))).symm
    have hlt : (pl % (ns.length : Nat)).toNat < ns.length := by
      have := Int.emod_lt_of_pos pl h1
      omega
    have ha := at_rd (ms := ns) hlt
    generalize (pl % (ns.length : Nat)).toNat = j at *
    generalize rd ns j = c at *
    have m1 : mulOk (-2) c = true := mulL (by decide)
    have m2 : mulOk 2 c = true := mulL (by decide)
    by_cases hc : c < 0
    · rw [runF_eq _ _ _ rfl]; simp only [F__law_cell, b__law_cell, ioM_f, ioM_t, startT, mark, List.replicate, List.cons_append, List.nil_append, List.contains_cons, List.contains_nil, icL, icT, icI, icS, icB, icN, icD, Nat.reduceBEq, Nat.reduceSub, Nat.reduceAdd, Bool.true_and, Bool.false_and, Bool.or_false, beq_self_eq_true]; repeat (rw [evSs_c]; simp [evIo, evSs_n, asg, asgs, frz1, own?, ixN_nat, outs, ofI, divS, gN_cf, gN_io, gN_gl, gN_gd, gN_xr, gN_fr, wipeT_nil, wipeT_cons, h, h1, hl, e, ha, hc, m1, m2])
    · rw [runF_eq _ _ _ rfl]; simp only [F__law_cell, b__law_cell, ioM_f, ioM_t, startT, mark, List.replicate, List.cons_append, List.nil_append, List.contains_cons, List.contains_nil, icL, icT, icI, icS, icB, icN, icD, Nat.reduceBEq, Nat.reduceSub, Nat.reduceAdd, Bool.true_and, Bool.false_and, Bool.or_false, beq_self_eq_true]; repeat (rw [evSs_c]; simp [evIo, evSs_n, asg, asgs, frz1, own?, ixN_nat, outs, ofI, divS, gN_cf, gN_io, gN_gl, gN_gd, gN_xr, gN_fr, wipeT_nil, wipeT_cons, h, h1, hl, e, ha, hc, m1, m2])
/-- digits of a great cell -/
def digF (num limit : Int) (s : List Int × Int) (k : Nat) : List Int × Int := (s.1 ++ [(if s.2 = 0 then num / 3 + (k : Nat) else s.2) % limit], (if s.2 = 0 then num / 3 + (k : Nat) else s.2) / limit)
def mixF (num pl limit : Int) (k : Nat) : Int := ((((num + 7) * 48271 + (pl + 1) * 69621 + (k : Nat) * 16807 + 12345) % 2147483647 * (((num + 7) * 48271 + (pl + 1) * 69621 + (k : Nat) * 16807 + 12345) % 2147483647) + 40692 * ((k : Nat) + pl) + 11) % 2147483399 / 5) % limit
def big18 : Int := 1000000000000000000
def rowN (num pl : Int) (many : Nat) (limit : Int) : List Int :=
  if big18 ≤ num then ((List.range many).foldl (digF num limit) ([], num / 2 + pl)).1 else (List.range many).map (mixF num pl limit)
def rowF (ns : List Int) (pl : Int) (many : Nat) (limit : Int) : List Int := rowN (cellF ns pl) pl many limit
theorem digs_ok (num limit : Int) (hl : 0 < limit) : ∀ (ks : List Nat) (s : List Int × Int), (∀ x ∈ s.1, Wd limit x) → (ks.foldl (digF num limit) s).1.length = s.1.length + ks.length ∧ ∀ x ∈ (ks.foldl (digF num limit) s).1, Wd limit x
  | [], s, h => ⟨rfl, h⟩
  | k :: ks, s, h => by
    have := digs_ok num limit hl ks (digF num limit s k) (fun x hx => by
      unfold digF at hx
      rw [List.mem_append, List.mem_singleton] at hx
      rcases hx with hx | rfl
      · exact h x hx
      · exact mod_wd hl)
    refine ⟨?_, this.2⟩
    rw [List.foldl_cons, this.1]
    simp [digF]; omega
theorem rowF_len (ns : List Int) (pl : Int) (many : Nat) {limit : Int} (hl : 0 < limit) : (rowF ns pl many limit).length = many := by
  unfold rowF rowN
  split
  · have := (digs_ok (cellF ns pl) limit hl (List.range many) ([], cellF ns pl / 2 + pl) (by simp)).1
    rw [this]; simp
  · simp
theorem rowF_wd (ns : List Int) (pl : Int) (many : Nat) {limit : Int} (hl : 0 < limit) : ∀ x ∈ rowF ns pl many limit, Wd limit x := by
  unfold rowF rowN
  split
  · exact (digs_ok (cellF ns pl) limit hl (List.range many) ([], cellF ns pl / 2 + pl) (by simp)).2
  · intro x hx
    obtain ⟨k, _, rfl⟩ := List.mem_map.mp hx
    exact mod_wd hl
theorem rng0 (n : Nat) : rngL 0 n = (List.range n).map fun k : Nat => PyData.int (k : Nat) := by
  unfold rngL
  apply List.map_congr_left
  intro k _
  rw [show (0 : Int) + (k : Nat) = (k : Nat) by omega]
theorem rng_get {m i : Nat} {d : D} (h : (rngL 0 m)[i]? = some d) : i < m ∧ d = .int (i : Nat) := by
  rw [rng0, List.getElem?_map] at h
  obtain ⟨j, hj, rfl⟩ := Option.map_eq_some_iff.mp h
  obtain ⟨hlt, he⟩ := List.getElem?_eq_some_iff.mp hj
  rw [List.length_range] at hlt
  rw [List.getElem_range] at he
  subst he
  exact ⟨hlt, rfl⟩
theorem rng_len (m : Nat) : (rngL 0 m).length = m := by simp [rngL]
theorem fold_succ {α : Type} (f : α → Nat → α) (a : α) (j : Nat) : (List.range (j + 1)).foldl f a = f ((List.range j).foldl f a) j := by
  rw [List.range_succ, List.foldl_append]; rfl
def digS (limit num : Int) (s : List Int × Int) : Tau := [none, none, none, some (false, .int limit), some (false, .int num), some (true, .list (s.1.map .int)), some (false, .int s.2), none, none]
theorem dig_turn {io : List Nat} (hio : io = [] ∨ io = [1000000]) (g : G) (limit num : Int) (hl : 0 < limit) (hl2 : ∀ x, divOk x limit = true) (s : List Int × Int) (i : Nat) (hz : s.1.length < sizeLine) :
    Turn io [0, 1, 2, 7, 8] (.n 7) (evSs g io b__law_row_1) (.int (i : Nat)) (digS limit num s) (digS limit num (digF num limit s i)) := by
  obtain ⟨r, y⟩ := s
  have hz : r.length < sizeLine := hz
  unfold digF digS
  by_cases h0 : y = 0
  · rcases hio with rfl | rfl <;> exact Turn.of rfl (by simp only [b__law_row_1]; repeat (rw [evSs_c]; simp [evIo, evSs_n, asg, asgs, frz1, own?, ixN_nat, outs, ofI, divS, gN_cf, gN_io, gN_gl, gN_gd, gN_xr, gN_fr, wipeT_nil, wipeT_cons, h0, hl, hl2, hz]))
  · rcases hio with rfl | rfl <;> exact Turn.of rfl (by simp only [b__law_row_1]; repeat (rw [evSs_c]; simp [evIo, evSs_n, asg, asgs, frz1, own?, ixN_nat, outs, ofI, divS, gN_cf, gN_io, gN_gl, gN_gd, gN_xr, gN_fr, wipeT_nil, wipeT_cons, h0, hl, hl2, hz]))
theorem dig_loop {io : List Nat} (hio : io = [] ∨ io = [1000000]) (g : G) (limit num rest : Int) (hl : 0 < limit) (hl2 : ∀ x, divOk x limit = true) (m : Nat) (hm : m ≤ 100000) :
    forL io [0, 1, 2, 7, 8] (.n 7) (evSs g io b__law_row_1) (rngL 0 m) (digS limit num ([], rest)) = .nx (digS limit num ((List.range m).foldl (digF num limit) ([], rest))) := by
  have := forL_ix (io := io) (dead := [0, 1, 2, 7, 8]) (t := .n 7) (body := evSs g io b__law_row_1) (rngL 0 m) (fun j => digS limit num ((List.range j).foldl (digF num limit) ([], rest))) 0 fun i d hd => by
      obtain ⟨hi, rfl⟩ := rng_get hd
      rw [Nat.zero_add, fold_succ]
      have hlen := (digs_ok num limit hl (List.range i) ([], rest) (by simp)).1
      simp only [List.length_nil, List.length_range] at hlen
      exact dig_turn hio g limit num hl hl2 _ i (szl (by omega))
  rw [rng_len, Nat.zero_add] at this
  exact this
def mixS (pl limit num : Int) (r : List Int) : Tau := [none, some (false, .int pl), none, some (false, .int limit), some (false, .int num), some (true, .list (r.map .int)), none, none, none]
def mixA (num pl : Int) (k : Nat) : Int := ((num + 7) * 48271 + (pl + 1) * 69621 + (k : Nat) * 16807 + 12345) % 2147483647
def mixB (w pl : Int) (k : Nat) : Int := (w * w + 40692 * ((k : Nat) + pl) + 11) % 2147483399
theorem mix_turn {io : List Nat} (hio : io = [] ∨ io = [1000000]) (g : G) (pl limit num : Int) (hl : 0 < limit) (r : List Int) (i : Nat) (hz : r.length < sizeLine) :
    Turn io [0, 2, 6, 7, 8] (.n 7) (evSs g io b__law_row_0) (.int (i : Nat)) (mixS pl limit num r) (mixS pl limit num (r ++ [mixF num pl limit i])) := by
  have hw : -(2 ^ 64) < mixA num pl i ∧ mixA num pl i < 2 ^ 64 := by
    have h1 := Int.emod_nonneg ((num + 7) * 48271 + (pl + 1) * 69621 + (i : Nat) * 16807 + 12345) (show (2147483647 : Int) ≠ 0 by decide)
    have h2 := Int.emod_lt_of_pos ((num + 7) * 48271 + (pl + 1) * 69621 + (i : Nat) * 16807 + 12345) (show (0 : Int) < 2147483647 by decide)
    unfold mixA
    constructor <;> omega
  have hF : mixF num pl limit i = mixB (mixA num pl i) pl i / 5 % limit := rfl
  have hm : r.map PyData.int ++ [.int (mixF num pl limit i)] = (r ++ [mixF num pl limit i]).map .int := by simp
  have e1 : EvI g (.bin .Mod (.bi .int (.cons (.bin .Add (.bin .Add (.bin .Add (.bin .Mult (.bin .Add (.v 4) (.k (.int 7))) (.k (.int 48271))) (.bin .Mult (.bin .Add (.v 1) (.k (.int 1))) (.k (.int 69621)))) (.bin .Mult (.v 7) (.k (.int 16807)))) (.k (.int 12345))) .nil)) (.k (.int 2147483647))) [none, some (false, .int pl), none, some (false, .int limit), some (false, .int num), some (true, .list (r.map .int)), none, some (false, .int (i : Nat)), none] (mixA num pl i) :=
    .mod (by decide) (.int (.add (.add (.add (.mul (mulR (by decide)) (.add (.v rfl) .k) .k) (.mul (mulR (by decide)) (.add (.v rfl) .k) .k)) (.mul (mulR (by decide)) (.v rfl) .k)) .k)) .k
  generalize mixA num pl i = w at *
  have e2 : EvI g (.bin .Mod (.bi .int (.cons (.bin .Add (.bin .Add (.bin .Mult (.v 8) (.v 8)) (.bin .Mult (.k (.int 40692)) (.bin .Add (.v 7) (.v 1)))) (.k (.int 11))) .nil)) (.k (.int 2147483399))) [none, some (false, .int pl), none, some (false, .int limit), some (false, .int num), some (true, .list (r.map .int)), none, some (false, .int (i : Nat)), some (false, .int w)] (mixB w pl i) :=
    .mod (by decide) (.int (.add (.add (.mul (mulL hw) (.v rfl) (.v rfl)) (.mul (mulL (by decide)) .k (.add (.v rfl) (.v rfl)))) .k)) .k
  generalize mixB w pl i = v at *
  have e3 : EvI g (.bin .Mod (.bi .int (.cons (.bin .FloorDiv (.v 8) (.k (.int 5))) .nil)) (.v 3)) [none, some (false, .int pl), none, some (false, .int limit), some (false, .int num), some (true, .list (r.map .int)), none, some (false, .int (i : Nat)), some (false, .int v)] (v / 5 % limit) :=
    .mod hl (.int (.div (divS (by decide) (by decide)) (.v rfl) .k)) (.v rfl)
  have n6 : 6 ∉ io := by rcases hio with rfl | rfl <;> simp
  have n8 : 8 ∉ io := by rcases hio with rfl | rfl <;> simp
  have n7 : 7 ∉ io := by rcases hio with rfl | rfl <;> simp
  unfold mixS
  refine Turn.of (τ1 := [none, some (false, .int pl), none, some (false, .int limit), some (false, .int num), some (true, .list (r.map .int)), none, some (false, .int (i : Nat)), none]) (by simp [asg, n7]) ?_
  rw [← hm, hF]
  simp only [b__law_row_0, icI, Bool.and_false, List.set_cons_succ, List.set_cons_zero]
  rw [evSs_c, e1.set n8, Out.seq_nx, evSs_c]
  simp only [List.set_cons_succ, List.set_cons_zero]
  rw [e2.set n8, Out.seq_nx, evSs_c]
  simp only [List.set_cons_succ, List.set_cons_zero]
  rw [e3.app (ds := r.map .int) rfl (by simpa using hz), Out.seq_nx, evSs_n]
  rfl
theorem mix_loop {io : List Nat} (hio : io = [] ∨ io = [1000000]) (g : G) (pl limit num : Int) (hl : 0 < limit) (m : Nat) (hm : m ≤ 100000) :
    forL io [0, 2, 6, 7, 8] (.n 7) (evSs g io b__law_row_0) (rngL 0 m) (mixS pl limit num []) = .nx (mixS pl limit num ((List.range m).map (mixF num pl limit))) := by
  have := forL_ix (io := io) (dead := [0, 2, 6, 7, 8]) (t := .n 7) (body := evSs g io b__law_row_0) (rngL 0 m) (fun j => mixS pl limit num ((List.range j).map (mixF num pl limit))) 0 fun i d hd => by
      obtain ⟨hi, rfl⟩ := rng_get hd
      rw [Nat.zero_add, List.range_succ, List.map_append]
      exact mix_turn hio g pl limit num hl _ i (szl (by simp; omega))
  rw [rng_len, Nat.zero_add] at this
  exact this
theorem p18 : (10 : Int) ^ (18 : Int).toNat = big18 := by decide
theorem row_test (g : G) (x0 x1 x2 x3 x5 x6 x7 x8 : Option (Bool × D)) (num : Int) : evT g (.cmp .GtE (.v 4) (.bin .Pow (.k (.int 10)) (.k (.int 18)))) [x0, x1, x2, x3, some (false, .int num), x5, x6, x7, x8] = .ok (decide (big18 ≤ num)) :=
  EvI.cmp (.v rfl) (.pow (by decide) .k .k) (by rw [cGe, p18])
theorem row_cl {p : Pr} (h : HRow p) (ns : List Int) (pl : Int) (m : Nat) (limit : Int) (hm : m ≤ 100000) (hl : 0 < limit) (hl2 : ∀ x, divOk x limit = true) :
    Cl p 2 10 [.list (ns.map .int), .int pl, .int (m : Nat), .int limit] (.list ((rowF ns pl m limit).map .int), []) := by
  obtain ⟨b, hb⟩ := h.row
  refine Cl.mk hb fun n hn => ?_
  have hc := (cell_cl h.cell ns pl).at hn
  have io := io_of h.cell
  have hr := rng1 (n := m) (by omega)
  unfold rowF
  generalize cellF ns pl = num at *
  have hT : ∀ g : G, evT g (.cmp .GtE (.v 4) (.bin .Pow (.k (.int 10)) (.k (.int 18)))) [some (false, .list (ns.map .int)), some (false, .int pl), some (false, .int (m : Nat)), some (false, .int limit), some (false, .int num), some (true, .list []), none, none, none] = .ok (decide (big18 ≤ num)) :=
    fun g => row_test g _ _ _ _ _ _ _ _ num
  have hio : ioM [] b = [] ∨ ioM [] b = [1000000] := by cases b <;> simp
  have key : ∃ τ, evSs (gN p n) (ioM [] b) b__law_row [some (false, .list (ns.map .int)), some (false, .int pl), some (false, .int (m : Nat)), some (false, .int limit), none, none, none, none, none] = .ret τ (.list ((rowN num pl m limit).map .int)) := by
    generalize ioM [] b = io' at *
    simp only [b__law_row]
    rw [evSs_c, show evS (gN p n) io' (.set (.n 4) (.call 9 (.cons (.v 0) (.cons (.v 1) .nil)))) [some (false, .list (ns.map .int)), some (false, .int pl), some (false, .int (m : Nat)), some (false, .int limit), none, none, none, none, none] = .nx [some (false, .list (ns.map .int)), some (false, .int pl), some (false, .int (m : Nat)), some (false, .int limit), some (false, .int num), none, none, none, none] by (rcases hio with rfl | rfl <;> simp [evIo, evSs_n, asg, asgs, frz1, own?, ixN_nat, outs, ofI, divS, gN_cf, gN_io, gN_gl, gN_gd, gN_xr, gN_fr, wipeT_nil, wipeT_cons, hc, io, F__law_cell]), Out.seq_nx,
      evSs_c, show evS (gN p n) io' (.set (.n 5) (.lst .nil)) [some (false, .list (ns.map .int)), some (false, .int pl), some (false, .int (m : Nat)), some (false, .int limit), some (false, .int num), none, none, none, none] = .nx [some (false, .list (ns.map .int)), some (false, .int pl), some (false, .int (m : Nat)), some (false, .int limit), some (false, .int num), some (true, .list []), none, none, none] by (rcases hio with rfl | rfl <;> simp [evIo, evSs_n, asg, asgs, frz1, own?, ixN_nat, outs, ofI, divS, gN_cf, gN_io, gN_gl, gN_gd, gN_xr, gN_fr, wipeT_nil, wipeT_cons]), Out.seq_nx, evSs_c, evS_if (hT _)]
    unfold rowN
    by_cases hb : big18 ≤ num
    · have e := dig_loop hio (gN p n) limit num (num / 2 + pl) hl hl2 m hm
      simp only [digS, List.map_nil] at e
      rw [decide_eq_true hb, if_pos rfl, if_pos hb]
      generalize (List.range m).foldl (digF num limit) ([], num / 2 + pl) = s at *
      rcases hio with rfl | rfl <;> repeat (rw [evSs_c]; simp [evIo, evSs_n, asg, asgs, frz1, own?, ixN_nat, outs, ofI, divS, gN_cf, gN_io, gN_gl, gN_gd, gN_xr, gN_fr, wipeT_nil, wipeT_cons, e, hr])
    · have e := mix_loop hio (gN p n) pl limit num hl m hm
      simp only [mixS, List.map_nil] at e
      rw [decide_eq_false hb, if_neg (by decide), if_neg hb, evSs_n, Out.seq_nx]
      generalize (List.range m).map (mixF num pl limit) = r at *
      rcases hio with rfl | rfl <;> repeat (rw [evSs_c]; simp [evIo, evSs_n, asg, asgs, frz1, own?, ixN_nat, outs, ofI, divS, gN_cf, gN_io, gN_gl, gN_gd, gN_xr, gN_fr, wipeT_nil, wipeT_cons, e, hr])
  obtain ⟨τ, key⟩ := key
  rw [runF_eq _ _ _ rfl]
  show (match evSs (gN p n) (ioM [] b) b__law_row [some (false, .list (ns.map .int)), some (false, .int pl), some (false, .int (m : Nat)), some (false, .int limit), none, none, none, none, none] with
    | .nx τ => (R.of (outs τ [])).bind fun os => R.ok (PyData.none, os)
    | .ret τ d => (R.of (outs τ [])).bind fun os => .ok (d, os)
    | .ex x _ => .ex x
    | _ => .st) = _
  rw [key]
  rfl
theorem row_io {p : Pr} (h : HRow p) : p.io 10 = [] := by
  obtain ⟨b, hb⟩ := h.row
  exact io_of hb
def oneF (ns : List Int) (pl limit : Int) : Int := rd (rowF ns pl 1 limit) 0
theorem oneF_wd (ns : List Int) (pl : Int) {limit : Int} (hl : 0 < limit) : Wd limit (oneF ns pl limit) := by
  have h1 := rowF_len ns pl 1 hl
  refine rowF_wd ns pl 1 hl _ ?_
  unfold oneF rd
  rw [List.getD_eq_getElem?_getD, List.getElem?_eq_getElem (by omega)]
  exact List.getElem_mem _
theorem one_cl {p : Pr} (h : HRow p) (ns : List Int) (pl limit : Int) (hl : 0 < limit) (hl2 : ∀ x, divOk x limit = true) :
    Cl p 3 11 [.list (ns.map .int), .int pl, .int limit] (.int (oneF ns pl limit), []) := by
  refine Cl.mk h.one fun n hn => ?_
  have hc : callN p n 10 [.list (ns.map .int), .int pl, .int 1, .int limit] = _ := (row_cl h ns pl 1 limit (by omega) hl hl2).at hn
  have io := row_io h
  have ha : atI _ 0 = _ := at_rd (ms := rowF ns pl 1 limit) (j := 0) (by rw [rowF_len _ _ _ hl]; omega)
  unfold oneF
  rw [runF_eq _ _ _ rfl]; simp only [F__law_one, b__law_one, ioM_f, ioM_t, startT, mark, List.replicate, List.cons_append, List.nil_append, List.contains_cons, List.contains_nil, icL, icT, icI, icS, icB, icN, icD, Nat.reduceBEq, Nat.reduceSub, Nat.reduceAdd, Bool.true_and, Bool.false_and, Bool.or_false, beq_self_eq_true]
  repeat (rw [evSs_c]; simp [evIo, evSs_n, asg, asgs, frz1, own?, ixN_nat, outs, ofI, divS, gN_cf, gN_io, gN_gl, gN_gd, gN_xr, gN_fr, wipeT_nil, wipeT_cons, hc, io, ha])
/-- a divisor of few digits -/
theorem divB {limit : Int} (h : 0 < limit) (h2 : limit < 1073741824) (x : Int) : divOk x limit = true := divS h h2
theorem rd_wd {base : Int} {ms : List Int} (hb : 0 < base) (h : ∀ x ∈ ms, Wd base x) (j : Nat) : Wd base (rd ms j) := by
  unfold rd
  rw [List.getD_eq_getElem?_getD]
  cases e : ms[j]? with
  | none => exact ⟨by simp, hb⟩
  | some x => exact h x (List.mem_of_getElem? e)
end Mp

/-! k19: counts, entries, ways -/
namespace Mp
open PySem PySem.Spec PyProof.Rows L2
abbrev C3 := Int × Int × Int
abbrev En := Str × C3
def cD (c : C3) : D := .tuple [.int c.1, .int c.2.1, .int c.2.2]
def eD (e : En) : D := .tuple [.str e.1, cD e.2]
def sm (x y : C3) : C3 := (x.1 + y.1, x.2.1 + y.2.1, x.2.2 + y.2.2)
def ml (k : Int) (x : C3) : C3 := (k * x.1, k * x.2.1, k * x.2.2)
def prc (c q : C3) : Int := c.1 * q.1 + c.2.1 * q.2.1 + c.2.2 * q.2.2
/-- prices that are small numbers -/
def OkP (q : C3) : Prop := (1 ≤ q.1 ∧ q.1 ≤ 1000) ∧ (1 ≤ q.2.1 ∧ q.2.1 ≤ 1000) ∧ (1 ≤ q.2.2 ∧ q.2.2 ≤ 1000)
structure H19 (p : Pr) : Prop where
  rowf : p.fs 10 = some { F__law_row with fr := true }
  cell : p.fs 9 = some F__law_cell
  one : p.fs 11 = some F__law_one
  whole : p.fs 23 = some F_is_whole
  lwhole : p.fs 62 = some F__law_is_whole
  goodp : p.fs 58 = some F_good_prices
  setup : p.fs 81 = some F_setup_of__v2
  g1 : p.gl 1 = some (.tuple [.str "cheapest", .str "plain", .str "halves", .str "thirds"])
  g2 : p.gl 2 = some (.int 8)
  g3 : p.gl 3 = some (.int 16)
  g4 : p.gl 4 = some (.int 1000)
  g5 : p.gl 5 = some (.tuple [.str "plain", .str "halves", .str "thirds"])
  g6 : p.gl 6 = some (.tuple [.str "plain", .str "split", .str "whole"])
  price : p.fs 31 = some F_price_of
  sumc : p.fs 82 = some F_sum_counts
  times : p.fs 83 = some F_times_counts
  fallow : p.fs 84 = some F_full_allowed
  lallow : p.fs 85 = some F_low_allowed
  fcounts : p.fs 86 = some F_full_counts
  lcounts : p.fs 87 = some F_low_counts
  cheap : p.fs 88 = some F_cheapest
  fentry : p.fs 89 = some F_full_entry
  lentry : p.fs 90 = some F_low_entry
  table : p.fs 91 = some F_road_table
  lsum : p.fs 92 = some F__law_sum
  lmany : p.fs 93 = some F__law_many
  lprice : p.fs 94 = some F__law_price
  fways : p.fs 95 = some F__law_full_ways
  lways : p.fs 96 = some F__law_low_ways
  chosen : p.fs 97 = some F__law_chosen
  roads : p.fs 98 = some F__law_roads
  prices : p.fs 99 = some F__law_prices
  near : p.fs 100 = some F__law_near_prices
  isentry : p.fs 101 = some F__law_is_entry
  istable : p.fs 102 = some F__law_is_table
  ftree : p.fs 103 = some F__law_full_tree
  ltree : p.fs 104 = some F__law_low_tree
  none : p.fs 105 = some F__law_none_cheaper
theorem H19.row {p : Pr} (H : H19 p) : HRow p := ⟨H.cell, ⟨true, H.rowf⟩, H.one⟩
theorem sum_cl {p : Pr} (H : H19 p) (a b c a' b' c' : Int) : Cl p 1 92 [.tuple [.int a, .int b, .int c], .tuple [.int a', .int b', .int c']] (.tuple [.int (a + a'), .int (b + b'), .int (c + c')], []) := by
  refine Cl.mk H.lsum fun m _ => ?_
  rw [runF_eq _ _ _ rfl]; simp only [F__law_sum, b__law_sum, ioM_f, ioM_t, startT, mark, List.replicate, List.cons_append, List.nil_append, List.contains_cons, List.contains_nil, icL, icT, icI, icS, icB, icN, icD, Nat.reduceBEq, Nat.reduceSub, Nat.reduceAdd, Bool.true_and, Bool.false_and, Bool.or_false, beq_self_eq_true]; repeat (rw [evSs_c]; simp [evIo, evSs_n, asg, asgs, frz1, own?, ixN_nat, outs, ofI, divS, gN_cf, gN_io, gN_gl, gN_gd, gN_xr, gN_fr, wipeT_nil, wipeT_cons])
theorem sumc_cl {p : Pr} (H : H19 p) (a b c a' b' c' : Int) : Cl p 1 82 [.tuple [.int a, .int b, .int c], .tuple [.int a', .int b', .int c']] (.tuple [.int (a + a'), .int (b + b'), .int (c + c')], []) := by
  refine Cl.mk H.sumc fun m _ => ?_
  rw [runF_eq _ _ _ rfl]; simp only [F_sum_counts, b_sum_counts, ioM_f, ioM_t, startT, mark, List.replicate, List.cons_append, List.nil_append, List.contains_cons, List.contains_nil, icL, icT, icI, icS, icB, icN, icD, Nat.reduceBEq, Nat.reduceSub, Nat.reduceAdd, Bool.true_and, Bool.false_and, Bool.or_false, beq_self_eq_true]; repeat (rw [evSs_c]; simp [evIo, evSs_n, asg, asgs, frz1, own?, ixN_nat, outs, ofI, divS, gN_cf, gN_io, gN_gl, gN_gd, gN_xr, gN_fr, wipeT_nil, wipeT_cons])
theorem many_cl {p : Pr} (H : H19 p) (k a b c : Int) (h : 0 ≤ k ∧ k ≤ 3) : Cl p 1 93 [.int k, .tuple [.int a, .int b, .int c]] (.tuple [.int (k * a), .int (k * b), .int (k * c)], []) := by
  refine Cl.mk H.lmany fun m _ => ?_
  have hm : ∀ x, mulOk k x = true := fun x => mulL (by omega)
  rw [runF_eq _ _ _ rfl]; simp only [F__law_many, b__law_many, ioM_f, ioM_t, startT, mark, List.replicate, List.cons_append, List.nil_append, List.contains_cons, List.contains_nil, icL, icT, icI, icS, icB, icN, icD, Nat.reduceBEq, Nat.reduceSub, Nat.reduceAdd, Bool.true_and, Bool.false_and, Bool.or_false, beq_self_eq_true]; repeat (rw [evSs_c]; simp [evIo, evSs_n, asg, asgs, frz1, own?, ixN_nat, outs, ofI, divS, gN_cf, gN_io, gN_gl, gN_gd, gN_xr, gN_fr, wipeT_nil, wipeT_cons, hm])
theorem times_cl {p : Pr} (H : H19 p) (k a b c : Int) (h : 0 ≤ k ∧ k ≤ 3) : Cl p 1 83 [.int k, .tuple [.int a, .int b, .int c]] (.tuple [.int (k * a), .int (k * b), .int (k * c)], []) := by
  refine Cl.mk H.times fun m _ => ?_
  have hm : ∀ x, mulOk k x = true := fun x => mulL (by omega)
  rw [runF_eq _ _ _ rfl]; simp only [F_times_counts, b_times_counts, ioM_f, ioM_t, startT, mark, List.replicate, List.cons_append, List.nil_append, List.contains_cons, List.contains_nil, icL, icT, icI, icS, icB, icN, icD, Nat.reduceBEq, Nat.reduceSub, Nat.reduceAdd, Bool.true_and, Bool.false_and, Bool.or_false, beq_self_eq_true]; repeat (rw [evSs_c]; simp [evIo, evSs_n, asg, asgs, frz1, own?, ixN_nat, outs, ofI, divS, gN_cf, gN_io, gN_gl, gN_gd, gN_xr, gN_fr, wipeT_nil, wipeT_cons, hm])
theorem price_cl {p : Pr} (H : H19 p) (a b c : Int) {q : C3} (hq : OkP q) : Cl p 1 94 [.tuple [.int a, .int b, .int c], .tuple [.int q.1, .int q.2.1, .int q.2.2]] (.int (a * q.1 + b * q.2.1 + c * q.2.2), []) := by
  refine Cl.mk H.lprice fun m _ => ?_
  have h1 : ∀ x, mulOk x q.1 = true := fun x => mulR (by unfold OkP at hq; omega)
  have h2 : ∀ x, mulOk x q.2.1 = true := fun x => mulR (by unfold OkP at hq; omega)
  have h3 : ∀ x, mulOk x q.2.2 = true := fun x => mulR (by unfold OkP at hq; omega)
  rw [runF_eq _ _ _ rfl]; simp only [F__law_price, b__law_price, ioM_f, ioM_t, startT, mark, List.replicate, List.cons_append, List.nil_append, List.contains_cons, List.contains_nil, icL, icT, icI, icS, icB, icN, icD, Nat.reduceBEq, Nat.reduceSub, Nat.reduceAdd, Bool.true_and, Bool.false_and, Bool.or_false, beq_self_eq_true]; repeat (rw [evSs_c]; simp [evIo, evSs_n, asg, asgs, frz1, own?, ixN_nat, outs, ofI, divS, gN_cf, gN_io, gN_gl, gN_gd, gN_xr, gN_fr, wipeT_nil, wipeT_cons, h1, h2, h3])
theorem priceo_cl {p : Pr} (H : H19 p) (a b c : Int) {q : C3} (hq : OkP q) : Cl p 1 31 [.tuple [.int a, .int b, .int c], .tuple [.int q.1, .int q.2.1, .int q.2.2]] (.int (a * q.1 + b * q.2.1 + c * q.2.2), []) := by
  refine Cl.mk H.price fun m _ => ?_
  have h1 : ∀ x, mulOk x q.1 = true := fun x => mulR (by unfold OkP at hq; omega)
  have h2 : ∀ x, mulOk x q.2.1 = true := fun x => mulR (by unfold OkP at hq; omega)
  have h3 : ∀ x, mulOk x q.2.2 = true := fun x => mulR (by unfold OkP at hq; omega)
  rw [runF_eq _ _ _ rfl]; simp only [F_price_of, b_price_of, ioM_f, ioM_t, startT, mark, List.replicate, List.cons_append, List.nil_append, List.contains_cons, List.contains_nil, icL, icT, icI, icS, icB, icN, icD, Nat.reduceBEq, Nat.reduceSub, Nat.reduceAdd, Bool.true_and, Bool.false_and, Bool.or_false, beq_self_eq_true]; repeat (rw [evSs_c]; simp [evIo, evSs_n, asg, asgs, frz1, own?, ixN_nat, outs, ofI, divS, gN_cf, gN_io, gN_gl, gN_gd, gN_xr, gN_fr, wipeT_nil, wipeT_cons, h1, h2, h3])
/-! ### tables -/
def tg (T : List En) (j : Nat) : En := T.getD (j - 1) ("", 0, 0, 0)
def tabL (T : List En) : List D := .none :: T.map eD
theorem tab_at {T : List En} {j : Nat} (h1 : 1 ≤ j) (h2 : j ≤ T.length) : atI (tabL T) (j : Int) = some (eD (tg T j)) := by
  refine atI_some ?_
  obtain ⟨i, rfl⟩ := Nat.exists_eq_add_of_le' h1
  unfold tabL tg
  rw [List.getElem?_cons_succ, List.getElem?_map, Nat.add_sub_cancel, List.getD_eq_getElem?_getD, List.getElem?_eq_getElem (by omega)]
  rfl
def plainC (m : Int) : C3 := (m * m, 0, m + 1)
def halfC (m h : Int) : C3 := (0, 2 * h + 2 * (2 * h + 2) + (2 * m - h), 6)
def thirdC (m t : Int) : C3 := (0, 6 * t + 7 * (2 * t + 2) + (2 * m - t) + (2 * m - 2 * t) + (2 * m - 3 * t), 17)
def fw (m : Nat) (f : Nat → C3) : List En :=
  (("plain" : Str), plainC m) :: ((if 4 ≤ m then [(("halves" : Str), sm (sm (ml 2 (f ((m + 1) / 2))) (f ((m + 1) / 2 + 1))) (halfC m ((m + 1) / 2 : Nat)))] else []) ++
    (if m = 3 ∨ 5 ≤ m then [(("thirds" : Str), sm (sm (ml 3 (f ((m + 2) / 3))) (ml 3 (f ((m + 2) / 3 + 1)))) (thirdC m ((m + 2) / 3 : Nat)))] else []))
def lw (n : Nat) (f g : Nat → C3) : List En :=
  (("plain" : Str), ((n : Int) * (n + 1) / 2, 0, (n : Int) + 1)) :: ((if 2 ≤ n then [(("split" : Str), sm (sm (f ((n + 1) / 2)) (ml 2 (g (n - (n + 1) / 2)))) (0, 2 * ((n : Int) - ((n + 1) / 2 : Nat)), 2))] else []) ++ [(("whole" : Str), f n)])
theorem fways_cl {p : Pr} (H : H19 p) (m : Nat) (hm : m ≤ 64) (T : List En) (hT : m ≤ T.length + 1) : Cl p 2 95 [.int (m : Nat), .list (tabL T)] (.list ((fw m fun j => (tg T j).2).map eD), []) := by
  refine Cl.mk H.fways fun n hn => ?_
  have cs := fun a b c a' b' c' => (sum_cl H a b c a' b' c').at hn
  have c2 := fun a b c => (many_cl H 2 a b c (by decide)).at hn
  have c3 := fun a b c => (many_cl H 3 a b c (by decide)).at hn
  have i1 := io_of H.lsum
  have i2 := io_of H.lmany
  simp only [F__law_sum] at i1
  simp only [F__law_many] at i2
  have mm : mulOk (m : Int) (m : Int) = true := mulL (by omega)
  have k2 : ∀ x, mulOk 2 x = true := fun x => mulL (by decide)
  have k3 : ∀ x, mulOk 3 x = true := fun x => mulL (by decide)
  have k6 : ∀ x, mulOk 6 x = true := fun x => mulL (by decide)
  have k7 : ∀ x, mulOk 7 x = true := fun x => mulL (by decide)
  have d2 : divOk ((m : Int) + 1) 2 = true := divS (by decide) (by decide)
  have d3 : divOk ((m : Int) + 2) 3 = true := divS (by decide) (by decide)
  have eh : ((m : Int) + 1) / 2 = (((m + 1) / 2 : Nat) : Int) := by omega
  have et : ((m : Int) + 2) / 3 = (((m + 2) / 3 : Nat) : Int) := by omega
  have sz1 : 1 < sizeLine := by decide
  have sz2 : 2 < sizeLine := by decide
  have eh1 : (((m + 1) / 2 : Nat) : Int) + 1 = (((m + 1) / 2 + 1 : Nat) : Int) := by omega
  have et1 : (((m + 2) / 3 : Nat) : Int) + 1 = (((m + 2) / 3 + 1 : Nat) : Int) := by omega
  have hh : 4 ≤ m → (1 ≤ (m + 1) / 2 ∧ (m + 1) / 2 + 1 ≤ T.length) := fun h => by omega
  have ht : (m = 3 ∨ 5 ≤ m) → (1 ≤ (m + 2) / 3 ∧ (m + 2) / 3 + 1 ≤ T.length) := fun h => by omega
  have ah := fun h => tab_at (T := T) (hh h).1 (by have := (hh h).2; omega)
  have ah1 := fun h => tab_at (T := T) (j := (m + 1) / 2 + 1) (by omega) (hh h).2
  have at0 := fun h => tab_at (T := T) (ht h).1 (by have := (ht h).2; omega)
  have at1 := fun h => tab_at (T := T) (j := (m + 2) / 3 + 1) (by omega) (ht h).2
  rw [← eh1] at ah1
  rw [← et1] at at1
  unfold fw
  generalize (m + 1) / 2 = h at *
  generalize (m + 2) / 3 = t at *
  generalize tabL T = TL at *
  simp only [eD, cD] at ah ah1 at0 at1
  by_cases h4 : 4 ≤ m
  · have h4' : (4 : Int) ≤ (m : Int) := by omega
    have h3 : ¬ (m = 3) := by omega
    have h3' : ¬ ((m : Int) = 3) := by omega
    have ah := ah h4
    have ah1 := ah1 h4
    by_cases h5 : 5 ≤ m
    · have h5' : (5 : Int) ≤ (m : Int) := by omega
      have at0 := at0 (.inr h5)
      have at1 := at1 (.inr h5)
      rw [runF_eq _ _ _ rfl]; simp only [F__law_full_ways, b__law_full_ways, ioM_f, ioM_t, startT, mark, List.replicate, List.cons_append, List.nil_append, List.contains_cons, List.contains_nil, icL, icT, icI, icS, icB, icN, icD, Nat.reduceBEq, Nat.reduceSub, Nat.reduceAdd, Bool.true_and, Bool.false_and, Bool.or_false, beq_self_eq_true]; repeat (rw [evSs_c]; simp [evIo, evSs_n, asg, asgs, frz1, own?, ixN_nat, outs, ofI, divS, gN_cf, gN_io, gN_gl, gN_gd, gN_xr, gN_fr, wipeT_nil, wipeT_cons, cs, c2, c3, i1, i2, mm, k2, k3, k6, k7, d2, d3, eh, et, sz1, sz2, h4, h4', h5, h5', h3, h3', ah, ah1, at0, at1, eD, cD, sm, ml, plainC, halfC, thirdC])
    · have h5' : ¬ (5 : Int) ≤ (m : Int) := by omega
      rw [runF_eq _ _ _ rfl]; simp only [F__law_full_ways, b__law_full_ways, ioM_f, ioM_t, startT, mark, List.replicate, List.cons_append, List.nil_append, List.contains_cons, List.contains_nil, icL, icT, icI, icS, icB, icN, icD, Nat.reduceBEq, Nat.reduceSub, Nat.reduceAdd, Bool.true_and, Bool.false_and, Bool.or_false, beq_self_eq_true]; repeat (rw [evSs_c]; simp [evIo, evSs_n, asg, asgs, frz1, own?, ixN_nat, outs, ofI, divS, gN_cf, gN_io, gN_gl, gN_gd, gN_xr, gN_fr, wipeT_nil, wipeT_cons, cs, c2, c3, i1, i2, mm, k2, k3, k6, k7, d2, d3, eh, et, sz1, sz2, h4, h4', h5, h5', h3, h3', ah, ah1, eD, cD, sm, ml, plainC, halfC, thirdC])
  · have h4' : ¬ (4 : Int) ≤ (m : Int) := by omega
    have h5 : ¬ 5 ≤ m := by omega
    have h5' : ¬ (5 : Int) ≤ (m : Int) := by omega
    by_cases h3 : m = 3
    · have h3' : (m : Int) = 3 := by omega
      have at0 := at0 (.inl h3)
      have at1 := at1 (.inl h3)
      have h3t : (m = 3) = True := eq_true h3
      have h3u : ((m : Int) = 3) = True := eq_true h3'
      rw [runF_eq _ _ _ rfl]; simp only [F__law_full_ways, b__law_full_ways, ioM_f, ioM_t, startT, mark, List.replicate, List.cons_append, List.nil_append, List.contains_cons, List.contains_nil, icL, icT, icI, icS, icB, icN, icD, Nat.reduceBEq, Nat.reduceSub, Nat.reduceAdd, Bool.true_and, Bool.false_and, Bool.or_false, beq_self_eq_true]; repeat (rw [evSs_c]; simp [evIo, evSs_n, asg, asgs, frz1, own?, ixN_nat, outs, ofI, divS, gN_cf, gN_io, gN_gl, gN_gd, gN_xr, gN_fr, wipeT_nil, wipeT_cons, cs, c2, c3, i1, i2, mm, k2, k3, k6, k7, d2, d3, eh, et, sz1, sz2, h4, h4', h5, h5', h3t, h3u, at0, at1, eD, cD, sm, ml, plainC, halfC, thirdC])
    · have h3' : ¬ ((m : Int) = 3) := by omega
      rw [runF_eq _ _ _ rfl]; simp only [F__law_full_ways, b__law_full_ways, ioM_f, ioM_t, startT, mark, List.replicate, List.cons_append, List.nil_append, List.contains_cons, List.contains_nil, icL, icT, icI, icS, icB, icN, icD, Nat.reduceBEq, Nat.reduceSub, Nat.reduceAdd, Bool.true_and, Bool.false_and, Bool.or_false, beq_self_eq_true]; repeat (rw [evSs_c]; simp [evIo, evSs_n, asg, asgs, frz1, own?, ixN_nat, outs, ofI, divS, gN_cf, gN_io, gN_gl, gN_gd, gN_xr, gN_fr, wipeT_nil, wipeT_cons, cs, c2, c3, i1, i2, mm, k2, k3, k6, k7, d2, d3, eh, et, sz1, sz2, h4, h4', h5, h5', h3, h3', eD, cD, sm, ml, plainC, halfC, thirdC])
theorem lways_cl {p : Pr} (H : H19 p) (m : Nat) (h1 : 1 ≤ m) (hm : m ≤ 64) (T L : List En) (hT : m ≤ T.length) (hL : m ≤ L.length + 1) : Cl p 2 96 [.int (m : Nat), .list (tabL T), .list (tabL L)] (.list ((lw m (fun j => (tg T j).2) fun j => (tg L j).2).map eD), []) := by
  refine Cl.mk H.lways fun n hn => ?_
  have cs := fun a b c a' b' c' => (sum_cl H a b c a' b' c').at hn
  have c2 := fun a b c => (many_cl H 2 a b c (by decide)).at hn
  have i1 := io_of H.lsum
  have i2 := io_of H.lmany
  simp only [F__law_sum] at i1
  simp only [F__law_many] at i2
  have mm : mulOk (m : Int) ((m : Int) + 1) = true := mulL (by omega)
  have k2 : ∀ x, mulOk 2 x = true := fun x => mulL (by decide)
  have d1 : divOk ((m : Int) * ((m : Int) + 1)) 2 = true := divS (by decide) (by decide)
  have d2 : divOk ((m : Int) + 1) 2 = true := divS (by decide) (by decide)
  have eh : ((m : Int) + 1) / 2 = (((m + 1) / 2 : Nat) : Int) := by omega
  have er : (m : Int) - (((m + 1) / 2 : Nat) : Int) = ((m - (m + 1) / 2 : Nat) : Int) := by omega
  have sz1 : 1 < sizeLine := by decide
  have sz2 : 2 < sizeLine := by decide
  have a0 := tab_at (T := T) h1 hT
  have ah := tab_at (T := T) (j := (m + 1) / 2) (by omega) (by omega)
  have ar := fun (h : 2 ≤ m) => tab_at (T := L) (j := m - (m + 1) / 2) (by omega) (by omega)
  unfold lw
  have er' := er
  generalize (m + 1) / 2 = h at *
  generalize m - h = r at *
  generalize tabL T = TL at *
  generalize tabL L = LL at *
  simp only [eD, cD] at ah ar a0
  by_cases h2 : 2 ≤ m
  · have h2' : (2 : Int) ≤ (m : Int) := by omega
    have ar := ar h2
    rw [runF_eq _ _ _ rfl]; simp only [F__law_low_ways, b__law_low_ways, ioM_f, ioM_t, startT, mark, List.replicate, List.cons_append, List.nil_append, List.contains_cons, List.contains_nil, icL, icT, icI, icS, icB, icN, icD, Nat.reduceBEq, Nat.reduceSub, Nat.reduceAdd, Bool.true_and, Bool.false_and, Bool.or_false, beq_self_eq_true]; repeat (rw [evSs_c]; simp [evIo, evSs_n, asg, asgs, frz1, own?, ixN_nat, outs, ofI, divS, gN_cf, gN_io, gN_gl, gN_gd, gN_xr, gN_fr, wipeT_nil, wipeT_cons, cs, c2, i1, i2, mm, k2, d1, d2, eh, er, sz1, sz2, h2, h2', a0, ah, ar, eD, cD, sm, ml])
  · have h2' : ¬ (2 : Int) ≤ (m : Int) := by omega
    rw [runF_eq _ _ _ rfl]; simp only [F__law_low_ways, b__law_low_ways, ioM_f, ioM_t, startT, mark, List.replicate, List.cons_append, List.nil_append, List.contains_cons, List.contains_nil, icL, icT, icI, icS, icB, icN, icD, Nat.reduceBEq, Nat.reduceSub, Nat.reduceAdd, Bool.true_and, Bool.false_and, Bool.or_false, beq_self_eq_true]; repeat (rw [evSs_c]; simp [evIo, evSs_n, asg, asgs, frz1, own?, ixN_nat, outs, ofI, divS, gN_cf, gN_io, gN_gl, gN_gd, gN_xr, gN_fr, wipeT_nil, wipeT_cons, cs, c2, i1, i2, mm, k2, d1, d2, eh, er, sz1, sz2, h2, h2', a0, ah, eD, cD, sm, ml])
end Mp

/-! k19: the chosen way, the law's own table -/
namespace Mp
open PySem PySem.Spec PyProof.Rows L2
abbrev qD (q : C3) : D := .tuple [.int q.1, .int q.2.1, .int q.2.2]
def better (q : C3) (b w : En) : En := if prc w.2 q < prc b.2 q then w else b
def least (q : C3) (ws : List En) (b : En) : En := ws.foldl (better q) b
def named (road : Str) (ws : List En) : Option En := ws.find? fun w => decide (w.1 = road)
def ch (ws : List En) (road : Str) (q : C3) : En := match named road ws with
  | some w => w
  | none => if road = ("cheapest" : Str) then least q ws (ws.headD ("", 0, 0, 0)) else ws.headD ("", 0, 0, 0)
def chS (road : Str) (q : C3) (b : En) : Tau := [none, some (false, .str road), some (false, qD q), some (false, eD b), none]
theorem ch_loop {p : Pr} (H : H19 p) {m : Nat} (hm : 1 ≤ m) (road : Str) {q : C3} (hq : OkP q) : ∀ (ws : List En) (b : En),
    (∃ w, named road ws = some w ∧ ∃ τ, forL [] [0, 4] (.n 4) (evSs (gN p m) [] b__law_chosen_0) (ws.map eD) (chS road q b) = .ret τ (eD w)) ∨
    (named road ws = none ∧ forL [] [0, 4] (.n 4) (evSs (gN p m) [] b__law_chosen_0) (ws.map eD) (chS road q b) = .nx (chS road q (if road = ("cheapest" : Str) then least q ws b else b)))
  | [], b => .inr ⟨rfl, by simp [least]; rfl⟩
  | w :: ws, b => by
    have cp := fun a b c => (price_cl H a b c hq).at hm
    have ip := io_of H.lprice
    simp only [F__law_price] at ip
    have ih := ch_loop H hm road hq ws (if road = ("cheapest" : Str) then better q b w else b)
    by_cases h : w.1 = road
    · left
      refine ⟨w, by simp [named, h], ?_⟩
      rw [List.map_cons]
      unfold forL
      have hb : ∃ τ, evSs (gN p m) [] b__law_chosen_0 [none, some (false, .str road), some (false, qD q), some (false, eD b), some (false, eD w)] = .ret τ (eD w) := by
        refine ⟨[none, some (false, .str road), some (false, qD q), some (false, eD b), some (false, eD w)], ?_⟩
        simp only [b__law_chosen_0]
        repeat (rw [evSs_c]; simp [evIo, evSs_n, asg, asgs, frz1, own?, ixN_nat, outs, ofI, divS, gN_cf, gN_io, gN_gl, gN_gd, gN_xr, gN_fr, wipeT_nil, wipeT_cons, eD, cD, h, noL, noLs])
      obtain ⟨τ, hb⟩ := hb
      refine ⟨τ, ?_⟩
      unfold chS
      simp only [asg, List.not_mem_nil, if_false, List.set_cons_succ, List.set_cons_zero, Bool.false_and, hb]
    · have hn : named road (w :: ws) = named road ws := by
        unfold named
        rw [List.find?_cons_of_neg (by simpa using h)]
      rw [hn]
      have turn : ∃ τ2, evSs (gN p m) [] b__law_chosen_0 [none, some (false, .str road), some (false, qD q), some (false, eD b), some (false, eD w)] = .nx τ2 ∧ wipeT τ2 [0, 4] = chS road q (if road = ("cheapest" : Str) then better q b w else b) := by
        by_cases hc : road = ("cheapest" : Str)
        · subst hc
          by_cases hp : w.2.1 * q.1 + w.2.2.1 * q.2.1 + w.2.2.2 * q.2.2 < b.2.1 * q.1 + b.2.2.1 * q.2.1 + b.2.2.2 * q.2.2
          · refine ⟨[none, some (false, .str "cheapest"), some (false, qD q), some (false, eD w), some (false, eD w)], ?_, ?_⟩
            · simp only [b__law_chosen_0]
              repeat (rw [evSs_c]; simp [evIo, evSs_n, asg, asgs, frz1, own?, ixN_nat, outs, ofI, divS, gN_cf, gN_io, gN_gl, gN_gd, gN_xr, gN_fr, wipeT_nil, wipeT_cons, eD, cD, h, noL, noLs, cp, ip, hp])
            · rw [if_pos rfl]
              unfold better prc chS
              rw [if_pos hp]; rfl
          · refine ⟨[none, some (false, .str "cheapest"), some (false, qD q), some (false, eD b), some (false, eD w)], ?_, ?_⟩
            · simp only [b__law_chosen_0]
              repeat (rw [evSs_c]; simp [evIo, evSs_n, asg, asgs, frz1, own?, ixN_nat, outs, ofI, divS, gN_cf, gN_io, gN_gl, gN_gd, gN_xr, gN_fr, wipeT_nil, wipeT_cons, eD, cD, h, noL, noLs, cp, ip, hp])
            · rw [if_pos rfl]
              unfold better prc chS
              rw [if_neg hp]; rfl
        · refine ⟨[none, some (false, .str road), some (false, qD q), some (false, eD b), some (false, eD w)], ?_, ?_⟩
          · simp only [b__law_chosen_0]
            repeat (rw [evSs_c]; simp [evIo, evSs_n, asg, asgs, frz1, own?, ixN_nat, outs, ofI, divS, gN_cf, gN_io, gN_gl, gN_gd, gN_xr, gN_fr, wipeT_nil, wipeT_cons, eD, cD, h, noL, noLs, hc])
          · rw [if_neg hc]; rfl
      obtain ⟨τ2, t1, t2⟩ := turn
      have step : forL [] [0, 4] (.n 4) (evSs (gN p m) [] b__law_chosen_0) ((w :: ws).map eD) (chS road q b) = forL [] [0, 4] (.n 4) (evSs (gN p m) [] b__law_chosen_0) (ws.map eD) (chS road q (if road = ("cheapest" : Str) then better q b w else b)) := by
        rw [List.map_cons]
        conv => lhs; unfold forL
        unfold chS at *
        simp only [asg, List.not_mem_nil, if_false, List.set_cons_succ, List.set_cons_zero, Bool.false_and, t1, t2]
      rw [step]
      rcases ih with ⟨w', i1, τ, i2⟩ | ⟨i1, i2⟩
      · exact .inl ⟨w', i1, τ, i2⟩
      · refine .inr ⟨i1, ?_⟩
        rw [i2]
        by_cases hc : road = ("cheapest" : Str)
        · rw [if_pos hc, if_pos hc, if_pos hc]; rfl
        · rw [if_neg hc, if_neg hc, if_neg hc]
theorem chosen_cl {p : Pr} (H : H19 p) (ws : List En) (hw : ws ≠ []) (road : Str) {q : C3} (hq : OkP q) : Cl p 2 97 [.list (ws.map eD), .str road, qD q] (eD (ch ws road q), []) := by
  refine Cl.mk H.chosen fun m hm => ?_
  match ws, hw with
  | w :: ws, _ =>
  have e := ch_loop H hm road hq (w :: ws) w
  unfold ch
  rw [List.headD_cons]
  generalize hM : (w :: ws).map eD = M at *
  have hat : atI M 0 = some (eD w) := by rw [← hM, List.map_cons]; exact atI_0
  rcases e with ⟨w', e1, τ, e2⟩ | ⟨e1, e2⟩
  · rw [e1]
    unfold chS at e2
    rw [runF_eq _ _ _ rfl]; simp only [F__law_chosen, b__law_chosen, ioM_f, ioM_t, startT, mark, List.replicate, List.cons_append, List.nil_append, List.contains_cons, List.contains_nil, icL, icT, icI, icS, icB, icN, icD, Nat.reduceBEq, Nat.reduceSub, Nat.reduceAdd, Bool.true_and, Bool.false_and, Bool.or_false, beq_self_eq_true]; repeat (rw [evSs_c]; simp [evIo, evSs_n, asg, asgs, frz1, own?, ixN_nat, outs, ofI, divS, gN_cf, gN_io, gN_gl, gN_gd, gN_xr, gN_fr, wipeT_nil, wipeT_cons, hat, e2])
  · rw [e1]
    unfold chS at e2
    rw [runF_eq _ _ _ rfl]; simp only [F__law_chosen, b__law_chosen, ioM_f, ioM_t, startT, mark, List.replicate, List.cons_append, List.nil_append, List.contains_cons, List.contains_nil, icL, icT, icI, icS, icB, icN, icD, Nat.reduceBEq, Nat.reduceSub, Nat.reduceAdd, Bool.true_and, Bool.false_and, Bool.or_false, beq_self_eq_true]; repeat (rw [evSs_c]; simp [evIo, evSs_n, asg, asgs, frz1, own?, ixN_nat, outs, ofI, divS, gN_cf, gN_io, gN_gl, gN_gd, gN_xr, gN_fr, wipeT_nil, wipeT_cons, hat, e2])
/-! ### the table -/
def tb (road lower : Str) (q : C3) : Nat → List En × List En
  | 0 => ([], [])
  | n + 1 => ((tb road lower q n).1 ++ [ch (fw (n + 1) fun j => (tg (tb road lower q n).1 j).2) road q],
      (tb road lower q n).2 ++ [ch (lw (n + 1) (fun j => (tg ((tb road lower q n).1 ++ [ch (fw (n + 1) fun j => (tg (tb road lower q n).1 j).2) road q]) j).2) fun j => (tg (tb road lower q n).2 j).2) lower q])
theorem tb_len (road lower : Str) (q : C3) : ∀ n, (tb road lower q n).1.length = n ∧ (tb road lower q n).2.length = n
  | 0 => ⟨rfl, rfl⟩
  | n + 1 => by
    have := tb_len road lower q n
    simp [tb, this.1, this.2]
theorem tabL_app (T : List En) (e : En) : tabL T ++ [eD e] = tabL (T ++ [e]) := by simp [tabL]
theorem tabL_len (T : List En) : (tabL T).length = T.length + 1 := by simp [tabL]
theorem rng1_get {n i : Nat} {d : D} (h : (rngL ((1 : Nat) : Int) n)[i]? = some d) : i < n ∧ d = .int ((i + 1 : Nat) : Int) := by
  unfold rngL at h
  rw [List.getElem?_map] at h
  obtain ⟨j, hj, rfl⟩ := Option.map_eq_some_iff.mp h
  obtain ⟨hlt, he⟩ := List.getElem?_eq_some_iff.mp hj
  rw [List.length_range] at hlt
  rw [List.getElem_range] at he
  subst he
  exact ⟨hlt, by rw [show ((1 : Nat) : Int) + (i : Nat) = ((i + 1 : Nat) : Int) by omega]⟩
theorem rng1_len (n : Nat) : (rngL ((1 : Nat) : Int) n).length = n := by simp [rngL]
theorem fw_ne (m : Nat) (f : Nat → C3) : fw m f ≠ [] := by unfold fw; simp
theorem lw_ne (m : Nat) (f g : Nat → C3) : lw m f g ≠ [] := by unfold lw; simp
theorem noL_e (e : En) : noL (eD e) = true := rfl
theorem lk_e (e : En) (L : List Nat) : lk (eD e) L = [] := by cases L <;> rfl
theorem isC_e (e : En) : isC (eD e) = false := rfl
def rdS (road lower : Str) (q : C3) (s : List En × List En) : Tau := [none, some (false, .str road), some (false, qD q), some (true, .list (tabL s.1)), some (true, .list (tabL s.2)), some (false, .str lower), none]
theorem roads_turn {p : Pr} (H : H19 p) {m : Nat} (hm : 2 ≤ m) (road lower : Str) {q : C3} (hq : OkP q) (i : Nat) (hi : i < 64) :
    Turn [] [0, 6] (.n 6) (evSs (gN p m) [] b__law_roads_0) (.int ((i + 1 : Nat) : Int)) (rdS road lower q (tb road lower q i)) (rdS road lower q (tb road lower q (i + 1))) := by
  have l := tb_len road lower q i
  show Turn _ _ _ _ _ _ (rdS road lower q (_, _))
  generalize tb road lower q i = s at *
  obtain ⟨T, L⟩ := s
  have l1 : T.length = i := l.1
  have l2 : L.length = i := l.2
  have c1 := (fways_cl H (i + 1) (by omega) T (by omega)).at hm
  have c2 := fun ws hw road => (chosen_cl H ws hw road hq).at hm
  have c3 := fun T' h => (lways_cl H (i + 1) (by omega) (by omega) T' L h (by omega)).at hm
  have h1 := c2 _ (fw_ne (i + 1) fun j => (tg T j).2) road
  generalize hE : ch (fw (i + 1) fun j => (tg T j).2) road q = e1 at *
  have c3 := c3 (T ++ [e1]) (by simp [l1])
  have h2 := c2 _ (lw_ne (i + 1) (fun j => (tg (T ++ [e1]) j).2) fun j => (tg L j).2) lower
  generalize ch (lw (i + 1) (fun j => (tg (T ++ [e1]) j).2) fun j => (tg L j).2) lower q = e2 at *
  generalize List.map eD (fw (i + 1) fun j => (tg T j).2) = W1 at *
  generalize List.map eD (lw (i + 1) (fun j => (tg (T ++ [e1]) j).2) fun j => (tg L j).2) = W2 at *
  have i1 := io_of H.fways
  have i2 := io_of H.lways
  have i3 := io_of H.chosen
  simp only [F__law_full_ways] at i1
  simp only [F__law_low_ways] at i2
  simp only [F__law_chosen] at i3
  have s1 : (tabL T).length < sizeLine := szl (by rw [tabL_len]; omega)
  have s2 : (tabL L).length < sizeLine := szl (by rw [tabL_len]; omega)
  have a1 := tabL_app T e1
  have a2 := tabL_app L e2
  generalize ((i + 1 : Nat) : Int) = ii at *
  unfold rdS
  refine Turn.of rfl ?_
  simp only [b__law_roads_0]
  repeat (rw [evSs_c]; simp [evIo, evSs_n, asg, asgs, frz1, own?, ixN_nat, outs, ofI, divS, gN_cf, gN_io, gN_gl, gN_gd, gN_xr, gN_fr, wipeT_nil, wipeT_cons, c1, h1, c3, h2, i1, i2, i3, s1, s2, a1, a2, lk_e])
def lowerOf (road : Str) : Str := if road = ("plain" : Str) then "plain" else if road = ("halves" : Str) then "split" else if road = ("thirds" : Str) then "whole" else "cheapest"
def Road (r : Str) : Prop := r = ("cheapest" : Str) ∨ r = ("plain" : Str) ∨ r = ("halves" : Str) ∨ r = ("thirds" : Str)
theorem roads_cl {p : Pr} (H : H19 p) (n : Nat) (hn : n ≤ 64) {road : Str} (hr : Road road) {q : C3} (hq : OkP q) :
    Cl p 3 98 [.int (n : Nat), .str road, qD q] (.tuple [.list (tabL (tb road (lowerOf road) q n).1), .list (tabL (tb road (lowerOf road) q n).2)], []) := by
  refine Cl.mk H.roads fun m hm => ?_
  have e := forL_ix (io := []) (dead := [0, 6]) (t := .n 6) (body := evSs (gN p m) [] b__law_roads_0) (rngL ((1 : Nat) : Int) n) (fun j => rdS road (lowerOf road) q (tb road (lowerOf road) q j)) 0 fun i d hd => by
    obtain ⟨hi, rfl⟩ := rng1_get hd
    rw [Nat.zero_add]
    exact roads_turn H hm road _ hq i (by omega)
  rw [rng1_len, Nat.zero_add] at e
  have hrg := rng2 (a := 1) (n := n + 1) (by omega) (by omega)
  rw [Nat.add_sub_cancel] at hrg
  have hrg : rngR 1 ((n : Int) + 1) = .ok (rngL ((1 : Nat) : Int) n, []) := hrg
  generalize rngL ((1 : Nat) : Int) n = R at *
  have e : forL [] [0, 6] (.n 6) (evSs (gN p m) [] b__law_roads_0) R [none, some (false, .str road), some (false, qD q), some (true, .list [.none]), some (true, .list [.none]), some (false, .str (lowerOf road)), none] = .nx (rdS road (lowerOf road) q (tb road (lowerOf road) q n)) := e
  generalize tb road (lowerOf road) q n = s at *
  obtain ⟨T, L⟩ := s
  unfold rdS at e
  rcases hr with rfl | rfl | rfl | rfl
  · have e : forL [] [0, 6] (.n 6) (evSs (gN p m) [] b__law_roads_0) R [none, some (false, .str "cheapest"), some (false, qD q), some (true, .list [.none]), some (true, .list [.none]), some (false, .str "cheapest"), none] = .nx _ := e
    rw [runF_eq _ _ _ rfl]; simp only [F__law_roads, b__law_roads, ioM_f, ioM_t, startT, mark, List.replicate, List.cons_append, List.nil_append, List.contains_cons, List.contains_nil, icL, icT, icI, icS, icB, icN, icD, Nat.reduceBEq, Nat.reduceSub, Nat.reduceAdd, Bool.true_and, Bool.false_and, Bool.or_false, beq_self_eq_true]; repeat (rw [evSs_c]; simp [evIo, evSs_n, asg, asgs, frz1, own?, ixN_nat, outs, ofI, divS, gN_cf, gN_io, gN_gl, gN_gd, gN_xr, gN_fr, wipeT_nil, wipeT_cons, hrg, e, subD, isKey, dGet, keyEq])
  · have e : forL [] [0, 6] (.n 6) (evSs (gN p m) [] b__law_roads_0) R [none, some (false, .str "plain"), some (false, qD q), some (true, .list [.none]), some (true, .list [.none]), some (false, .str "plain"), none] = .nx _ := e
    rw [runF_eq _ _ _ rfl]; simp only [F__law_roads, b__law_roads, ioM_f, ioM_t, startT, mark, List.replicate, List.cons_append, List.nil_append, List.contains_cons, List.contains_nil, icL, icT, icI, icS, icB, icN, icD, Nat.reduceBEq, Nat.reduceSub, Nat.reduceAdd, Bool.true_and, Bool.false_and, Bool.or_false, beq_self_eq_true]; repeat (rw [evSs_c]; simp [evIo, evSs_n, asg, asgs, frz1, own?, ixN_nat, outs, ofI, divS, gN_cf, gN_io, gN_gl, gN_gd, gN_xr, gN_fr, wipeT_nil, wipeT_cons, hrg, e, subD, isKey, dGet, keyEq])
  · have e : forL [] [0, 6] (.n 6) (evSs (gN p m) [] b__law_roads_0) R [none, some (false, .str "halves"), some (false, qD q), some (true, .list [.none]), some (true, .list [.none]), some (false, .str "split"), none] = .nx _ := e
    rw [runF_eq _ _ _ rfl]; simp only [F__law_roads, b__law_roads, ioM_f, ioM_t, startT, mark, List.replicate, List.cons_append, List.nil_append, List.contains_cons, List.contains_nil, icL, icT, icI, icS, icB, icN, icD, Nat.reduceBEq, Nat.reduceSub, Nat.reduceAdd, Bool.true_and, Bool.false_and, Bool.or_false, beq_self_eq_true]; repeat (rw [evSs_c]; simp [evIo, evSs_n, asg, asgs, frz1, own?, ixN_nat, outs, ofI, divS, gN_cf, gN_io, gN_gl, gN_gd, gN_xr, gN_fr, wipeT_nil, wipeT_cons, hrg, e, subD, isKey, dGet, keyEq])
  · have e : forL [] [0, 6] (.n 6) (evSs (gN p m) [] b__law_roads_0) R [none, some (false, .str "thirds"), some (false, qD q), some (true, .list [.none]), some (true, .list [.none]), some (false, .str "whole"), none] = .nx _ := e
    rw [runF_eq _ _ _ rfl]; simp only [F__law_roads, b__law_roads, ioM_f, ioM_t, startT, mark, List.replicate, List.cons_append, List.nil_append, List.contains_cons, List.contains_nil, icL, icT, icI, icS, icB, icN, icD, Nat.reduceBEq, Nat.reduceSub, Nat.reduceAdd, Bool.true_and, Bool.false_and, Bool.or_false, beq_self_eq_true]; repeat (rw [evSs_c]; simp [evIo, evSs_n, asg, asgs, frz1, own?, ixN_nat, outs, ofI, divS, gN_cf, gN_io, gN_gl, gN_gd, gN_xr, gN_fr, wipeT_nil, wipeT_cons, hrg, e, subD, isKey, dGet, keyEq])
end Mp

/-! k19: the program's entries -/
namespace Mp
open PySem PySem.Spec PyProof.Rows L2
/-! ### counts -/
theorem fplain_cl {p : Pr} (H : H19 p) (m : Nat) (hm : m ≤ 64) (T : D) : Cl p 2 86 [.str "plain", .int (m : Nat), T] (cD (plainC m), []) := by
  refine Cl.mk H.fcounts fun n hn => ?_
  have mm : mulOk (m : Int) (m : Int) = true := mulL (by omega)
  rw [runF_eq _ _ _ rfl]; simp only [F_full_counts, b_full_counts, ioM_f, ioM_t, startT, mark, List.replicate, List.cons_append, List.nil_append, List.contains_cons, List.contains_nil, icL, icT, icI, icS, icB, icN, icD, Nat.reduceBEq, Nat.reduceSub, Nat.reduceAdd, Bool.true_and, Bool.false_and, Bool.or_false, beq_self_eq_true]; repeat (rw [evSs_c]; simp [evIo, evSs_n, asg, asgs, frz1, own?, ixN_nat, outs, ofI, divS, gN_cf, gN_io, gN_gl, gN_gd, gN_xr, gN_fr, wipeT_nil, wipeT_cons, mm, cD, plainC])
theorem fhalf_cl {p : Pr} (H : H19 p) (m : Nat) (hm : m ≤ 64) (h4 : 4 ≤ m) (T : List En) (hT : m ≤ T.length + 1) : Cl p 2 86 [.str "halves", .int (m : Nat), .list (tabL T)] (cD (sm (sm (ml 2 (tg T ((m + 1) / 2)).2) (tg T ((m + 1) / 2 + 1)).2) (halfC m ((m + 1) / 2 : Nat))), []) := by
  refine Cl.mk H.fcounts fun n hn => ?_
  have cs := fun a b c a' b' c' => (sumc_cl H a b c a' b' c').at hn
  have c2 := fun a b c => (times_cl H 2 a b c (by decide)).at hn
  have i1 := io_of H.sumc
  have i2 := io_of H.times
  simp only [F_sum_counts] at i1
  simp only [F_times_counts] at i2
  have k2 : ∀ x, mulOk 2 x = true := fun x => mulL (by decide)
  have d2 : divOk ((m : Int) + 1) 2 = true := divS (by decide) (by decide)
  have eh : ((m : Int) + 1) / 2 = (((m + 1) / 2 : Nat) : Int) := by omega
  have eh1 : (((m + 1) / 2 : Nat) : Int) + 1 = (((m + 1) / 2 + 1 : Nat) : Int) := by omega
  have ah := tab_at (T := T) (j := (m + 1) / 2) (by omega) (by omega)
  have ah1 := tab_at (T := T) (j := (m + 1) / 2 + 1) (by omega) (by omega)
  rw [← eh1] at ah1
  generalize (m + 1) / 2 = h at *
  generalize tabL T = TL at *
  simp only [eD, cD] at ah ah1
  rw [runF_eq _ _ _ rfl]; simp only [F_full_counts, b_full_counts, ioM_f, ioM_t, startT, mark, List.replicate, List.cons_append, List.nil_append, List.contains_cons, List.contains_nil, icL, icT, icI, icS, icB, icN, icD, Nat.reduceBEq, Nat.reduceSub, Nat.reduceAdd, Bool.true_and, Bool.false_and, Bool.or_false, beq_self_eq_true]; repeat (rw [evSs_c]; simp [evIo, evSs_n, asg, asgs, frz1, own?, ixN_nat, outs, ofI, divS, gN_cf, gN_io, gN_gl, gN_gd, gN_xr, gN_fr, wipeT_nil, wipeT_cons, cs, c2, i1, i2, k2, d2, eh, ah, ah1, cD, sm, ml, halfC])
theorem fthird_cl {p : Pr} (H : H19 p) (m : Nat) (hm : m ≤ 64) (h4 : m = 3 ∨ 5 ≤ m) (T : List En) (hT : m ≤ T.length + 1) : Cl p 2 86 [.str "thirds", .int (m : Nat), .list (tabL T)] (cD (sm (sm (ml 3 (tg T ((m + 2) / 3)).2) (ml 3 (tg T ((m + 2) / 3 + 1)).2)) (thirdC m ((m + 2) / 3 : Nat))), []) := by
  refine Cl.mk H.fcounts fun n hn => ?_
  have cs := fun a b c a' b' c' => (sumc_cl H a b c a' b' c').at hn
  have c3 := fun a b c => (times_cl H 3 a b c (by decide)).at hn
  have i1 := io_of H.sumc
  have i2 := io_of H.times
  simp only [F_sum_counts] at i1
  simp only [F_times_counts] at i2
  have k2 : ∀ x, mulOk 2 x = true := fun x => mulL (by decide)
  have k6 : ∀ x, mulOk 6 x = true := fun x => mulL (by decide)
  have k7 : ∀ x, mulOk 7 x = true := fun x => mulL (by decide)
  have d3 : divOk ((m : Int) + 2) 3 = true := divS (by decide) (by decide)
  have et : ((m : Int) + 2) / 3 = (((m + 2) / 3 : Nat) : Int) := by omega
  have et1 : (((m + 2) / 3 : Nat) : Int) + 1 = (((m + 2) / 3 + 1 : Nat) : Int) := by omega
  have at0 := tab_at (T := T) (j := (m + 2) / 3) (by omega) (by omega)
  have at1 := tab_at (T := T) (j := (m + 2) / 3 + 1) (by omega) (by omega)
  rw [← et1] at at1
  generalize (m + 2) / 3 = t at *
  generalize tabL T = TL at *
  simp only [eD, cD] at at0 at1
  have ea : thirdC m t = (0, 6 * (t : Int) + 7 * (2 * t + 2) + 6 * m - 6 * t, 17) := by
    unfold thirdC
    rw [Prod.mk.injEq, Prod.mk.injEq]
    refine ⟨rfl, ?_, rfl⟩
    omega
  rw [ea]
  rw [runF_eq _ _ _ rfl]; simp only [F_full_counts, b_full_counts, ioM_f, ioM_t, startT, mark, List.replicate, List.cons_append, List.nil_append, List.contains_cons, List.contains_nil, icL, icT, icI, icS, icB, icN, icD, Nat.reduceBEq, Nat.reduceSub, Nat.reduceAdd, Bool.true_and, Bool.false_and, Bool.or_false, beq_self_eq_true]; repeat (rw [evSs_c]; simp [evIo, evSs_n, asg, asgs, frz1, own?, ixN_nat, outs, ofI, divS, gN_cf, gN_io, gN_gl, gN_gd, gN_xr, gN_fr, wipeT_nil, wipeT_cons, cs, c3, i1, i2, k2, k6, k7, d3, et, at0, at1, cD, sm, ml])
theorem lplain_cl {p : Pr} (H : H19 p) (m : Nat) (hm : m ≤ 64) (T L : D) : Cl p 2 87 [.str "plain", .int (m : Nat), T, L] (cD ((m : Int) * (m + 1) / 2, 0, (m : Int) + 1), []) := by
  refine Cl.mk H.lcounts fun n hn => ?_
  have mm : mulOk (m : Int) ((m : Int) + 1) = true := mulL (by omega)
  have d1 : divOk ((m : Int) * ((m : Int) + 1)) 2 = true := divS (by decide) (by decide)
  rw [runF_eq _ _ _ rfl]; simp only [F_low_counts, b_low_counts, ioM_f, ioM_t, startT, mark, List.replicate, List.cons_append, List.nil_append, List.contains_cons, List.contains_nil, icL, icT, icI, icS, icB, icN, icD, Nat.reduceBEq, Nat.reduceSub, Nat.reduceAdd, Bool.true_and, Bool.false_and, Bool.or_false, beq_self_eq_true]; repeat (rw [evSs_c]; simp [evIo, evSs_n, asg, asgs, frz1, own?, ixN_nat, outs, ofI, divS, gN_cf, gN_io, gN_gl, gN_gd, gN_xr, gN_fr, wipeT_nil, wipeT_cons, mm, d1, cD])
theorem lwhole_cl {p : Pr} (H : H19 p) (m : Nat) (hm : 1 ≤ m) (T : List En) (hT : m ≤ T.length) (L : D) : Cl p 2 87 [.str "whole", .int (m : Nat), .list (tabL T), L] (cD (tg T m).2, []) := by
  refine Cl.mk H.lcounts fun n hn => ?_
  have a0 := tab_at (T := T) hm hT
  generalize tabL T = TL at *
  simp only [eD, cD] at a0
  rw [runF_eq _ _ _ rfl]; simp only [F_low_counts, b_low_counts, ioM_f, ioM_t, startT, mark, List.replicate, List.cons_append, List.nil_append, List.contains_cons, List.contains_nil, icL, icT, icI, icS, icB, icN, icD, Nat.reduceBEq, Nat.reduceSub, Nat.reduceAdd, Bool.true_and, Bool.false_and, Bool.or_false, beq_self_eq_true]; repeat (rw [evSs_c]; simp [evIo, evSs_n, asg, asgs, frz1, own?, ixN_nat, outs, ofI, divS, gN_cf, gN_io, gN_gl, gN_gd, gN_xr, gN_fr, wipeT_nil, wipeT_cons, a0, cD, noL, noLs])
theorem lsplit_cl {p : Pr} (H : H19 p) (m : Nat) (hm : m ≤ 64) (h2 : 2 ≤ m) (T L : List En) (hT : m ≤ T.length) (hL : m ≤ L.length + 1) : Cl p 2 87 [.str "split", .int (m : Nat), .list (tabL T), .list (tabL L)] (cD (sm (sm (tg T ((m + 1) / 2)).2 (ml 2 (tg L (m - (m + 1) / 2)).2)) (0, 2 * ((m : Int) - ((m + 1) / 2 : Nat)), 2)), []) := by
  refine Cl.mk H.lcounts fun n hn => ?_
  have cs := fun a b c a' b' c' => (sumc_cl H a b c a' b' c').at hn
  have c2 := fun a b c => (times_cl H 2 a b c (by decide)).at hn
  have i1 := io_of H.sumc
  have i2 := io_of H.times
  simp only [F_sum_counts] at i1
  simp only [F_times_counts] at i2
  have k2 : ∀ x, mulOk 2 x = true := fun x => mulL (by decide)
  have d2 : divOk ((m : Int) + 1) 2 = true := divS (by decide) (by decide)
  have eh : ((m : Int) + 1) / 2 = (((m + 1) / 2 : Nat) : Int) := by omega
  have er : (m : Int) - (((m + 1) / 2 : Nat) : Int) = ((m - (m + 1) / 2 : Nat) : Int) := by omega
  have ah := tab_at (T := T) (j := (m + 1) / 2) (by omega) (by omega)
  have ar := tab_at (T := L) (j := m - (m + 1) / 2) (by omega) (by omega)
  generalize (m + 1) / 2 = h at *
  generalize m - h = r at *
  generalize tabL T = TL at *
  generalize tabL L = LL at *
  simp only [eD, cD] at ah ar
  rw [runF_eq _ _ _ rfl]; simp only [F_low_counts, b_low_counts, ioM_f, ioM_t, startT, mark, List.replicate, List.cons_append, List.nil_append, List.contains_cons, List.contains_nil, icL, icT, icI, icS, icB, icN, icD, Nat.reduceBEq, Nat.reduceSub, Nat.reduceAdd, Bool.true_and, Bool.false_and, Bool.or_false, beq_self_eq_true]; repeat (rw [evSs_c]; simp [evIo, evSs_n, asg, asgs, frz1, own?, ixN_nat, outs, ofI, divS, gN_cf, gN_io, gN_gl, gN_gd, gN_xr, gN_fr, wipeT_nil, wipeT_cons, cs, c2, i1, i2, k2, d2, eh, er, ah, ar, cD, sm, ml])
/-! ### what is allowed -/
theorem fallow_cl {p : Pr} (H : H19 p) (m : Nat) (r : Str) : Cl p 1 84 [.str r, .int (m : Nat)] (.bool (if r = ("halves" : Str) then decide (4 ≤ m) else if r = ("thirds" : Str) then decide (m = 3 ∨ 5 ≤ m) else true), []) := by
  refine Cl.mk H.fallow fun n _ => ?_
  by_cases h1 : r = ("halves" : Str)
  · subst h1
    by_cases h4 : 4 ≤ m
    · have h4' : (4 : Int) ≤ (m : Int) := by omega
      rw [runF_eq _ _ _ rfl]; simp only [F_full_allowed, b_full_allowed, ioM_f, ioM_t, startT, mark, List.replicate, List.cons_append, List.nil_append, List.contains_cons, List.contains_nil, icL, icT, icI, icS, icB, icN, icD, Nat.reduceBEq, Nat.reduceSub, Nat.reduceAdd, Bool.true_and, Bool.false_and, Bool.or_false, beq_self_eq_true]; repeat (rw [evSs_c]; simp [evIo, evSs_n, asg, asgs, frz1, own?, ixN_nat, outs, ofI, divS, gN_cf, gN_io, gN_gl, gN_gd, gN_xr, gN_fr, wipeT_nil, wipeT_cons, h4, h4'])
    · have h4' : ¬ (4 : Int) ≤ (m : Int) := by omega
      rw [runF_eq _ _ _ rfl]; simp only [F_full_allowed, b_full_allowed, ioM_f, ioM_t, startT, mark, List.replicate, List.cons_append, List.nil_append, List.contains_cons, List.contains_nil, icL, icT, icI, icS, icB, icN, icD, Nat.reduceBEq, Nat.reduceSub, Nat.reduceAdd, Bool.true_and, Bool.false_and, Bool.or_false, beq_self_eq_true]; repeat (rw [evSs_c]; simp [evIo, evSs_n, asg, asgs, frz1, own?, ixN_nat, outs, ofI, divS, gN_cf, gN_io, gN_gl, gN_gd, gN_xr, gN_fr, wipeT_nil, wipeT_cons, h4, h4'])
  · by_cases h2 : r = ("thirds" : Str)
    · subst h2
      by_cases h3 : m = 3
      · have h3u : ((m : Int) = 3) = True := eq_true (by omega)
        have h3t : (m = 3) = True := eq_true h3
        rw [runF_eq _ _ _ rfl]; simp only [F_full_allowed, b_full_allowed, ioM_f, ioM_t, startT, mark, List.replicate, List.cons_append, List.nil_append, List.contains_cons, List.contains_nil, icL, icT, icI, icS, icB, icN, icD, Nat.reduceBEq, Nat.reduceSub, Nat.reduceAdd, Bool.true_and, Bool.false_and, Bool.or_false, beq_self_eq_true]; repeat (rw [evSs_c]; simp [evIo, evSs_n, asg, asgs, frz1, own?, ixN_nat, outs, ofI, divS, gN_cf, gN_io, gN_gl, gN_gd, gN_xr, gN_fr, wipeT_nil, wipeT_cons, h3u, h3t])
      · have h3u : ¬ ((m : Int) = 3) := by omega
        by_cases h5 : 5 ≤ m
        · have h5' : (5 : Int) ≤ (m : Int) := by omega
          rw [runF_eq _ _ _ rfl]; simp only [F_full_allowed, b_full_allowed, ioM_f, ioM_t, startT, mark, List.replicate, List.cons_append, List.nil_append, List.contains_cons, List.contains_nil, icL, icT, icI, icS, icB, icN, icD, Nat.reduceBEq, Nat.reduceSub, Nat.reduceAdd, Bool.true_and, Bool.false_and, Bool.or_false, beq_self_eq_true]; repeat (rw [evSs_c]; simp [evIo, evSs_n, asg, asgs, frz1, own?, ixN_nat, outs, ofI, divS, gN_cf, gN_io, gN_gl, gN_gd, gN_xr, gN_fr, wipeT_nil, wipeT_cons, h3, h3u, h5, h5'])
        · have h5' : ¬ (5 : Int) ≤ (m : Int) := by omega
          rw [runF_eq _ _ _ rfl]; simp only [F_full_allowed, b_full_allowed, ioM_f, ioM_t, startT, mark, List.replicate, List.cons_append, List.nil_append, List.contains_cons, List.contains_nil, icL, icT, icI, icS, icB, icN, icD, Nat.reduceBEq, Nat.reduceSub, Nat.reduceAdd, Bool.true_and, Bool.false_and, Bool.or_false, beq_self_eq_true]; repeat (rw [evSs_c]; simp [evIo, evSs_n, asg, asgs, frz1, own?, ixN_nat, outs, ofI, divS, gN_cf, gN_io, gN_gl, gN_gd, gN_xr, gN_fr, wipeT_nil, wipeT_cons, h3, h3u, h5, h5'])
    · rw [runF_eq _ _ _ rfl]; simp only [F_full_allowed, b_full_allowed, ioM_f, ioM_t, startT, mark, List.replicate, List.cons_append, List.nil_append, List.contains_cons, List.contains_nil, icL, icT, icI, icS, icB, icN, icD, Nat.reduceBEq, Nat.reduceSub, Nat.reduceAdd, Bool.true_and, Bool.false_and, Bool.or_false, beq_self_eq_true]; repeat (rw [evSs_c]; simp [evIo, evSs_n, asg, asgs, frz1, own?, ixN_nat, outs, ofI, divS, gN_cf, gN_io, gN_gl, gN_gd, gN_xr, gN_fr, wipeT_nil, wipeT_cons, h1, h2])
theorem lallow_cl {p : Pr} (H : H19 p) (m : Nat) (r : Str) : Cl p 1 85 [.str r, .int (m : Nat)] (.bool (if r = ("split" : Str) then decide (2 ≤ m) else true), []) := by
  refine Cl.mk H.lallow fun n _ => ?_
  by_cases h1 : r = ("split" : Str)
  · subst h1
    by_cases h4 : 2 ≤ m
    · have h4' : (2 : Int) ≤ (m : Int) := by omega
      rw [runF_eq _ _ _ rfl]; simp only [F_low_allowed, b_low_allowed, ioM_f, ioM_t, startT, mark, List.replicate, List.cons_append, List.nil_append, List.contains_cons, List.contains_nil, icL, icT, icI, icS, icB, icN, icD, Nat.reduceBEq, Nat.reduceSub, Nat.reduceAdd, Bool.true_and, Bool.false_and, Bool.or_false, beq_self_eq_true]; repeat (rw [evSs_c]; simp [evIo, evSs_n, asg, asgs, frz1, own?, ixN_nat, outs, ofI, divS, gN_cf, gN_io, gN_gl, gN_gd, gN_xr, gN_fr, wipeT_nil, wipeT_cons, h4, h4'])
    · have h4' : ¬ (2 : Int) ≤ (m : Int) := by omega
      rw [runF_eq _ _ _ rfl]; simp only [F_low_allowed, b_low_allowed, ioM_f, ioM_t, startT, mark, List.replicate, List.cons_append, List.nil_append, List.contains_cons, List.contains_nil, icL, icT, icI, icS, icB, icN, icD, Nat.reduceBEq, Nat.reduceSub, Nat.reduceAdd, Bool.true_and, Bool.false_and, Bool.or_false, beq_self_eq_true]; repeat (rw [evSs_c]; simp [evIo, evSs_n, asg, asgs, frz1, own?, ixN_nat, outs, ofI, divS, gN_cf, gN_io, gN_gl, gN_gd, gN_xr, gN_fr, wipeT_nil, wipeT_cons, h4, h4'])
  · rw [runF_eq _ _ _ rfl]; simp only [F_low_allowed, b_low_allowed, ioM_f, ioM_t, startT, mark, List.replicate, List.cons_append, List.nil_append, List.contains_cons, List.contains_nil, icL, icT, icI, icS, icB, icN, icD, Nat.reduceBEq, Nat.reduceSub, Nat.reduceAdd, Bool.true_and, Bool.false_and, Bool.or_false, beq_self_eq_true]; repeat (rw [evSs_c]; simp [evIo, evSs_n, asg, asgs, frz1, own?, ixN_nat, outs, ofI, divS, gN_cf, gN_io, gN_gl, gN_gd, gN_xr, gN_fr, wipeT_nil, wipeT_cons, h1])
/-! ### the cheapest -/
def cpS (q : C3) (b : En) : Tau := [none, some (false, qD q), some (false, eD b), none]
theorem cheap_loop {p : Pr} (H : H19 p) {m : Nat} (hm : 1 ≤ m) {q : C3} (hq : OkP q) : ∀ (ws : List En) (b : En), forL [] [0, 3] (.n 3) (evSs (gN p m) [] b_cheapest_0) (ws.map eD) (cpS q b) = .nx (cpS q (least q ws b))
  | [], b => rfl
  | w :: ws, b => by
    have cp := fun a b c => (priceo_cl H a b c hq).at hm
    have ip := io_of H.price
    simp only [F_price_of] at ip
    have turn : ∃ τ2, evSs (gN p m) [] b_cheapest_0 [none, some (false, qD q), some (false, eD b), some (false, eD w)] = .nx τ2 ∧ wipeT τ2 [0, 3] = cpS q (better q b w) := by
      by_cases hp : w.2.1 * q.1 + w.2.2.1 * q.2.1 + w.2.2.2 * q.2.2 < b.2.1 * q.1 + b.2.2.1 * q.2.1 + b.2.2.2 * q.2.2
      · refine ⟨[none, some (false, qD q), some (false, eD w), some (false, eD w)], ?_, ?_⟩
        · simp only [b_cheapest_0]
          repeat (rw [evSs_c]; simp [evIo, evSs_n, asg, asgs, frz1, own?, ixN_nat, outs, ofI, divS, gN_cf, gN_io, gN_gl, gN_gd, gN_xr, gN_fr, wipeT_nil, wipeT_cons, eD, cD, noL, noLs, cp, ip, hp])
        · unfold better prc cpS
          rw [if_pos hp]; rfl
      · refine ⟨[none, some (false, qD q), some (false, eD b), some (false, eD w)], ?_, ?_⟩
        · simp only [b_cheapest_0]
          repeat (rw [evSs_c]; simp [evIo, evSs_n, asg, asgs, frz1, own?, ixN_nat, outs, ofI, divS, gN_cf, gN_io, gN_gl, gN_gd, gN_xr, gN_fr, wipeT_nil, wipeT_cons, eD, cD, noL, noLs, cp, ip, hp])
        · unfold better prc cpS
          rw [if_neg hp]; rfl
    obtain ⟨τ2, t1, t2⟩ := turn
    have ih := cheap_loop H hm hq ws (better q b w)
    rw [List.map_cons]
    conv => lhs; unfold forL
    unfold cpS at *
    simp only [asg, List.not_mem_nil, if_false, List.set_cons_succ, List.set_cons_zero, Bool.false_and, t1, t2]
    exact ih
theorem cheap_cl {p : Pr} (H : H19 p) (w : En) (ws : List En) {q : C3} (hq : OkP q) : Cl p 2 88 [.list (eD w :: ws.map eD), qD q] (eD (least q ws w), []) := by
  refine Cl.mk H.cheap fun m hm => ?_
  have e := cheap_loop H hm hq ws w
  unfold cpS at e
  have ct : cutD (eD w :: ws.map eD) (some 1) none = ws.map eD := cut_from (eD w :: ws.map eD) 1
  generalize ws.map eD = M at *
  rw [runF_eq _ _ _ rfl]; simp only [F_cheapest, b_cheapest, ioM_f, ioM_t, startT, mark, List.replicate, List.cons_append, List.nil_append, List.contains_cons, List.contains_nil, icL, icT, icI, icS, icB, icN, icD, Nat.reduceBEq, Nat.reduceSub, Nat.reduceAdd, Bool.true_and, Bool.false_and, Bool.or_false, beq_self_eq_true]; repeat (rw [evSs_c]; simp [evIo, evSs_n, asg, asgs, frz1, own?, ixN_nat, outs, ofI, divS, gN_cf, gN_io, gN_gl, gN_gd, gN_xr, gN_fr, wipeT_nil, wipeT_cons, ct, e, lk_e])
theorem least_cons (q : C3) (w : En) (ws : List En) : least q (w :: ws) w = least q ws w := by
  unfold least
  rw [List.foldl_cons]
  have : better q w w = w := by unfold better; split <;> rfl
  rw [this]
end Mp

/-! k19: the program's table -/
namespace Mp
open PySem PySem.Spec PyProof.Rows L2
def setD (b : Int) (road : Str) (q : C3) : D := .tuple [.str "setup", .int b, .str road, qD q]
abbrev lkp (T : List En) : Nat → C3 := fun j => (tg T j).2
theorem fentry_cl {p : Pr} (H : H19 p) (m : Nat) (h1 : 1 ≤ m) (hm : m ≤ 64) (b : Int) {road : Str} (hr : Road road) {q : C3} (hq : OkP q) (T : List En) (hT : m ≤ T.length + 1) :
    Cl p 3 89 [.int (m : Nat), setD b road q, .list (tabL T)] (eD (ch (fw m fun j => (tg T j).2) road q), []) := by
  refine Cl.mk H.fentry fun n hn => ?_
  have g5 := H.g5
  have ca := fun r => (fallow_cl H m r).at (n := n) (by omega)
  have cp := fun T => (fplain_cl H m hm T).at hn
  have chf := fun h => (fhalf_cl H m hm h T hT).at hn
  have ct := fun h => (fthird_cl H m hm h T hT).at hn
  have cc := fun w ws => (cheap_cl H w ws hq).at hn
  have i1 := io_of H.fallow
  have i2 := io_of H.fcounts
  have i3 := io_of H.cheap
  simp only [F_full_allowed] at i1
  simp only [F_full_counts] at i2
  simp only [F_cheapest] at i3
  unfold ch named
  unfold fw
  dsimp only
  generalize plainC (m : Int) = C1 at *
  generalize sm (sm (ml 2 (tg T ((m + 1) / 2)).2) (tg T ((m + 1) / 2 + 1)).2) (halfC m ((m + 1) / 2 : Nat)) = C2 at *
  generalize sm (sm (ml 3 (tg T ((m + 2) / 3)).2) (ml 3 (tg T ((m + 2) / 3 + 1)).2)) (thirdC m ((m + 2) / 3 : Nat)) = C3' at *
  have cc1 := cc ("plain", C1) []
  have cc2 := cc ("plain", C1) [(("halves" : Str), C2)]
  have cc3 := cc ("plain", C1) [(("thirds" : Str), C3')]
  have cc4 := cc ("plain", C1) [(("halves" : Str), C2), (("thirds" : Str), C3')]
  have e1 := least_cons q ("plain", C1) []
  have e2 := least_cons q ("plain", C1) [(("halves" : Str), C2)]
  have e3 := least_cons q ("plain", C1) [(("thirds" : Str), C3')]
  have e4 := least_cons q ("plain", C1) [(("halves" : Str), C2), (("thirds" : Str), C3')]
  simp only [List.map_cons, List.map_nil] at cc1 cc2 cc3 cc4
  generalize least q [] (("plain" : Str), C1) = L1 at *
  generalize least q [(("halves" : Str), C2)] (("plain" : Str), C1) = L2 at *
  generalize least q [(("thirds" : Str), C3')] (("plain" : Str), C1) = L3 at *
  generalize least q [(("halves" : Str), C2), (("thirds" : Str), C3')] (("plain" : Str), C1) = L4 at *
  have hd : ∀ (s : Str) (c : C3), eD (s, c) = .tuple [.str s, cD c] := fun _ _ => rfl
  simp only [hd] at cc1 cc2 cc3 cc4
  clear cc
  by_cases h4 : 4 ≤ m
  · have h3 : ¬ (m = 3) := by omega
    have chf := chf h4
    by_cases h5 : 5 ≤ m
    · have ct := ct (.inr h5)
      rcases hr with rfl | rfl | rfl | rfl
      · rw [runF_eq _ _ _ rfl]; simp only [F_full_entry, b_full_entry, ioM_f, ioM_t, startT, mark, List.replicate, List.cons_append, List.nil_append, List.contains_cons, List.contains_nil, icL, icT, icI, icS, icB, icN, icD, Nat.reduceBEq, Nat.reduceSub, Nat.reduceAdd, Bool.true_and, Bool.false_and, Bool.or_false, beq_self_eq_true]; repeat (rw [evSs_c]; simp [evIo, evSs_n, asg, asgs, frz1, own?, ixN_nat, outs, ofI, divS, gN_cf, gN_io, gN_gl, gN_gd, gN_xr, gN_fr, wipeT_nil, wipeT_cons, setD, g5, ca, cp, chf, ct, cc4, e4, i1, i2, i3, h4, h3, h5, compL, hd, noL, noLs])
      · rw [runF_eq _ _ _ rfl]; simp only [F_full_entry, b_full_entry, ioM_f, ioM_t, startT, mark, List.replicate, List.cons_append, List.nil_append, List.contains_cons, List.contains_nil, icL, icT, icI, icS, icB, icN, icD, Nat.reduceBEq, Nat.reduceSub, Nat.reduceAdd, Bool.true_and, Bool.false_and, Bool.or_false, beq_self_eq_true]; repeat (rw [evSs_c]; simp [evIo, evSs_n, asg, asgs, frz1, own?, ixN_nat, outs, ofI, divS, gN_cf, gN_io, gN_gl, gN_gd, gN_xr, gN_fr, wipeT_nil, wipeT_cons, setD, g5, ca, cp, chf, ct, cc4, e4, i1, i2, i3, h4, h3, h5, compL, hd])
      · rw [runF_eq _ _ _ rfl]; simp only [F_full_entry, b_full_entry, ioM_f, ioM_t, startT, mark, List.replicate, List.cons_append, List.nil_append, List.contains_cons, List.contains_nil, icL, icT, icI, icS, icB, icN, icD, Nat.reduceBEq, Nat.reduceSub, Nat.reduceAdd, Bool.true_and, Bool.false_and, Bool.or_false, beq_self_eq_true]; repeat (rw [evSs_c]; simp [evIo, evSs_n, asg, asgs, frz1, own?, ixN_nat, outs, ofI, divS, gN_cf, gN_io, gN_gl, gN_gd, gN_xr, gN_fr, wipeT_nil, wipeT_cons, setD, g5, ca, cp, chf, ct, cc4, e4, i1, i2, i3, h4, h3, h5, compL, hd])
      · rw [runF_eq _ _ _ rfl]; simp only [F_full_entry, b_full_entry, ioM_f, ioM_t, startT, mark, List.replicate, List.cons_append, List.nil_append, List.contains_cons, List.contains_nil, icL, icT, icI, icS, icB, icN, icD, Nat.reduceBEq, Nat.reduceSub, Nat.reduceAdd, Bool.true_and, Bool.false_and, Bool.or_false, beq_self_eq_true]; repeat (rw [evSs_c]; simp [evIo, evSs_n, asg, asgs, frz1, own?, ixN_nat, outs, ofI, divS, gN_cf, gN_io, gN_gl, gN_gd, gN_xr, gN_fr, wipeT_nil, wipeT_cons, setD, g5, ca, cp, chf, ct, cc4, e4, i1, i2, i3, h4, h3, h5, compL, hd])
    · rcases hr with rfl | rfl | rfl | rfl
      · rw [runF_eq _ _ _ rfl]; simp only [F_full_entry, b_full_entry, ioM_f, ioM_t, startT, mark, List.replicate, List.cons_append, List.nil_append, List.contains_cons, List.contains_nil, icL, icT, icI, icS, icB, icN, icD, Nat.reduceBEq, Nat.reduceSub, Nat.reduceAdd, Bool.true_and, Bool.false_and, Bool.or_false, beq_self_eq_true]; repeat (rw [evSs_c]; simp [evIo, evSs_n, asg, asgs, frz1, own?, ixN_nat, outs, ofI, divS, gN_cf, gN_io, gN_gl, gN_gd, gN_xr, gN_fr, wipeT_nil, wipeT_cons, setD, g5, ca, cp, chf, cc2, e2, i1, i2, i3, h4, h3, h5, compL, hd])
      · rw [runF_eq _ _ _ rfl]; simp only [F_full_entry, b_full_entry, ioM_f, ioM_t, startT, mark, List.replicate, List.cons_append, List.nil_append, List.contains_cons, List.contains_nil, icL, icT, icI, icS, icB, icN, icD, Nat.reduceBEq, Nat.reduceSub, Nat.reduceAdd, Bool.true_and, Bool.false_and, Bool.or_false, beq_self_eq_true]; repeat (rw [evSs_c]; simp [evIo, evSs_n, asg, asgs, frz1, own?, ixN_nat, outs, ofI, divS, gN_cf, gN_io, gN_gl, gN_gd, gN_xr, gN_fr, wipeT_nil, wipeT_cons, setD, g5, ca, cp, chf, cc2, e2, i1, i2, i3, h4, h3, h5, compL, hd])
      · rw [runF_eq _ _ _ rfl]; simp only [F_full_entry, b_full_entry, ioM_f, ioM_t, startT, mark, List.replicate, List.cons_append, List.nil_append, List.contains_cons, List.contains_nil, icL, icT, icI, icS, icB, icN, icD, Nat.reduceBEq, Nat.reduceSub, Nat.reduceAdd, Bool.true_and, Bool.false_and, Bool.or_false, beq_self_eq_true]; repeat (rw [evSs_c]; simp [evIo, evSs_n, asg, asgs, frz1, own?, ixN_nat, outs, ofI, divS, gN_cf, gN_io, gN_gl, gN_gd, gN_xr, gN_fr, wipeT_nil, wipeT_cons, setD, g5, ca, cp, chf, cc2, e2, i1, i2, i3, h4, h3, h5, compL, hd])
      · rw [runF_eq _ _ _ rfl]; simp only [F_full_entry, b_full_entry, ioM_f, ioM_t, startT, mark, List.replicate, List.cons_append, List.nil_append, List.contains_cons, List.contains_nil, icL, icT, icI, icS, icB, icN, icD, Nat.reduceBEq, Nat.reduceSub, Nat.reduceAdd, Bool.true_and, Bool.false_and, Bool.or_false, beq_self_eq_true]; repeat (rw [evSs_c]; simp [evIo, evSs_n, asg, asgs, frz1, own?, ixN_nat, outs, ofI, divS, gN_cf, gN_io, gN_gl, gN_gd, gN_xr, gN_fr, wipeT_nil, wipeT_cons, setD, g5, ca, cp, chf, cc2, e2, i1, i2, i3, h4, h3, h5, compL, hd])
  · have h5 : ¬ 5 ≤ m := by omega
    by_cases h3 : m = 3
    · have ct := ct (.inl h3)
      have h3t : (m = 3) = True := eq_true h3
      rcases hr with rfl | rfl | rfl | rfl
      · rw [runF_eq _ _ _ rfl]; simp only [F_full_entry, b_full_entry, ioM_f, ioM_t, startT, mark, List.replicate, List.cons_append, List.nil_append, List.contains_cons, List.contains_nil, icL, icT, icI, icS, icB, icN, icD, Nat.reduceBEq, Nat.reduceSub, Nat.reduceAdd, Bool.true_and, Bool.false_and, Bool.or_false, beq_self_eq_true]; repeat (rw [evSs_c]; simp [evIo, evSs_n, asg, asgs, frz1, own?, ixN_nat, outs, ofI, divS, gN_cf, gN_io, gN_gl, gN_gd, gN_xr, gN_fr, wipeT_nil, wipeT_cons, setD, g5, ca, cp, ct, cc3, e3, i1, i2, i3, h4, h3t, h5, compL, hd])
      · rw [runF_eq _ _ _ rfl]; simp only [F_full_entry, b_full_entry, ioM_f, ioM_t, startT, mark, List.replicate, List.cons_append, List.nil_append, List.contains_cons, List.contains_nil, icL, icT, icI, icS, icB, icN, icD, Nat.reduceBEq, Nat.reduceSub, Nat.reduceAdd, Bool.true_and, Bool.false_and, Bool.or_false, beq_self_eq_true]; repeat (rw [evSs_c]; simp [evIo, evSs_n, asg, asgs, frz1, own?, ixN_nat, outs, ofI, divS, gN_cf, gN_io, gN_gl, gN_gd, gN_xr, gN_fr, wipeT_nil, wipeT_cons, setD, g5, ca, cp, ct, cc3, e3, i1, i2, i3, h4, h3t, h5, compL, hd])
      · rw [runF_eq _ _ _ rfl]; simp only [F_full_entry, b_full_entry, ioM_f, ioM_t, startT, mark, List.replicate, List.cons_append, List.nil_append, List.contains_cons, List.contains_nil, icL, icT, icI, icS, icB, icN, icD, Nat.reduceBEq, Nat.reduceSub, Nat.reduceAdd, Bool.true_and, Bool.false_and, Bool.or_false, beq_self_eq_true]; repeat (rw [evSs_c]; simp [evIo, evSs_n, asg, asgs, frz1, own?, ixN_nat, outs, ofI, divS, gN_cf, gN_io, gN_gl, gN_gd, gN_xr, gN_fr, wipeT_nil, wipeT_cons, setD, g5, ca, cp, ct, cc3, e3, i1, i2, i3, h4, h3t, h5, compL, hd])
      · rw [runF_eq _ _ _ rfl]; simp only [F_full_entry, b_full_entry, ioM_f, ioM_t, startT, mark, List.replicate, List.cons_append, List.nil_append, List.contains_cons, List.contains_nil, icL, icT, icI, icS, icB, icN, icD, Nat.reduceBEq, Nat.reduceSub, Nat.reduceAdd, Bool.true_and, Bool.false_and, Bool.or_false, beq_self_eq_true]; repeat (rw [evSs_c]; simp [evIo, evSs_n, asg, asgs, frz1, own?, ixN_nat, outs, ofI, divS, gN_cf, gN_io, gN_gl, gN_gd, gN_xr, gN_fr, wipeT_nil, wipeT_cons, setD, g5, ca, cp, ct, cc3, e3, i1, i2, i3, h4, h3t, h5, compL, hd])
    · rcases hr with rfl | rfl | rfl | rfl
      · rw [runF_eq _ _ _ rfl]; simp only [F_full_entry, b_full_entry, ioM_f, ioM_t, startT, mark, List.replicate, List.cons_append, List.nil_append, List.contains_cons, List.contains_nil, icL, icT, icI, icS, icB, icN, icD, Nat.reduceBEq, Nat.reduceSub, Nat.reduceAdd, Bool.true_and, Bool.false_and, Bool.or_false, beq_self_eq_true]; repeat (rw [evSs_c]; simp [evIo, evSs_n, asg, asgs, frz1, own?, ixN_nat, outs, ofI, divS, gN_cf, gN_io, gN_gl, gN_gd, gN_xr, gN_fr, wipeT_nil, wipeT_cons, setD, g5, ca, cp, cc1, e1, i1, i2, i3, h4, h3, h5, compL, hd])
      · rw [runF_eq _ _ _ rfl]; simp only [F_full_entry, b_full_entry, ioM_f, ioM_t, startT, mark, List.replicate, List.cons_append, List.nil_append, List.contains_cons, List.contains_nil, icL, icT, icI, icS, icB, icN, icD, Nat.reduceBEq, Nat.reduceSub, Nat.reduceAdd, Bool.true_and, Bool.false_and, Bool.or_false, beq_self_eq_true]; repeat (rw [evSs_c]; simp [evIo, evSs_n, asg, asgs, frz1, own?, ixN_nat, outs, ofI, divS, gN_cf, gN_io, gN_gl, gN_gd, gN_xr, gN_fr, wipeT_nil, wipeT_cons, setD, g5, ca, cp, cc1, e1, i1, i2, i3, h4, h3, h5, compL, hd])
      · rw [runF_eq _ _ _ rfl]; simp only [F_full_entry, b_full_entry, ioM_f, ioM_t, startT, mark, List.replicate, List.cons_append, List.nil_append, List.contains_cons, List.contains_nil, icL, icT, icI, icS, icB, icN, icD, Nat.reduceBEq, Nat.reduceSub, Nat.reduceAdd, Bool.true_and, Bool.false_and, Bool.or_false, beq_self_eq_true]; repeat (rw [evSs_c]; simp [evIo, evSs_n, asg, asgs, frz1, own?, ixN_nat, outs, ofI, divS, gN_cf, gN_io, gN_gl, gN_gd, gN_xr, gN_fr, wipeT_nil, wipeT_cons, setD, g5, ca, cp, cc1, e1, i1, i2, i3, h4, h3, h5, compL, hd])
      · rw [runF_eq _ _ _ rfl]; simp only [F_full_entry, b_full_entry, ioM_f, ioM_t, startT, mark, List.replicate, List.cons_append, List.nil_append, List.contains_cons, List.contains_nil, icL, icT, icI, icS, icB, icN, icD, Nat.reduceBEq, Nat.reduceSub, Nat.reduceAdd, Bool.true_and, Bool.false_and, Bool.or_false, beq_self_eq_true]; repeat (rw [evSs_c]; simp [evIo, evSs_n, asg, asgs, frz1, own?, ixN_nat, outs, ofI, divS, gN_cf, gN_io, gN_gl, gN_gd, gN_xr, gN_fr, wipeT_nil, wipeT_cons, setD, g5, ca, cp, cc1, e1, i1, i2, i3, h4, h3, h5, compL, hd])
end Mp

/-! k19: the program's table, whole; setups -/
namespace Mp
open PySem PySem.Spec PyProof.Rows L2
theorem lentry_cl {p : Pr} (H : H19 p) (m : Nat) (h1 : 1 ≤ m) (hm : m ≤ 64) (b : Int) {road : Str} (hr : Road road) {q : C3} (hq : OkP q) (T L : List En) (hT : m ≤ T.length) (hL : m ≤ L.length + 1) :
    Cl p 3 90 [.int (m : Nat), setD b road q, .list (tabL T), .list (tabL L)] (eD (ch (lw m (fun j => (tg T j).2) fun j => (tg L j).2) (lowerOf road) q), []) := by
  refine Cl.mk H.lentry fun n hn => ?_
  have g6 := H.g6
  have ca := fun r => (lallow_cl H m r).at (n := n) (by omega)
  have cp := fun T L => (lplain_cl H m hm T L).at hn
  have cw := (lwhole_cl H m h1 T hT (.list (tabL L))).at hn
  have cs := fun h => (lsplit_cl H m hm h T L hT hL).at hn
  have cc := fun w ws => (cheap_cl H w ws hq).at hn
  have i1 := io_of H.lallow
  have i2 := io_of H.lcounts
  have i3 := io_of H.cheap
  simp only [F_low_allowed] at i1
  simp only [F_low_counts] at i2
  simp only [F_cheapest] at i3
  unfold ch named
  unfold lw
  dsimp only
  generalize (((m : Int) * (m + 1) / 2, 0, (m : Int) + 1) : C3) = C1 at *
  generalize sm (sm (tg T ((m + 1) / 2)).2 (ml 2 (tg L (m - (m + 1) / 2)).2)) (0, 2 * ((m : Int) - ((m + 1) / 2 : Nat)), 2) = C2 at *
  generalize (tg T m).2 = C3' at *
  have cc1 := cc ("plain", C1) [(("whole" : Str), C3')]
  have cc2 := cc ("plain", C1) [(("split" : Str), C2), (("whole" : Str), C3')]
  have e1 := least_cons q ("plain", C1) [(("whole" : Str), C3')]
  have e2 := least_cons q ("plain", C1) [(("split" : Str), C2), (("whole" : Str), C3')]
  simp only [List.map_cons, List.map_nil] at cc1 cc2
  generalize least q [(("whole" : Str), C3')] (("plain" : Str), C1) = L1 at *
  generalize least q [(("split" : Str), C2), (("whole" : Str), C3')] (("plain" : Str), C1) = L2 at *
  have hd : ∀ (s : Str) (c : C3), eD (s, c) = .tuple [.str s, cD c] := fun _ _ => rfl
  simp only [hd] at cc1 cc2
  clear cc
  by_cases h2 : 2 ≤ m
  · have cs := cs h2
    rcases hr with rfl | rfl | rfl | rfl
    · rw [runF_eq _ _ _ rfl]; simp only [F_low_entry, b_low_entry, ioM_f, ioM_t, startT, mark, List.replicate, List.cons_append, List.nil_append, List.contains_cons, List.contains_nil, icL, icT, icI, icS, icB, icN, icD, Nat.reduceBEq, Nat.reduceSub, Nat.reduceAdd, Bool.true_and, Bool.false_and, Bool.or_false, beq_self_eq_true]; repeat (rw [evSs_c]; simp [evIo, evSs_n, asg, asgs, frz1, own?, ixN_nat, outs, ofI, divS, gN_cf, gN_io, gN_gl, gN_gd, gN_xr, gN_fr, wipeT_nil, wipeT_cons, setD, g6, ca, cp, cw, cs, cc2, e2, i1, i2, i3, h2, compL, hd, subD, isKey, dGet, keyEq, lowerOf])
    · rw [runF_eq _ _ _ rfl]; simp only [F_low_entry, b_low_entry, ioM_f, ioM_t, startT, mark, List.replicate, List.cons_append, List.nil_append, List.contains_cons, List.contains_nil, icL, icT, icI, icS, icB, icN, icD, Nat.reduceBEq, Nat.reduceSub, Nat.reduceAdd, Bool.true_and, Bool.false_and, Bool.or_false, beq_self_eq_true]; repeat (rw [evSs_c]; simp [evIo, evSs_n, asg, asgs, frz1, own?, ixN_nat, outs, ofI, divS, gN_cf, gN_io, gN_gl, gN_gd, gN_xr, gN_fr, wipeT_nil, wipeT_cons, setD, g6, ca, cp, cw, cs, cc2, e2, i1, i2, i3, h2, compL, hd, subD, isKey, dGet, keyEq, lowerOf])
    · rw [runF_eq _ _ _ rfl]; simp only [F_low_entry, b_low_entry, ioM_f, ioM_t, startT, mark, List.replicate, List.cons_append, List.nil_append, List.contains_cons, List.contains_nil, icL, icT, icI, icS, icB, icN, icD, Nat.reduceBEq, Nat.reduceSub, Nat.reduceAdd, Bool.true_and, Bool.false_and, Bool.or_false, beq_self_eq_true]; repeat (rw [evSs_c]; simp [evIo, evSs_n, asg, asgs, frz1, own?, ixN_nat, outs, ofI, divS, gN_cf, gN_io, gN_gl, gN_gd, gN_xr, gN_fr, wipeT_nil, wipeT_cons, setD, g6, ca, cp, cw, cs, cc2, e2, i1, i2, i3, h2, compL, hd, subD, isKey, dGet, keyEq, lowerOf])
    · rw [runF_eq _ _ _ rfl]; simp only [F_low_entry, b_low_entry, ioM_f, ioM_t, startT, mark, List.replicate, List.cons_append, List.nil_append, List.contains_cons, List.contains_nil, icL, icT, icI, icS, icB, icN, icD, Nat.reduceBEq, Nat.reduceSub, Nat.reduceAdd, Bool.true_and, Bool.false_and, Bool.or_false, beq_self_eq_true]; repeat (rw [evSs_c]; simp [evIo, evSs_n, asg, asgs, frz1, own?, ixN_nat, outs, ofI, divS, gN_cf, gN_io, gN_gl, gN_gd, gN_xr, gN_fr, wipeT_nil, wipeT_cons, setD, g6, ca, cp, cw, cs, cc2, e2, i1, i2, i3, h2, compL, hd, subD, isKey, dGet, keyEq, lowerOf])
  · rcases hr with rfl | rfl | rfl | rfl
    · rw [runF_eq _ _ _ rfl]; simp only [F_low_entry, b_low_entry, ioM_f, ioM_t, startT, mark, List.replicate, List.cons_append, List.nil_append, List.contains_cons, List.contains_nil, icL, icT, icI, icS, icB, icN, icD, Nat.reduceBEq, Nat.reduceSub, Nat.reduceAdd, Bool.true_and, Bool.false_and, Bool.or_false, beq_self_eq_true]; repeat (rw [evSs_c]; simp [evIo, evSs_n, asg, asgs, frz1, own?, ixN_nat, outs, ofI, divS, gN_cf, gN_io, gN_gl, gN_gd, gN_xr, gN_fr, wipeT_nil, wipeT_cons, setD, g6, ca, cp, cw, cc1, e1, i1, i2, i3, h2, compL, hd, subD, isKey, dGet, keyEq, lowerOf])
    · rw [runF_eq _ _ _ rfl]; simp only [F_low_entry, b_low_entry, ioM_f, ioM_t, startT, mark, List.replicate, List.cons_append, List.nil_append, List.contains_cons, List.contains_nil, icL, icT, icI, icS, icB, icN, icD, Nat.reduceBEq, Nat.reduceSub, Nat.reduceAdd, Bool.true_and, Bool.false_and, Bool.or_false, beq_self_eq_true]; repeat (rw [evSs_c]; simp [evIo, evSs_n, asg, asgs, frz1, own?, ixN_nat, outs, ofI, divS, gN_cf, gN_io, gN_gl, gN_gd, gN_xr, gN_fr, wipeT_nil, wipeT_cons, setD, g6, ca, cp, cw, cc1, e1, i1, i2, i3, h2, compL, hd, subD, isKey, dGet, keyEq, lowerOf])
    · rw [runF_eq _ _ _ rfl]; simp only [F_low_entry, b_low_entry, ioM_f, ioM_t, startT, mark, List.replicate, List.cons_append, List.nil_append, List.contains_cons, List.contains_nil, icL, icT, icI, icS, icB, icN, icD, Nat.reduceBEq, Nat.reduceSub, Nat.reduceAdd, Bool.true_and, Bool.false_and, Bool.or_false, beq_self_eq_true]; repeat (rw [evSs_c]; simp [evIo, evSs_n, asg, asgs, frz1, own?, ixN_nat, outs, ofI, divS, gN_cf, gN_io, gN_gl, gN_gd, gN_xr, gN_fr, wipeT_nil, wipeT_cons, setD, g6, ca, cp, cw, cc1, e1, i1, i2, i3, h2, compL, hd, subD, isKey, dGet, keyEq, lowerOf])
    · rw [runF_eq _ _ _ rfl]; simp only [F_low_entry, b_low_entry, ioM_f, ioM_t, startT, mark, List.replicate, List.cons_append, List.nil_append, List.contains_cons, List.contains_nil, icL, icT, icI, icS, icB, icN, icD, Nat.reduceBEq, Nat.reduceSub, Nat.reduceAdd, Bool.true_and, Bool.false_and, Bool.or_false, beq_self_eq_true]; repeat (rw [evSs_c]; simp [evIo, evSs_n, asg, asgs, frz1, own?, ixN_nat, outs, ofI, divS, gN_cf, gN_io, gN_gl, gN_gd, gN_xr, gN_fr, wipeT_nil, wipeT_cons, setD, g6, ca, cp, cw, cc1, e1, i1, i2, i3, h2, compL, hd, subD, isKey, dGet, keyEq, lowerOf])
def tbS (S : D) (s : List En × List En) : Tau := [none, some (false, S), some (true, .list (tabL s.1)), some (true, .list (tabL s.2)), none]
theorem table_turn {p : Pr} (H : H19 p) {m : Nat} (hm : 3 ≤ m) (b : Int) {road : Str} (hr : Road road) {q : C3} (hq : OkP q) (i : Nat) (hi : i < 64) :
    Turn [] [0, 4] (.n 4) (evSs (gN p m) [] b_road_table_0) (.int ((i + 1 : Nat) : Int)) (tbS (setD b road q) (tb road (lowerOf road) q i)) (tbS (setD b road q) (tb road (lowerOf road) q (i + 1))) := by
  have l := tb_len road (lowerOf road) q i
  show Turn _ _ _ _ _ _ (tbS _ (_, _))
  generalize tb road (lowerOf road) q i = s at *
  obtain ⟨T, L⟩ := s
  have l1 : T.length = i := l.1
  have l2 : L.length = i := l.2
  have c1 := (fentry_cl H (i + 1) (by omega) (by omega) b hr hq T (by omega)).at hm
  have c3 := fun T' h => (lentry_cl H (i + 1) (by omega) (by omega) b hr hq T' L h (by omega)).at hm
  generalize hE : ch (fw (i + 1) fun j => (tg T j).2) road q = e1 at *
  have c3 := c3 (T ++ [e1]) (by simp [l1])
  generalize ch (lw (i + 1) (fun j => (tg (T ++ [e1]) j).2) fun j => (tg L j).2) (lowerOf road) q = e2 at *
  have i1 := io_of H.fentry
  have i2 := io_of H.lentry
  simp only [F_full_entry] at i1
  simp only [F_low_entry] at i2
  have s1 : (tabL T).length < sizeLine := szl (by rw [tabL_len]; omega)
  have s2 : (tabL L).length < sizeLine := szl (by rw [tabL_len]; omega)
  have a1 := tabL_app T e1
  have a2 := tabL_app L e2
  generalize ((i + 1 : Nat) : Int) = ii at *
  generalize setD b road q = S at *
  unfold tbS
  refine Turn.of rfl ?_
  simp only [b_road_table_0]
  repeat (rw [evSs_c]; simp [evIo, evSs_n, asg, asgs, frz1, own?, ixN_nat, outs, ofI, divS, gN_cf, gN_io, gN_gl, gN_gd, gN_xr, gN_fr, wipeT_nil, wipeT_cons, c1, c3, i1, i2, s1, s2, a1, a2, lk_e])
def tabD (s : List En × List En) : D := .tuple [.str "roads", .tuple (tabL s.1), .tuple (tabL s.2)]
theorem table_cl {p : Pr} (H : H19 p) (n : Nat) (hn : n ≤ 64) (b : Int) {road : Str} (hr : Road road) {q : C3} (hq : OkP q) :
    Cl p 4 91 [.int (n : Nat), setD b road q] (tabD (tb road (lowerOf road) q n), []) := by
  refine Cl.mk H.table fun m hm => ?_
  have e := forL_ix (io := []) (dead := [0, 4]) (t := .n 4) (body := evSs (gN p m) [] b_road_table_0) (rngL ((1 : Nat) : Int) n) (fun j => tbS (setD b road q) (tb road (lowerOf road) q j)) 0 fun i d hd => by
    obtain ⟨hi, rfl⟩ := rng1_get hd
    rw [Nat.zero_add]
    exact table_turn H hm b hr hq i (by omega)
  rw [rng1_len, Nat.zero_add] at e
  have hrg := rng2 (a := 1) (n := n + 1) (by omega) (by omega)
  rw [Nat.add_sub_cancel] at hrg
  have hrg : rngR 1 ((n : Int) + 1) = .ok (rngL ((1 : Nat) : Int) n, []) := hrg
  generalize rngL ((1 : Nat) : Int) n = R at *
  have e : forL [] [0, 4] (.n 4) (evSs (gN p m) [] b_road_table_0) R [none, some (false, setD b road q), some (true, .list [.none]), some (true, .list [.none]), none] = .nx (tbS (setD b road q) (tb road (lowerOf road) q n)) := e
  generalize tb road (lowerOf road) q n = s at *
  obtain ⟨T, L⟩ := s
  generalize setD b road q = S at *
  unfold tbS at e
  rw [runF_eq _ _ _ rfl]; simp only [F_road_table, b_road_table, ioM_f, ioM_t, startT, mark, List.replicate, List.cons_append, List.nil_append, List.contains_cons, List.contains_nil, icL, icT, icI, icS, icB, icN, icD, Nat.reduceBEq, Nat.reduceSub, Nat.reduceAdd, Bool.true_and, Bool.false_and, Bool.or_false, beq_self_eq_true]; repeat (rw [evSs_c]; simp [evIo, evSs_n, asg, asgs, frz1, own?, ixN_nat, outs, ofI, divS, gN_cf, gN_io, gN_gl, gN_gd, gN_xr, gN_fr, wipeT_nil, wipeT_cons, hrg, e, tabD])
/-! ### a setup -/
theorem whole_i {p : Pr} (H : H19 p) (i : Int) : Cl p 1 23 [.int i] (.bool true, []) := by
  refine Cl.mk H.whole fun m _ => ?_
  rw [runF_eq _ _ _ rfl]; simp only [F_is_whole, b_is_whole, ioM_f, ioM_t, startT, mark, List.replicate, List.cons_append, List.nil_append, List.contains_cons, List.contains_nil, icL, icT, icI, icS, icB, icN, icD, Nat.reduceBEq, Nat.reduceSub, Nat.reduceAdd, Bool.true_and, Bool.false_and, Bool.or_false, beq_self_eq_true]; repeat (rw [evSs_c]; simp [evIo, evSs_n, asg, asgs, frz1, own?, ixN_nat, outs, ofI, divS, gN_cf, gN_io, gN_gl, gN_gd, gN_xr, gN_fr, wipeT_nil, wipeT_cons, isiD, isT, tyOf])
theorem lwhole_i {p : Pr} (H : H19 p) (i : Int) : Cl p 1 62 [.int i] (.bool true, []) := by
  refine Cl.mk H.lwhole fun m _ => ?_
  rw [runF_eq _ _ _ rfl]; simp only [F__law_is_whole, b__law_is_whole, ioM_f, ioM_t, startT, mark, List.replicate, List.cons_append, List.nil_append, List.contains_cons, List.contains_nil, icL, icT, icI, icS, icB, icN, icD, Nat.reduceBEq, Nat.reduceSub, Nat.reduceAdd, Bool.true_and, Bool.false_and, Bool.or_false, beq_self_eq_true]; repeat (rw [evSs_c]; simp [evIo, evSs_n, asg, asgs, frz1, own?, ixN_nat, outs, ofI, divS, gN_cf, gN_io, gN_gl, gN_gd, gN_xr, gN_fr, wipeT_nil, wipeT_cons, isiD, isT, tyOf])
theorem goodp_cl {p : Pr} (H : H19 p) {q : C3} (hq : OkP q) : Cl p 2 58 [qD q] (.bool true, []) := by
  refine Cl.mk H.goodp fun m hm => ?_
  have w := fun i => (whole_i H i).at hm
  have i1 := io_of H.whole
  simp only [F_is_whole] at i1
  have g4 := H.g4
  obtain ⟨a, b, c⟩ := q
  unfold OkP at hq
  simp only at hq
  have n1 : ¬ a < 1 := by omega
  have n2 : ¬ b < 1 := by omega
  have n3 : ¬ c < 1 := by omega
  have m1 : ¬ 1000 < a := by omega
  have m2 : ¬ 1000 < b := by omega
  have m3 : ¬ 1000 < c := by omega
  have e := forL_same (io := []) (dead := [0, 1]) (t := .n 1) (body := evSs (gN p m) [] b_good_prices_0) (τ := [none, none]) [.int a, .int b, .int c] fun d hd => by
    simp only [List.mem_cons, List.not_mem_nil, or_false] at hd
    rcases hd with rfl | rfl | rfl
    · exact Turn.of rfl (by simp only [b_good_prices_0]; repeat (rw [evSs_c]; simp [evIo, evSs_n, asg, asgs, frz1, own?, ixN_nat, outs, ofI, divS, gN_cf, gN_io, gN_gl, gN_gd, gN_xr, gN_fr, wipeT_nil, wipeT_cons, w, i1, g4, n1, m1]))
    · exact Turn.of rfl (by simp only [b_good_prices_0]; repeat (rw [evSs_c]; simp [evIo, evSs_n, asg, asgs, frz1, own?, ixN_nat, outs, ofI, divS, gN_cf, gN_io, gN_gl, gN_gd, gN_xr, gN_fr, wipeT_nil, wipeT_cons, w, i1, g4, n2, m2]))
    · exact Turn.of rfl (by simp only [b_good_prices_0]; repeat (rw [evSs_c]; simp [evIo, evSs_n, asg, asgs, frz1, own?, ixN_nat, outs, ofI, divS, gN_cf, gN_io, gN_gl, gN_gd, gN_xr, gN_fr, wipeT_nil, wipeT_cons, w, i1, g4, n3, m3]))
  rw [runF_eq _ _ _ rfl]; simp only [F_good_prices, b_good_prices, ioM_f, ioM_t, startT, mark, List.replicate, List.cons_append, List.nil_append, List.contains_cons, List.contains_nil, icL, icT, icI, icS, icB, icN, icD, Nat.reduceBEq, Nat.reduceSub, Nat.reduceAdd, Bool.true_and, Bool.false_and, Bool.or_false, beq_self_eq_true]; repeat (rw [evSs_c]; simp [evIo, evSs_n, asg, asgs, frz1, own?, ixN_nat, outs, ofI, divS, gN_cf, gN_io, gN_gl, gN_gd, gN_xr, gN_fr, wipeT_nil, wipeT_cons, isiD, isT, tyOf, e, noL, noLs])
theorem setup_cl {p : Pr} (H : H19 p) {b : Int} (hb : 8 ≤ b ∧ b ≤ 16) {road : Str} (hr : Road road) {q : C3} (hq : OkP q) : Cl p 3 81 [.int b, .str road, qD q] (setD b road q, []) := by
  refine Cl.mk H.setup fun m hm => ?_
  have w := (whole_i H b).at (n := m) (by omega)
  have i1 := io_of H.whole
  have i2 := io_of H.goodp
  simp only [F_is_whole] at i1
  simp only [F_good_prices] at i2
  have gp := (goodp_cl H hq).at hm
  have g1 := H.g1
  have g2 := H.g2
  have g3 := H.g3
  have n1 : ¬ b < 8 := by omega
  have n2 : ¬ 16 < b := by omega
  rcases hr with rfl | rfl | rfl | rfl
  · rw [runF_eq _ _ _ rfl]; simp only [F_setup_of__v2, b_setup_of__v2, ioM_f, ioM_t, startT, mark, List.replicate, List.cons_append, List.nil_append, List.contains_cons, List.contains_nil, icL, icT, icI, icS, icB, icN, icD, Nat.reduceBEq, Nat.reduceSub, Nat.reduceAdd, Bool.true_and, Bool.false_and, Bool.or_false, beq_self_eq_true]; repeat (rw [evSs_c]; simp [evIo, evSs_n, asg, asgs, frz1, own?, ixN_nat, outs, ofI, divS, gN_cf, gN_io, gN_gl, gN_gd, gN_xr, gN_fr, wipeT_nil, wipeT_cons, w, i1, i2, gp, g1, g2, g3, n1, n2, isiD, isT, tyOf, setD, noL, noLs])
  · rw [runF_eq _ _ _ rfl]; simp only [F_setup_of__v2, b_setup_of__v2, ioM_f, ioM_t, startT, mark, List.replicate, List.cons_append, List.nil_append, List.contains_cons, List.contains_nil, icL, icT, icI, icS, icB, icN, icD, Nat.reduceBEq, Nat.reduceSub, Nat.reduceAdd, Bool.true_and, Bool.false_and, Bool.or_false, beq_self_eq_true]; repeat (rw [evSs_c]; simp [evIo, evSs_n, asg, asgs, frz1, own?, ixN_nat, outs, ofI, divS, gN_cf, gN_io, gN_gl, gN_gd, gN_xr, gN_fr, wipeT_nil, wipeT_cons, w, i1, i2, gp, g1, g2, g3, n1, n2, isiD, isT, tyOf, setD, noL, noLs])
  · rw [runF_eq _ _ _ rfl]; simp only [F_setup_of__v2, b_setup_of__v2, ioM_f, ioM_t, startT, mark, List.replicate, List.cons_append, List.nil_append, List.contains_cons, List.contains_nil, icL, icT, icI, icS, icB, icN, icD, Nat.reduceBEq, Nat.reduceSub, Nat.reduceAdd, Bool.true_and, Bool.false_and, Bool.or_false, beq_self_eq_true]; repeat (rw [evSs_c]; simp [evIo, evSs_n, asg, asgs, frz1, own?, ixN_nat, outs, ofI, divS, gN_cf, gN_io, gN_gl, gN_gd, gN_xr, gN_fr, wipeT_nil, wipeT_cons, w, i1, i2, gp, g1, g2, g3, n1, n2, isiD, isT, tyOf, setD, noL, noLs])
  · rw [runF_eq _ _ _ rfl]; simp only [F_setup_of__v2, b_setup_of__v2, ioM_f, ioM_t, startT, mark, List.replicate, List.cons_append, List.nil_append, List.contains_cons, List.contains_nil, icL, icT, icI, icS, icB, icN, icD, Nat.reduceBEq, Nat.reduceSub, Nat.reduceAdd, Bool.true_and, Bool.false_and, Bool.or_false, beq_self_eq_true]; repeat (rw [evSs_c]; simp [evIo, evSs_n, asg, asgs, frz1, own?, ixN_nat, outs, ofI, divS, gN_cf, gN_io, gN_gl, gN_gd, gN_xr, gN_fr, wipeT_nil, wipeT_cons, w, i1, i2, gp, g1, g2, g3, n1, n2, isiD, isT, tyOf, setD, noL, noLs])
end Mp

/-! k19: tables that are told -/
namespace Mp
open PySem PySem.Spec PyProof.Rows L2
/-- a name that a datum may hold -/
def NmOk (e : En) : Prop := PyData.canLay0 (.str e.1) = true
theorem eqD_e {e : En} (h : NmOk e) : eqD (eD e) (eD e) = some true := by
  unfold eD cD
  refine eqT_refl (n := 2) (Sh.tup fun d hd => ?_) (by decide)
  simp only [List.mem_cons, List.not_mem_nil, or_false] at hd
  rcases hd with rfl | rfl
  · exact Sh.str _ h
  · exact Sh.tup fun d hd => by
      simp only [List.mem_cons, List.not_mem_nil, or_false] at hd
      rcases hd with rfl | rfl | rfl <;> exact Sh.int _ _
theorem isentry_cl {p : Pr} (H : H19 p) {e : En} (h : NmOk e) : Cl p 2 101 [eD e, eD e] (.bool true, []) := by
  refine Cl.mk H.isentry fun m hm => ?_
  have w := fun i => (lwhole_i H i).at hm
  have i1 := io_of H.lwhole
  simp only [F__law_is_whole] at i1
  have q := eqD_e h
  obtain ⟨s, a, b, c⟩ := e
  have f := forL_same (io := []) (dead := [2]) (t := .n 2) (body := evSs (gN p m) [] b__law_is_entry_0) (τ := [some (false, eD (s, a, b, c)), some (false, eD (s, a, b, c)), none]) [.int a, .int b, .int c] fun d hd => by
    simp only [List.mem_cons, List.not_mem_nil, or_false] at hd
    rcases hd with rfl | rfl | rfl
    · exact Turn.of rfl (by simp only [b__law_is_entry_0]; repeat (rw [evSs_c]; simp [evIo, evSs_n, asg, asgs, frz1, own?, ixN_nat, outs, ofI, divS, gN_cf, gN_io, gN_gl, gN_gd, gN_xr, gN_fr, wipeT_nil, wipeT_cons, w, i1]))
    · exact Turn.of rfl (by simp only [b__law_is_entry_0]; repeat (rw [evSs_c]; simp [evIo, evSs_n, asg, asgs, frz1, own?, ixN_nat, outs, ofI, divS, gN_cf, gN_io, gN_gl, gN_gd, gN_xr, gN_fr, wipeT_nil, wipeT_cons, w, i1]))
    · exact Turn.of rfl (by simp only [b__law_is_entry_0]; repeat (rw [evSs_c]; simp [evIo, evSs_n, asg, asgs, frz1, own?, ixN_nat, outs, ofI, divS, gN_cf, gN_io, gN_gl, gN_gd, gN_xr, gN_fr, wipeT_nil, wipeT_cons, w, i1]))
  simp only [eD, cD] at f q
  rw [runF_eq _ _ _ rfl]; simp only [F__law_is_entry, b__law_is_entry, ioM_f, ioM_t, startT, mark, List.replicate, List.cons_append, List.nil_append, List.contains_cons, List.contains_nil, icL, icT, icI, icS, icB, icN, icD, Nat.reduceBEq, Nat.reduceSub, Nat.reduceAdd, Bool.true_and, Bool.false_and, Bool.or_false, beq_self_eq_true]; repeat (rw [evSs_c]; simp [evIo, evSs_n, asg, asgs, frz1, own?, ixN_nat, outs, ofI, divS, gN_cf, gN_io, gN_gl, gN_gd, gN_xr, gN_fr, wipeT_nil, wipeT_cons, isiD, isT, tyOf, f, q, eD, cD, noL, noLs])
/-! ### entries, one by one -/
theorem least_mem (q : C3) : ∀ (ws : List En) (b : En), least q ws b = b ∨ least q ws b ∈ ws
  | [], b => .inl rfl
  | w :: ws, b => by
    have ih := least_mem q ws (better q b w)
    have hb : better q b w = b ∨ better q b w = w := by unfold better; split <;> simp
    have e : least q (w :: ws) b = least q ws (better q b w) := rfl
    rw [e]
    rcases ih with h | h
    · rw [h]
      rcases hb with h | h
      · exact .inl h
      · exact .inr (by rw [h]; simp)
    · exact .inr (List.mem_cons_of_mem _ h)
theorem least_le (q : C3) : ∀ (ws : List En) (b : En), prc (least q ws b).2 q ≤ prc b.2 q ∧ ∀ w ∈ ws, prc (least q ws b).2 q ≤ prc w.2 q
  | [], b => ⟨Int.le_refl _, by simp⟩
  | w :: ws, b => by
    have ih := least_le q ws (better q b w)
    have e : least q (w :: ws) b = least q ws (better q b w) := rfl
    have hb : prc (better q b w).2 q ≤ prc b.2 q ∧ prc (better q b w).2 q ≤ prc w.2 q := by
      unfold better
      split
      · rename_i h; exact ⟨by omega, Int.le_refl _⟩
      · rename_i h; exact ⟨Int.le_refl _, by omega⟩
    rw [e]
    refine ⟨by omega, fun w' hw => ?_⟩
    rcases List.mem_cons.mp hw with rfl | hw
    · omega
    · exact ih.2 w' hw
theorem ch_mem {ws : List En} (h : ws ≠ []) (road : Str) (q : C3) : ch ws road q ∈ ws := by
  unfold ch
  cases hn : named road ws with
  | some w => exact List.mem_of_find?_eq_some hn
  | none =>
    match ws, h with
    | w :: ws, _ =>
    dsimp only
    split
    · rcases least_mem q (w :: ws) ((w :: ws).headD ("", 0, 0, 0)) with z | z
      · rw [z]; simp
      · exact z
    · simp
theorem fw_nm {m : Nat} {f : Nat → C3} {w : En} (h : w ∈ fw m f) : w.1 = ("plain" : Str) ∨ (4 ≤ m ∧ w.1 = ("halves" : Str)) ∨ ((m = 3 ∨ 5 ≤ m) ∧ w.1 = ("thirds" : Str)) := by
  unfold fw at h
  simp only [List.mem_cons, List.mem_append] at h
  rcases h with rfl | h | h
  · exact .inl rfl
  · split at h
    · rename_i hc
      rw [List.mem_singleton.mp h]; exact .inr (.inl ⟨hc, rfl⟩)
    · cases h
  · split at h
    · rename_i hc
      rw [List.mem_singleton.mp h]; exact .inr (.inr ⟨hc, rfl⟩)
    · cases h
theorem lw_nm {m : Nat} {f g : Nat → C3} {w : En} (h : w ∈ lw m f g) : w.1 = ("plain" : Str) ∨ (2 ≤ m ∧ w.1 = ("split" : Str)) ∨ w.1 = ("whole" : Str) := by
  unfold lw at h
  simp only [List.mem_cons, List.mem_append, List.not_mem_nil, or_false] at h
  rcases h with rfl | h | h
  · exact .inl rfl
  · split at h
    · rename_i hc
      rw [List.mem_singleton.mp h]; exact .inr (.inl ⟨hc, rfl⟩)
    · cases h
  · rw [h]; exact .inr (.inr rfl)
theorem cheap_fw (m : Nat) (f : Nat → C3) (q : C3) : ∀ w ∈ fw m f, prc (ch (fw m f) "cheapest" q).2 q ≤ prc w.2 q := by
  have hn : named "cheapest" (fw m f) = none := by
    unfold named
    rw [List.find?_eq_none]
    intro w hw
    rcases fw_nm hw with h | ⟨_, h⟩ | ⟨_, h⟩ <;> rw [h] <;> decide
  unfold ch
  rw [hn]
  dsimp only
  rw [if_pos rfl]
  exact (least_le q _ _).2
theorem cheap_lw (m : Nat) (f g : Nat → C3) (q : C3) : ∀ w ∈ lw m f g, prc (ch (lw m f g) "cheapest" q).2 q ≤ prc w.2 q := by
  have hn : named "cheapest" (lw m f g) = none := by
    unfold named
    rw [List.find?_eq_none]
    intro w hw
    rcases lw_nm hw with h | ⟨_, h⟩ | h <;> rw [h] <;> decide
  unfold ch
  rw [hn]
  dsimp only
  rw [if_pos rfl]
  exact (least_le q _ _).2
theorem fw_congr {m : Nat} {f g : Nat → C3} (h : ∀ j, 1 ≤ j → j < m → f j = g j) : fw m f = fw m g := by
  unfold fw
  by_cases h4 : 4 ≤ m
  · rw [h ((m + 1) / 2) (by omega) (by omega), h ((m + 1) / 2 + 1) (by omega) (by omega)]
    by_cases h5 : m = 3 ∨ 5 ≤ m
    · rw [h ((m + 2) / 3) (by omega) (by omega), h ((m + 2) / 3 + 1) (by omega) (by omega)]
    · rw [if_neg h5, if_neg h5]
  · rw [if_neg h4, if_neg h4]
    by_cases h5 : m = 3 ∨ 5 ≤ m
    · rw [h ((m + 2) / 3) (by omega) (by omega), h ((m + 2) / 3 + 1) (by omega) (by omega)]
    · rw [if_neg h5, if_neg h5]
theorem lw_congr {m : Nat} {f g f' g' : Nat → C3} (h1 : 1 ≤ m) (h : ∀ j, 1 ≤ j → j ≤ m → f j = f' j) (h' : ∀ j, 1 ≤ j → j < m → g j = g' j) : lw m f g = lw m f' g' := by
  unfold lw
  rw [h m h1 (Nat.le_refl _), h ((m + 1) / 2) (by omega) (by omega)]
  by_cases h2 : 2 ≤ m
  · rw [h' (m - (m + 1) / 2) (by omega) (by omega)]
  · rw [if_neg h2, if_neg h2]
section
variable (road lower : Str) (q : C3)
def eA (j : Nat) : En := tg (tb road lower q j).1 j
def eB (j : Nat) : En := tg (tb road lower q j).2 j
theorem tg_app {T : List En} {e : En} {j : Nat} (h1 : 1 ≤ j) (h : j ≤ T.length) : tg (T ++ [e]) j = tg T j := by
  unfold tg
  rw [List.getD_eq_getElem?_getD, List.getD_eq_getElem?_getD, List.getElem?_append_left (by omega)]
theorem tg_last {T : List En} {e : En} {j : Nat} (h : j = T.length + 1) : tg (T ++ [e]) j = e := by
  subst h
  unfold tg
  rw [List.getD_eq_getElem?_getD, Nat.add_sub_cancel, List.getElem?_append_right (Nat.le_refl _), Nat.sub_self]
  rfl
theorem tb_at : ∀ (n j : Nat), 1 ≤ j → j ≤ n → tg (tb road lower q n).1 j = eA road lower q j ∧ tg (tb road lower q n).2 j = eB road lower q j
  | 0, j, h1, h2 => by omega
  | n + 1, j, h1, h2 => by
    by_cases h : j = n + 1
    · subst h; exact ⟨rfl, rfl⟩
    · have ih := tb_at n j h1 (by omega)
      have l := tb_len road lower q n
      refine ⟨?_, ?_⟩
      · rw [← ih.1]; exact tg_app h1 (by omega)
      · rw [← ih.2]; exact tg_app h1 (by omega)
theorem eA_eq {m : Nat} (h : 1 ≤ m) : eA road lower q m = ch (fw m fun j => (eA road lower q j).2) road q := by
  obtain ⟨n, rfl⟩ := Nat.exists_eq_add_of_le' h
  have l := tb_len road lower q n
  have : eA road lower q (n + 1) = ch (fw (n + 1) fun j => (tg (tb road lower q n).1 j).2) road q := tg_last (by rw [l.1])
  rw [this, fw_congr (g := fun j => (eA road lower q j).2) fun j h1 h2 => by show (tg _ j).2 = _; rw [(tb_at road lower q n j h1 (by omega)).1]]
theorem eB_eq {m : Nat} (h : 1 ≤ m) : eB road lower q m = ch (lw m (fun j => (eA road lower q j).2) fun j => (eB road lower q j).2) lower q := by
  obtain ⟨n, rfl⟩ := Nat.exists_eq_add_of_le' h
  have l := tb_len road lower q n
  have : eB road lower q (n + 1) = ch (lw (n + 1) (fun j => (tg (tb road lower q (n + 1)).1 j).2) fun j => (tg (tb road lower q n).2 j).2) lower q := tg_last (by rw [l.2])
  rw [this, lw_congr (f' := fun j => (eA road lower q j).2) (g' := fun j => (eB road lower q j).2) (by omega) (fun j h1 h2 => by show (tg _ j).2 = _; rw [(tb_at road lower q (n + 1) j h1 h2).1]) fun j h1 h2 => by show (tg _ j).2 = _; rw [(tb_at road lower q n j h1 (by omega)).2]]
theorem eA_nm {m : Nat} (h : 1 ≤ m) : NmOk (eA road lower q m) := by
  have := ch_mem (fw_ne m fun j => (eA road lower q j).2) road q
  rw [← eA_eq road lower q h] at this
  unfold NmOk
  rcases fw_nm this with z | ⟨_, z⟩ | ⟨_, z⟩ <;> rw [z] <;> decide +kernel
theorem eB_nm {m : Nat} (h : 1 ≤ m) : NmOk (eB road lower q m) := by
  have := ch_mem (lw_ne m (fun j => (eA road lower q j).2) fun j => (eB road lower q j).2) lower q
  rw [← eB_eq road lower q h] at this
  unfold NmOk
  rcases lw_nm this with z | ⟨_, z⟩ | z <;> rw [z] <;> decide +kernel
theorem tA_at {n j : Nat} (h1 : 1 ≤ j) (h2 : j ≤ n) : atI (tabL (tb road lower q n).1) (j : Int) = some (eD (eA road lower q j)) := by
  rw [tab_at h1 (by rw [(tb_len road lower q n).1]; exact h2), (tb_at road lower q n j h1 h2).1]
theorem tB_at {n j : Nat} (h1 : 1 ≤ j) (h2 : j ≤ n) : atI (tabL (tb road lower q n).2) (j : Int) = some (eD (eB road lower q j)) := by
  rw [tab_at h1 (by rw [(tb_len road lower q n).2]; exact h2), (tb_at road lower q n j h1 h2).2]
end
end Mp

/-! k19: the told table is the due one -/
namespace Mp
open PySem PySem.Spec PyProof.Rows L2
theorem rng2_eq : rngL 0 2 = [PyData.int 0, .int 1] := rfl
def itS (T : D) (n : Nat) (F L : D) : Tau := [some (false, T), some (false, .int (n : Nat)), some (false, F), some (false, L), none, none]
def itS2 (T : D) (F L : D) : Tau := [some (false, T), none, some (false, F), some (false, L), none, none]
theorem istable_cl {p : Pr} (H : H19 p) (road lower : Str) (q : C3) {n N : Nat} (hn : n ≤ N) (hN : N ≤ 64) :
    Cl p 3 102 [tabD (tb road lower q n), .int (n : Nat), .list (tabL (tb road lower q N).1), .list (tabL (tb road lower q N).2)] (.bool true, []) := by
  refine Cl.mk H.istable fun m hm => ?_
  have ie := fun e h => (isentry_cl H (e := e) h).at hm
  have i1 := io_of H.isentry
  simp only [F__law_is_entry] at i1
  have a1 := fun j h1 h2 => tA_at road lower q (n := n) (j := j) h1 h2
  have a2 := fun j h1 h2 => tB_at road lower q (n := n) (j := j) h1 h2
  have b1 := fun j h1 h2 => tA_at road lower q (n := N) (j := j) h1 h2
  have b2 := fun j h1 h2 => tB_at road lower q (n := N) (j := j) h1 h2
  have l := tb_len road lower q n
  have z1 : (tabL (tb road lower q n).1).length = n + 1 := by rw [tabL_len, l.1]
  have z2 : (tabL (tb road lower q n).2).length = n + 1 := by rw [tabL_len, l.2]
  have y1 : atI (tabL (tb road lower q n).1) 0 = some .none := atI_0
  have y2 : atI (tabL (tb road lower q n).2) 0 = some .none := atI_0
  unfold tabD
  generalize tabL (tb road lower q n).1 = T1 at *
  generalize tabL (tb road lower q n).2 = T2 at *
  generalize tabL (tb road lower q N).1 = U1 at *
  generalize tabL (tb road lower q N).2 = U2 at *
  have hz : ((n + 1 : Nat) : Int) = (n : Int) + 1 := by omega
  have f1 := forL_same (io := []) (dead := [4, 5]) (t := .n 4) (body := evSs (gN p m) [] b__law_is_table_1) (τ := itS (.tuple [.str "roads", .tuple T1, .tuple T2]) n (.list U1) (.list U2)) (rngL 0 2) fun d hd => by
    rw [rng2_eq] at hd
    simp only [List.mem_cons, List.not_mem_nil, or_false] at hd
    unfold itS
    rcases hd with rfl | rfl
    · exact Turn.of rfl (by simp only [b__law_is_table_1]; repeat (rw [evSs_c]; simp [evIo, evSs_n, asg, asgs, frz1, own?, ixN_nat, outs, ofI, divS, gN_cf, gN_io, gN_gl, gN_gd, gN_xr, gN_fr, wipeT_nil, wipeT_cons, isiD, isT, tyOf, z1, z2, y1, y2, hz, isNone]))
    · exact Turn.of rfl (by simp only [b__law_is_table_1]; repeat (rw [evSs_c]; simp [evIo, evSs_n, asg, asgs, frz1, own?, ixN_nat, outs, ofI, divS, gN_cf, gN_io, gN_gl, gN_gd, gN_xr, gN_fr, wipeT_nil, wipeT_cons, isiD, isT, tyOf, z1, z2, y1, y2, hz, isNone]))
  have f2 := forL_same (io := []) (dead := [1, 4, 5]) (t := .n 5) (body := evSs (gN p m) [] b__law_is_table_0) (τ := itS2 (.tuple [.str "roads", .tuple T1, .tuple T2]) (.list U1) (.list U2)) (rngL ((1 : Nat) : Int) n) fun d hd => by
    obtain ⟨i, hi⟩ := List.getElem?_of_mem hd
    obtain ⟨hi, rfl⟩ := rng1_get hi
    have a1 := a1 (i + 1) (by omega) (by omega)
    have a2 := a2 (i + 1) (by omega) (by omega)
    have b1 := b1 (i + 1) (by omega) (by omega)
    have b2 := b2 (i + 1) (by omega) (by omega)
    have e1 := ie _ (eA_nm road lower q (m := i + 1) (by omega))
    have e2 := ie _ (eB_nm road lower q (m := i + 1) (by omega))
    generalize ((i + 1 : Nat) : Int) = j at *
    generalize eA road lower q (i + 1) = ea at *
    generalize eB road lower q (i + 1) = eb at *
    unfold itS2
    exact Turn.of rfl (by simp only [b__law_is_table_0]; repeat (rw [evSs_c]; simp [evIo, evSs_n, asg, asgs, frz1, own?, ixN_nat, outs, ofI, divS, gN_cf, gN_io, gN_gl, gN_gd, gN_xr, gN_fr, wipeT_nil, wipeT_cons, a1, a2, b1, b2, e1, e2, i1, lk_e]))
  have hr := rng1 (n := 2) (by omega)
  have hrg := rng2 (a := 1) (n := n + 1) (by omega) (by omega)
  rw [Nat.add_sub_cancel] at hrg
  have hr : rngR1 2 = .ok (rngL 0 2, []) := hr
  have hrg : rngR 1 ((n : Int) + 1) = .ok (rngL ((1 : Nat) : Int) n, []) := hrg
  unfold itS at f1
  unfold itS2 at f2
  generalize rngL ((1 : Nat) : Int) n = R1 at *
  generalize rngL 0 2 = R0 at *
  rw [runF_eq _ _ _ rfl]; simp only [F__law_is_table, b__law_is_table, ioM_f, ioM_t, startT, mark, List.replicate, List.cons_append, List.nil_append, List.contains_cons, List.contains_nil, icL, icT, icI, icS, icB, icN, icD, Nat.reduceBEq, Nat.reduceSub, Nat.reduceAdd, Bool.true_and, Bool.false_and, Bool.or_false, beq_self_eq_true]; repeat (rw [evSs_c]; simp [evIo, evSs_n, asg, asgs, frz1, own?, ixN_nat, outs, ofI, divS, gN_cf, gN_io, gN_gl, gN_gd, gN_xr, gN_fr, wipeT_nil, wipeT_cons, isiD, isT, tyOf, hr, hrg, f1, f2])
theorem tabD_eq (road lower : Str) (q : C3) (n : Nat) : eqD (tabD (tb road lower q n)) (tabD (tb road lower q n)) = some true := by
  have he : ∀ e, NmOk e → Sh 2 (eD e) := fun e h => by
    unfold eD cD
    refine Sh.tup fun d hd => ?_
    simp only [List.mem_cons, List.not_mem_nil, or_false] at hd
    rcases hd with rfl | rfl
    · exact Sh.str _ h
    · exact Sh.tup fun d hd => by
        simp only [List.mem_cons, List.not_mem_nil, or_false] at hd
        rcases hd with rfl | rfl | rfl <;> exact Sh.int _ _
  have l := tb_len road lower q n
  have hm : ∀ T : List En, (∀ j, 1 ≤ j → j ≤ T.length → NmOk (tg T j)) → ∀ d ∈ tabL T, Sh 2 d := fun T h d hd => by
    unfold tabL at hd
    rcases List.mem_cons.mp hd with rfl | hd
    · exact Sh.non _
    · obtain ⟨e, hm, rfl⟩ := List.mem_map.mp hd
      obtain ⟨i, hi⟩ := List.getElem?_of_mem hm
      have hlt := (List.getElem?_eq_some_iff.mp hi).1
      have := h (i + 1) (by omega) (by omega)
      unfold tg at this
      rw [Nat.add_sub_cancel, List.getD_eq_getElem?_getD, hi] at this
      exact he e this
  unfold tabD
  refine eqT_refl (n := 4) (Sh.tup fun d hd => ?_) (by decide)
  simp only [List.mem_cons, List.not_mem_nil, or_false] at hd
  rcases hd with rfl | rfl | rfl
  · exact Sh.str _ (by decide +kernel)
  · refine Sh.tup (hm _ fun j h1 h2 => ?_)
    rw [l.1] at h2
    rw [(tb_at road lower q n j h1 h2).1]
    exact eA_nm road lower q h1
  · refine Sh.tup (hm _ fun j h1 h2 => ?_)
    rw [l.2] at h2
    rw [(tb_at road lower q n j h1 h2).2]
    exact eB_nm road lower q h1
end Mp

/-! k19: no road is cheaper; a tree of full rows -/
namespace Mp
open PySem PySem.Spec PyProof.Rows L2
theorem prc_sm (x y q : C3) : prc (sm x y) q = prc x q + prc y q := by
  unfold prc sm
  simp only
  rw [Int.add_mul, Int.add_mul, Int.add_mul]
  omega
theorem prc_ml (k : Int) (x q : C3) : prc (ml k x) q = k * prc x q := by
  unfold prc ml
  simp only
  rw [Int.mul_add, Int.mul_add, Int.mul_assoc, Int.mul_assoc, Int.mul_assoc]
abbrev cA (q : C3) (j : Nat) : C3 := (eA "cheapest" "cheapest" q j).2
abbrev cB (q : C3) (j : Nat) : C3 := (eB "cheapest" "cheapest" q j).2
theorem cA_le (q : C3) {m : Nat} (h : 1 ≤ m) : ∀ w ∈ fw m (cA q), prc (cA q m) q ≤ prc w.2 q := by
  have := cheap_fw m (cA q) q
  rw [← eA_eq "cheapest" "cheapest" q h] at this
  exact this
theorem cB_le (q : C3) {m : Nat} (h : 1 ≤ m) : ∀ w ∈ lw m (cA q) (cB q), prc (cB q m) q ≤ prc w.2 q := by
  have := cheap_lw m (cA q) (cB q) q
  rw [← eB_eq "cheapest" "cheapest" q h] at this
  exact this
theorem cA_plain (q : C3) {m : Nat} (h : 1 ≤ m) : prc (cA q m) q ≤ prc (plainC m) q := cA_le q h (("plain" : Str), plainC m) (by unfold fw; simp)
theorem cA_half (q : C3) {m : Nat} (h4 : 4 ≤ m) : prc (cA q m) q ≤ 2 * prc (cA q ((m + 1) / 2)) q + prc (cA q ((m + 1) / 2 + 1)) q + prc (halfC m ((m + 1) / 2 : Nat)) q := by
  have := cA_le q (m := m) (by omega) (("halves" : Str), sm (sm (ml 2 (cA q ((m + 1) / 2))) (cA q ((m + 1) / 2 + 1))) (halfC m ((m + 1) / 2 : Nat))) (by unfold fw; simp [h4])
  rw [prc_sm, prc_sm, prc_ml] at this
  exact this
theorem cA_third (q : C3) {m : Nat} (h3 : m = 3 ∨ 5 ≤ m) : prc (cA q m) q ≤ 3 * prc (cA q ((m + 2) / 3)) q + 3 * prc (cA q ((m + 2) / 3 + 1)) q + prc (thirdC m ((m + 2) / 3 : Nat)) q := by
  have := cA_le q (m := m) (by omega) (("thirds" : Str), sm (sm (ml 3 (cA q ((m + 2) / 3))) (ml 3 (cA q ((m + 2) / 3 + 1)))) (thirdC m ((m + 2) / 3 : Nat))) (by unfold fw; simp [h3])
  rw [prc_sm, prc_sm, prc_ml, prc_ml] at this
  exact this
theorem cB_plain (q : C3) {m : Nat} (h : 1 ≤ m) : prc (cB q m) q ≤ prc ((m : Int) * (m + 1) / 2, 0, (m : Int) + 1) q := cB_le q h (("plain" : Str), ((m : Int) * (m + 1) / 2, 0, (m : Int) + 1)) (by unfold lw; simp)
theorem cB_whole (q : C3) {m : Nat} (h : 1 ≤ m) : prc (cB q m) q ≤ prc (cA q m) q := cB_le q h (("whole" : Str), cA q m) (by unfold lw; simp)
theorem cB_split (q : C3) {m : Nat} (h2 : 2 ≤ m) : prc (cB q m) q ≤ prc (cA q ((m + 1) / 2)) q + 2 * prc (cB q (m - (m + 1) / 2)) q + prc (0, 2 * ((m : Int) - ((m + 1) / 2 : Nat)), 2) q := by
  have := cB_le q (m := m) (by omega) (("split" : Str), sm (sm (cA q ((m + 1) / 2)) (ml 2 (cB q (m - (m + 1) / 2)))) (0, 2 * ((m : Int) - ((m + 1) / 2 : Nat)), 2)) (by unfold lw; simp [h2])
  rw [prc_sm, prc_sm, prc_ml] at this
  exact this
/-- another road's entries are not cheaper -/
theorem cA_other (road lower : Str) (q : C3) : ∀ (m : Nat), 1 ≤ m → prc (cA q m) q ≤ prc (eA road lower q m).2 q := by
  intro m
  induction m using Nat.strongRecOn with
  | _ m ih =>
    intro h1
    have hm := ch_mem (fw_ne m fun j => (eA road lower q j).2) road q
    rw [← eA_eq road lower q h1] at hm
    generalize eA road lower q m = w at *
    unfold fw at hm
    simp only [List.mem_cons, List.mem_append] at hm
    rcases hm with rfl | h | h
    · exact cA_plain q h1
    · split at h
      · rename_i h4
        rw [List.mem_singleton.mp h]
        have := cA_half q h4
        have i1 := ih ((m + 1) / 2) (by omega) (by omega)
        have i2 := ih ((m + 1) / 2 + 1) (by omega) (by omega)
        rw [prc_sm, prc_sm, prc_ml]
        omega
      · cases h
    · split at h
      · rename_i h4
        rw [List.mem_singleton.mp h]
        have := cA_third q h4
        have i1 := ih ((m + 2) / 3) (by omega) (by omega)
        have i2 := ih ((m + 2) / 3 + 1) (by omega) (by omega)
        rw [prc_sm, prc_sm, prc_ml, prc_ml]
        omega
      · cases h
theorem cB_other (road lower : Str) (q : C3) : ∀ (m : Nat), 1 ≤ m → prc (cB q m) q ≤ prc (eB road lower q m).2 q := by
  intro m
  induction m using Nat.strongRecOn with
  | _ m ih =>
    intro h1
    have hm := ch_mem (lw_ne m (fun j => (eA road lower q j).2) fun j => (eB road lower q j).2) lower q
    rw [← eB_eq road lower q h1] at hm
    generalize eB road lower q m = w at *
    unfold lw at hm
    simp only [List.mem_cons, List.mem_append, List.not_mem_nil, or_false] at hm
    rcases hm with rfl | h | h
    · exact cB_plain q h1
    · split at h
      · rename_i h4
        rw [List.mem_singleton.mp h]
        have := cB_split q h4
        have i1 := cA_other road lower q ((m + 1) / 2) (by omega)
        have i2 := ih (m - (m + 1) / 2) (by omega) (by omega)
        rw [prc_sm, prc_sm, prc_ml]
        omega
      · cases h
    · rw [h]
      have := cB_whole q h1
      have := cA_other road lower q m h1
      exact Int.le_trans (cB_whole q h1) (cA_other road lower q m h1)
end Mp

/-! k19: a tree of full rows is not cheaper -/
namespace Mp
open PySem PySem.Spec PyProof.Rows L2
def nmsF (m : Nat) : List Str := ("plain" : Str) :: ((if 4 ≤ m then [("halves" : Str)] else []) ++ (if m = 3 ∨ 5 ≤ m then [("thirds" : Str)] else []))
theorem nmsF_mem {m : Nat} {x : Str} (h : x ∈ nmsF m) : x = ("plain" : Str) ∨ (4 ≤ m ∧ x = ("halves" : Str)) ∨ ((m = 3 ∨ 5 ≤ m) ∧ x = ("thirds" : Str)) := by
  unfold nmsF at h
  simp only [List.mem_cons, List.mem_append] at h
  rcases h with rfl | h | h
  · exact .inl rfl
  · split at h
    · rename_i hc
      rw [List.mem_singleton.mp h]; exact .inr (.inl ⟨hc, rfl⟩)
    · cases h
  · split at h
    · rename_i hc
      rw [List.mem_singleton.mp h]; exact .inr (.inr ⟨hc, rfl⟩)
    · cases h
theorem atI_mem {xs : List Str} {i : Int} (h0 : 0 ≤ i) (h1 : i < xs.length) : ∃ x ∈ xs, atI (xs.map PyData.str) i = some (.str x) := by
  obtain ⟨n, rfl⟩ := Int.eq_ofNat_of_zero_le h0
  have hn : n < xs.length := by omega
  exact ⟨xs[n], List.getElem_mem _, atI_map (by simp [hn])⟩
abbrev namesE : E := (.bin .Add (.bin .Add (.lst (.cons (.k (.str "plain")) .nil)) (.ite (.cmp .GtE (.v 0) (.k (.int 4))) (.lst (.cons (.k (.str "halves")) .nil)) (.lst .nil))) (.ite (.or (.cmp .Eq (.v 0) (.k (.int 3))) (.cmp .GtE (.v 0) (.k (.int 5)))) (.lst (.cons (.k (.str "thirds")) .nil)) (.lst .nil)))
theorem names_ok (g : G) (m : Nat) (τ : Tau) : evE g namesE (some (false, .int (m : Nat)) :: τ) = .ok (.list ((nmsF m).map .str), []) := by
  have s1 : 1 ≤ sizeLine := by decide
  have s2 : 2 ≤ sizeLine := by decide
  have s3 : 3 ≤ sizeLine := by decide
  unfold namesE nmsF
  by_cases h4 : 4 ≤ m
  · have h4' : (4 : Int) ≤ (m : Int) := by omega
    have h3 : ¬ (m = 3) := by omega
    have h3' : ¬ ((m : Int) = 3) := by omega
    by_cases h5 : 5 ≤ m
    · have h5' : (5 : Int) ≤ (m : Int) := by omega
      simp [evIo, evSs_n, asg, asgs, frz1, own?, ixN_nat, outs, ofI, divS, gN_cf, gN_io, gN_gl, gN_gd, gN_xr, gN_fr, wipeT_nil, wipeT_cons, h3, h3', h4, h4', h5, h5', s1, s2, s3]
    · have h5' : ¬ (5 : Int) ≤ (m : Int) := by omega
      simp [evIo, evSs_n, asg, asgs, frz1, own?, ixN_nat, outs, ofI, divS, gN_cf, gN_io, gN_gl, gN_gd, gN_xr, gN_fr, wipeT_nil, wipeT_cons, h3, h3', h4, h4', h5, h5', s1, s2, s3]
  · have h4' : ¬ (4 : Int) ≤ (m : Int) := by omega
    have h5 : ¬ 5 ≤ m := by omega
    have h5' : ¬ (5 : Int) ≤ (m : Int) := by omega
    by_cases h3 : m = 3
    · have h3t : (m = 3) = True := eq_true h3
      have h3u : ((m : Int) = 3) = True := eq_true (by omega)
      simp [evIo, evSs_n, asg, asgs, frz1, own?, ixN_nat, outs, ofI, divS, gN_cf, gN_io, gN_gl, gN_gd, gN_xr, gN_fr, wipeT_nil, wipeT_cons, h3t, h3u, h4, h4', h5, h5', s1, s2, s3]
    · have h3' : ¬ ((m : Int) = 3) := by omega
      simp [evIo, evSs_n, asg, asgs, frz1, own?, ixN_nat, outs, ofI, divS, gN_cf, gN_io, gN_gl, gN_gd, gN_xr, gN_fr, wipeT_nil, wipeT_cons, h3, h3', h4, h4', h5, h5', s1, s2, s3]
theorem lk_c (c : C3) (L : List Nat) : lk (cD c) L = [] := by cases L <;> rfl
theorem sum_at {p : Pr} (H : H19 p) (x y : C3) {n : Nat} (hn : 1 ≤ n) : callN p n 92 [cD x, cD y] = .ok (cD (sm x y), []) := (sum_cl H x.1 x.2.1 x.2.2 y.1 y.2.1 y.2.2).at hn
def trS (TL : List D) (c : C3) (ds : List Int) : Tau := [none, some (true, .list (ds.map .int)), some (false, .list TL), none, none, none, none, some (false, cD c), none, none, none]
def sumA (q : C3) (ss : List Nat) : Int := (ss.map fun s => prc (cA q s) q).sum
theorem tree_loop {p : Pr} (H : H19 p) {n0 : Nat} (hn0 : 1 ≤ n0) (q : C3) (TL : List D) {K : Nat} : ∀ (ss : List Nat) (c : C3) (ds : List Int), ds.length ≤ K →
    (∀ ds : List Int, ds.length ≤ K → ∀ s ∈ ss, ∃ (c : C3) (r : List Int), r.length ≤ ds.length ∧ prc (cA q s) q ≤ prc c q ∧ Cl p n0 103 [.int (s : Nat), .list (ds.map .int), .list TL] (cD c, [.list (r.map .int)])) →
    ∃ (c' : C3) (r : List Int), r.length ≤ ds.length ∧ prc c q + sumA q ss ≤ prc c' q ∧ ∀ n, n0 ≤ n → forL [1] [0, 3, 4, 5, 6, 8, 9, 10] (.n 10) (evSs (gN p n) [1] b__law_full_tree_0) (ss.map fun s : Nat => .int (s : Nat)) (trS TL c ds) = .nx (trS TL c' r)
  | [], c, ds, _, _ => ⟨c, ds, Nat.le_refl _, by simp [sumA], fun _ _ => rfl⟩
  | s :: ss, c, ds, hd, ih => by
    obtain ⟨c1, r1, h1, h2, h3⟩ := ih ds hd s (by simp)
    have i1 := io_of H.lsum
    have i2 := io_of H.ftree
    simp only [F__law_sum] at i1
    simp only [F__law_full_tree] at i2
    obtain ⟨c', r, g1, g2, g3⟩ := tree_loop H hn0 q TL (K := K) ss (sm c c1) r1 (by omega) fun ds hd s hs => ih ds hd s (List.mem_cons_of_mem _ hs)
    rw [prc_sm] at g2
    refine ⟨c', r, by omega, by unfold sumA at *; rw [List.map_cons, List.sum_cons]; omega, fun n hn => ?_⟩
    have hs := sum_at H c c1 (n := n) (by omega)
    have h3 := h3.at hn
    rw [← g3 n hn, List.map_cons]
    have turn : evSs (gN p n) [1] b__law_full_tree_0 [none, some (true, .list (ds.map .int)), some (false, .list TL), none, none, none, none, some (false, cD c), none, none, some (false, .int (s : Nat))] = .nx [none, some (true, .list (r1.map .int)), some (false, .list TL), none, none, none, none, some (false, cD (sm c c1)), none, none, some (false, .int (s : Nat))] := by
      simp only [b__law_full_tree_0]
      repeat (rw [evSs_c]; simp [evIo, evSs_n, asg, asgs, frz1, own?, ixN_nat, outs, ofI, divS, gN_cf, gN_io, gN_gl, gN_gd, gN_xr, gN_fr, wipeT_nil, wipeT_cons, h3, hs, i1, i2, lk_c])
    conv => lhs; unfold forL
    unfold trS
    simp only [asg, List.mem_singleton, List.set_cons_succ, List.set_cons_zero, Bool.false_and, show ¬ (10 = 1) by decide, if_false, turn, wipeT_cons, wipeT_nil]
end Mp

/-! k19: a tree of full rows is not cheaper, whole -/
namespace Mp
open PySem PySem.Spec PyProof.Rows L2
abbrev nameE : E := (.ite (.cmp .Eq (.bin .Mod (.bi .int (.cons (.v 3) .nil)) (.k (.int 2))) (.k (.int 0))) (.sub (.sub (.v 2) (.v 0)) (.k (.int 0))) (.sub (.v 4) (.bin .Mod (.bi .int (.cons (.bin .FloorDiv (.v 3) (.k (.int 2))) .nil)) (.bi .len (.cons (.v 4) .nil)))))
theorem name_ok {m : Nat} {TL : List D} (d : Int) {e : En} (he : atI TL (m : Int) = some (eD e)) (hm : e.1 ∈ nmsF m) : ∃ x ∈ nmsF m, ∀ (g : G) (D1 : Option (Bool × D)) (b : Bool) (τ : Tau),
    evE g nameE (some (false, .int (m : Nat)) :: D1 :: some (false, .list TL) :: some (false, .int d) :: some (b, .list ((nmsF m).map .str)) :: τ) = .ok (.str x, []) := by
  have hl : 0 < (nmsF m).length := by unfold nmsF; simp
  generalize nmsF m = NL at *
  have hd : eD e = .tuple [.str e.1, cD e.2] := rfl
  rw [hd] at he
  by_cases h : d % 2 = 0
  · refine ⟨e.1, hm, fun g D1 b τ => ?_⟩
    unfold nameE
    simp [evIo, evSs_n, asg, asgs, frz1, own?, ixN_nat, outs, ofI, divS, gN_cf, gN_io, gN_gl, gN_gd, gN_xr, gN_fr, wipeT_nil, wipeT_cons, h, he]
  · have h1 : 0 ≤ d / 2 % (NL.length : Nat) := Int.emod_nonneg _ (by omega)
    have h2 : d / 2 % (NL.length : Nat) < NL.length := Int.emod_lt_of_pos _ (by omega)
    obtain ⟨x, hx, ha⟩ := atI_mem h1 h2
    refine ⟨x, hx, fun g D1 b τ => ?_⟩
    have hp : (0 : Int) < (NL.length : Nat) := by omega
    have hll : ((NL.map PyData.str).length : Int) = (NL.length : Nat) := by simp
    unfold nameE
    simp [evIo, evSs_n, asg, asgs, frz1, own?, ixN_nat, outs, ofI, divS, gN_cf, gN_io, gN_gl, gN_gd, gN_xr, gN_fr, wipeT_nil, wipeT_cons, h, he, ha, hp, hl, hll]
def b__law_full_tree_t : Ss := (.cons (.ifS (.cmp .Eq (.v 5) (.k (.str "plain"))) (.cons (.ret (.tup (.cons (.bin .Mult (.v 0) (.v 0)) (.cons (.k (.int 0)) (.cons (.bin .Add (.v 0) (.k (.int 1))) .nil))))) .nil) .nil) (.cons (.ifS (.cmp .Eq (.v 5) (.k (.str "halves"))) (.cons (.set (.n 6) (.bin .FloorDiv (.bin .Add (.v 0) (.k (.int 1))) (.k (.int 2)))) (.cons (.set (.n 7) (.tup (.cons (.k (.int 0)) (.cons (.bin .Add (.bin .Add (.bin .Mult (.k (.int 2)) (.v 6)) (.bin .Mult (.k (.int 2)) (.bin .Add (.bin .Mult (.k (.int 2)) (.v 6)) (.k (.int 2))))) (.bin .Sub (.bin .Mult (.k (.int 2)) (.v 0)) (.v 6))) (.cons (.k (.int 6)) .nil))))) (.cons (.set (.n 8) (.lst (.cons (.v 6) (.cons (.v 6) (.cons (.bin .Add (.v 6) (.k (.int 1))) .nil))))) .nil))) (.cons (.set (.n 9) (.bin .FloorDiv (.bin .Add (.v 0) (.k (.int 2))) (.k (.int 3)))) (.cons (.set (.n 7) (.tup (.cons (.k (.int 0)) (.cons (.bin .Add (.bin .Add (.bin .Add (.bin .Add (.bin .Mult (.k (.int 6)) (.v 9)) (.bin .Mult (.k (.int 7)) (.bin .Add (.bin .Mult (.k (.int 2)) (.v 9)) (.k (.int 2))))) (.bin .Sub (.bin .Mult (.k (.int 2)) (.v 0)) (.v 9))) (.bin .Sub (.bin .Mult (.k (.int 2)) (.v 0)) (.bin .Mult (.k (.int 2)) (.v 9)))) (.bin .Sub (.bin .Mult (.k (.int 2)) (.v 0)) (.bin .Mult (.k (.int 3)) (.v 9)))) (.cons (.k (.int 17)) .nil))))) (.cons (.set (.n 8) (.lst (.cons (.v 9) (.cons (.v 9) (.cons (.v 9) (.cons (.bin .Add (.v 9) (.k (.int 1))) (.cons (.bin .Add (.v 9) (.k (.int 1))) (.cons (.bin .Add (.v 9) (.k (.int 1))) .nil)))))))) .nil)))) (.cons (.forS [0, 3, 4, 5, 6, 8, 9, 10] (.n 10) (.it (.v 8)) b__law_full_tree_0) (.cons (.ret (.v 7)) .nil))))
theorem ftree_cl {p : Pr} (H : H19 p) (q : C3) {N : Nat} (hN : N ≤ 64) : ∀ (k m : Nat), 1 ≤ m → m ≤ N → ∀ ds : List Int, ds.length ≤ k →
    ∃ (c : C3) (r : List Int), r.length ≤ ds.length ∧ prc (cA q m) q ≤ prc c q ∧ Cl p (k + 2) 103 [.int (m : Nat), .list (ds.map .int), .list (tabL (tb "cheapest" "cheapest" q N).1)] (cD c, [.list (r.map .int)]) := by
  intro k
  induction k with
  | zero =>
    intro m h1 h2 ds hd
    obtain rfl := List.length_eq_zero_iff.mp (by omega : ds.length = 0)
    refine ⟨cA q m, [], by simp, Int.le_refl _, Cl.mk H.ftree fun n hn => ?_⟩
    have he := tA_at "cheapest" "cheapest" q h1 h2
    have hd : eD (eA "cheapest" "cheapest" q m) = .tuple [.str (eA "cheapest" "cheapest" q m).1, cD (cA q m)] := rfl
    rw [hd] at he
    generalize tabL (tb "cheapest" "cheapest" q N).1 = TL at *
    rw [runF_eq _ _ _ rfl]; simp only [F__law_full_tree, b__law_full_tree, ioM_f, ioM_t, startT, mark, List.replicate, List.cons_append, List.nil_append, List.contains_cons, List.contains_nil, icL, icT, icI, icS, icB, icN, icD, Nat.reduceBEq, Nat.reduceSub, Nat.reduceAdd, Bool.true_and, Bool.false_and, Bool.or_false, beq_self_eq_true]; repeat (rw [evSs_c]; simp [evIo, evSs_n, asg, asgs, frz1, own?, ixN_nat, outs, ofI, divS, gN_cf, gN_io, gN_gl, gN_gd, gN_xr, gN_fr, wipeT_nil, wipeT_cons, he, lk_c])
  | succ k ih =>
    intro m h1 h2 ds hd
    have he := tA_at "cheapest" "cheapest" q h1 h2
    have hdd : eD (eA "cheapest" "cheapest" q m) = .tuple [.str (eA "cheapest" "cheapest" q m).1, cD (cA q m)] := rfl
    have hmem : (eA "cheapest" "cheapest" q m).1 ∈ nmsF m := by
      have := ch_mem (fw_ne m (cA q)) "cheapest" q
      rw [← eA_eq "cheapest" "cheapest" q h1] at this
      unfold nmsF
      rcases fw_nm this with z | ⟨hc, z⟩ | ⟨hc, z⟩ <;> rw [z]
      · simp
      · simp [hc]
      · simp [hc]
    have ih := fun s hs1 hs2 ds hd => ih s hs1 hs2 ds hd
    generalize tabL (tb "cheapest" "cheapest" q N).1 = TL at *
    cases ds with
    | nil =>
      refine ⟨cA q m, [], by simp, Int.le_refl _, Cl.mk H.ftree fun n hn => ?_⟩
      rw [hdd] at he
      rw [runF_eq _ _ _ rfl]; simp only [F__law_full_tree, b__law_full_tree, ioM_f, ioM_t, startT, mark, List.replicate, List.cons_append, List.nil_append, List.contains_cons, List.contains_nil, icL, icT, icI, icS, icB, icN, icD, Nat.reduceBEq, Nat.reduceSub, Nat.reduceAdd, Bool.true_and, Bool.false_and, Bool.or_false, beq_self_eq_true]; repeat (rw [evSs_c]; simp [evIo, evSs_n, asg, asgs, frz1, own?, ixN_nat, outs, ofI, divS, gN_cf, gN_io, gN_gl, gN_gd, gN_xr, gN_fr, wipeT_nil, wipeT_cons, he, lk_c])
    | cons d ds =>
      have hd : ds.length ≤ k := by simpa using hd
      have hnames := fun g τ => names_ok g m τ
      -- the name that is taken
      obtain ⟨x, hx, hname⟩ := name_ok d he hmem
      generalize (nmsF m).map PyData.str = NL at *
      have start : ∀ n, evSs (gN p n) [1] b__law_full_tree [some (false, .int (m : Nat)), some (true, .list ((d :: ds).map .int)), some (false, .list TL), none, none, none, none, none, none, none, none] =
          evSs (gN p n) [1] b__law_full_tree_t [some (false, .int (m : Nat)), some (true, .list (ds.map .int)), some (false, .list TL), some (false, .int d), some (true, .list NL), some (false, .str x), none, none, none, none, none] := fun n => by
        have hz : ¬ ((ds.length : Int) + 1 = 0) := by omega
        simp only [b__law_full_tree]
        rw [evSs_c]; simp [evIo, evSs_n, asg, asgs, frz1, own?, ixN_nat, outs, ofI, divS, gN_cf, gN_io, gN_gl, gN_gd, gN_xr, gN_fr, wipeT_nil, wipeT_cons, hz]
        rw [evSs_c]; simp [evIo, evSs_n, asg, asgs, frz1, own?, ixN_nat, outs, ofI, divS, gN_cf, gN_io, gN_gl, gN_gd, gN_xr, gN_fr, wipeT_nil, wipeT_cons]
        have e1 : evS (gN p n) [1] (.set (.n 4) namesE) [some (false, .int (m : Nat)), some (true, .list (ds.map .int)), some (false, .list TL), some (false, .int d), none, none, none, none, none, none, none] = .nx [some (false, .int (m : Nat)), some (true, .list (ds.map .int)), some (false, .list TL), some (false, .int d), some (true, .list NL), none, none, none, none, none, none] := by
          rw [ev_evS_set, hnames]; rfl
        have e2 : evS (gN p n) [1] (.set (.n 5) nameE) [some (false, .int (m : Nat)), some (true, .list (ds.map .int)), some (false, .list TL), some (false, .int d), some (true, .list NL), none, none, none, none, none, none] = .nx [some (false, .int (m : Nat)), some (true, .list (ds.map .int)), some (false, .list TL), some (false, .int d), some (true, .list NL), some (false, .str x), none, none, none, none, none] := by
          rw [ev_evS_set, hname]; rfl
        rw [evSs_c, e1, Out.seq_nx, evSs_c, e2, Out.seq_nx]
        rfl
      have sA : startT F__law_full_tree [.int (m : Nat), .list ((d :: ds).map .int), .list TL] = [some (false, .int (m : Nat)), some (true, .list ((d :: ds).map .int)), some (false, .list TL), none, none, none, none, none, none, none, none] := rfl
      have mm : mulOk (m : Int) (m : Int) = true := mulL (by omega)
      have k2 : ∀ x, mulOk 2 x = true := fun x => mulL (by decide)
      have k3 : ∀ x, mulOk 3 x = true := fun x => mulL (by decide)
      have k6 : ∀ x, mulOk 6 x = true := fun x => mulL (by decide)
      have k7 : ∀ x, mulOk 7 x = true := fun x => mulL (by decide)
      rcases nmsF_mem hx with rfl | ⟨h4, rfl⟩ | ⟨h4, rfl⟩
      · refine ⟨plainC m, ds, by simp, cA_plain q h1, Cl.mk H.ftree fun n hn => ?_⟩
        rw [runF_eq _ _ _ rfl, sA]
        show (match evSs (gN p n) [1] b__law_full_tree _ with
          | .nx τ => (R.of (outs τ [1])).bind fun os => R.ok (PyData.none, os)
          | .ret τ d => (R.of (outs τ [1])).bind fun os => .ok (d, os)
          | .ex x _ => .ex x
          | _ => .st) = _
        rw [start]
        simp only [b__law_full_tree_t]
        repeat (rw [evSs_c]; simp [evIo, evSs_n, asg, asgs, frz1, own?, ixN_nat, outs, ofI, divS, gN_cf, gN_io, gN_gl, gN_gd, gN_xr, gN_fr, wipeT_nil, wipeT_cons, mm, plainC, cD])
      · have d2 : divOk ((m : Int) + 1) 2 = true := divS (by decide) (by decide)
        have eh : ((m : Int) + 1) / 2 = (((m + 1) / 2 : Nat) : Int) := by omega
        have hle := cA_half q h4
        have b1 : 1 ≤ (m + 1) / 2 ∧ (m + 1) / 2 + 1 ≤ N := by omega
        generalize (m + 1) / 2 = h at *
        have lp : ∃ (c' : C3) (r : List Int), r.length ≤ ds.length ∧ prc (halfC m (h : Nat)) q + sumA q [h, h, h + 1] ≤ prc c' q ∧ ∀ n, k + 2 ≤ n → forL [1] [0, 3, 4, 5, 6, 8, 9, 10] (.n 10) (evSs (gN p n) [1] b__law_full_tree_0) ([h, h, h + 1].map fun s : Nat => .int (s : Nat)) (trS TL (halfC m (h : Nat)) ds) = .nx (trS TL c' r) := by
          refine tree_loop H (by omega) q TL (K := k) _ _ ds hd fun ds hd s hs => ?_
          simp only [List.mem_cons, List.not_mem_nil, or_false] at hs
          exact ih s (by omega) (by omega) ds hd
        obtain ⟨c', r, g1, g2, g3⟩ := lp
        refine ⟨c', r, by simp; omega, ?_, Cl.mk H.ftree fun n hn => ?_⟩
        · unfold sumA at g2
          simp only [List.map_cons, List.map_nil, List.sum_cons, List.sum_nil] at g2
          omega
        have g3 := g3 n hn
        have g3 : forL [1] [0, 3, 4, 5, 6, 8, 9, 10] (.n 10) (evSs (gN p n) [1] b__law_full_tree_0) [.int (h : Nat), .int (h : Nat), .int ((h : Nat) + 1)] (trS TL (halfC m (h : Nat)) ds) = .nx (trS TL c' r) := g3
        simp only [trS, cD, halfC] at g3
        rw [runF_eq _ _ _ rfl, sA]
        show (match evSs (gN p n) [1] b__law_full_tree _ with
          | .nx τ => (R.of (outs τ [1])).bind fun os => R.ok (PyData.none, os)
          | .ret τ d => (R.of (outs τ [1])).bind fun os => .ok (d, os)
          | .ex x _ => .ex x
          | _ => .st) = _
        rw [start]
        simp only [b__law_full_tree_t]
        repeat (rw [evSs_c]; simp [evIo, evSs_n, asg, asgs, frz1, own?, ixN_nat, outs, ofI, divS, gN_cf, gN_io, gN_gl, gN_gd, gN_xr, gN_fr, wipeT_nil, wipeT_cons, d2, eh, k2, g3, cD, lk_c])
      · have d3 : divOk ((m : Int) + 2) 3 = true := divS (by decide) (by decide)
        have et : ((m : Int) + 2) / 3 = (((m + 2) / 3 : Nat) : Int) := by omega
        have hle := cA_third q h4
        have b1 : 1 ≤ (m + 2) / 3 ∧ (m + 2) / 3 + 1 ≤ N := by omega
        generalize (m + 2) / 3 = h at *
        have lp : ∃ (c' : C3) (r : List Int), r.length ≤ ds.length ∧ prc (thirdC m (h : Nat)) q + sumA q [h, h, h, h + 1, h + 1, h + 1] ≤ prc c' q ∧ ∀ n, k + 2 ≤ n → forL [1] [0, 3, 4, 5, 6, 8, 9, 10] (.n 10) (evSs (gN p n) [1] b__law_full_tree_0) ([h, h, h, h + 1, h + 1, h + 1].map fun s : Nat => .int (s : Nat)) (trS TL (thirdC m (h : Nat)) ds) = .nx (trS TL c' r) := by
          refine tree_loop H (by omega) q TL (K := k) _ _ ds hd fun ds hd s hs => ?_
          simp only [List.mem_cons, List.not_mem_nil, or_false] at hs
          exact ih s (by omega) (by omega) ds hd
        obtain ⟨c', r, g1, g2, g3⟩ := lp
        refine ⟨c', r, by simp; omega, ?_, Cl.mk H.ftree fun n hn => ?_⟩
        · unfold sumA at g2
          simp only [List.map_cons, List.map_nil, List.sum_cons, List.sum_nil] at g2
          omega
        have g3 := g3 n hn
        have g3 : forL [1] [0, 3, 4, 5, 6, 8, 9, 10] (.n 10) (evSs (gN p n) [1] b__law_full_tree_0) [.int (h : Nat), .int (h : Nat), .int (h : Nat), .int ((h : Nat) + 1), .int ((h : Nat) + 1), .int ((h : Nat) + 1)] (trS TL (thirdC m (h : Nat)) ds) = .nx (trS TL c' r) := g3
        simp only [trS, cD, thirdC] at g3
        rw [runF_eq _ _ _ rfl, sA]
        show (match evSs (gN p n) [1] b__law_full_tree _ with
          | .nx τ => (R.of (outs τ [1])).bind fun os => R.ok (PyData.none, os)
          | .ret τ d => (R.of (outs τ [1])).bind fun os => .ok (d, os)
          | .ex x _ => .ex x
          | _ => .st) = _
        rw [start]
        simp only [b__law_full_tree_t]
        repeat (rw [evSs_c]; simp [evIo, evSs_n, asg, asgs, frz1, own?, ixN_nat, outs, ofI, divS, gN_cf, gN_io, gN_gl, gN_gd, gN_xr, gN_fr, wipeT_nil, wipeT_cons, d3, et, k2, k3, k6, k7, g3, cD, lk_c])
end Mp

/-! k19: a tree of low rows is not cheaper -/
namespace Mp
open PySem PySem.Spec PyProof.Rows L2
def nmsL (m : Nat) : List Str := ("plain" : Str) :: ("whole" : Str) :: (if 2 ≤ m then [("split" : Str)] else [])
theorem nmsL_mem {m : Nat} {x : Str} (h : x ∈ nmsL m) : x = ("plain" : Str) ∨ x = ("whole" : Str) ∨ (2 ≤ m ∧ x = ("split" : Str)) := by
  unfold nmsL at h
  simp only [List.mem_cons] at h
  rcases h with rfl | rfl | h
  · exact .inl rfl
  · exact .inr (.inl rfl)
  · split at h
    · rename_i hc
      rw [List.mem_singleton.mp h]; exact .inr (.inr ⟨hc, rfl⟩)
    · cases h
abbrev namesLE : E := (.bin .Add (.lst (.cons (.k (.str "plain")) (.cons (.k (.str "whole")) .nil))) (.ite (.cmp .GtE (.v 0) (.k (.int 2))) (.lst (.cons (.k (.str "split")) .nil)) (.lst .nil)))
theorem namesL_ok (g : G) (m : Nat) (τ : Tau) : evE g namesLE (some (false, .int (m : Nat)) :: τ) = .ok (.list ((nmsL m).map .str), []) := by
  have s2 : 2 ≤ sizeLine := by decide
  have s3 : 3 ≤ sizeLine := by decide
  unfold namesLE nmsL
  by_cases h4 : 2 ≤ m
  · have h4' : (2 : Int) ≤ (m : Int) := by omega
    simp [evIo, evSs_n, asg, asgs, frz1, own?, ixN_nat, outs, ofI, divS, gN_cf, gN_io, gN_gl, gN_gd, gN_xr, gN_fr, wipeT_nil, wipeT_cons, h4, h4', s2, s3]
  · have h4' : ¬ (2 : Int) ≤ (m : Int) := by omega
    simp [evIo, evSs_n, asg, asgs, frz1, own?, ixN_nat, outs, ofI, divS, gN_cf, gN_io, gN_gl, gN_gd, gN_xr, gN_fr, wipeT_nil, wipeT_cons, h4, h4', s2, s3]
abbrev nameLE : E := (.ite (.cmp .Eq (.bin .Mod (.bi .int (.cons (.v 4) .nil)) (.k (.int 2))) (.k (.int 0))) (.sub (.sub (.v 3) (.v 0)) (.k (.int 0))) (.sub (.v 5) (.bin .Mod (.bi .int (.cons (.bin .FloorDiv (.v 4) (.k (.int 2))) .nil)) (.bi .len (.cons (.v 5) .nil)))))
theorem nameL_ok {m : Nat} {LL : List D} (d : Int) {e : En} (he : atI LL (m : Int) = some (eD e)) (hm : e.1 ∈ nmsL m) : ∃ x ∈ nmsL m, ∀ (g : G) (D1 D2 : Option (Bool × D)) (b : Bool) (τ : Tau),
    evE g nameLE (some (false, .int (m : Nat)) :: D1 :: D2 :: some (false, .list LL) :: some (false, .int d) :: some (b, .list ((nmsL m).map .str)) :: τ) = .ok (.str x, []) := by
  have hl : 0 < (nmsL m).length := by unfold nmsL; simp
  generalize nmsL m = NL at *
  have hd : eD e = .tuple [.str e.1, cD e.2] := rfl
  rw [hd] at he
  by_cases h : d % 2 = 0
  · refine ⟨e.1, hm, fun g D1 D2 b τ => ?_⟩
    unfold nameLE
    simp [evIo, evSs_n, asg, asgs, frz1, own?, ixN_nat, outs, ofI, divS, gN_cf, gN_io, gN_gl, gN_gd, gN_xr, gN_fr, wipeT_nil, wipeT_cons, h, he]
  · have h1 : 0 ≤ d / 2 % (NL.length : Nat) := Int.emod_nonneg _ (by omega)
    have h2 : d / 2 % (NL.length : Nat) < NL.length := Int.emod_lt_of_pos _ (by omega)
    obtain ⟨x, hx, ha⟩ := atI_mem h1 h2
    refine ⟨x, hx, fun g D1 D2 b τ => ?_⟩
    have hp : (0 : Int) < (NL.length : Nat) := by omega
    have hll : ((NL.map PyData.str).length : Int) = (NL.length : Nat) := by simp
    unfold nameLE
    simp [evIo, evSs_n, asg, asgs, frz1, own?, ixN_nat, outs, ofI, divS, gN_cf, gN_io, gN_gl, gN_gd, gN_xr, gN_fr, wipeT_nil, wipeT_cons, h, he, ha, hp, hl, hll]
def b__law_low_tree_t : Ss := (.cons (.ifS (.cmp .Eq (.v 6) (.k (.str "plain"))) (.cons (.ret (.tup (.cons (.bin .FloorDiv (.bin .Mult (.v 0) (.bin .Add (.v 0) (.k (.int 1)))) (.k (.int 2))) (.cons (.k (.int 0)) (.cons (.bin .Add (.v 0) (.k (.int 1))) .nil))))) .nil) .nil) (.cons (.ifS (.cmp .Eq (.v 6) (.k (.str "whole"))) (.cons (.ioR 103 (.cons (.v 0) (.cons (.v 1) (.cons (.v 2) .nil)))) .nil) .nil) (.cons (.set (.n 7) (.bin .FloorDiv (.bin .Add (.v 0) (.k (.int 1))) (.k (.int 2)))) (.cons (.ioC 8 92 (.cons (.tup (.cons (.k (.int 0)) (.cons (.bin .Mult (.k (.int 2)) (.bin .Sub (.v 0) (.v 7))) (.cons (.k (.int 2)) .nil)))) .nil) 103 (.cons (.v 7) (.cons (.v 1) (.cons (.v 2) .nil)))) (.cons (.forS [4, 5, 6, 9] (.n 9) (.r1 (.k (.int 2))) b__law_low_tree_0) (.cons (.ret (.v 8)) .nil))))))
def ltS (TL LL : List D) (m h : Nat) (c : C3) (ds : List Int) : Tau := [some (false, .int (m : Nat)), some (true, .list (ds.map .int)), some (false, .list TL), some (false, .list LL), none, none, none, some (false, .int (h : Nat)), some (false, cD c), none]
theorem low_loop {p : Pr} (H : H19 p) {n0 : Nat} (hn0 : 1 ≤ n0) (q : C3) (TL LL : List D) {K m h r : Nat} (hr : (m : Int) - (h : Nat) = (r : Nat)) 
    (ih : ∀ ds : List Int, ds.length ≤ K → ∃ (c : C3) (r' : List Int), r'.length ≤ ds.length ∧ prc (cB q r) q ≤ prc c q ∧ Cl p n0 104 [.int (r : Nat), .list (ds.map .int), .list TL, .list LL] (cD c, [.list (r'.map .int)])) : ∀ (xs : List D) (c : C3) (ds : List Int), ds.length ≤ K →
    ∃ (c' : C3) (r' : List Int), r'.length ≤ ds.length ∧ prc c q + xs.length * prc (cB q r) q ≤ prc c' q ∧ ∀ n, n0 ≤ n → forL [1] [4, 5, 6, 9] (.n 9) (evSs (gN p n) [1] b__law_low_tree_0) xs (ltS TL LL m h c ds) = .nx (ltS TL LL m h c' r')
  | [], c, ds, _ => ⟨c, ds, Nat.le_refl _, by simp, fun _ _ => rfl⟩
  | x :: xs, c, ds, hd => by
    obtain ⟨c1, r1, h1, h2, h3⟩ := ih ds hd
    have i1 := io_of H.lsum
    have i2 := io_of H.ltree
    simp only [F__law_sum] at i1
    simp only [F__law_low_tree] at i2
    obtain ⟨c', r', g1, g2, g3⟩ := low_loop H hn0 q TL LL hr ih xs (sm c c1) r1 (by omega)
    rw [prc_sm] at g2
    refine ⟨c', r', by omega, ?_, fun n hn => ?_⟩
    · have : (((x :: xs).length : Nat) : Int) * prc (cB q r) q = (xs.length : Int) * prc (cB q r) q + prc (cB q r) q := by
        rw [List.length_cons, Int.natCast_add, Int.add_mul]; simp
      rw [this]; omega
    have hs := sum_at H c c1 (n := n) (by omega)
    have h3 := h3.at hn
    rw [← g3 n hn]
    have turn : evSs (gN p n) [1] b__law_low_tree_0 [some (false, .int (m : Nat)), some (true, .list (ds.map .int)), some (false, .list TL), some (false, .list LL), none, none, none, some (false, .int (h : Nat)), some (false, cD c), some (false, x)] = .nx [some (false, .int (m : Nat)), some (true, .list (r1.map .int)), some (false, .list TL), some (false, .list LL), none, none, none, some (false, .int (h : Nat)), some (false, cD (sm c c1)), some (false, x)] := by
      simp only [b__law_low_tree_0]
      repeat (rw [evSs_c]; simp [evIo, evSs_n, asg, asgs, frz1, own?, ixN_nat, outs, ofI, divS, gN_cf, gN_io, gN_gl, gN_gd, gN_xr, gN_fr, wipeT_nil, wipeT_cons, h3, hs, i1, i2, lk_c, hr])
    conv => lhs; unfold forL
    unfold ltS
    simp only [asg, List.mem_singleton, List.set_cons_succ, List.set_cons_zero, Bool.false_and, show ¬ (9 = 1) by decide, if_false, turn, wipeT_cons, wipeT_nil]
theorem ltree_cl {p : Pr} (H : H19 p) (q : C3) {N : Nat} (hN : N ≤ 64) : ∀ (k m : Nat), 1 ≤ m → m ≤ N → ∀ ds : List Int, ds.length ≤ k →
    ∃ (c : C3) (r : List Int), r.length ≤ ds.length ∧ prc (cB q m) q ≤ prc c q ∧ Cl p (k + 2) 104 [.int (m : Nat), .list (ds.map .int), .list (tabL (tb "cheapest" "cheapest" q N).1), .list (tabL (tb "cheapest" "cheapest" q N).2)] (cD c, [.list (r.map .int)]) := by
  intro k
  induction k with
  | zero =>
    intro m h1 h2 ds hd
    obtain rfl := List.length_eq_zero_iff.mp (by omega : ds.length = 0)
    refine ⟨cB q m, [], by simp, Int.le_refl _, Cl.mk H.ltree fun n hn => ?_⟩
    have he := tB_at "cheapest" "cheapest" q h1 h2
    have hd : eD (eB "cheapest" "cheapest" q m) = .tuple [.str (eB "cheapest" "cheapest" q m).1, cD (cB q m)] := rfl
    rw [hd] at he
    generalize tabL (tb "cheapest" "cheapest" q N).1 = TL at *
    generalize tabL (tb "cheapest" "cheapest" q N).2 = LL at *
    rw [runF_eq _ _ _ rfl]; simp only [F__law_low_tree, b__law_low_tree, ioM_f, ioM_t, startT, mark, List.replicate, List.cons_append, List.nil_append, List.contains_cons, List.contains_nil, icL, icT, icI, icS, icB, icN, icD, Nat.reduceBEq, Nat.reduceSub, Nat.reduceAdd, Bool.true_and, Bool.false_and, Bool.or_false, beq_self_eq_true]; repeat (rw [evSs_c]; simp [evIo, evSs_n, asg, asgs, frz1, own?, ixN_nat, outs, ofI, divS, gN_cf, gN_io, gN_gl, gN_gd, gN_xr, gN_fr, wipeT_nil, wipeT_cons, he, lk_c])
  | succ k ih =>
    intro m h1 h2 ds hd
    have he := tB_at "cheapest" "cheapest" q h1 h2
    have hdd : eD (eB "cheapest" "cheapest" q m) = .tuple [.str (eB "cheapest" "cheapest" q m).1, cD (cB q m)] := rfl
    have hmem : (eB "cheapest" "cheapest" q m).1 ∈ nmsL m := by
      have := ch_mem (lw_ne m (cA q) (cB q)) "cheapest" q
      rw [← eB_eq "cheapest" "cheapest" q h1] at this
      unfold nmsL
      rcases lw_nm this with z | ⟨hc, z⟩ | z <;> rw [z]
      · simp
      · simp [hc]
      · simp
    have ft := fun s hs1 hs2 ds hd => ftree_cl H q hN k s hs1 hs2 ds hd
    generalize tabL (tb "cheapest" "cheapest" q N).1 = TL at *
    generalize tabL (tb "cheapest" "cheapest" q N).2 = LL at *
    cases ds with
    | nil =>
      refine ⟨cB q m, [], by simp, Int.le_refl _, Cl.mk H.ltree fun n hn => ?_⟩
      rw [hdd] at he
      rw [runF_eq _ _ _ rfl]; simp only [F__law_low_tree, b__law_low_tree, ioM_f, ioM_t, startT, mark, List.replicate, List.cons_append, List.nil_append, List.contains_cons, List.contains_nil, icL, icT, icI, icS, icB, icN, icD, Nat.reduceBEq, Nat.reduceSub, Nat.reduceAdd, Bool.true_and, Bool.false_and, Bool.or_false, beq_self_eq_true]; repeat (rw [evSs_c]; simp [evIo, evSs_n, asg, asgs, frz1, own?, ixN_nat, outs, ofI, divS, gN_cf, gN_io, gN_gl, gN_gd, gN_xr, gN_fr, wipeT_nil, wipeT_cons, he, lk_c])
    | cons d ds =>
      have hd : ds.length ≤ k := by simpa using hd
      have hnames := fun g τ => namesL_ok g m τ
      obtain ⟨x, hx, hname⟩ := nameL_ok d he hmem
      generalize (nmsL m).map PyData.str = NL at *
      have start : ∀ n, evSs (gN p n) [1] b__law_low_tree [some (false, .int (m : Nat)), some (true, .list ((d :: ds).map .int)), some (false, .list TL), some (false, .list LL), none, none, none, none, none, none] =
          evSs (gN p n) [1] b__law_low_tree_t [some (false, .int (m : Nat)), some (true, .list (ds.map .int)), some (false, .list TL), some (false, .list LL), some (false, .int d), some (true, .list NL), some (false, .str x), none, none, none] := fun n => by
        have hz : ¬ ((ds.length : Int) + 1 = 0) := by omega
        simp only [b__law_low_tree]
        rw [evSs_c]; simp [evIo, evSs_n, asg, asgs, frz1, own?, ixN_nat, outs, ofI, divS, gN_cf, gN_io, gN_gl, gN_gd, gN_xr, gN_fr, wipeT_nil, wipeT_cons, hz]
        rw [evSs_c]; simp [evIo, evSs_n, asg, asgs, frz1, own?, ixN_nat, outs, ofI, divS, gN_cf, gN_io, gN_gl, gN_gd, gN_xr, gN_fr, wipeT_nil, wipeT_cons]
        have e1 : evS (gN p n) [1] (.set (.n 5) namesLE) [some (false, .int (m : Nat)), some (true, .list (ds.map .int)), some (false, .list TL), some (false, .list LL), some (false, .int d), none, none, none, none, none] = .nx [some (false, .int (m : Nat)), some (true, .list (ds.map .int)), some (false, .list TL), some (false, .list LL), some (false, .int d), some (true, .list NL), none, none, none, none] := by
          rw [ev_evS_set, hnames]; rfl
        have e2 : evS (gN p n) [1] (.set (.n 6) nameLE) [some (false, .int (m : Nat)), some (true, .list (ds.map .int)), some (false, .list TL), some (false, .list LL), some (false, .int d), some (true, .list NL), none, none, none, none] = .nx [some (false, .int (m : Nat)), some (true, .list (ds.map .int)), some (false, .list TL), some (false, .list LL), some (false, .int d), some (true, .list NL), some (false, .str x), none, none, none] := by
          rw [ev_evS_set, hname]; rfl
        rw [evSs_c, e1, Out.seq_nx, evSs_c, e2, Out.seq_nx]
        rfl
      have sA : startT F__law_low_tree [.int (m : Nat), .list ((d :: ds).map .int), .list TL, .list LL] = [some (false, .int (m : Nat)), some (true, .list ((d :: ds).map .int)), some (false, .list TL), some (false, .list LL), none, none, none, none, none, none] := rfl
      have go : ∀ n, runF (gN p n) F__law_low_tree [.int (m : Nat), .list ((d :: ds).map .int), .list TL, .list LL] = match evSs (gN p n) [1] b__law_low_tree_t [some (false, .int (m : Nat)), some (true, .list (ds.map .int)), some (false, .list TL), some (false, .list LL), some (false, .int d), some (true, .list NL), some (false, .str x), none, none, none] with
          | .nx τ => (R.of (outs τ [1])).bind fun os => R.ok (PyData.none, os)
          | .ret τ d => (R.of (outs τ [1])).bind fun os => .ok (d, os)
          | .ex x _ => .ex x
          | _ => .st := fun n => by
        rw [runF_eq _ _ _ rfl, sA, ← start n]
        rfl
      have mm : mulOk (m : Int) ((m : Int) + 1) = true := mulL (by omega)
      have k2 : ∀ x, mulOk 2 x = true := fun x => mulL (by decide)
      have d1 : divOk ((m : Int) * ((m : Int) + 1)) 2 = true := divS (by decide) (by decide)
      have i0 := io_of H.ftree
      have i1 := io_of H.lsum
      simp only [F__law_full_tree] at i0
      simp only [F__law_sum] at i1
      rcases nmsL_mem hx with rfl | rfl | ⟨h4, rfl⟩
      · refine ⟨((m : Int) * (m + 1) / 2, 0, (m : Int) + 1), ds, by simp, cB_plain q h1, Cl.mk H.ltree fun n hn => ?_⟩
        rw [go]
        simp only [b__law_low_tree_t]
        repeat (rw [evSs_c]; simp [evIo, evSs_n, asg, asgs, frz1, own?, ixN_nat, outs, ofI, divS, gN_cf, gN_io, gN_gl, gN_gd, gN_xr, gN_fr, wipeT_nil, wipeT_cons, mm, d1, cD])
      · obtain ⟨c, r, g1, g2, g3⟩ := ft m h1 h2 ds hd
        refine ⟨c, r, by simp; omega, Int.le_trans (cB_whole q h1) g2, Cl.mk H.ltree fun n hn => ?_⟩
        have g3 := g3.at (n := n) (by omega)
        have hc : isC (cD c) = false := rfl
        rw [go]
        simp only [b__law_low_tree_t]
        repeat (rw [evSs_c]; simp [evIo, evSs_n, asg, asgs, frz1, own?, ixN_nat, outs, ofI, divS, gN_cf, gN_io, gN_gl, gN_gd, gN_xr, gN_fr, wipeT_nil, wipeT_cons, g3, i0, hc])
      · have d2 : divOk ((m : Int) + 1) 2 = true := divS (by decide) (by decide)
        have eh : ((m : Int) + 1) / 2 = (((m + 1) / 2 : Nat) : Int) := by omega
        have er : (m : Int) - (((m + 1) / 2 : Nat) : Int) = ((m - (m + 1) / 2 : Nat) : Int) := by omega
        have hle := cB_split q h4
        have b1 : 1 ≤ (m + 1) / 2 ∧ (m + 1) / 2 ≤ N ∧ 1 ≤ m - (m + 1) / 2 ∧ m - (m + 1) / 2 ≤ N := by omega
        generalize (m + 1) / 2 = h at *
        generalize m - h = r at *
        rw [er] at hle
        obtain ⟨c1, r1, f1, f2, f3⟩ := ft h b1.1 b1.2.1 ds hd
        obtain ⟨c', r', g1, g2, g3⟩ := low_loop H (n0 := k + 2) (by omega) q TL LL er (K := k) (fun ds hd => ih r b1.2.2.1 b1.2.2.2 ds hd) [.int 0, .int 1] (sm (0, 2 * (r : Nat), 2) c1) r1 (by omega)
        refine ⟨c', r', by simp; omega, ?_, Cl.mk H.ltree fun n hn => ?_⟩
        · rw [prc_sm] at g2
          have : ((([PyData.int 0, .int 1] : List D).length : Nat) : Int) = 2 := rfl
          rw [this] at g2
          omega
        have g3 := g3 n hn
        have f3 := f3.at (n := n) (by omega)
        have hs : callN p n 92 [.tuple [.int 0, .int (2 * (r : Nat)), .int 2], cD c1] = .ok (cD (sm (0, 2 * (r : Nat), 2) c1), []) := sum_at H (0, 2 * (r : Nat), 2) c1 (by omega)
        generalize sm (0, 2 * (r : Nat), 2) c1 = c2 at *
        unfold ltS at g3
        have hr2 : rngR1 2 = .ok ([.int 0, .int 1], []) := rng1 (n := 2) (by omega)
        rw [go]
        simp only [b__law_low_tree_t]
        repeat (rw [evSs_c]; simp [evIo, evSs_n, asg, asgs, frz1, own?, ixN_nat, outs, ofI, divS, gN_cf, gN_io, gN_gl, gN_gd, gN_xr, gN_fr, wipeT_nil, wipeT_cons, d2, eh, er, k2, f3, hs, i0, i1, g3, hr2, lk_c])
end Mp

/-! k19: prices; no tree is cheaper -/
namespace Mp
open PySem PySem.Spec PyProof.Rows L2
theorem price_at {p : Pr} (H : H19 p) (c : C3) {q : C3} (hq : OkP q) {n : Nat} (hn : 1 ≤ n) : callN p n 94 [cD c, qD q] = .ok (.int (prc c q), []) := (price_cl H c.1 c.2.1 c.2.2 hq).at hn
theorem priceo_at {p : Pr} (H : H19 p) (c : C3) {q : C3} (hq : OkP q) {n : Nat} (hn : 1 ≤ n) : callN p n 31 [cD c, qD q] = .ok (.int (prc c q), []) := (priceo_cl H c.1 c.2.1 c.2.2 hq).at hn
theorem row_fr {p : Pr} (H : H19 p) : p.fr 10 = true := fr_of H.rowf
theorem prices_cl {p : Pr} (H : H19 p) (ns : List Int) (pl : Int) : ∃ q : C3, OkP q ∧ Cl p 4 99 [.list (ns.map .int), .int pl] (qD q, []) := by
  have l1 := rowF_len ns pl 3 (show (0 : Int) < 9 by decide)
  have l2 := rowF_len ns (pl + 1) 3 (show (0 : Int) < 1000 by decide)
  have w1 := fun j => rd_wd (by decide) (rowF_wd ns pl 3 (show (0 : Int) < 9 by decide)) j
  have w2 := fun j => rd_wd (by decide) (rowF_wd ns (pl + 1) 3 (show (0 : Int) < 1000 by decide)) j
  have a0 := at_rd (ms := rowF ns pl 3 9) (j := 0) (by omega)
  have a1 := at_rd (ms := rowF ns pl 3 9) (j := 1) (by omega)
  have a2 := at_rd (ms := rowF ns pl 3 9) (j := 2) (by omega)
  have b0 := at_rd (ms := rowF ns (pl + 1) 3 1000) (j := 0) (by omega)
  have b1 := at_rd (ms := rowF ns (pl + 1) 3 1000) (j := 1) (by omega)
  have b2 := at_rd (ms := rowF ns (pl + 1) 3 1000) (j := 2) (by omega)
  have c0 : ∀ n, 3 ≤ n → callN p n 10 [.list (ns.map .int), .int pl, .int 3, .int 9] = _ := fun n hn => (row_cl H.row ns pl 3 9 (by omega) (by decide) (divB (by decide) (by decide))).at (n := n) (by omega)
  have c1 : ∀ n, 3 ≤ n → callN p n 10 [.list (ns.map .int), .int (pl + 1), .int 3, .int 1000] = _ := fun n hn => (row_cl H.row ns (pl + 1) 3 1000 (by omega) (by decide) (divB (by decide) (by decide))).at (n := n) (by omega)
  have c2 := fun n (hn : 3 ≤ n) => (one_cl H.row ns (pl + 2) 3 (by decide) (divB (by decide) (by decide))).at hn
  have i10 := row_io H.row
  have f10 := row_fr H
  have i11 := io_of H.one
  simp only [F__law_one] at i11
  generalize rowF ns pl 3 9 = sm at *
  generalize rowF ns (pl + 1) 3 1000 = gr at *
  generalize oneF ns (pl + 2) 3 = way at *
  generalize PyData.list (ns.map .int) = S at *
  have a0 : atI (sm.map PyData.int) 0 = _ := a0
  have a1 : atI (sm.map PyData.int) 1 = _ := a1
  have a2 : atI (sm.map PyData.int) 2 = _ := a2
  have b0 : atI (gr.map PyData.int) 0 = _ := b0
  have b1 : atI (gr.map PyData.int) 1 = _ := b1
  have b2 : atI (gr.map PyData.int) 2 = _ := b2
  have x0 := w1 0
  have x1 := w1 1
  have x2 := w1 2
  have y0 := w2 0
  have y1 := w2 1
  have y2 := w2 2
  unfold Wd at x0 x1 x2 y0 y1 y2
  generalize rd sm 0 = s0 at *
  generalize rd sm 1 = s1 at *
  generalize rd sm 2 = s2 at *
  generalize rd gr 0 = g0 at *
  generalize rd gr 1 = g1 at *
  generalize rd gr 2 = g2 at *
  by_cases h0 : way = 0
  · refine ⟨(s0 + 1, s1 + 1, s2 + 1), ⟨by simp only; omega, by simp only; omega, by simp only; omega⟩, Cl.mk H.prices fun n hn => ?_⟩
    have c0 := c0 n hn; have c1 := c1 n hn; have c2 := c2 n hn
    rw [runF_eq _ _ _ rfl]; simp only [F__law_prices, b__law_prices, ioM_f, ioM_t, startT, mark, List.replicate, List.cons_append, List.nil_append, List.contains_cons, List.contains_nil, icL, icT, icI, icS, icB, icN, icD, Nat.reduceBEq, Nat.reduceSub, Nat.reduceAdd, Bool.true_and, Bool.false_and, Bool.or_false, beq_self_eq_true]; repeat (rw [evSs_c]; simp [evIo, evSs_n, asg, asgs, frz1, own?, ixN_nat, outs, ofI, divS, gN_cf, gN_io, gN_gl, gN_gd, gN_xr, gN_fr, wipeT_nil, wipeT_cons, c0, c1, c2, i10, f10, i11, a0, a1, a2, h0])
  · by_cases h1 : way = 1
    · refine ⟨(g0 + 1, g1 + 1, g2 + 1), ⟨by simp only; omega, by simp only; omega, by simp only; omega⟩, Cl.mk H.prices fun n hn => ?_⟩
      have c0 := c0 n hn; have c1 := c1 n hn; have c2 := c2 n hn
      rw [runF_eq _ _ _ rfl]; simp only [F__law_prices, b__law_prices, ioM_f, ioM_t, startT, mark, List.replicate, List.cons_append, List.nil_append, List.contains_cons, List.contains_nil, icL, icT, icI, icS, icB, icN, icD, Nat.reduceBEq, Nat.reduceSub, Nat.reduceAdd, Bool.true_and, Bool.false_and, Bool.or_false, beq_self_eq_true]; repeat (rw [evSs_c]; simp [evIo, evSs_n, asg, asgs, frz1, own?, ixN_nat, outs, ofI, divS, gN_cf, gN_io, gN_gl, gN_gd, gN_xr, gN_fr, wipeT_nil, wipeT_cons, c0, c1, c2, i10, f10, i11, b0, b1, b2, h0, h1])
    · refine ⟨(g0 + 1, 1 + s1 % 3, 1 + s2 % 3), ⟨by simp only; omega, by simp only; omega, by simp only; omega⟩, Cl.mk H.prices fun n hn => ?_⟩
      have c0 := c0 n hn; have c1 := c1 n hn; have c2 := c2 n hn
      rw [runF_eq _ _ _ rfl]; simp only [F__law_prices, b__law_prices, ioM_f, ioM_t, startT, mark, List.replicate, List.cons_append, List.nil_append, List.contains_cons, List.contains_nil, icL, icT, icI, icS, icB, icN, icD, Nat.reduceBEq, Nat.reduceSub, Nat.reduceAdd, Bool.true_and, Bool.false_and, Bool.or_false, beq_self_eq_true]; repeat (rw [evSs_c]; simp [evIo, evSs_n, asg, asgs, frz1, own?, ixN_nat, outs, ofI, divS, gN_cf, gN_io, gN_gl, gN_gd, gN_xr, gN_fr, wipeT_nil, wipeT_cons, c0, c1, c2, i10, f10, i11, a0, a1, a2, b0, b1, b2, h0, h1])
theorem near_cl {p : Pr} (H : H19 p) (ns : List Int) (pl : Int) : ∃ q : C3, OkP q ∧ Cl p 4 100 [.list (ns.map .int), .int pl] (qD q, []) := by
  have c0 := fun n (hn : 3 ≤ n) => (one_cl H.row ns pl 9 (by decide) (divB (by decide) (by decide))).at hn
  have c1 := fun n (hn : 3 ≤ n) => (one_cl H.row ns (pl + 1) 100 (by decide) (divB (by decide) (by decide))).at hn
  have c2 := fun n (hn : 3 ≤ n) => (one_cl H.row ns (pl + 2) 3 (by decide) (divB (by decide) (by decide))).at hn
  have w0 := oneF_wd ns pl (show (0 : Int) < 9 by decide)
  have w1 := oneF_wd ns (pl + 1) (show (0 : Int) < 100 by decide)
  have w2 := oneF_wd ns (pl + 2) (show (0 : Int) < 3 by decide)
  have i11 := io_of H.one
  simp only [F__law_one] at i11
  have k2 : ∀ x, mulOk 2 x = true := fun x => mulL (by decide)
  have k6 : ∀ x, mulOk 6 x = true := fun x => mulL (by decide)
  have k31 : ∀ x, mulOk 31 x = true := fun x => mulL (by decide)
  generalize oneF ns pl 9 = a at *
  generalize oneF ns (pl + 1) 100 = b at *
  generalize oneF ns (pl + 2) 3 = c at *
  generalize PyData.list (ns.map .int) = S at *
  unfold Wd at w0 w1 w2
  refine ⟨(31 * (1 + a) + 6 * (1 + b) + c - 1, 2 * (1 + a), 1 + b), ⟨by simp only; omega, by simp only; omega, by simp only; omega⟩, Cl.mk H.near fun n hn => ?_⟩
  have c0 := c0 n hn; have c1 := c1 n hn; have c2 := c2 n hn
  rw [runF_eq _ _ _ rfl]; simp only [F__law_near_prices, b__law_near_prices, ioM_f, ioM_t, startT, mark, List.replicate, List.cons_append, List.nil_append, List.contains_cons, List.contains_nil, icL, icT, icI, icS, icB, icN, icD, Nat.reduceBEq, Nat.reduceSub, Nat.reduceAdd, Bool.true_and, Bool.false_and, Bool.or_false, beq_self_eq_true]; repeat (rw [evSs_c]; simp [evIo, evSs_n, asg, asgs, frz1, own?, ixN_nat, outs, ofI, divS, gN_cf, gN_io, gN_gl, gN_gd, gN_xr, gN_fr, wipeT_nil, wipeT_cons, c0, c1, c2, i11, k2, k6, k31])
def ncS (S T : D) (top : Nat) (q : C3) (TL LL : List D) : Tau := [some (false, S), some (false, T), some (false, .int (top : Nat)), none, some (false, qD q), some (false, .list TL), some (false, .list LL), none, none, none, none, none]
theorem none_turn {p : Pr} (H : H19 p) {n : Nat} (hn : 62 ≤ n) (ns : List Int) {top : Nat} (h1 : 1 ≤ top) (h64 : top ≤ 64) {q : C3} (hq : OkP q) (kk : Int) :
    Turn [] [3, 7, 8, 9, 10, 11] (.n 7) (evSs (gN p n) [] b__law_none_cheaper_0) (.int kk) (ncS (.list (ns.map .int)) (tabD (tb "cheapest" "cheapest" q top)) top q (tabL (tb "cheapest" "cheapest" q top).1) (tabL (tb "cheapest" "cheapest" q top).2))
      (ncS (.list (ns.map .int)) (tabD (tb "cheapest" "cheapest" q top)) top q (tabL (tb "cheapest" "cheapest" q top).1) (tabL (tb "cheapest" "cheapest" q top).2)) := by
  have c0 := (one_cl H.row ns (20 + 3 * kk) (top : Nat) (by omega) (divB (by omega) (by omega))).at (n := n) (by omega)
  have w0 := oneF_wd ns (20 + 3 * kk) (show (0 : Int) < (top : Nat) by omega)
  have r1 : callN p n 10 [.list (ns.map .int), .int (21 + 3 * kk), .int 60, .int 60] = _ := (row_cl H.row ns (21 + 3 * kk) 60 60 (by omega) (by decide) (divB (by decide) (by decide))).at (n := n) (by omega)
  have r2 : callN p n 10 [.list (ns.map .int), .int (22 + 3 * kk), .int 60, .int 60] = _ := (row_cl H.row ns (22 + 3 * kk) 60 60 (by omega) (by decide) (divB (by decide) (by decide))).at (n := n) (by omega)
  have l1 := rowF_len ns (21 + 3 * kk) 60 (show (0 : Int) < 60 by decide)
  have l2 := rowF_len ns (22 + 3 * kk) 60 (show (0 : Int) < 60 by decide)
  generalize rowF ns (21 + 3 * kk) 60 60 = d1 at *
  generalize rowF ns (22 + 3 * kk) 60 60 = d2 at *
  generalize oneF ns (20 + 3 * kk) (top : Nat) = o at *
  unfold Wd at w0
  obtain ⟨m, hm⟩ := Int.eq_ofNat_of_zero_le (show 0 ≤ 1 + o by omega)
  have hm1 : 1 ≤ m ∧ m ≤ top := by omega
  obtain ⟨ca, ra, x1, x2, x3⟩ := ftree_cl H q h64 60 m hm1.1 hm1.2 d1 (by omega)
  obtain ⟨cb, rb, y1, y2, y3⟩ := ltree_cl H q h64 60 m hm1.1 hm1.2 d2 (by omega)
  have x3 := x3.at (n := n) (by omega)
  have y3 := y3.at (n := n) (by omega)
  have ta := tA_at "cheapest" "cheapest" q hm1.1 hm1.2
  have tb' := tB_at "cheapest" "cheapest" q hm1.1 hm1.2
  have pa := price_at H ca hq (n := n) (by omega)
  have pb := price_at H cb hq (n := n) (by omega)
  have pA := price_at H (cA q m) hq (n := n) (by omega)
  have pB := price_at H (cB q m) hq (n := n) (by omega)
  have po := priceo_at H cb hq (n := n) (by omega)
  have lw := fun i => (lwhole_i H i).at (n := n) (by omega)
  have hA : eD (eA "cheapest" "cheapest" q m) = .tuple [.str (eA "cheapest" "cheapest" q m).1, cD (cA q m)] := rfl
  have hB : eD (eB "cheapest" "cheapest" q m) = .tuple [.str (eB "cheapest" "cheapest" q m).1, cD (cB q m)] := rfl
  rw [hA] at ta
  rw [hB] at tb'
  have i10 := row_io H.row
  have f10 := row_fr H
  have i11 := io_of H.one
  have ip := io_of H.lprice
  have ipo := io_of H.price
  have iw := io_of H.lwhole
  have ift := io_of H.ftree
  have ilt := io_of H.ltree
  simp only [F__law_one] at i11
  simp only [F__law_price] at ip
  simp only [F_price_of] at ipo
  simp only [F__law_is_whole] at iw
  simp only [F__law_full_tree] at ift
  simp only [F__law_low_tree] at ilt
  have k3 : ∀ x, mulOk 3 x = true := fun x => mulL (by decide)
  have n1 : ¬ prc ca q < prc (cA q m) q := by omega
  have n2 : ¬ prc cb q < prc (cB q m) q := by omega
  unfold tabD
  generalize tabL (tb "cheapest" "cheapest" q top).1 = TL at *
  generalize tabL (tb "cheapest" "cheapest" q top).2 = LL at *
  generalize (eA "cheapest" "cheapest" q m).1 = nA at *
  generalize (eB "cheapest" "cheapest" q m).1 = nB at *
  generalize prc (cA q m) q = vA at *
  generalize prc (cB q m) q = vB at *
  generalize cA q m = CA at *
  generalize cB q m = CB at *
  generalize prc ca q = va at *
  generalize prc cb q = vb at *
  generalize hS : PyData.list (ns.map .int) = S at *
  unfold ncS
  generalize qD q = Q at *
  refine Turn.of rfl ?_
  simp only [b__law_none_cheaper_0]
  repeat (rw [evSs_c]; simp [evIo, evSs_n, asg, asgs, frz1, own?, ixN_nat, outs, ofI, divS, gN_cf, gN_io, gN_gl, gN_gd, gN_xr, gN_fr, wipeT_nil, wipeT_cons, c0, hm, r1, r2, x3, y3, ta, tb', pa, pb, pA, pB, po, lw, i10, f10, i11, ip, ipo, iw, ift, ilt, k3, n1, n2, lk_c])
theorem none_cl {p : Pr} (H : H19 p) (ns : List Int) {top : Nat} (h1 : 1 ≤ top) (h64 : top ≤ 64) {q : C3} (hq : OkP q) :
    Cl p 63 105 [.list (ns.map .int), tabD (tb "cheapest" "cheapest" q top), .int (top : Nat), .tuple [.list (tabL (tb "cheapest" "cheapest" q top).1), .list (tabL (tb "cheapest" "cheapest" q top).2)], qD q] (.bool true, []) := by
  refine Cl.mk H.none fun n hn => ?_
  have e := forL_same (io := []) (dead := [3, 7, 8, 9, 10, 11]) (t := .n 7) (body := evSs (gN p n) [] b__law_none_cheaper_0) (τ := ncS (.list (ns.map .int)) (tabD (tb "cheapest" "cheapest" q top)) top q (tabL (tb "cheapest" "cheapest" q top).1) (tabL (tb "cheapest" "cheapest" q top).2)) (rngL 0 4) fun d hd => by
    unfold rngL at hd
    obtain ⟨i, _, rfl⟩ := List.mem_map.mp hd
    exact none_turn H hn ns h1 h64 hq _
  have hr : rngR1 4 = .ok (rngL 0 4, []) := rng1 (n := 4) (by omega)
  generalize rngL 0 4 = R at *
  unfold ncS at e
  generalize tabD (tb "cheapest" "cheapest" q top) = TD at *
  generalize tabL (tb "cheapest" "cheapest" q top).1 = TL at *
  generalize tabL (tb "cheapest" "cheapest" q top).2 = LL at *
  generalize PyData.list (ns.map .int) = S at *
  generalize qD q = Q at *
  rw [runF_eq _ _ _ rfl]; simp only [F__law_none_cheaper, b__law_none_cheaper, ioM_f, ioM_t, startT, mark, List.replicate, List.cons_append, List.nil_append, List.contains_cons, List.contains_nil, icL, icT, icI, icS, icB, icN, icD, Nat.reduceBEq, Nat.reduceSub, Nat.reduceAdd, Bool.true_and, Bool.false_and, Bool.or_false, beq_self_eq_true]; repeat (rw [evSs_c]; simp [evIo, evSs_n, asg, asgs, frz1, own?, ixN_nat, outs, ofI, divS, gN_cf, gN_io, gN_gl, gN_gd, gN_xr, gN_fr, wipeT_nil, wipeT_cons, hr, e])
end Mp

/-! k19: the law from the tables on -/
namespace Mp
open PySem PySem.Spec PyProof.Rows L2
def b_law__v5_t5 : Ss := (.cons (.set (.tup [6, 7]) (.call 98 (.cons (.v 2) (.cons (.k (.str "cheapest")) (.cons (.v 1) .nil))))) (.cons (.set (.n 8) (.call 91 (.cons (.v 2) (.cons (.call 81 (.cons (.sub (.v 3) (.k (.int 0))) (.cons (.k (.str "cheapest")) (.cons (.v 1) .nil)))) .nil)))) (.cons (.ifS (.or (.not (.call 102 (.cons (.v 8) (.cons (.v 2) (.cons (.v 6) (.cons (.v 7) .nil)))))) (.not (.call 105 (.cons (.v 0) (.cons (.v 8) (.cons (.v 2) (.cons (.tup (.cons (.v 6) (.cons (.v 7) .nil))) (.cons (.v 1) .nil)))))))) (.cons (.ret (.k (.bool false))) .nil) .nil) (.cons (.set (.n 9) (.bin .Add (.k (.int 1)) (.call 11 (.cons (.v 0) (.cons (.k (.int 12)) (.cons (.v 2) .nil)))))) (.cons (.ifS (.not (.call 102 (.cons (.call 91 (.cons (.v 9) (.cons (.call 81 (.cons (.sub (.v 3) (.k (.int 1))) (.cons (.k (.str "cheapest")) (.cons (.v 1) .nil)))) .nil))) (.cons (.v 9) (.cons (.v 6) (.cons (.v 7) .nil)))))) (.cons (.ret (.k (.bool false))) .nil) .nil) (.cons (.ifS (.cmp .Eq (.v 5) (.k (.str "cheapest"))) (.cons (.ret (.cmp .Eq (.v 8) (.call 91 (.cons (.v 2) (.cons (.call 81 (.cons (.sub (.v 3) (.k (.int 1))) (.cons (.v 5) (.cons (.v 1) .nil)))) .nil))))) .nil) .nil) (.cons (.set (.tup [6, 7]) (.call 98 (.cons (.v 2) (.cons (.v 5) (.cons (.v 1) .nil))))) (.cons (.set (.n 10) (.call 91 (.cons (.v 2) (.cons (.call 81 (.cons (.sub (.v 3) (.k (.int 1))) (.cons (.v 5) (.cons (.v 1) .nil)))) .nil)))) (.cons (.ifS (.not (.call 102 (.cons (.v 10) (.cons (.v 2) (.cons (.v 6) (.cons (.v 7) .nil)))))) (.cons (.ret (.k (.bool false))) .nil) .nil) (.cons (.forS [0, 2, 4, 11, 12] (.n 11) (.r2 (.k (.int 1)) (.bin .Add (.v 2) (.k (.int 1)))) b_law__v5_0) (.cons (.ret (.call 102 (.cons (.call 91 (.cons (.v 9) (.cons (.call 81 (.cons (.sub (.v 3) (.k (.int 0))) (.cons (.v 5) (.cons (.v 1) .nil)))) .nil))) (.cons (.v 9) (.cons (.v 6) (.cons (.v 7) .nil)))))) .nil)))))))))))
def lmS (q : C3) (b0 b1 : Int) (r : Str) (U1 U2 T O : D) (le : Nat) : Tau := [none, some (false, qD q), none, some (true, .list [.int b0, .int b1]), none, some (false, .str r), some (false, U1), some (false, U2), some (false, T), some (false, .int (le : Nat)), some (false, O), none, none]
theorem cmp_turn {p : Pr} (H : H19 p) {n : Nat} (hn : 1 ≤ n) {N : Nat} {q : C3} (hq : OkP q) (b0 b1 : Int) (r lower : Str) (U1 U2 : D) (le i : Nat) (hi : i < N) :
    Turn [] [0, 2, 4, 11, 12] (.n 11) (evSs (gN p n) [] b_law__v5_0) (.int ((i + 1 : Nat) : Int)) (lmS q b0 b1 r U1 U2 (tabD (tb "cheapest" "cheapest" q N)) (tabD (tb r lower q N)) le) (lmS q b0 b1 r U1 U2 (tabD (tb "cheapest" "cheapest" q N)) (tabD (tb r lower q N)) le) := by
  have a1 := tA_at "cheapest" "cheapest" q (n := N) (j := i + 1) (by omega) (by omega)
  have a2 := tB_at "cheapest" "cheapest" q (n := N) (j := i + 1) (by omega) (by omega)
  have o1 := tA_at r lower q (n := N) (j := i + 1) (by omega) (by omega)
  have o2 := tB_at r lower q (n := N) (j := i + 1) (by omega) (by omega)
  have le1 := cA_other r lower q (i + 1) (by omega)
  have le2 := cB_other r lower q (i + 1) (by omega)
  have pa := price_at H (cA q (i + 1)) hq hn
  have pb := price_at H (cB q (i + 1)) hq hn
  have po := price_at H (eA r lower q (i + 1)).2 hq hn
  have pq := price_at H (eB r lower q (i + 1)).2 hq hn
  have hd : ∀ e, eD e = .tuple [.str e.1, cD e.2] := fun _ => rfl
  have hA : eD (eA "cheapest" "cheapest" q (i + 1)) = .tuple [.str (eA "cheapest" "cheapest" q (i + 1)).1, cD (cA q (i + 1))] := rfl
  have hB : eD (eB "cheapest" "cheapest" q (i + 1)) = .tuple [.str (eB "cheapest" "cheapest" q (i + 1)).1, cD (cB q (i + 1))] := rfl
  rw [hA] at a1
  rw [hB] at a2
  rw [hd] at o1 o2
  have ip := io_of H.lprice
  simp only [F__law_price] at ip
  have n1 : ¬ prc (eA r lower q (i + 1)).2 q < prc (cA q (i + 1)) q := by omega
  have n2 : ¬ prc (eB r lower q (i + 1)).2 q < prc (cB q (i + 1)) q := by omega
  unfold lmS tabD
  generalize tabL (tb "cheapest" "cheapest" q N).1 = T1 at *
  generalize tabL (tb "cheapest" "cheapest" q N).2 = T2 at *
  generalize tabL (tb r lower q N).1 = V1 at *
  generalize tabL (tb r lower q N).2 = V2 at *
  generalize (eA "cheapest" "cheapest" q (i + 1)).1 = nA at *
  generalize (eB "cheapest" "cheapest" q (i + 1)).1 = nB at *
  generalize (eA r lower q (i + 1)).1 = nC at *
  generalize (eB r lower q (i + 1)).1 = nD at *
  generalize prc (cA q (i + 1)) q = v1 at *
  generalize prc (cB q (i + 1)) q = v2 at *
  generalize prc (eA r lower q (i + 1)).2 q = v3 at *
  generalize prc (eB r lower q (i + 1)).2 q = v4 at *
  generalize cA q (i + 1) = C1 at *
  generalize cB q (i + 1) = C2 at *
  generalize (eA r lower q (i + 1)).2 = C4 at *
  generalize (eB r lower q (i + 1)).2 = C5 at *
  generalize ((i + 1 : Nat) : Int) = m at *
  generalize qD q = Q at *
  have e := forL_same (io := []) (dead := [0, 2, 4, 12]) (t := .n 12) (body := evSs (gN p n) [] b_law__v5_1) (τ := [none, some (false, Q), none, some (true, .list [.int b0, .int b1]), none, some (false, .str r), some (false, U1), some (false, U2), some (false, .tuple [.str "roads", .tuple T1, .tuple T2]), some (false, .int (le : Nat)), some (false, .tuple [.str "roads", .tuple V1, .tuple V2]), some (false, .int m), none]) [.int 1, .int 2] fun d hd => by
    simp only [List.mem_cons, List.not_mem_nil, or_false] at hd
    rcases hd with rfl | rfl
    · exact Turn.of rfl (by simp only [b_law__v5_1]; repeat (rw [evSs_c]; simp [evIo, evSs_n, asg, asgs, frz1, own?, ixN_nat, outs, ofI, divS, gN_cf, gN_io, gN_gl, gN_gd, gN_xr, gN_fr, wipeT_nil, wipeT_cons, a1, o1, pa, po, ip, n1, lk_c]))
    · exact Turn.of rfl (by simp only [b_law__v5_1]; repeat (rw [evSs_c]; simp [evIo, evSs_n, asg, asgs, frz1, own?, ixN_nat, outs, ofI, divS, gN_cf, gN_io, gN_gl, gN_gd, gN_xr, gN_fr, wipeT_nil, wipeT_cons, a2, o2, pb, pq, ip, n2, lk_c]))
  have hr : rngR 1 3 = .ok ([.int 1, .int 2], []) := rng2 (a := 1) (n := 3) (by omega) (by omega)
  refine Turn.of rfl ?_
  simp only [b_law__v5_0]
  repeat (rw [evSs_c]; simp [evIo, evSs_n, asg, asgs, frz1, own?, ixN_nat, outs, ofI, divS, gN_cf, gN_io, gN_gl, gN_gd, gN_xr, gN_fr, wipeT_nil, wipeT_cons, hr, e])
theorem mid_ok {p : Pr} (H : H19 p) {n : Nat} (hn : 63 ≤ n) (ns : List Int) {N : Nat} (h1 : 1 ≤ N) (h64 : N ≤ 64) {q : C3} (hq : OkP q) {b0 b1 : Int} (hb0 : 8 ≤ b0 ∧ b0 ≤ 16) (hb1 : 8 ≤ b1 ∧ b1 ≤ 16) {r : Str} (hr : Road r) :
    ∃ τ, evSs (gN p n) [] b_law__v5_t5 [some (false, .list (ns.map .int)), some (false, qD q), some (false, .int (N : Nat)), some (true, .list [.int b0, .int b1]), none, some (false, .str r), none, none, none, none, none, none, none] = .ret τ (.bool true) := by
  have hc : Road ("cheapest" : Str) := .inl rfl
  have lc : lowerOf "cheapest" = "cheapest" := by decide
  have rc := (roads_cl H N h64 hc hq).at (n := n) (by omega)
  have tc := fun (M : Nat) (hM : M ≤ 64) (b : Int) => (table_cl H M hM b hc hq).at (n := n) (by omega)
  rw [lc] at rc tc
  have rr := (roads_cl H N h64 hr hq).at (n := n) (by omega)
  have tr := fun (M : Nat) (hM : M ≤ 64) (b : Int) => (table_cl H M hM b hr hq).at (n := n) (by omega)
  have s0 := (setup_cl H hb0 hc hq).at (n := n) (by omega)
  have s1 := (setup_cl H hb1 hc hq).at (n := n) (by omega)
  have s2 := (setup_cl H hb0 hr hq).at (n := n) (by omega)
  have s3 := (setup_cl H hb1 hr hq).at (n := n) (by omega)
  have nc := (none_cl H ns h1 h64 hq).at hn
  have c12 := (one_cl H.row ns 12 (N : Nat) (by omega) (divB (by omega) (by omega))).at (n := n) (by omega)
  have w12 := oneF_wd ns 12 (show (0 : Int) < (N : Nat) by omega)
  generalize oneF ns 12 (N : Nat) = o at *
  unfold Wd at w12
  obtain ⟨le, hle⟩ := Int.eq_ofNat_of_zero_le (show 0 ≤ 1 + o by omega)
  have hle2 : le ≤ N := by omega
  have ic := fun (M : Nat) (hM : M ≤ N) => (istable_cl H "cheapest" "cheapest" q hM h64).at (n := n) (by omega)
  have ir := fun (M : Nat) (hM : M ≤ N) => (istable_cl H r (lowerOf r) q hM h64).at (n := n) (by omega)
  have ic0 := ic N (Nat.le_refl _)
  have ic1 := ic le hle2
  have ir0 := ir N (Nat.le_refl _)
  have ir1 := ir le hle2
  have tc0 := tc N h64 b0
  have tc1 := tc N h64 b1
  have tc2 := tc le (by omega) b1
  have tr0 := tr N h64 b1
  have tr1 := tr le (by omega) b0
  have i11 := io_of H.one
  have i1 := io_of H.roads
  have i2 := io_of H.table
  have i3 := io_of H.setup
  have i4 := io_of H.istable
  have i5 := io_of H.none
  simp only [F__law_one] at i11
  simp only [F__law_roads] at i1
  simp only [F_road_table] at i2
  simp only [F_setup_of__v2] at i3
  simp only [F__law_is_table] at i4
  simp only [F__law_none_cheaper] at i5
  have eq := tabD_eq "cheapest" "cheapest" q N
  have lt : ∀ s L, lk (tabD s) L = [] ∨ True := fun _ _ => .inr trivial
  by_cases hrc : r = ("cheapest" : Str)
  · subst hrc
    clear rr tr tr0 tr1 ir ir0 ir1 s2 s3 tc ic
    generalize tabD (tb "cheapest" "cheapest" q N) = TN at *
    generalize tabD (tb "cheapest" "cheapest" q le) = Tl at *
    generalize tabL (tb "cheapest" "cheapest" q N).1 = U1 at *
    generalize tabL (tb "cheapest" "cheapest" q N).2 = U2 at *
    generalize setD b0 "cheapest" q = S0 at *
    generalize setD b1 "cheapest" q = S1 at *
    generalize PyData.list (ns.map .int) = S at *
    generalize qD q = Q at *
    refine ⟨[some (false, S), some (false, Q), some (false, .int (N : Nat)), some (true, .list [.int b0, .int b1]), none, some (false, .str "cheapest"), some (false, .list U1), some (false, .list U2), some (false, TN), some (false, .int (le : Nat)), none, none, none], ?_⟩
    simp only [b_law__v5_t5]
    repeat (rw [evSs_c]; simp [evIo, evSs_n, asg, asgs, frz1, own?, ixN_nat, outs, ofI, divS, gN_cf, gN_io, gN_gl, gN_gd, gN_xr, gN_fr, wipeT_nil, wipeT_cons, rc, tc0, tc1, tc2, s0, s1, nc, c12, hle, ic0, ic1, i11, i1, i2, i3, i4, i5, eq])
  · have e := forL_same (io := []) (dead := [0, 2, 4, 11, 12]) (t := .n 11) (body := evSs (gN p n) [] b_law__v5_0) (τ := lmS q b0 b1 r (.list (tabL (tb r (lowerOf r) q N).1)) (.list (tabL (tb r (lowerOf r) q N).2)) (tabD (tb "cheapest" "cheapest" q N)) (tabD (tb r (lowerOf r) q N)) le) (rngL ((1 : Nat) : Int) N) fun d hd => by
      obtain ⟨i, hi⟩ := List.getElem?_of_mem hd
      obtain ⟨hlt, rfl⟩ := rng1_get hi
      exact cmp_turn H (by omega) hq b0 b1 r (lowerOf r) _ _ le i hlt
    have hrg := rng2 (a := 1) (n := N + 1) (by omega) (by omega)
    rw [Nat.add_sub_cancel] at hrg
    have hrg : rngR 1 ((N : Int) + 1) = .ok (rngL ((1 : Nat) : Int) N, []) := hrg
    unfold lmS at e
    clear tr ir tc ic eq
    generalize rngL ((1 : Nat) : Int) N = R at *
    generalize tabD (tb "cheapest" "cheapest" q N) = TN at *
    generalize tabD (tb "cheapest" "cheapest" q le) = Tl at *
    generalize tabL (tb "cheapest" "cheapest" q N).1 = U1 at *
    generalize tabL (tb "cheapest" "cheapest" q N).2 = U2 at *
    generalize tabD (tb r (lowerOf r) q N) = VN at *
    generalize tabD (tb r (lowerOf r) q le) = Vl at *
    generalize tabL (tb r (lowerOf r) q N).1 = V1 at *
    generalize tabL (tb r (lowerOf r) q N).2 = V2 at *
    generalize setD b0 "cheapest" q = S0 at *
    generalize setD b1 "cheapest" q = S1 at *
    generalize setD b0 r q = S2 at *
    generalize setD b1 r q = S3 at *
    generalize PyData.list (ns.map .int) = S at *
    generalize qD q = Q at *
    refine ⟨[none, some (false, Q), none, some (true, .list [.int b0, .int b1]), none, some (false, .str r), some (false, .list V1), some (false, .list V2), some (false, TN), some (false, .int (le : Nat)), some (false, VN), none, none], ?_⟩
    simp only [b_law__v5_t5]
    repeat (rw [evSs_c]; simp [evIo, evSs_n, asg, asgs, frz1, own?, ixN_nat, outs, ofI, divS, gN_cf, gN_io, gN_gl, gN_gd, gN_xr, gN_fr, wipeT_nil, wipeT_cons, rc, rr, tc0, tc1, tc2, tr0, tr1, s0, s1, s2, s3, nc, c12, hle, ic0, ic1, ir0, ir1, i11, i1, i2, i3, i4, i5, hrc, hrg, e])
end Mp

/-! the core text of k19, printed by mp.py: its defs together -/
namespace Mp
open PySem PySem.Spec PyProof.Rows L2
def topS (i : Nat) : Stmt := PySem.Challenge.pw_swornspire_k19_table_of_roads_is_least.main.body.getD i (.Pass ⟨0, 0, 0, 0⟩)
def glD : Nat → Option D
  | 1 => some (.tuple [.str "cheapest", .str "plain", .str "halves", .str "thirds"])
  | 2 => some (.int 8)
  | 3 => some (.int 16)
  | 4 => some (.int 1000)
  | 5 => some (.tuple [.str "plain", .str "halves", .str "thirds"])
  | 6 => some (.tuple [.str "plain", .str "split", .str "whole"])
  | _ => none
def gdD : Nat → Option (List (Str × D))
  | _ => none
def fsD : Nat → Option Fn
  | 9 => some F__law_cell
  | 10 => some { F__law_row with fr := true }
  | 11 => some F__law_one
  | 23 => some F_is_whole
  | 31 => some F_price_of
  | 58 => some F_good_prices
  | 62 => some F__law_is_whole
  | 81 => some F_setup_of__v2
  | 82 => some F_sum_counts
  | 83 => some F_times_counts
  | 84 => some F_full_allowed
  | 85 => some F_low_allowed
  | 86 => some F_full_counts
  | 87 => some F_low_counts
  | 88 => some F_cheapest
  | 89 => some F_full_entry
  | 90 => some F_low_entry
  | 91 => some F_road_table
  | 92 => some F__law_sum
  | 93 => some F__law_many
  | 94 => some F__law_price
  | 95 => some F__law_full_ways
  | 96 => some F__law_low_ways
  | 97 => some F__law_chosen
  | 98 => some F__law_roads
  | 99 => some F__law_prices
  | 100 => some F__law_near_prices
  | 101 => some F__law_is_entry
  | 102 => some F__law_is_table
  | 103 => some F__law_full_tree
  | 104 => some F__law_low_tree
  | 105 => some F__law_none_cheaper
  | 106 => some F_law__v5
  | _ => none
def tsD : Nat → Option (Fn × Tr)
  | _ => none
def xcsD : List (Str × (Nat × Str)) := []
def prog : Pr := ⟨fsD, glD, 2 ^ 64, gdD, xcsD, tsD⟩
def d_is_whole : DefT := ⟨"is_whole", 23, topS 8, ["value"], ["value"]⟩
def d_good_prices : DefT := ⟨"good_prices", 58, topS 9, ["prices", "price"], ["prices"]⟩
def d_setup_of : DefT := ⟨"setup_of", 81, topS 10, ["bits", "road", "prices"], ["bits", "road", "prices"]⟩
def d_price_of : DefT := ⟨"price_of", 31, topS 12, ["counts", "prices"], ["counts", "prices"]⟩
def d_sum_counts : DefT := ⟨"sum_counts", 82, topS 13, ["counts", "other"], ["counts", "other"]⟩
def d_times_counts : DefT := ⟨"times_counts", 83, topS 14, ["many", "counts"], ["many", "counts"]⟩
def d_full_allowed : DefT := ⟨"full_allowed", 84, topS 18, ["road", "length"], ["road", "length"]⟩
def d_low_allowed : DefT := ⟨"low_allowed", 85, topS 19, ["road", "length"], ["road", "length"]⟩
def d_full_counts : DefT := ⟨"full_counts", 86, topS 20, ["road", "length", "full", "half", "counts", "third", "adds"], ["road", "length", "full"]⟩
def d_low_counts : DefT := ⟨"low_counts", 87, topS 21, ["road", "length", "full", "low", "half", "rest", "counts"], ["road", "length", "full", "low"]⟩
def d_cheapest : DefT := ⟨"cheapest", 88, topS 22, ["choices", "prices", "best", "choice"], ["choices", "prices"]⟩
def d_full_entry : DefT := ⟨"full_entry", 89, topS 23, ["length", "setup", "full", "road", "allowed", "name"], ["length", "setup", "full"]⟩
def d_low_entry : DefT := ⟨"low_entry", 90, topS 24, ["length", "setup", "full", "low", "road", "allowed", "name"], ["length", "setup", "full", "low"]⟩
def d_road_table : DefT := ⟨"road_table", 91, topS 25, ["top", "setup", "full", "low", "length"], ["top", "setup"]⟩
def d__law_cell : DefT := ⟨"_law_cell", 9, topS 27, ["script", "place", "cell"], ["script", "place"]⟩
def d__law_row : DefT := ⟨"_law_row", 10, topS 28, ["script", "place", "many", "limit", "number", "row", "rest", "k", "mixed"], ["script", "place", "many", "limit"]⟩
def d__law_one : DefT := ⟨"_law_one", 11, topS 29, ["script", "place", "limit"], ["script", "place", "limit"]⟩
def d__law_is_whole : DefT := ⟨"_law_is_whole", 62, topS 30, ["value"], ["value"]⟩
def d__law_sum : DefT := ⟨"_law_sum", 92, topS 31, ["x", "y"], ["x", "y"]⟩
def d__law_many : DefT := ⟨"_law_many", 93, topS 32, ["many", "x"], ["many", "x"]⟩
def d__law_price : DefT := ⟨"_law_price", 94, topS 33, ["counts", "prices"], ["counts", "prices"]⟩
def d__law_full_ways : DefT := ⟨"_law_full_ways", 95, topS 34, ["m", "full", "ways", "h", "counts", "t", "adds"], ["m", "full"]⟩
def d__law_low_ways : DefT := ⟨"_law_low_ways", 96, topS 35, ["n", "full", "low", "ways", "h", "counts"], ["n", "full", "low"]⟩
def d__law_chosen : DefT := ⟨"_law_chosen", 97, topS 36, ["ways", "road", "prices", "best", "way"], ["ways", "road", "prices"]⟩
def d__law_roads : DefT := ⟨"_law_roads", 98, topS 37, ["top", "road", "prices", "full", "low", "lower", "m"], ["top", "road", "prices"]⟩
def d__law_prices : DefT := ⟨"_law_prices", 99, topS 38, ["script", "place", "small", "great", "way"], ["script", "place"]⟩
def d__law_near_prices : DefT := ⟨"_law_near_prices", 100, topS 39, ["script", "place", "a", "other"], ["script", "place"]⟩
def d__law_is_entry : DefT := ⟨"_law_is_entry", 101, topS 40, ["entry", "due", "number"], ["entry", "due"]⟩
def d__law_is_table : DefT := ⟨"_law_is_table", 102, topS 41, ["told", "top", "full", "low", "k", "m"], ["told", "top", "full", "low"]⟩
def d__law_full_tree : DefT := ⟨"_law_full_tree", 103, topS 42, ["m", "draws", "full", "draw", "names", "name", "h", "counts", "sizes", "t", "size"], ["m", "draws", "full"]⟩
def d__law_low_tree : DefT := ⟨"_law_low_tree", 104, topS 43, ["n", "draws", "full", "low", "draw", "names", "name", "h", "counts", "k"], ["n", "draws", "full", "low"]⟩
def d__law_none_cheaper : DefT := ⟨"_law_none_cheaper", 105, topS 44, ["script", "told", "top", "roads", "prices", "full", "low", "k", "length", "draws", "counts", "price"], ["script", "told", "top", "roads", "prices"]⟩
def d_law : DefT := ⟨"law", 106, topS 45, ["script", "prices", "top", "bits", "size", "name", "full", "low", "told", "lesser", "other", "m", "k"], ["script"]⟩
def defs : List DefT := [d_is_whole, d_good_prices, d_setup_of, d_price_of, d_sum_counts, d_times_counts, d_full_allowed, d_low_allowed, d_full_counts, d_low_counts, d_cheapest, d_full_entry, d_low_entry, d_road_table, d__law_cell, d__law_row, d__law_one, d__law_is_whole, d__law_sum, d__law_many, d__law_price, d__law_full_ways, d__law_low_ways, d__law_chosen, d__law_roads, d__law_prices, d__law_near_prices, d__law_is_entry, d__law_is_table, d__law_full_tree, d__law_low_tree, d__law_none_cheaper, d_law]
def gls : List (Str × Nat) := [("ROADS", 1), ("LEAST_BITS", 2), ("MOST_BITS", 3), ("MOST_PRICE", 4), ("FULL_ROADS", 5), ("LOW_ROADS", 6)]
def gds : List (Str × Nat) := []
def bis : List Str := ["bool", "int", "isinstance", "len", "range", "str", "tuple"]
theorem sc_is_whole : FnScope d_is_whole.N d_is_whole.ps (defScope d_is_whole.st) := ⟨by kernel_rfl, by kernel_rfl, by kernel_rfl, by decide +kernel, by decide +kernel, by decide +kernel, by decide +kernel⟩
theorem bind_is_whole : ∀ (kV doc pm : Value) (an : Option Addr) (cdv ct : Value) (us : List Value), us.length = d_is_whole.ps.length → bindArgs (PySem.W.fnOf d_is_whole.x d_is_whole.x (defArgs d_is_whole.st) (defBody d_is_whole.st) (defScope d_is_whole.st) .none kV doc pm an cdv ct) ⟨us, []⟩ = pure (d_is_whole.ps.zip us) := fun _ _ _ _ _ _ us hl => match us, hl with | [_], _ => rfl
theorem code_is_whole : b_is_whole.strip = ssOf (cS (cfgOf defs gls bis gds prog d_is_whole) eF (defScope d_is_whole.st)) (defBody d_is_whole.st) := by kernel_rfl
theorem ok_is_whole : DefOk defs gls bis gds prog d_is_whole := ⟨sc_is_whole, bind_is_whole, .inl ⟨F_is_whole, rfl, rfl, rfl, code_is_whole⟩⟩
theorem sc_good_prices : FnScope d_good_prices.N d_good_prices.ps (defScope d_good_prices.st) := ⟨by kernel_rfl, by kernel_rfl, by kernel_rfl, by decide +kernel, by decide +kernel, by decide +kernel, by decide +kernel⟩
theorem bind_good_prices : ∀ (kV doc pm : Value) (an : Option Addr) (cdv ct : Value) (us : List Value), us.length = d_good_prices.ps.length → bindArgs (PySem.W.fnOf d_good_prices.x d_good_prices.x (defArgs d_good_prices.st) (defBody d_good_prices.st) (defScope d_good_prices.st) .none kV doc pm an cdv ct) ⟨us, []⟩ = pure (d_good_prices.ps.zip us) := fun _ _ _ _ _ _ us hl => match us, hl with | [_], _ => rfl
theorem code_good_prices : b_good_prices.strip = ssOf (cS (cfgOf defs gls bis gds prog d_good_prices) eF (defScope d_good_prices.st)) (defBody d_good_prices.st) := by kernel_rfl
theorem ok_good_prices : DefOk defs gls bis gds prog d_good_prices := ⟨sc_good_prices, bind_good_prices, .inl ⟨F_good_prices, rfl, rfl, rfl, code_good_prices⟩⟩
theorem sc_setup_of : FnScope d_setup_of.N d_setup_of.ps (defScope d_setup_of.st) := ⟨by kernel_rfl, by kernel_rfl, by kernel_rfl, by decide +kernel, by decide +kernel, by decide +kernel, by decide +kernel⟩
theorem bind_setup_of : ∀ (kV doc pm : Value) (an : Option Addr) (cdv ct : Value) (us : List Value), us.length = d_setup_of.ps.length → bindArgs (PySem.W.fnOf d_setup_of.x d_setup_of.x (defArgs d_setup_of.st) (defBody d_setup_of.st) (defScope d_setup_of.st) .none kV doc pm an cdv ct) ⟨us, []⟩ = pure (d_setup_of.ps.zip us) := fun _ _ _ _ _ _ us hl => match us, hl with | [_, _, _], _ => rfl
theorem code_setup_of : b_setup_of__v2.strip = ssOf (cS (cfgOf defs gls bis gds prog d_setup_of) eF (defScope d_setup_of.st)) (defBody d_setup_of.st) := by kernel_rfl
theorem ok_setup_of : DefOk defs gls bis gds prog d_setup_of := ⟨sc_setup_of, bind_setup_of, .inl ⟨F_setup_of__v2, rfl, rfl, rfl, code_setup_of⟩⟩
theorem sc_price_of : FnScope d_price_of.N d_price_of.ps (defScope d_price_of.st) := ⟨by kernel_rfl, by kernel_rfl, by kernel_rfl, by decide +kernel, by decide +kernel, by decide +kernel, by decide +kernel⟩
theorem bind_price_of : ∀ (kV doc pm : Value) (an : Option Addr) (cdv ct : Value) (us : List Value), us.length = d_price_of.ps.length → bindArgs (PySem.W.fnOf d_price_of.x d_price_of.x (defArgs d_price_of.st) (defBody d_price_of.st) (defScope d_price_of.st) .none kV doc pm an cdv ct) ⟨us, []⟩ = pure (d_price_of.ps.zip us) := fun _ _ _ _ _ _ us hl => match us, hl with | [_, _], _ => rfl
theorem code_price_of : b_price_of.strip = ssOf (cS (cfgOf defs gls bis gds prog d_price_of) eF (defScope d_price_of.st)) (defBody d_price_of.st) := by kernel_rfl
theorem ok_price_of : DefOk defs gls bis gds prog d_price_of := ⟨sc_price_of, bind_price_of, .inl ⟨F_price_of, rfl, rfl, rfl, code_price_of⟩⟩
theorem sc_sum_counts : FnScope d_sum_counts.N d_sum_counts.ps (defScope d_sum_counts.st) := ⟨by kernel_rfl, by kernel_rfl, by kernel_rfl, by decide +kernel, by decide +kernel, by decide +kernel, by decide +kernel⟩
theorem bind_sum_counts : ∀ (kV doc pm : Value) (an : Option Addr) (cdv ct : Value) (us : List Value), us.length = d_sum_counts.ps.length → bindArgs (PySem.W.fnOf d_sum_counts.x d_sum_counts.x (defArgs d_sum_counts.st) (defBody d_sum_counts.st) (defScope d_sum_counts.st) .none kV doc pm an cdv ct) ⟨us, []⟩ = pure (d_sum_counts.ps.zip us) := fun _ _ _ _ _ _ us hl => match us, hl with | [_, _], _ => rfl
theorem code_sum_counts : b_sum_counts.strip = ssOf (cS (cfgOf defs gls bis gds prog d_sum_counts) eF (defScope d_sum_counts.st)) (defBody d_sum_counts.st) := by kernel_rfl
theorem ok_sum_counts : DefOk defs gls bis gds prog d_sum_counts := ⟨sc_sum_counts, bind_sum_counts, .inl ⟨F_sum_counts, rfl, rfl, rfl, code_sum_counts⟩⟩
theorem sc_times_counts : FnScope d_times_counts.N d_times_counts.ps (defScope d_times_counts.st) := ⟨by kernel_rfl, by kernel_rfl, by kernel_rfl, by decide +kernel, by decide +kernel, by decide +kernel, by decide +kernel⟩
theorem bind_times_counts : ∀ (kV doc pm : Value) (an : Option Addr) (cdv ct : Value) (us : List Value), us.length = d_times_counts.ps.length → bindArgs (PySem.W.fnOf d_times_counts.x d_times_counts.x (defArgs d_times_counts.st) (defBody d_times_counts.st) (defScope d_times_counts.st) .none kV doc pm an cdv ct) ⟨us, []⟩ = pure (d_times_counts.ps.zip us) := fun _ _ _ _ _ _ us hl => match us, hl with | [_, _], _ => rfl
theorem code_times_counts : b_times_counts.strip = ssOf (cS (cfgOf defs gls bis gds prog d_times_counts) eF (defScope d_times_counts.st)) (defBody d_times_counts.st) := by kernel_rfl
theorem ok_times_counts : DefOk defs gls bis gds prog d_times_counts := ⟨sc_times_counts, bind_times_counts, .inl ⟨F_times_counts, rfl, rfl, rfl, code_times_counts⟩⟩
theorem sc_full_allowed : FnScope d_full_allowed.N d_full_allowed.ps (defScope d_full_allowed.st) := ⟨by kernel_rfl, by kernel_rfl, by kernel_rfl, by decide +kernel, by decide +kernel, by decide +kernel, by decide +kernel⟩
theorem bind_full_allowed : ∀ (kV doc pm : Value) (an : Option Addr) (cdv ct : Value) (us : List Value), us.length = d_full_allowed.ps.length → bindArgs (PySem.W.fnOf d_full_allowed.x d_full_allowed.x (defArgs d_full_allowed.st) (defBody d_full_allowed.st) (defScope d_full_allowed.st) .none kV doc pm an cdv ct) ⟨us, []⟩ = pure (d_full_allowed.ps.zip us) := fun _ _ _ _ _ _ us hl => match us, hl with | [_, _], _ => rfl
theorem code_full_allowed : b_full_allowed.strip = ssOf (cS (cfgOf defs gls bis gds prog d_full_allowed) eF (defScope d_full_allowed.st)) (defBody d_full_allowed.st) := by kernel_rfl
theorem ok_full_allowed : DefOk defs gls bis gds prog d_full_allowed := ⟨sc_full_allowed, bind_full_allowed, .inl ⟨F_full_allowed, rfl, rfl, rfl, code_full_allowed⟩⟩
theorem sc_low_allowed : FnScope d_low_allowed.N d_low_allowed.ps (defScope d_low_allowed.st) := ⟨by kernel_rfl, by kernel_rfl, by kernel_rfl, by decide +kernel, by decide +kernel, by decide +kernel, by decide +kernel⟩
theorem bind_low_allowed : ∀ (kV doc pm : Value) (an : Option Addr) (cdv ct : Value) (us : List Value), us.length = d_low_allowed.ps.length → bindArgs (PySem.W.fnOf d_low_allowed.x d_low_allowed.x (defArgs d_low_allowed.st) (defBody d_low_allowed.st) (defScope d_low_allowed.st) .none kV doc pm an cdv ct) ⟨us, []⟩ = pure (d_low_allowed.ps.zip us) := fun _ _ _ _ _ _ us hl => match us, hl with | [_, _], _ => rfl
theorem code_low_allowed : b_low_allowed.strip = ssOf (cS (cfgOf defs gls bis gds prog d_low_allowed) eF (defScope d_low_allowed.st)) (defBody d_low_allowed.st) := by kernel_rfl
theorem ok_low_allowed : DefOk defs gls bis gds prog d_low_allowed := ⟨sc_low_allowed, bind_low_allowed, .inl ⟨F_low_allowed, rfl, rfl, rfl, code_low_allowed⟩⟩
theorem sc_full_counts : FnScope d_full_counts.N d_full_counts.ps (defScope d_full_counts.st) := ⟨by kernel_rfl, by kernel_rfl, by kernel_rfl, by decide +kernel, by decide +kernel, by decide +kernel, by decide +kernel⟩
theorem bind_full_counts : ∀ (kV doc pm : Value) (an : Option Addr) (cdv ct : Value) (us : List Value), us.length = d_full_counts.ps.length → bindArgs (PySem.W.fnOf d_full_counts.x d_full_counts.x (defArgs d_full_counts.st) (defBody d_full_counts.st) (defScope d_full_counts.st) .none kV doc pm an cdv ct) ⟨us, []⟩ = pure (d_full_counts.ps.zip us) := fun _ _ _ _ _ _ us hl => match us, hl with | [_, _, _], _ => rfl
theorem code_full_counts : b_full_counts.strip = ssOf (cS (cfgOf defs gls bis gds prog d_full_counts) eF (defScope d_full_counts.st)) (defBody d_full_counts.st) := by kernel_rfl
theorem ok_full_counts : DefOk defs gls bis gds prog d_full_counts := ⟨sc_full_counts, bind_full_counts, .inl ⟨F_full_counts, rfl, rfl, rfl, code_full_counts⟩⟩
theorem sc_low_counts : FnScope d_low_counts.N d_low_counts.ps (defScope d_low_counts.st) := ⟨by kernel_rfl, by kernel_rfl, by kernel_rfl, by decide +kernel, by decide +kernel, by decide +kernel, by decide +kernel⟩
theorem bind_low_counts : ∀ (kV doc pm : Value) (an : Option Addr) (cdv ct : Value) (us : List Value), us.length = d_low_counts.ps.length → bindArgs (PySem.W.fnOf d_low_counts.x d_low_counts.x (defArgs d_low_counts.st) (defBody d_low_counts.st) (defScope d_low_counts.st) .none kV doc pm an cdv ct) ⟨us, []⟩ = pure (d_low_counts.ps.zip us) := fun _ _ _ _ _ _ us hl => match us, hl with | [_, _, _, _], _ => rfl
theorem code_low_counts : b_low_counts.strip = ssOf (cS (cfgOf defs gls bis gds prog d_low_counts) eF (defScope d_low_counts.st)) (defBody d_low_counts.st) := by kernel_rfl
theorem ok_low_counts : DefOk defs gls bis gds prog d_low_counts := ⟨sc_low_counts, bind_low_counts, .inl ⟨F_low_counts, rfl, rfl, rfl, code_low_counts⟩⟩
theorem sc_cheapest : FnScope d_cheapest.N d_cheapest.ps (defScope d_cheapest.st) := ⟨by kernel_rfl, by kernel_rfl, by kernel_rfl, by decide +kernel, by decide +kernel, by decide +kernel, by decide +kernel⟩
theorem bind_cheapest : ∀ (kV doc pm : Value) (an : Option Addr) (cdv ct : Value) (us : List Value), us.length = d_cheapest.ps.length → bindArgs (PySem.W.fnOf d_cheapest.x d_cheapest.x (defArgs d_cheapest.st) (defBody d_cheapest.st) (defScope d_cheapest.st) .none kV doc pm an cdv ct) ⟨us, []⟩ = pure (d_cheapest.ps.zip us) := fun _ _ _ _ _ _ us hl => match us, hl with | [_, _], _ => rfl
theorem code_cheapest : b_cheapest.strip = ssOf (cS (cfgOf defs gls bis gds prog d_cheapest) eF (defScope d_cheapest.st)) (defBody d_cheapest.st) := by kernel_rfl
theorem ok_cheapest : DefOk defs gls bis gds prog d_cheapest := ⟨sc_cheapest, bind_cheapest, .inl ⟨F_cheapest, rfl, rfl, rfl, code_cheapest⟩⟩
theorem sc_full_entry : FnScope d_full_entry.N d_full_entry.ps (defScope d_full_entry.st) := ⟨by kernel_rfl, by kernel_rfl, by kernel_rfl, by decide +kernel, by decide +kernel, by decide +kernel, by decide +kernel⟩
theorem bind_full_entry : ∀ (kV doc pm : Value) (an : Option Addr) (cdv ct : Value) (us : List Value), us.length = d_full_entry.ps.length → bindArgs (PySem.W.fnOf d_full_entry.x d_full_entry.x (defArgs d_full_entry.st) (defBody d_full_entry.st) (defScope d_full_entry.st) .none kV doc pm an cdv ct) ⟨us, []⟩ = pure (d_full_entry.ps.zip us) := fun _ _ _ _ _ _ us hl => match us, hl with | [_, _, _], _ => rfl
theorem code_full_entry : b_full_entry.strip = ssOf (cS (cfgOf defs gls bis gds prog d_full_entry) eF (defScope d_full_entry.st)) (defBody d_full_entry.st) := by kernel_rfl
theorem ok_full_entry : DefOk defs gls bis gds prog d_full_entry := ⟨sc_full_entry, bind_full_entry, .inl ⟨F_full_entry, rfl, rfl, rfl, code_full_entry⟩⟩
theorem sc_low_entry : FnScope d_low_entry.N d_low_entry.ps (defScope d_low_entry.st) := ⟨by kernel_rfl, by kernel_rfl, by kernel_rfl, by decide +kernel, by decide +kernel, by decide +kernel, by decide +kernel⟩
theorem bind_low_entry : ∀ (kV doc pm : Value) (an : Option Addr) (cdv ct : Value) (us : List Value), us.length = d_low_entry.ps.length → bindArgs (PySem.W.fnOf d_low_entry.x d_low_entry.x (defArgs d_low_entry.st) (defBody d_low_entry.st) (defScope d_low_entry.st) .none kV doc pm an cdv ct) ⟨us, []⟩ = pure (d_low_entry.ps.zip us) := fun _ _ _ _ _ _ us hl => match us, hl with | [_, _, _, _], _ => rfl
theorem code_low_entry : b_low_entry.strip = ssOf (cS (cfgOf defs gls bis gds prog d_low_entry) eF (defScope d_low_entry.st)) (defBody d_low_entry.st) := by kernel_rfl
theorem ok_low_entry : DefOk defs gls bis gds prog d_low_entry := ⟨sc_low_entry, bind_low_entry, .inl ⟨F_low_entry, rfl, rfl, rfl, code_low_entry⟩⟩
theorem sc_road_table : FnScope d_road_table.N d_road_table.ps (defScope d_road_table.st) := ⟨by kernel_rfl, by kernel_rfl, by kernel_rfl, by decide +kernel, by decide +kernel, by decide +kernel, by decide +kernel⟩
theorem bind_road_table : ∀ (kV doc pm : Value) (an : Option Addr) (cdv ct : Value) (us : List Value), us.length = d_road_table.ps.length → bindArgs (PySem.W.fnOf d_road_table.x d_road_table.x (defArgs d_road_table.st) (defBody d_road_table.st) (defScope d_road_table.st) .none kV doc pm an cdv ct) ⟨us, []⟩ = pure (d_road_table.ps.zip us) := fun _ _ _ _ _ _ us hl => match us, hl with | [_, _], _ => rfl
theorem code_road_table : b_road_table.strip = ssOf (cS (cfgOf defs gls bis gds prog d_road_table) eF (defScope d_road_table.st)) (defBody d_road_table.st) := by kernel_rfl
theorem ok_road_table : DefOk defs gls bis gds prog d_road_table := ⟨sc_road_table, bind_road_table, .inl ⟨F_road_table, rfl, rfl, rfl, code_road_table⟩⟩
theorem sc__law_cell : FnScope d__law_cell.N d__law_cell.ps (defScope d__law_cell.st) := ⟨by kernel_rfl, by kernel_rfl, by kernel_rfl, by decide +kernel, by decide +kernel, by decide +kernel, by decide +kernel⟩
theorem bind__law_cell : ∀ (kV doc pm : Value) (an : Option Addr) (cdv ct : Value) (us : List Value), us.length = d__law_cell.ps.length → bindArgs (PySem.W.fnOf d__law_cell.x d__law_cell.x (defArgs d__law_cell.st) (defBody d__law_cell.st) (defScope d__law_cell.st) .none kV doc pm an cdv ct) ⟨us, []⟩ = pure (d__law_cell.ps.zip us) := fun _ _ _ _ _ _ us hl => match us, hl with | [_, _], _ => rfl
theorem code__law_cell : b__law_cell.strip = ssOf (cS (cfgOf defs gls bis gds prog d__law_cell) eF (defScope d__law_cell.st)) (defBody d__law_cell.st) := by kernel_rfl
theorem ok__law_cell : DefOk defs gls bis gds prog d__law_cell := ⟨sc__law_cell, bind__law_cell, .inl ⟨F__law_cell, rfl, rfl, rfl, code__law_cell⟩⟩
theorem sc__law_row : FnScope d__law_row.N d__law_row.ps (defScope d__law_row.st) := ⟨by kernel_rfl, by kernel_rfl, by kernel_rfl, by decide +kernel, by decide +kernel, by decide +kernel, by decide +kernel⟩
theorem bind__law_row : ∀ (kV doc pm : Value) (an : Option Addr) (cdv ct : Value) (us : List Value), us.length = d__law_row.ps.length → bindArgs (PySem.W.fnOf d__law_row.x d__law_row.x (defArgs d__law_row.st) (defBody d__law_row.st) (defScope d__law_row.st) .none kV doc pm an cdv ct) ⟨us, []⟩ = pure (d__law_row.ps.zip us) := fun _ _ _ _ _ _ us hl => match us, hl with | [_, _, _, _], _ => rfl
theorem code__law_row : b__law_row.strip = ssOf (cS (cfgOf defs gls bis gds prog d__law_row) eF (defScope d__law_row.st)) (defBody d__law_row.st) := by kernel_rfl
theorem ok__law_row : DefOk defs gls bis gds prog d__law_row := ⟨sc__law_row, bind__law_row, .inl ⟨{ F__law_row with fr := true }, rfl, rfl, rfl, code__law_row⟩⟩
theorem sc__law_one : FnScope d__law_one.N d__law_one.ps (defScope d__law_one.st) := ⟨by kernel_rfl, by kernel_rfl, by kernel_rfl, by decide +kernel, by decide +kernel, by decide +kernel, by decide +kernel⟩
theorem bind__law_one : ∀ (kV doc pm : Value) (an : Option Addr) (cdv ct : Value) (us : List Value), us.length = d__law_one.ps.length → bindArgs (PySem.W.fnOf d__law_one.x d__law_one.x (defArgs d__law_one.st) (defBody d__law_one.st) (defScope d__law_one.st) .none kV doc pm an cdv ct) ⟨us, []⟩ = pure (d__law_one.ps.zip us) := fun _ _ _ _ _ _ us hl => match us, hl with | [_, _, _], _ => rfl
theorem code__law_one : b__law_one.strip = ssOf (cS (cfgOf defs gls bis gds prog d__law_one) eF (defScope d__law_one.st)) (defBody d__law_one.st) := by kernel_rfl
theorem ok__law_one : DefOk defs gls bis gds prog d__law_one := ⟨sc__law_one, bind__law_one, .inl ⟨F__law_one, rfl, rfl, rfl, code__law_one⟩⟩
theorem sc__law_is_whole : FnScope d__law_is_whole.N d__law_is_whole.ps (defScope d__law_is_whole.st) := ⟨by kernel_rfl, by kernel_rfl, by kernel_rfl, by decide +kernel, by decide +kernel, by decide +kernel, by decide +kernel⟩
theorem bind__law_is_whole : ∀ (kV doc pm : Value) (an : Option Addr) (cdv ct : Value) (us : List Value), us.length = d__law_is_whole.ps.length → bindArgs (PySem.W.fnOf d__law_is_whole.x d__law_is_whole.x (defArgs d__law_is_whole.st) (defBody d__law_is_whole.st) (defScope d__law_is_whole.st) .none kV doc pm an cdv ct) ⟨us, []⟩ = pure (d__law_is_whole.ps.zip us) := fun _ _ _ _ _ _ us hl => match us, hl with | [_], _ => rfl
theorem code__law_is_whole : b__law_is_whole.strip = ssOf (cS (cfgOf defs gls bis gds prog d__law_is_whole) eF (defScope d__law_is_whole.st)) (defBody d__law_is_whole.st) := by kernel_rfl
theorem ok__law_is_whole : DefOk defs gls bis gds prog d__law_is_whole := ⟨sc__law_is_whole, bind__law_is_whole, .inl ⟨F__law_is_whole, rfl, rfl, rfl, code__law_is_whole⟩⟩
theorem sc__law_sum : FnScope d__law_sum.N d__law_sum.ps (defScope d__law_sum.st) := ⟨by kernel_rfl, by kernel_rfl, by kernel_rfl, by decide +kernel, by decide +kernel, by decide +kernel, by decide +kernel⟩
theorem bind__law_sum : ∀ (kV doc pm : Value) (an : Option Addr) (cdv ct : Value) (us : List Value), us.length = d__law_sum.ps.length → bindArgs (PySem.W.fnOf d__law_sum.x d__law_sum.x (defArgs d__law_sum.st) (defBody d__law_sum.st) (defScope d__law_sum.st) .none kV doc pm an cdv ct) ⟨us, []⟩ = pure (d__law_sum.ps.zip us) := fun _ _ _ _ _ _ us hl => match us, hl with | [_, _], _ => rfl
theorem code__law_sum : b__law_sum.strip = ssOf (cS (cfgOf defs gls bis gds prog d__law_sum) eF (defScope d__law_sum.st)) (defBody d__law_sum.st) := by kernel_rfl
theorem ok__law_sum : DefOk defs gls bis gds prog d__law_sum := ⟨sc__law_sum, bind__law_sum, .inl ⟨F__law_sum, rfl, rfl, rfl, code__law_sum⟩⟩
theorem sc__law_many : FnScope d__law_many.N d__law_many.ps (defScope d__law_many.st) := ⟨by kernel_rfl, by kernel_rfl, by kernel_rfl, by decide +kernel, by decide +kernel, by decide +kernel, by decide +kernel⟩
theorem bind__law_many : ∀ (kV doc pm : Value) (an : Option Addr) (cdv ct : Value) (us : List Value), us.length = d__law_many.ps.length → bindArgs (PySem.W.fnOf d__law_many.x d__law_many.x (defArgs d__law_many.st) (defBody d__law_many.st) (defScope d__law_many.st) .none kV doc pm an cdv ct) ⟨us, []⟩ = pure (d__law_many.ps.zip us) := fun _ _ _ _ _ _ us hl => match us, hl with | [_, _], _ => rfl
theorem code__law_many : b__law_many.strip = ssOf (cS (cfgOf defs gls bis gds prog d__law_many) eF (defScope d__law_many.st)) (defBody d__law_many.st) := by kernel_rfl
theorem ok__law_many : DefOk defs gls bis gds prog d__law_many := ⟨sc__law_many, bind__law_many, .inl ⟨F__law_many, rfl, rfl, rfl, code__law_many⟩⟩
theorem sc__law_price : FnScope d__law_price.N d__law_price.ps (defScope d__law_price.st) := ⟨by kernel_rfl, by kernel_rfl, by kernel_rfl, by decide +kernel, by decide +kernel, by decide +kernel, by decide +kernel⟩
theorem bind__law_price : ∀ (kV doc pm : Value) (an : Option Addr) (cdv ct : Value) (us : List Value), us.length = d__law_price.ps.length → bindArgs (PySem.W.fnOf d__law_price.x d__law_price.x (defArgs d__law_price.st) (defBody d__law_price.st) (defScope d__law_price.st) .none kV doc pm an cdv ct) ⟨us, []⟩ = pure (d__law_price.ps.zip us) := fun _ _ _ _ _ _ us hl => match us, hl with | [_, _], _ => rfl
theorem code__law_price : b__law_price.strip = ssOf (cS (cfgOf defs gls bis gds prog d__law_price) eF (defScope d__law_price.st)) (defBody d__law_price.st) := by kernel_rfl
theorem ok__law_price : DefOk defs gls bis gds prog d__law_price := ⟨sc__law_price, bind__law_price, .inl ⟨F__law_price, rfl, rfl, rfl, code__law_price⟩⟩
theorem sc__law_full_ways : FnScope d__law_full_ways.N d__law_full_ways.ps (defScope d__law_full_ways.st) := ⟨by kernel_rfl, by kernel_rfl, by kernel_rfl, by decide +kernel, by decide +kernel, by decide +kernel, by decide +kernel⟩
theorem bind__law_full_ways : ∀ (kV doc pm : Value) (an : Option Addr) (cdv ct : Value) (us : List Value), us.length = d__law_full_ways.ps.length → bindArgs (PySem.W.fnOf d__law_full_ways.x d__law_full_ways.x (defArgs d__law_full_ways.st) (defBody d__law_full_ways.st) (defScope d__law_full_ways.st) .none kV doc pm an cdv ct) ⟨us, []⟩ = pure (d__law_full_ways.ps.zip us) := fun _ _ _ _ _ _ us hl => match us, hl with | [_, _], _ => rfl
theorem code__law_full_ways : b__law_full_ways.strip = ssOf (cS (cfgOf defs gls bis gds prog d__law_full_ways) eF (defScope d__law_full_ways.st)) (defBody d__law_full_ways.st) := by kernel_rfl
theorem ok__law_full_ways : DefOk defs gls bis gds prog d__law_full_ways := ⟨sc__law_full_ways, bind__law_full_ways, .inl ⟨F__law_full_ways, rfl, rfl, rfl, code__law_full_ways⟩⟩
theorem sc__law_low_ways : FnScope d__law_low_ways.N d__law_low_ways.ps (defScope d__law_low_ways.st) := ⟨by kernel_rfl, by kernel_rfl, by kernel_rfl, by decide +kernel, by decide +kernel, by decide +kernel, by decide +kernel⟩
theorem bind__law_low_ways : ∀ (kV doc pm : Value) (an : Option Addr) (cdv ct : Value) (us : List Value), us.length = d__law_low_ways.ps.length → bindArgs (PySem.W.fnOf d__law_low_ways.x d__law_low_ways.x (defArgs d__law_low_ways.st) (defBody d__law_low_ways.st) (defScope d__law_low_ways.st) .none kV doc pm an cdv ct) ⟨us, []⟩ = pure (d__law_low_ways.ps.zip us) := fun _ _ _ _ _ _ us hl => match us, hl with | [_, _, _], _ => rfl
theorem code__law_low_ways : b__law_low_ways.strip = ssOf (cS (cfgOf defs gls bis gds prog d__law_low_ways) eF (defScope d__law_low_ways.st)) (defBody d__law_low_ways.st) := by kernel_rfl
theorem ok__law_low_ways : DefOk defs gls bis gds prog d__law_low_ways := ⟨sc__law_low_ways, bind__law_low_ways, .inl ⟨F__law_low_ways, rfl, rfl, rfl, code__law_low_ways⟩⟩
theorem sc__law_chosen : FnScope d__law_chosen.N d__law_chosen.ps (defScope d__law_chosen.st) := ⟨by kernel_rfl, by kernel_rfl, by kernel_rfl, by decide +kernel, by decide +kernel, by decide +kernel, by decide +kernel⟩
theorem bind__law_chosen : ∀ (kV doc pm : Value) (an : Option Addr) (cdv ct : Value) (us : List Value), us.length = d__law_chosen.ps.length → bindArgs (PySem.W.fnOf d__law_chosen.x d__law_chosen.x (defArgs d__law_chosen.st) (defBody d__law_chosen.st) (defScope d__law_chosen.st) .none kV doc pm an cdv ct) ⟨us, []⟩ = pure (d__law_chosen.ps.zip us) := fun _ _ _ _ _ _ us hl => match us, hl with | [_, _, _], _ => rfl
theorem code__law_chosen : b__law_chosen.strip = ssOf (cS (cfgOf defs gls bis gds prog d__law_chosen) eF (defScope d__law_chosen.st)) (defBody d__law_chosen.st) := by kernel_rfl
theorem ok__law_chosen : DefOk defs gls bis gds prog d__law_chosen := ⟨sc__law_chosen, bind__law_chosen, .inl ⟨F__law_chosen, rfl, rfl, rfl, code__law_chosen⟩⟩
theorem sc__law_roads : FnScope d__law_roads.N d__law_roads.ps (defScope d__law_roads.st) := ⟨by kernel_rfl, by kernel_rfl, by kernel_rfl, by decide +kernel, by decide +kernel, by decide +kernel, by decide +kernel⟩
theorem bind__law_roads : ∀ (kV doc pm : Value) (an : Option Addr) (cdv ct : Value) (us : List Value), us.length = d__law_roads.ps.length → bindArgs (PySem.W.fnOf d__law_roads.x d__law_roads.x (defArgs d__law_roads.st) (defBody d__law_roads.st) (defScope d__law_roads.st) .none kV doc pm an cdv ct) ⟨us, []⟩ = pure (d__law_roads.ps.zip us) := fun _ _ _ _ _ _ us hl => match us, hl with | [_, _, _], _ => rfl
theorem code__law_roads : b__law_roads.strip = ssOf (cS (cfgOf defs gls bis gds prog d__law_roads) eF (defScope d__law_roads.st)) (defBody d__law_roads.st) := by kernel_rfl
theorem ok__law_roads : DefOk defs gls bis gds prog d__law_roads := ⟨sc__law_roads, bind__law_roads, .inl ⟨F__law_roads, rfl, rfl, rfl, code__law_roads⟩⟩
theorem sc__law_prices : FnScope d__law_prices.N d__law_prices.ps (defScope d__law_prices.st) := ⟨by kernel_rfl, by kernel_rfl, by kernel_rfl, by decide +kernel, by decide +kernel, by decide +kernel, by decide +kernel⟩
theorem bind__law_prices : ∀ (kV doc pm : Value) (an : Option Addr) (cdv ct : Value) (us : List Value), us.length = d__law_prices.ps.length → bindArgs (PySem.W.fnOf d__law_prices.x d__law_prices.x (defArgs d__law_prices.st) (defBody d__law_prices.st) (defScope d__law_prices.st) .none kV doc pm an cdv ct) ⟨us, []⟩ = pure (d__law_prices.ps.zip us) := fun _ _ _ _ _ _ us hl => match us, hl with | [_, _], _ => rfl
theorem code__law_prices : b__law_prices.strip = ssOf (cS (cfgOf defs gls bis gds prog d__law_prices) eF (defScope d__law_prices.st)) (defBody d__law_prices.st) := by kernel_rfl
theorem ok__law_prices : DefOk defs gls bis gds prog d__law_prices := ⟨sc__law_prices, bind__law_prices, .inl ⟨F__law_prices, rfl, rfl, rfl, code__law_prices⟩⟩
theorem sc__law_near_prices : FnScope d__law_near_prices.N d__law_near_prices.ps (defScope d__law_near_prices.st) := ⟨by kernel_rfl, by kernel_rfl, by kernel_rfl, by decide +kernel, by decide +kernel, by decide +kernel, by decide +kernel⟩
theorem bind__law_near_prices : ∀ (kV doc pm : Value) (an : Option Addr) (cdv ct : Value) (us : List Value), us.length = d__law_near_prices.ps.length → bindArgs (PySem.W.fnOf d__law_near_prices.x d__law_near_prices.x (defArgs d__law_near_prices.st) (defBody d__law_near_prices.st) (defScope d__law_near_prices.st) .none kV doc pm an cdv ct) ⟨us, []⟩ = pure (d__law_near_prices.ps.zip us) := fun _ _ _ _ _ _ us hl => match us, hl with | [_, _], _ => rfl
theorem code__law_near_prices : b__law_near_prices.strip = ssOf (cS (cfgOf defs gls bis gds prog d__law_near_prices) eF (defScope d__law_near_prices.st)) (defBody d__law_near_prices.st) := by kernel_rfl
theorem ok__law_near_prices : DefOk defs gls bis gds prog d__law_near_prices := ⟨sc__law_near_prices, bind__law_near_prices, .inl ⟨F__law_near_prices, rfl, rfl, rfl, code__law_near_prices⟩⟩
theorem sc__law_is_entry : FnScope d__law_is_entry.N d__law_is_entry.ps (defScope d__law_is_entry.st) := ⟨by kernel_rfl, by kernel_rfl, by kernel_rfl, by decide +kernel, by decide +kernel, by decide +kernel, by decide +kernel⟩
theorem bind__law_is_entry : ∀ (kV doc pm : Value) (an : Option Addr) (cdv ct : Value) (us : List Value), us.length = d__law_is_entry.ps.length → bindArgs (PySem.W.fnOf d__law_is_entry.x d__law_is_entry.x (defArgs d__law_is_entry.st) (defBody d__law_is_entry.st) (defScope d__law_is_entry.st) .none kV doc pm an cdv ct) ⟨us, []⟩ = pure (d__law_is_entry.ps.zip us) := fun _ _ _ _ _ _ us hl => match us, hl with | [_, _], _ => rfl
theorem code__law_is_entry : b__law_is_entry.strip = ssOf (cS (cfgOf defs gls bis gds prog d__law_is_entry) eF (defScope d__law_is_entry.st)) (defBody d__law_is_entry.st) := by kernel_rfl
theorem ok__law_is_entry : DefOk defs gls bis gds prog d__law_is_entry := ⟨sc__law_is_entry, bind__law_is_entry, .inl ⟨F__law_is_entry, rfl, rfl, rfl, code__law_is_entry⟩⟩
theorem sc__law_is_table : FnScope d__law_is_table.N d__law_is_table.ps (defScope d__law_is_table.st) := ⟨by kernel_rfl, by kernel_rfl, by kernel_rfl, by decide +kernel, by decide +kernel, by decide +kernel, by decide +kernel⟩
theorem bind__law_is_table : ∀ (kV doc pm : Value) (an : Option Addr) (cdv ct : Value) (us : List Value), us.length = d__law_is_table.ps.length → bindArgs (PySem.W.fnOf d__law_is_table.x d__law_is_table.x (defArgs d__law_is_table.st) (defBody d__law_is_table.st) (defScope d__law_is_table.st) .none kV doc pm an cdv ct) ⟨us, []⟩ = pure (d__law_is_table.ps.zip us) := fun _ _ _ _ _ _ us hl => match us, hl with | [_, _, _, _], _ => rfl
theorem code__law_is_table : b__law_is_table.strip = ssOf (cS (cfgOf defs gls bis gds prog d__law_is_table) eF (defScope d__law_is_table.st)) (defBody d__law_is_table.st) := by kernel_rfl
theorem ok__law_is_table : DefOk defs gls bis gds prog d__law_is_table := ⟨sc__law_is_table, bind__law_is_table, .inl ⟨F__law_is_table, rfl, rfl, rfl, code__law_is_table⟩⟩
theorem sc__law_full_tree : FnScope d__law_full_tree.N d__law_full_tree.ps (defScope d__law_full_tree.st) := ⟨by kernel_rfl, by kernel_rfl, by kernel_rfl, by decide +kernel, by decide +kernel, by decide +kernel, by decide +kernel⟩
theorem bind__law_full_tree : ∀ (kV doc pm : Value) (an : Option Addr) (cdv ct : Value) (us : List Value), us.length = d__law_full_tree.ps.length → bindArgs (PySem.W.fnOf d__law_full_tree.x d__law_full_tree.x (defArgs d__law_full_tree.st) (defBody d__law_full_tree.st) (defScope d__law_full_tree.st) .none kV doc pm an cdv ct) ⟨us, []⟩ = pure (d__law_full_tree.ps.zip us) := fun _ _ _ _ _ _ us hl => match us, hl with | [_, _, _], _ => rfl
theorem code__law_full_tree : b__law_full_tree.strip = ssOf (cS (cfgOf defs gls bis gds prog d__law_full_tree) eF (defScope d__law_full_tree.st)) (defBody d__law_full_tree.st) := by kernel_rfl
theorem ok__law_full_tree : DefOk defs gls bis gds prog d__law_full_tree := ⟨sc__law_full_tree, bind__law_full_tree, .inl ⟨F__law_full_tree, rfl, rfl, rfl, code__law_full_tree⟩⟩
theorem sc__law_low_tree : FnScope d__law_low_tree.N d__law_low_tree.ps (defScope d__law_low_tree.st) := ⟨by kernel_rfl, by kernel_rfl, by kernel_rfl, by decide +kernel, by decide +kernel, by decide +kernel, by decide +kernel⟩
theorem bind__law_low_tree : ∀ (kV doc pm : Value) (an : Option Addr) (cdv ct : Value) (us : List Value), us.length = d__law_low_tree.ps.length → bindArgs (PySem.W.fnOf d__law_low_tree.x d__law_low_tree.x (defArgs d__law_low_tree.st) (defBody d__law_low_tree.st) (defScope d__law_low_tree.st) .none kV doc pm an cdv ct) ⟨us, []⟩ = pure (d__law_low_tree.ps.zip us) := fun _ _ _ _ _ _ us hl => match us, hl with | [_, _, _, _], _ => rfl
theorem code__law_low_tree : b__law_low_tree.strip = ssOf (cS (cfgOf defs gls bis gds prog d__law_low_tree) eF (defScope d__law_low_tree.st)) (defBody d__law_low_tree.st) := by kernel_rfl
theorem ok__law_low_tree : DefOk defs gls bis gds prog d__law_low_tree := ⟨sc__law_low_tree, bind__law_low_tree, .inl ⟨F__law_low_tree, rfl, rfl, rfl, code__law_low_tree⟩⟩
theorem sc__law_none_cheaper : FnScope d__law_none_cheaper.N d__law_none_cheaper.ps (defScope d__law_none_cheaper.st) := ⟨by kernel_rfl, by kernel_rfl, by kernel_rfl, by decide +kernel, by decide +kernel, by decide +kernel, by decide +kernel⟩
theorem bind__law_none_cheaper : ∀ (kV doc pm : Value) (an : Option Addr) (cdv ct : Value) (us : List Value), us.length = d__law_none_cheaper.ps.length → bindArgs (PySem.W.fnOf d__law_none_cheaper.x d__law_none_cheaper.x (defArgs d__law_none_cheaper.st) (defBody d__law_none_cheaper.st) (defScope d__law_none_cheaper.st) .none kV doc pm an cdv ct) ⟨us, []⟩ = pure (d__law_none_cheaper.ps.zip us) := fun _ _ _ _ _ _ us hl => match us, hl with | [_, _, _, _, _], _ => rfl
theorem code__law_none_cheaper : b__law_none_cheaper.strip = ssOf (cS (cfgOf defs gls bis gds prog d__law_none_cheaper) eF (defScope d__law_none_cheaper.st)) (defBody d__law_none_cheaper.st) := by kernel_rfl
theorem ok__law_none_cheaper : DefOk defs gls bis gds prog d__law_none_cheaper := ⟨sc__law_none_cheaper, bind__law_none_cheaper, .inl ⟨F__law_none_cheaper, rfl, rfl, rfl, code__law_none_cheaper⟩⟩
theorem sc_law : FnScope d_law.N d_law.ps (defScope d_law.st) := ⟨by kernel_rfl, by kernel_rfl, by kernel_rfl, by decide +kernel, by decide +kernel, by decide +kernel, by decide +kernel⟩
theorem bind_law : ∀ (kV doc pm : Value) (an : Option Addr) (cdv ct : Value) (us : List Value), us.length = d_law.ps.length → bindArgs (PySem.W.fnOf d_law.x d_law.x (defArgs d_law.st) (defBody d_law.st) (defScope d_law.st) .none kV doc pm an cdv ct) ⟨us, []⟩ = pure (d_law.ps.zip us) := fun _ _ _ _ _ _ us hl => match us, hl with | [_], _ => rfl
theorem code_law : b_law__v5.strip = ssOf (cS (cfgOf defs gls bis gds prog d_law) eF (defScope d_law.st)) (defBody d_law.st) := by kernel_rfl
theorem ok_law : DefOk defs gls bis gds prog d_law := ⟨sc_law, bind_law, .inl ⟨F_law__v5, rfl, rfl, rfl, code_law⟩⟩
theorem oks : ∀ d ∈ defs, DefOk defs gls bis gds prog d := by
  intro d hd
  simp only [defs, List.mem_cons, List.not_mem_nil, or_false] at hd
  rcases hd with rfl | rfl | rfl | rfl | rfl | rfl | rfl | rfl | rfl | rfl | rfl | rfl | rfl | rfl | rfl | rfl | rfl | rfl | rfl | rfl | rfl | rfl | rfl | rfl | rfl | rfl | rfl | rfl | rfl | rfl | rfl | rfl | rfl
  · exact ok_is_whole
  · exact ok_good_prices
  · exact ok_setup_of
  · exact ok_price_of
  · exact ok_sum_counts
  · exact ok_times_counts
  · exact ok_full_allowed
  · exact ok_low_allowed
  · exact ok_full_counts
  · exact ok_low_counts
  · exact ok_cheapest
  · exact ok_full_entry
  · exact ok_low_entry
  · exact ok_road_table
  · exact ok__law_cell
  · exact ok__law_row
  · exact ok__law_one
  · exact ok__law_is_whole
  · exact ok__law_sum
  · exact ok__law_many
  · exact ok__law_price
  · exact ok__law_full_ways
  · exact ok__law_low_ways
  · exact ok__law_chosen
  · exact ok__law_roads
  · exact ok__law_prices
  · exact ok__law_near_prices
  · exact ok__law_is_entry
  · exact ok__law_is_table
  · exact ok__law_full_tree
  · exact ok__law_low_tree
  · exact ok__law_none_cheaper
  · exact ok_law
end Mp

/-! k19: the law -/
namespace Mp
open PySem PySem.Spec PyProof.Rows L2
def b_law__v5_t2 : Ss := (.cons (.set (.n 2) (.ite (.cmp .Eq (.call 11 (.cons (.v 0) (.cons (.k (.int 8)) (.cons (.k (.int 4)) .nil)))) (.k (.int 0))) (.k (.int 64)) (.bin .Add (.k (.int 1)) (.call 11 (.cons (.v 0) (.cons (.k (.int 9)) (.cons (.k (.int 63)) .nil))))))) (.cons (.set (.n 3) (.comp (.bin .Add (.k (.int 8)) (.v 4)) (.n 4) (.it (.call 10 (.cons (.v 0) (.cons (.k (.int 10)) (.cons (.k (.int 2)) (.cons (.k (.int 9)) .nil)))))) .no [4])) (.cons (.set (.n 5) (.sub (.lst (.cons (.k (.str "cheapest")) (.cons (.k (.str "plain")) (.cons (.k (.str "halves")) (.cons (.k (.str "thirds")) .nil))))) (.call 11 (.cons (.v 0) (.cons (.k (.int 11)) (.cons (.k (.int 4)) .nil)))))) (.cons (.set (.tup [6, 7]) (.call 98 (.cons (.v 2) (.cons (.k (.str "cheapest")) (.cons (.v 1) .nil))))) (.cons (.set (.n 8) (.call 91 (.cons (.v 2) (.cons (.call 81 (.cons (.sub (.v 3) (.k (.int 0))) (.cons (.k (.str "cheapest")) (.cons (.v 1) .nil)))) .nil)))) (.cons (.ifS (.or (.not (.call 102 (.cons (.v 8) (.cons (.v 2) (.cons (.v 6) (.cons (.v 7) .nil)))))) (.not (.call 105 (.cons (.v 0) (.cons (.v 8) (.cons (.v 2) (.cons (.tup (.cons (.v 6) (.cons (.v 7) .nil))) (.cons (.v 1) .nil)))))))) (.cons (.ret (.k (.bool false))) .nil) .nil) (.cons (.set (.n 9) (.bin .Add (.k (.int 1)) (.call 11 (.cons (.v 0) (.cons (.k (.int 12)) (.cons (.v 2) .nil)))))) (.cons (.ifS (.not (.call 102 (.cons (.call 91 (.cons (.v 9) (.cons (.call 81 (.cons (.sub (.v 3) (.k (.int 1))) (.cons (.k (.str "cheapest")) (.cons (.v 1) .nil)))) .nil))) (.cons (.v 9) (.cons (.v 6) (.cons (.v 7) .nil)))))) (.cons (.ret (.k (.bool false))) .nil) .nil) (.cons (.ifS (.cmp .Eq (.v 5) (.k (.str "cheapest"))) (.cons (.ret (.cmp .Eq (.v 8) (.call 91 (.cons (.v 2) (.cons (.call 81 (.cons (.sub (.v 3) (.k (.int 1))) (.cons (.v 5) (.cons (.v 1) .nil)))) .nil))))) .nil) .nil) (.cons (.set (.tup [6, 7]) (.call 98 (.cons (.v 2) (.cons (.v 5) (.cons (.v 1) .nil))))) (.cons (.set (.n 10) (.call 91 (.cons (.v 2) (.cons (.call 81 (.cons (.sub (.v 3) (.k (.int 1))) (.cons (.v 5) (.cons (.v 1) .nil)))) .nil)))) (.cons (.ifS (.not (.call 102 (.cons (.v 10) (.cons (.v 2) (.cons (.v 6) (.cons (.v 7) .nil)))))) (.cons (.ret (.k (.bool false))) .nil) .nil) (.cons (.forS [0, 2, 4, 11, 12] (.n 11) (.r2 (.k (.int 1)) (.bin .Add (.v 2) (.k (.int 1)))) b_law__v5_0) (.cons (.ret (.call 102 (.cons (.call 91 (.cons (.v 9) (.cons (.call 81 (.cons (.sub (.v 3) (.k (.int 0))) (.cons (.v 5) (.cons (.v 1) .nil)))) .nil))) (.cons (.v 9) (.cons (.v 6) (.cons (.v 7) .nil)))))) .nil))))))))))))))
structure HLaw19 (p : Pr) : Prop where
  h : H19 p
  law : p.fs 106 = some F_law__v5
theorem len2 {xs : List Int} (h : xs.length = 2) : ∃ x y, xs = [x, y] := by
  match xs, h with
  | [x, y], _ => exact ⟨x, y, rfl⟩
theorem start_ok {p : Pr} (H : H19 p) (ns : List Int) : ∃ q : C3, OkP q ∧ ∀ n, 63 ≤ n → evSs (gN p n) [] b_law__v5 [some (false, .list (ns.map .int)), none, none, none, none, none, none, none, none, none, none, none, none] =
    evSs (gN p n) [] b_law__v5_t2 [some (false, .list (ns.map .int)), some (false, qD q), none, none, none, none, none, none, none, none, none, none, none] := by
  obtain ⟨q1, hq1, c1⟩ := prices_cl H ns 1
  obtain ⟨q2, hq2, c2⟩ := near_cl H ns 5
  have c4 := fun n (hn : 63 ≤ n) => (one_cl H.row ns 4 4 (by decide) (divB (by decide) (by decide))).at (n := n) (by omega)
  have i1 := io_of H.prices
  have i2 := io_of H.near
  have i11 := io_of H.one
  simp only [F__law_prices] at i1
  simp only [F__law_near_prices] at i2
  simp only [F__law_one] at i11
  generalize oneF ns 4 4 = o at *
  generalize PyData.list (ns.map .int) = S at *
  by_cases h0 : o = 0
  · refine ⟨q2, hq2, fun n hn => ?_⟩
    have c1 := c1.at (n := n) (by omega)
    have c2 := c2.at (n := n) (by omega)
    have c4 := c4 n hn
    generalize qD q1 = Q1 at *
    generalize hQ : qD q2 = Q2 at *
    simp only [b_law__v5]
    rw [evSs_c]; simp [evIo, evSs_n, asg, asgs, frz1, own?, ixN_nat, outs, ofI, divS, gN_cf, gN_io, gN_gl, gN_gd, gN_xr, gN_fr, wipeT_nil, wipeT_cons, c1, i1, hQ]
    rw [evSs_c]; simp [evIo, evSs_n, asg, asgs, frz1, own?, ixN_nat, outs, ofI, divS, gN_cf, gN_io, gN_gl, gN_gd, gN_xr, gN_fr, wipeT_nil, wipeT_cons, c4, i11, h0]
    rw [evSs_c]; simp [evIo, evSs_n, asg, asgs, frz1, own?, ixN_nat, outs, ofI, divS, gN_cf, gN_io, gN_gl, gN_gd, gN_xr, gN_fr, wipeT_nil, wipeT_cons, c2, i2]
    rfl
  · refine ⟨q1, hq1, fun n hn => ?_⟩
    have c1 := c1.at (n := n) (by omega)
    have c4 := c4 n hn
    generalize qD q1 = Q1 at *
    simp only [b_law__v5]
    rw [evSs_c]; simp [evIo, evSs_n, asg, asgs, frz1, own?, ixN_nat, outs, ofI, divS, gN_cf, gN_io, gN_gl, gN_gd, gN_xr, gN_fr, wipeT_nil, wipeT_cons, c1, i1]
    rw [evSs_c]; simp [evIo, evSs_n, asg, asgs, frz1, own?, ixN_nat, outs, ofI, divS, gN_cf, gN_io, gN_gl, gN_gd, gN_xr, gN_fr, wipeT_nil, wipeT_cons, c4, i11, h0]
    rfl
theorem road_at {o : Int} (h0 : 0 ≤ o) (h4 : o < 4) : ∃ r : Str, Road r ∧ atI [PyData.str "cheapest", .str "plain", .str "halves", .str "thirds"] o = some (.str r) := by
  rcases (by omega : o = 0 ∨ o = 1 ∨ o = 2 ∨ o = 3) with rfl | rfl | rfl | rfl
  · exact ⟨_, .inl rfl, atI_0⟩
  · exact ⟨_, .inr (.inl rfl), atI_1⟩
  · exact ⟨_, .inr (.inr (.inl rfl)), atI_2⟩
  · exact ⟨_, .inr (.inr (.inr rfl)), atI_3⟩
theorem law19_n {p : Pr} (HL : HLaw19 p) (ns : List Int) : Cl p 64 106 [.list (ns.map .int)] (.bool true, []) := by
  have H := HL.h
  refine Cl.mk HL.law fun n hn => ?_
  obtain ⟨q, hq, st⟩ := start_ok H ns
  have c8 := (one_cl H.row ns 8 4 (by decide) (divB (by decide) (by decide))).at (n := n) (by omega)
  have c9 := (one_cl H.row ns 9 63 (by decide) (divB (by decide) (by decide))).at (n := n) (by omega)
  have c11 := (one_cl H.row ns 11 4 (by decide) (divB (by decide) (by decide))).at (n := n) (by omega)
  have c10 : callN p n 10 [.list (ns.map .int), .int 10, .int 2, .int 9] = _ := (row_cl H.row ns 10 2 9 (by omega) (by decide) (divB (by decide) (by decide))).at (n := n) (by omega)
  have w9 := oneF_wd ns 9 (show (0 : Int) < 63 by decide)
  have w11 := oneF_wd ns 11 (show (0 : Int) < 4 by decide)
  have w10 := rowF_wd ns 10 2 (show (0 : Int) < 9 by decide)
  obtain ⟨x, y, hxy⟩ := len2 (rowF_len ns 10 2 (show (0 : Int) < 9 by decide))
  rw [hxy] at c10 w10
  have wx := w10 x (by simp)
  have wy := w10 y (by simp)
  generalize oneF ns 8 4 = o8 at *
  generalize oneF ns 9 63 = o9 at *
  generalize oneF ns 11 4 = o11 at *
  unfold Wd at w9 w11 wx wy
  obtain ⟨r, hr, ha⟩ := road_at w11.1 w11.2
  obtain ⟨N, hN, h1, h64⟩ : ∃ N : Nat, (N : Int) = (if o8 = 0 then 64 else 1 + o9) ∧ 1 ≤ N ∧ N ≤ 64 := by
    by_cases h : o8 = 0
    · exact ⟨64, by rw [if_pos h]; rfl, by decide, by decide⟩
    · obtain ⟨m, hm⟩ := Int.eq_ofNat_of_zero_le (show 0 ≤ 1 + o9 by omega)
      exact ⟨m, by rw [if_neg h, hm], by omega, by omega⟩
  obtain ⟨τ, mid⟩ := mid_ok H hn ns h1 h64 hq (b0 := 8 + x) (b1 := 8 + y) (by omega) (by omega) hr
  have st := st n hn
  have i10 := row_io H.row
  have i11 := io_of H.one
  simp only [F__law_one] at i11
  have s2 : 2 ≤ sizeLine := by decide
  generalize PyData.list (ns.map .int) = S at *
  generalize qD q = Q at *
  have key : evSs (gN p n) [] b_law__v5_t2 [some (false, S), some (false, Q), none, none, none, none, none, none, none, none, none, none, none] = .ret τ (.bool true) := by
    rw [← mid]
    by_cases h : o8 = 0
    · rw [if_pos h] at hN
      simp only [b_law__v5_t2]
      rw [evSs_c]; simp [evIo, evSs_n, asg, asgs, frz1, own?, ixN_nat, outs, ofI, divS, gN_cf, gN_io, gN_gl, gN_gd, gN_xr, gN_fr, wipeT_nil, wipeT_cons, c8, i11, h]
      rw [evSs_c]; simp [evIo, evSs_n, asg, asgs, frz1, own?, ixN_nat, outs, ofI, divS, gN_cf, gN_io, gN_gl, gN_gd, gN_xr, gN_fr, wipeT_nil, wipeT_cons, c10, i10, compL, s2]
      rw [evSs_c]; simp [evIo, evSs_n, asg, asgs, frz1, own?, ixN_nat, outs, ofI, divS, gN_cf, gN_io, gN_gl, gN_gd, gN_xr, gN_fr, wipeT_nil, wipeT_cons, c11, i11, ha]
      rw [hN]
      rfl
    · rw [if_neg h] at hN
      simp only [b_law__v5_t2]
      rw [evSs_c]; simp [evIo, evSs_n, asg, asgs, frz1, own?, ixN_nat, outs, ofI, divS, gN_cf, gN_io, gN_gl, gN_gd, gN_xr, gN_fr, wipeT_nil, wipeT_cons, c8, c9, i11, h]
      rw [evSs_c]; simp [evIo, evSs_n, asg, asgs, frz1, own?, ixN_nat, outs, ofI, divS, gN_cf, gN_io, gN_gl, gN_gd, gN_xr, gN_fr, wipeT_nil, wipeT_cons, c10, i10, compL, s2]
      rw [evSs_c]; simp [evIo, evSs_n, asg, asgs, frz1, own?, ixN_nat, outs, ofI, divS, gN_cf, gN_io, gN_gl, gN_gd, gN_xr, gN_fr, wipeT_nil, wipeT_cons, c11, i11, ha]
      rw [hN]
      rfl
  rw [runF_eq _ _ _ rfl]
  show (match evSs (gN p n) [] b_law__v5 [some (false, S), none, none, none, none, none, none, none, none, none, none, none, none] with
    | .nx τ => (R.of (outs τ [])).bind fun os => R.ok (PyData.none, os)
    | .ret τ d => (R.of (outs τ [])).bind fun os => .ok (d, os)
    | .ex x _ => .ex x
    | _ => .st) = _
  rw [st, key]
  rfl
theorem h19 : HLaw19 prog where
  h := { rowf := rfl, cell := rfl, one := rfl, whole := rfl, lwhole := rfl, goodp := rfl, setup := rfl, g1 := rfl, g2 := rfl, g3 := rfl, g4 := rfl, g5 := rfl, g6 := rfl, price := rfl, sumc := rfl, times := rfl, fallow := rfl, lallow := rfl, fcounts := rfl, lcounts := rfl, cheap := rfl, fentry := rfl, lentry := rfl, table := rfl, lsum := rfl, lmany := rfl, lprice := rfl, fways := rfl, lways := rfl, chosen := rfl, roads := rfl, prices := rfl, near := rfl, isentry := rfl, istable := rfl, ftree := rfl, ltree := rfl, none := rfl }
  law := rfl
theorem law_true : ∀ ns : List Int, ns.length ≤ 63 → (∀ z ∈ ns, Builtin.Int.intBits z ≤ 1048576) → callN prog 64 d_law.no [.list (ns.map .int)] = .ok (.bool true, []) := fun ns _ _ => (law19_n h19 ns).at (by decide)
end Mp

open PySem PySem.W PyProof.Rows
set_option maxHeartbeats 0 in
theorem PySem.Challenge.cw_swornspire_k19_table_of_roads_is_least_holds : PySem.Challenge.rw_swornspire_k19_table_of_roads_is_least.Holds := by
  w_on; o_law; k_head; (case hw => w_witness2)
  k_fill
  refine Mp.walk_mp (l := PySem.Challenge.rw_swornspire_k19_table_of_roads_is_least) (n := 63) (m := 64) (p := Mp.prog) (dL := Mp.d_law) rfl (by decide) rfl ⟨rfl, by decide, by decide⟩ (fun w h Y => PySem.W.kIn_of Y) Mp.oks (by simp [Mp.defs]) rfl rfl rfl ?hat ?hbi ?hgl ?hgd ?hxc ?hhd Mp.law_true
  case hat =>
    intro w d hd
    simp only [Mp.defs, List.mem_cons, List.not_mem_nil, or_false] at hd
    rcases hd with rfl | rfl | rfl | rfl | rfl | rfl | rfl | rfl | rfl | rfl | rfl | rfl | rfl | rfl | rfl | rfl | rfl | rfl | rfl | rfl | rfl | rfl | rfl | rfl | rfl | rfl | rfl | rfl | rfl | rfl | rfl | rfl | rfl
    all_goals (refine' Mp.mkDef ?a ?l ?c ?k; (case a => k_is); (case l => k_is); (case c => k_is); (case k => k_is))
  case hbi =>
    intro w x hx
    simp only [Mp.bis, List.contains_cons, List.contains_nil, Bool.or_eq_true, beq_iff_eq, Bool.or_false] at hx
    rcases hx with rfl | rfl | rfl | rfl | rfl | rfl | rfl
    all_goals k_is
  case hgl =>
    intro w i x hx
    have hx := Mp.noOf_get hx
    simp only [Mp.gls, List.mem_cons, List.not_mem_nil, or_false, Prod.mk.injEq] at hx
    rcases hx with ⟨rfl, rfl⟩ | ⟨rfl, rfl⟩ | ⟨rfl, rfl⟩ | ⟨rfl, rfl⟩ | ⟨rfl, rfl⟩ | ⟨rfl, rfl⟩
    · exact Mp.gl_tup (ds := [.str "cheapest", .str "plain", .str "halves", .str "thirds"]) (by k_is) (by k_is) (by repeat (first | exact .nil | refine .str ?_ | refine .int ?_)) (by decide) fun d h => by cases h; rfl
    · exact ⟨_, .int (8), (by k_is), ⟨_, rfl⟩, fun d h H => by cases h; exact .int _⟩
    · exact ⟨_, .int (16), (by k_is), ⟨_, rfl⟩, fun d h H => by cases h; exact .int _⟩
    · exact ⟨_, .int (1000), (by k_is), ⟨_, rfl⟩, fun d h H => by cases h; exact .int _⟩
    · exact Mp.gl_tup (ds := [.str "plain", .str "halves", .str "thirds"]) (by k_is) (by k_is) (by repeat (first | exact .nil | refine .str ?_ | refine .int ?_)) (by decide) fun d h => by cases h; rfl
    · exact Mp.gl_tup (ds := [.str "plain", .str "split", .str "whole"]) (by k_is) (by k_is) (by repeat (first | exact .nil | refine .str ?_ | refine .int ?_)) (by decide) fun d h => by cases h; rfl
  case hgd =>
    intro w i x hx
    have hx := Mp.noOf_get hx
    simp only [Mp.gds, List.mem_cons, List.not_mem_nil, or_false, Prod.mk.injEq] at hx
  case hxc =>
    intro w x q f hx
    cases hx
  case hhd =>
    intro w d hd F t ht
    simp only [Mp.defs, List.mem_cons, List.not_mem_nil, or_false] at hd
    rcases hd with rfl | rfl | rfl | rfl | rfl | rfl | rfl | rfl | rfl | rfl | rfl | rfl | rfl | rfl | rfl | rfl | rfl | rfl | rfl | rfl | rfl | rfl | rfl | rfl | rfl | rfl | rfl | rfl | rfl | rfl | rfl | rfl | rfl
    · cases ht
    · cases ht
    · cases ht
    · cases ht
    · cases ht
    · cases ht
    · cases ht
    · cases ht
    · cases ht
    · cases ht
    · cases ht
    · cases ht
    · cases ht
    · cases ht
    · cases ht
    · cases ht
    · cases ht
    · cases ht
    · cases ht
    · cases ht
    · cases ht
    · cases ht
    · cases ht
    · cases ht
    · cases ht
    · cases ht
    · cases ht
    · cases ht
    · cases ht
    · cases ht
    · cases ht
    · cases ht
    · cases ht

