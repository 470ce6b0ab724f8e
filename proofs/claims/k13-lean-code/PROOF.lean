import PyProof.Rows.All
import Wide.All
import OpenK.AllK
import Wide.FinOn
import HandS.ForMost
import HandS.ForExc
import HandS.Wide
import HandS.WideBits
import HandS.TupAny
import HandS.Rev
import HandS.Conv
import HandS.Flow
import HandS.Defaults
import HandS.Style
import HandS.SortInts
import HandS.IsInst
import HandS.EndBits
import PySem.Challenge.RW_swornspire_k13_lean_code
import HandS.Text
set_option Elab.async false
set_option linter.all false
set_option maxRecDepth 100000
/-! MiniPy, part A: data, what a value denotes, heaps without the owned lists. -/
namespace Mp
open PySem PySem.Spec PyProof.Rows L2

abbrev D := PyData

/-! ### what a value denotes -/
/-- a list that is read: tracked, or a part of what never changes -/
def LsR (K : PySem.W.Frag) (H : Hp) (a : Addr) (vs : List V) : Prop := Rd H a (.lst vs) ∨
  ∃ (its : List Value) (n : Nat), K.lookup a = some { cls := .type "list", data := .seq its.toArray n } ∧ its.length ≤ sizeLine ∧ Vals vs its
theorem LsR.sq {K : PySem.W.Frag} {H : Hp} {a : Addr} {vs : List V} (h : LsR K H a vs) : SqL K H a vs := by
  rcases h with h | ⟨its, n, h1, h2, h3⟩
  · exact .inl h
  · exact .inr ⟨_, its.toArray, n, h1, rfl, rfl, rfl, by simpa using h2, by simpa using h3⟩
mutual
inductive Dn (K : PySem.W.Frag) (H : Hp) : V → D → Prop
  | non : Dn K H .non .none
  | bl (b : Bool) : Dn K H (.bl b) (.bool b)
  | int (i : Int) : Dn K H (.int i) (.int i)
  | str (x : Str) : Dn K H (.str x) (.str x)
  | lst {a : Addr} {vs : List V} {ds : List D} : LsR K H a vs → DnAll K H vs ds → Dn K H (.ref a) (.list ds)
  | tup {a : Addr} {vs : List V} {ds : List D} : SqT K H a vs → DnAll K H vs ds → Dn K H (.ref a) (.tuple ds)
  | dct {a : Addr} {kvs : List (Key × V)} {kds : List (D × D)} : Rd H a (.dK kvs) → DnKV K H kvs kds → Dn K H (.ref a) (.dict kds)
inductive DnAll (K : PySem.W.Frag) (H : Hp) : List V → List D → Prop
  | nil : DnAll K H [] []
  | cons {v : V} {vs : List V} {d : D} {ds : List D} : Dn K H v d → DnAll K H vs ds → DnAll K H (v :: vs) (d :: ds)
inductive DnKV (K : PySem.W.Frag) (H : Hp) : List (Key × V) → List (D × D) → Prop
  | nil : DnKV K H [] []
  | int {i : Int} {v : V} {kvs : List (Key × V)} {d : D} {kds : List (D × D)} : Dn K H v d → DnKV K H kvs kds → DnKV K H ((.inl i, v) :: kvs) ((.int i, d) :: kds)
  | str {x : Str} {v : V} {kvs : List (Key × V)} {d : D} {kds : List (D × D)} : Dn K H v d → DnKV K H kvs kds → DnKV K H ((.inr x, v) :: kvs) ((.str x, d) :: kds)
end

theorem Same.seqT {K : PySem.W.Frag} {H H' : Hp} {a : Addr} {xs : List V} (e : Same H H') (h : SqT K H a xs) : SqT K H' a xs := by
  rcases h with (h | ⟨o, h⟩) | h
  · exact .inl (.inl (e _ _ h))
  · exact .inl (.inr ⟨o, e _ _ h⟩)
  · exact .inr h
theorem Same.rd {H H' : Hp} {a : Addr} {u : HO} (e : Same H H') (h : Rd H a u) : Rd H' a u := by
  rcases h with h | ⟨o, h⟩
  · exact .inl (e _ _ h)
  · exact .inr ⟨o, e _ _ h⟩
theorem Same.ls {K : PySem.W.Frag} {H H' : Hp} {a : Addr} {vs : List V} (e : Same H H') (h : LsR K H a vs) : LsR K H' a vs := by
  rcases h with h | h
  · exact .inl (Same.rd e h)
  · exact .inr h

section
variable {K : PySem.W.Frag} {H H' : Hp}
mutual
theorem Dn.mono (e : Same H H') : ∀ (d : D) {v : V}, Dn K H v d → Dn K H' v d
  | .none, _, h => by cases h; exact .non
  | .bool _, _, h => by cases h; exact .bl _
  | .int _, _, h => by cases h; exact .int _
  | .str _, _, h => by cases h; exact .str _
  | .list ds, _, h => by cases h with | lst h1 h2 => exact .lst (Same.ls e h1) (DnAll.mono e ds h2)
  | .tuple ds, _, h => by cases h with | tup h1 h2 => exact .tup (Same.seqT e h1) (DnAll.mono e ds h2)
  | .dict kds, _, h => by cases h with | dct h1 h2 => exact .dct (Same.rd e h1) (DnKV.mono e kds h2)
theorem DnAll.mono (e : Same H H') : ∀ (ds : List D) {vs : List V}, DnAll K H vs ds → DnAll K H' vs ds
  | [], _, h => by cases h; exact .nil
  | d :: ds, _, h => by cases h with | cons h1 h2 => exact .cons (Dn.mono e d h1) (DnAll.mono e ds h2)
theorem DnKV.mono (e : Same H H') : ∀ (kds : List (D × D)) {kvs : List (Key × V)}, DnKV K H kvs kds → DnKV K H' kvs kds
  | [], _, h => by cases h; exact .nil
  | (k, d) :: kds, _, h => by
    cases h with
    | int h1 h2 => exact .int (Dn.mono e d h1) (DnKV.mono e kds h2)
    | str h1 h2 => exact .str (Dn.mono e d h1) (DnKV.mono e kds h2)
end
theorem DnAll.length {vs : List V} {ds : List D} (h : DnAll K H vs ds) : vs.length = ds.length := by
  induction vs generalizing ds with
  | nil => cases h; rfl
  | cons v vs ih => cases h with | cons _ h2 => simp [ih h2]
theorem DnAll.get {vs : List V} {ds : List D} (h : DnAll K H vs ds) {i : Nat} {d : D} (e : ds[i]? = some d) : ∃ v, vs[i]? = some v ∧ Dn K H v d := by
  induction vs generalizing ds i with
  | nil => cases h; simp at e
  | cons v vs ih =>
    cases h with
    | cons h1 h2 =>
      cases i with
      | zero => simp at e; subst e; exact ⟨v, rfl, h1⟩
      | succ i => simpa using ih h2 (by simpa using e)
theorem DnAll.get' {vs : List V} {ds : List D} (h : DnAll K H vs ds) {i : Nat} {v : V} (e : vs[i]? = some v) : ∃ d, ds[i]? = some d ∧ Dn K H v d := by
  induction vs generalizing ds i with
  | nil => simp at e
  | cons w vs ih =>
    cases h with
    | cons h1 h2 =>
      cases i with
      | zero => simp at e; subst e; exact ⟨_, rfl, h1⟩
      | succ i => simpa using ih h2 (by simpa using e)
theorem DnAll.append {vs ws : List V} {ds es : List D} (h : DnAll K H vs ds) (h' : DnAll K H ws es) : DnAll K H (vs ++ ws) (ds ++ es) := by
  induction vs generalizing ds with
  | nil => cases h; exact h'
  | cons v vs ih => cases h with | cons h1 h2 => exact .cons h1 (ih h2)
theorem DnAll.take {vs : List V} {ds : List D} (h : DnAll K H vs ds) (n : Nat) : DnAll K H (vs.take n) (ds.take n) := by
  induction vs generalizing ds n with
  | nil => cases h; simp; exact .nil
  | cons v vs ih =>
    cases h with
    | cons h1 h2 =>
      cases n with
      | zero => simp; exact .nil
      | succ n => simpa using .cons h1 (ih h2 n)
theorem DnAll.drop {vs : List V} {ds : List D} (h : DnAll K H vs ds) (n : Nat) : DnAll K H (vs.drop n) (ds.drop n) := by
  induction vs generalizing ds n with
  | nil => cases h; simp; exact .nil
  | cons v vs ih =>
    cases h with
    | cons h1 h2 =>
      cases n with
      | zero => exact .cons h1 h2
      | succ n => simpa using ih h2 n
theorem DnAll.set {vs : List V} {ds : List D} (h : DnAll K H vs ds) {v : V} {d : D} (hv : Dn K H v d) (n : Nat) : DnAll K H (vs.set n v) (ds.set n d) := by
  induction vs generalizing ds n with
  | nil => cases h; simp; exact .nil
  | cons w vs ih =>
    cases h with
    | cons h1 h2 =>
      cases n with
      | zero => exact .cons hv h2
      | succ n => simpa using .cons h1 (ih h2 n)
theorem DnAll.reverse {vs : List V} {ds : List D} (h : DnAll K H vs ds) : DnAll K H vs.reverse ds.reverse := by
  induction vs generalizing ds with
  | nil => cases h; exact .nil
  | cons w vs ih =>
    cases h with
    | cons h1 h2 => simpa using (ih h2).append (.cons h1 .nil)
theorem DnAll.rep {vs : List V} {ds : List D} (h : DnAll K H vs ds) : ∀ n : Nat, DnAll K H (List.replicate n vs).flatten (List.replicate n ds).flatten
  | 0 => .nil
  | n + 1 => by
    rw [List.replicate_succ, List.replicate_succ, List.flatten_cons, List.flatten_cons]
    exact h.append (DnAll.rep h n)
theorem DnAll.dropLast {vs : List V} {ds : List D} (h : DnAll K H vs ds) : DnAll K H vs.dropLast ds.dropLast := by
  rw [List.dropLast_eq_take, List.dropLast_eq_take, h.length]; exact h.take _
theorem DnAll.eraseIdx {vs : List V} {ds : List D} (h : DnAll K H vs ds) : ∀ n : Nat, DnAll K H (vs.eraseIdx n) (ds.eraseIdx n) := by
  induction vs generalizing ds with
  | nil => intro n; cases h; simp; exact .nil
  | cons w vs ih =>
    intro n
    cases h with
    | cons h1 h2 =>
      cases n with
      | zero => exact h2
      | succ n => simpa using .cons h1 (ih h2 n)
theorem DnAll.ints {vs : List V} : ∀ {ns : List Int}, DnAll K H vs (ns.map PyData.int) → vs = ns.map V.int := by
  induction vs with
  | nil => intro ns h; cases ns with | nil => rfl | cons _ _ => cases h
  | cons v vs ih =>
    intro ns h
    cases ns with
    | nil => cases h
    | cons n ns => cases h with | cons h1 h2 => cases h1; rw [ih h2]; rfl
theorem DnAll.of_ints : ∀ (ns : List Int), DnAll K H (ns.map V.int) (ns.map PyData.int)
  | [] => .nil
  | n :: ns => .cons (.int n) (DnAll.of_ints ns)
end

/-! ### data without lists and dicts -/
mutual
def noL : D → Bool
  | .list _ => false
  | .dict _ => false
  | .tuple ds => noLs ds
  | .none => true
  | .bool _ => true
  | .int _ => true
  | .str _ => true
def noLs : List D → Bool
  | [] => true
  | d :: ds => noL d && noLs ds
end

/-! ### the heap without some addresses -/
open Classical in
noncomputable def wo (P : Addr → Prop) (H : Hp) : Hp := fun a => if P a then none else H a
theorem wo_some {P : Addr → Prop} {H : Hp} {a : Addr} {o : HO} : wo P H a = some o ↔ ¬ P a ∧ H a = some o := by
  unfold wo
  by_cases h : P a
  · simp [h]
  · simp [h]
theorem wo_same {P : Addr → Prop} {H H' : Hp} (e : Same H H') : Same (wo P H) (wo P H') := fun a o h => by
  rw [wo_some] at h ⊢; exact ⟨h.1, e _ _ h.2⟩
theorem wo_sub {P P' : Addr → Prop} {H : Hp} (e : ∀ a, P a → P' a) : Same (wo P' H) (wo P H) := fun a o h => by
  rw [wo_some] at h ⊢; exact ⟨fun z => h.1 (e a z), h.2⟩
theorem wo_all {P : Addr → Prop} {H : Hp} : Same (wo P H) H := fun a o h => (wo_some.mp h).2
theorem wo_gen {P P' : Addr → Prop} {H H' : Hp} (e : ∀ a o, ¬ P a → H a = some o → ¬ P' a ∧ H' a = some o) : Same (wo P H) (wo P' H') := fun a o h => by
  rw [wo_some] at h ⊢; exact e a o h.1 h.2
section
variable {K : PySem.W.Frag} {H : Hp} {P : Addr → Prop}
/-- a list-free datum stands whatever lists are taken away -/
theorem rd_wo {a : Addr} {u : HO} (h : Rd H a u) (hn : ∀ o, H a = some o → ¬ P a) : Rd (wo P H) a u := by
  rcases h with h | ⟨o, h⟩
  · exact .inl (wo_some.mpr ⟨hn _ h, h⟩)
  · exact .inr ⟨o, wo_some.mpr ⟨hn _ h, h⟩⟩
mutual
theorem Dn.noL (hP : ∀ a, P a → (∃ xs, H a = some (.lst xs)) ∨ ∃ kvs, H a = some (.dK kvs)) : ∀ (d : D) {v : V}, Dn K H v d → noL d = true → Dn K (wo P H) v d
  | .none, _, h, _ => by cases h; exact .non
  | .bool _, _, h, _ => by cases h; exact .bl _
  | .int _, _, h, _ => by cases h; exact .int _
  | .str _, _, h, _ => by cases h; exact .str _
  | .list ds, _, h, n => by simp [Mp.noL] at n
  | .tuple ds, _, h, n => by
    cases h with
    | tup h1 h2 =>
      refine .tup ?_ (DnAll.noL hP ds h2 (by simpa [Mp.noL] using n))
      rcases h1 with (h1 | ⟨o, h1⟩) | h1
      · refine .inl (.inl (wo_some.mpr ⟨fun z => ?_, h1⟩))
        rcases hP _ z with ⟨_, q⟩ | ⟨_, q⟩ <;> rw [h1] at q <;> cases q
      · refine .inl (.inr ⟨o, wo_some.mpr ⟨fun z => ?_, h1⟩⟩)
        rcases hP _ z with ⟨_, q⟩ | ⟨_, q⟩ <;> rw [h1] at q <;> cases q
      · exact .inr h1
  | .dict kds, _, h, n => by simp [Mp.noL] at n
theorem DnAll.noL (hP : ∀ a, P a → (∃ xs, H a = some (.lst xs)) ∨ ∃ kvs, H a = some (.dK kvs)) : ∀ (ds : List D) {vs : List V}, DnAll K H vs ds → noLs ds = true → DnAll K (wo P H) vs ds
  | [], _, h, _ => by cases h; exact .nil
  | d :: ds, _, h, n => by
    simp only [noLs, Bool.and_eq_true] at n
    cases h with | cons h1 h2 => exact .cons (Dn.noL hP d h1 n.1) (DnAll.noL hP ds h2 n.2)
end
end
/-! ### equality of data -/
section
variable {K : PySem.W.Frag} {H : Hp}
mutual
theorem Dn.dp : ∀ (d : D) {v : V}, Dn K H v d → d.canLay0 = true → Dp K H v d
  | .none, _, h, _ => by cases h; exact .non
  | .bool _, _, h, _ => by cases h; exact .bl _
  | .int _, _, h, _ => by cases h; exact .int _
  | .str _, _, h, _ => by cases h; exact .str _
  | .list ds, _, h, n => by cases h with | lst h1 h2 => exact .lst h1.sq (DnAll.dp ds h2 (by simpa [PyData.canLay0] using n))
  | .tuple ds, _, h, n => by cases h with | tup h1 h2 => exact .tup h1 (DnAll.dp ds h2 (by simpa [PyData.canLay0] using n))
  | .dict kds, _, h, n => nomatch n
theorem DnAll.dp : ∀ (ds : List D) {vs : List V}, DnAll K H vs ds → PyData.canLayAll0 ds = true → DpAll K H vs ds
  | [], _, h, _ => by cases h; exact .nil
  | d :: ds, _, h, n => by
    have n' : d.canLay0 = true ∧ PyData.canLayAll0 ds = true := by simpa [PyData.canLayAll0] using n
    cases h with | cons h1 h2 => exact .cons (Dn.dp d h1 n'.1) (DnAll.dp ds h2 n'.2)
end
end
end Mp

/-! MiniPy, part B: the core syntax, its meaning on data, the translation of the text. -/
namespace Mp
open PySem PySem.Spec PyProof.Rows L2

/-! ### the core syntax -/
inductive Bi where
  | len | int | abs | max | min | tuple | list | sum | any | all | str | bool | sorted | bitlen
  deriving DecidableEq
/-- what a value is asked to be: a built-in class by its name, a class of the text by its number -/
inductive Ty where
  | b (n : String) | c (i : Nat)
  deriving DecidableEq
inductive T where
  | n (i : Nat) | tup (is : List Nat)
  deriving DecidableEq
mutual
inductive E where
  | bad
  | v (i : Nat)
  | k (d : D)
  | g (i : Nat)
  | bin (op : Operator) (a b : E)
  | neg (a : E)
  | cmp (op : CmpOp) (a b : E)
  | chain (op op' : CmpOp) (a b c : E)
  | and (a b : E)
  | or (a b : E)
  | not (a : E)
  | ite (c a b : E)
  | tup (es : Es)
  | lst (es : Es)
  | dct0
  | sub (a b : E)
  | sli (a : E) (lo hi : O)
  | rev (a : E)
  | call (f : Nat) (es : Es)
  | bi (f : Bi) (es : Es)
  | isi (a : E) (ts : List Ty)
  | trev (a : E)
  | comp (elt : E) (t : T) (it : I) (c : O) (own : List Nat)
inductive Es where
  | nil
  | cons (e : E) (es : Es)
inductive O where
  | no
  | yes (e : E)
inductive I where
  | it (e : E)
  | r1 (a : E)
  | r2 (a b : E)
  | zip (a b : E)
  | enum (a : E)
  | rev (a : E)
end
mutual
inductive S where
  | bad
  | set (t : T) (e : E)
  | par (is : List Nat) (es : Es)
  | setIx (i : Nat) (x e : E)
  | app (i : Nat) (e : E)
  | ext (i : Nat) (e : E)
  | pop (t : Option Nat) (i : Nat)
  | dpop (i : Nat) (k d : E)
  | ex (e : E)
  | io (t : Option Nat) (f : Nat) (es : Es)
  | ifS (c : E) (a b : Ss)
  | wh (c : E) (b : Ss)
  | forS (t : T) (it : I) (b : Ss)
  | ret (e : E)
  | retN
  | brk
  | ct
  | pass
  | raise (c : Nat) (es : Es)
inductive Ss where
  | nil
  | cons (s : S) (ss : Ss)
end

/-! ### results -/
structure Exc where
  cls : Nat
  fs : List (Str × D)
inductive R (α : Type) where
  | ok (a : α)
  | ex (x : Exc)
  | st
def R.bind {α β : Type} : R α → (α → R β) → R β
  | .ok a, f => f a
  | .ex x, _ => .ex x
  | .st, _ => .st
@[simp] theorem R.bind_ok {α β : Type} (a : α) (f : α → R β) : (R.ok a).bind f = f a := rfl
@[simp] theorem R.bind_ex {α β : Type} (x : Exc) (f : α → R β) : (R.ex x : R α).bind f = .ex x := rfl
@[simp] theorem R.bind_st {α β : Type} (f : α → R β) : (R.st : R α).bind f = .st := rfl
/-- one of two, by a test -/
def iteR {α : Type} (b : Bool) (x y : R α) : R α := match b with
  | true => x
  | false => y
@[simp] theorem iteR_t {α : Type} (x y : R α) : iteR true x y = x := rfl
@[simp] theorem iteR_f {α : Type} (x y : R α) : iteR false x y = y := rfl
def R.of {α : Type} : Option α → R α
  | some a => .ok a
  | none => .st
@[simp] theorem R.of_some {α : Type} (a : α) : R.of (some a) = .ok a := rfl
@[simp] theorem R.of_none {α : Type} : R.of (none : Option α) = .st := rfl

/-! ### operations on data -/
def mulOk (i j : Int) : Bool := decide (-(2 ^ 64) < i ∧ i < 2 ^ 64) || decide (-(2 ^ 64) < j ∧ j < 2 ^ 64) || decide ((Builtin.Int.intBits i : Int) + (Builtin.Int.intBits j : Int) ≤ 134217728)
def divOk (i j : Int) : Bool := decide (0 < j) && (decide (j < 1073741824) || decide (j.natAbs.log2 < 9000) || decide (Builtin.divisionGoesByPylong i j = false))
def powOk (i j : Int) : Bool := decide (0 ≤ j ∧ j ≤ 1000000 ∧ i.natAbs < 2 ^ 64)
def shlOk (i j : Int) : Bool := powOk i j || decide (0 ≤ j ∧ (Builtin.Int.intBits i : Int) + j ≤ 2 ^ 27)
def binD (op : Operator) (x y : D) : Option D :=
  match op, x, y with
  | .Add, .int i, .int j => some (.int (i + j))
  | .Sub, .int i, .int j => some (.int (i - j))
  | .Mult, .int i, .int j => if mulOk i j then some (.int (i * j)) else none
  | .FloorDiv, .int i, .int j => if divOk i j then some (.int (i / j)) else none
  | .Mod, .int i, .int j => if 0 < j then some (.int (i % j)) else none
  | .Pow, .int i, .int j => if powOk i j then some (.int (i ^ j.toNat)) else none
  | .LShift, .int i, .int j => if shlOk i j then some (.int (i * 2 ^ j.toNat)) else none
  | .RShift, .int i, .int j => if 0 ≤ j then some (.int (i / 2 ^ j.toNat)) else none
  | .BitAnd, .int i, .int j => some (.int (Builtin.bitAnd i j))
  | .BitOr, .int i, .int j => some (.int (Builtin.bitOr i j))
  | .BitXor, .int i, .int j => some (.int (Builtin.bitXor i j))
  | .Add, .str a, .str b => if a.length + b.length ≤ sizeLine then some (.str (a ++ b)) else none
  | .Add, .list a, .list b => if a.length + b.length ≤ sizeLine then some (.list (a ++ b)) else none
  | .Add, .tuple a, .tuple b => if a.length + b.length ≤ sizeLine then some (.tuple (a ++ b)) else none
  | .Mult, .list a, .int k => if -(2 ^ 63) ≤ k ∧ k < 2 ^ 63 ∧ a.length * k.toNat ≤ sizeLine then some (.list (List.replicate k.toNat a).flatten) else none
  | _, _, _ => none
def flatD : D → Bool
  | .none => true
  | .bool _ => true
  | .int _ => true
  | .str _ => true
  | _ => false
def keyEq (k x : D) : Bool :=
  match k, x with
  | .int i, .int j => decide (i = j)
  | .str a, .str b => decide (a = b)
  | _, _ => false
def dGet (k : D) : List (D × D) → Option D
  | [] => none
  | (x, d) :: r => if keyEq x k then some d else dGet k r
def isKey : D → Bool
  | .int _ => true
  | .str _ => true
  | _ => false
def eqD (x y : D) : Option Bool :=
  match x, y with
  | .int i, .int j => some (decide (i = j))
  | .str a, .str b => some (decide (a = b))
  | .bool a, .bool b => some (decide (a = b))
  | x, y => if SeqAt.shaped x && SeqAt.shaped y then some (PyData.eqv x y) else none
def inD (x y : D) : Option Bool :=
  match y with
  | .list ds => if flatD x && ds.all flatD then some (ds.any fun d => PyData.eqv d x) else none
  | .tuple ds => if flatD x && ds.all flatD then some (ds.any fun d => PyData.eqv d x) else none
  | .dict kds => if isKey x then some (dGet x kds).isSome else none
  | .str b => match x with
    | .str a => some (!(Builtin.Str.occurrences b a 0 b.length 1).isEmpty)
    | _ => none
  | _ => none
def isNone : D → Bool
  | .none => true
  | _ => false
def cmpD (op : CmpOp) (x y : D) : Option Bool :=
  match op with
  | .Eq => eqD x y
  | .NotEq => (eqD x y).map (!·)
  | .Lt => match x, y with
    | .int i, .int j => some (decide (i < j))
    | .str a, .str b => some (decide (a.cps.toList < b.cps.toList))
    | _, _ => none
  | .LtE => match x, y with
    | .int i, .int j => some (decide (i ≤ j))
    | _, _ => none
  | .Gt => match x, y with
    | .int i, .int j => some (decide (j < i))
    | _, _ => none
  | .GtE => match x, y with
    | .int i, .int j => some (decide (j ≤ i))
    | _, _ => none
  | .Is => if isNone y then some (isNone x) else none
  | .IsNot => if isNone y then some (!isNone x) else none
  | .In => inD x y
  | .NotIn => (inD x y).map (!·)
def truD : D → Option Bool
  | .none => some false
  | .bool b => some b
  | .int i => some (i != 0)
  | .str s => if s.length ≤ sizeLine then some ((s.length : Int) != 0) else none
  | .list ds => some (!ds.isEmpty)
  | .tuple ds => some (!ds.isEmpty)
  | .dict kds => some (!kds.isEmpty)
def subD (x y : D) : Option D :=
  match x, y with
  | .list ds, .int i => atI ds i
  | .tuple ds, .int i => atI ds i
  | .str z, .int i => if z.length ≤ sizeLine then (atI z.cps.toList i).map fun c => .str ⟨#[c]⟩ else none
  | .dict kds, k => if isKey k then dGet k kds else none
  | _, _ => none
def cutD {α : Type} (xs : List α) (lo hi : Option Int) : List α := (xs.drop (HT.sIx xs.length 0 lo)).take (HT.sIx xs.length xs.length hi - HT.sIx xs.length 0 lo)
def sliD (x : D) (lo hi : Option Int) : Option D :=
  match x with
  | .list ds => some (.list (cutD ds lo hi))
  | .tuple ds => some (.tuple (cutD ds lo hi))
  | .str z => if z.length ≤ sizeLine then some (.str (cutS z lo hi)) else none
  | _ => none
def revD : D → Option D
  | .list ds => some (.list ds.reverse)
  | .tuple ds => some (.tuple ds.reverse)
  | _ => none
def intsOf : List D → Option (List Int)
  | [] => some []
  | .int i :: ds => (intsOf ds).map (i :: ·)
  | _ => none
def boolsOf : List D → Option (List Bool)
  | [] => some []
  | .bool i :: ds => (boolsOf ds).map (i :: ·)
  | _ => none
def maxL : List Int → Option Int
  | [] => none
  | i :: is => some (is.foldl max i)
def minL : List Int → Option Int
  | [] => none
  | i :: is => some (is.foldl min i)
def biD (f : Bi) (ds : List D) : Option D :=
  match f, ds with
  | .len, [.str s] => if s.length ≤ sizeLine then some (.int s.length) else none
  | .len, [.list xs] => some (.int xs.length)
  | .len, [.tuple xs] => some (.int xs.length)
  | .len, [.dict xs] => some (.int xs.length)
  | .int, [.int i] => some (.int i)
  | .int, [.bool b] => some (.int (if b then 1 else 0))
  | .abs, [.int i] => some (.int (if i < 0 then -i else i))
  | .max, [.int i, .int j] => some (.int (if j > i then j else i))
  | .min, [.int i, .int j] => some (.int (if j < i then j else i))
  | .max, [.list xs] => (intsOf xs).bind fun is => (maxL is).map .int
  | .min, [.list xs] => (intsOf xs).bind fun is => (minL is).map .int
  | .tuple, [.list xs] => some (.tuple xs)
  | .tuple, [.tuple xs] => some (.tuple xs)
  | .list, [.list xs] => some (.list xs)
  | .list, [.tuple xs] => some (.list xs)
  | .sum, [.list xs] => (intsOf xs).map fun is => .int is.sum
  | .any, [.list xs] => (boolsOf xs).map fun bs => .bool (bs.any id)
  | .all, [.list xs] => (boolsOf xs).map fun bs => .bool (bs.all id)
  | .str, [.int i] => if i.natAbs.log2 < 1920 then some (.str (toString i)) else none
  | .bitlen, [.int i] => some (.int (Builtin.Int.intBits i : Nat))
  | _, _ => none
def tyOf : D → String
  | .none => "NoneType"
  | .bool _ => "bool"
  | .int _ => "int"
  | .str _ => "str"
  | .list _ => "list"
  | .tuple _ => "tuple"
  | .dict _ => "dict"
/-- isinstance of a built-in class -/
def isT (d : D) (n : String) : Option Bool :=
  if n = "int" ∨ n = "bool" ∨ n = "str" ∨ n = "tuple" ∨ n = "list" ∨ n = "dict" then some (tyOf d == n || (tyOf d == "bool" && n == "int")) else none
def isiD (d : D) : List Ty → Option Bool
  | [.b n] => isT d n
  | _ => none

/-! ### states -/
abbrev Tau := List (Option (Bool × D))
def lk (d : D) : List Nat → List Nat
  | [] => []
  | i :: L => if noL d then [] else i :: L
def lkE (e : E) (L : List Nat) : List Nat :=
  match e with
  | .v _ => []
  | _ => L
def isC : D → Bool
  | .list _ => true
  | .dict _ => true
  | _ => false
def frz1 (τ : Tau) (i : Nat) : Tau :=
  match τ[i]? with
  | some (some (_, d)) => τ.set i (some (false, d))
  | _ => τ
def frz (L : List Nat) (τ : Tau) : Tau := L.foldl frz1 τ
@[simp] theorem frz_nil (τ : Tau) : frz [] τ = τ := rfl
def asgs (io : List Nat) : List Nat → List D → Tau → Option Tau
  | [], [], τ => some τ
  | i :: is, d :: ds, τ => if i ∈ io then none else asgs io is ds (τ.set i (some (false, d)))
  | _, _, _ => none
def asg (io : List Nat) (own : Bool) (t : T) (d : D) (τ : Tau) : Option Tau :=
  match t with
  | .n i => if i ∈ io then none else some (τ.set i (some (own && isC d, d)))
  | .tup is => match d with
    | .tuple ds => asgs io is ds τ
    | _ => none
def wipeT (τ : Tau) : List Nat → Tau
  | [] => τ
  | v :: vs => (wipeT τ vs).set v none
def E.fresh : E → Bool
  | .lst _ => true
  | .dct0 => true
  | .comp .. => true
  | .bi .list _ => true
  | .bin .. => true
  | .sli .. => true
  | .rev _ => true
  | _ => false
structure G where
  cf : Nat → List D → R (D × List D)
  io : Nat → List Nat
  gl : Nat → Option D
  wN : Nat
inductive Out where
  | nx (τ : Tau)
  | ret (τ : Tau) (d : D)
  | brk (τ : Tau)
  | ct (τ : Tau)
  | ex (x : Exc) (τ : Tau)
  | st

/-! ### the meaning -/
def compL (elt : Tau → R (D × List Nat)) (cond : Tau → R Bool) (t : T) (own : List Nat) (τw : Tau) : List D → R (List D × List Nat)
  | [] => .ok ([], [])
  | d :: ds => match asg [] false t d τw with
    | none => .st
    | some τ1 => match cond τ1 with
      | .ok true => match elt τ1 with
        | .ok (x, L) => match compL elt cond t own τw ds with
          | .ok (xs, M) => .ok (x :: xs, L ++ M)
          | _ => .st
        | _ => .st
      | .ok false => compL elt cond t own τw ds
      | _ => .st
def rngL (lo : Int) (n : Nat) : List D := (List.range n).map fun k => .int (lo + (k : Nat))
def zipL : List D → List D → List D
  | x :: xs, y :: ys => .tuple [x, y] :: zipL xs ys
  | _, _ => []
def enumL (i : Int) : List D → List D
  | [] => []
  | x :: xs => .tuple [.int i, x] :: enumL (i + 1) xs
def strL (s : Str) : List D := s.cps.toList.map fun c => .str ⟨#[c]⟩
def small62 (i : Int) : Bool := decide (-(2 ^ 62) ≤ i ∧ i < 2 ^ 62)
def rngR1 (j : Int) : R (List D × List Nat) := if small62 j then .ok (rngL 0 j.toNat, []) else .st
def rngR (i j : Int) : R (List D × List Nat) := if small62 i && small62 j then .ok (rngL i (j - i).toNat, []) else .st
theorem rngR1_ok {j : Int} (h : small62 j = true) : rngR1 j = .ok (rngL 0 j.toNat, []) := by
  unfold rngR1
  rw [if_pos h]
theorem rngR_ok {i j : Int} (h : small62 i = true) (h2 : small62 j = true) : rngR i j = .ok (rngL i (j - i).toNat, []) := by
  unfold rngR
  rw [if_pos (Bool.and_eq_true_iff.mpr ⟨h, h2⟩)]
def iter1 : D → Option (List D)
  | .list ds => some ds
  | .tuple ds => some ds
  | .str s => some (strL s)
  | _ => none
def lkI (it : I) (L : List Nat) : List Nat :=
  match it with
  | .it e => lkE e L
  | _ => L
mutual
def evE (g : G) : E → Tau → R (D × List Nat)
  | .bad, _ => .st
  | .v i, τ => match τ[i]? with
    | some (some (o, d)) => .ok (d, if o then [i] else [])
    | _ => .st
  | .k d, _ => .ok (d, [])
  | .g i, _ => match g.gl i with
    | some d => .ok (d, [])
    | none => .st
  | .bin op a b, τ => (evE g a τ).bind fun x => (evE g b τ).bind fun y => match binD op x.1 y.1 with
    | some z => .ok (z, lk z (lkE a x.2 ++ lkE b y.2))
    | none => .st
  | .neg a, τ => (evE g a τ).bind fun x => match x.1 with
    | .int i => .ok (.int (-i), [])
    | _ => .st
  | .cmp op a b, τ => (evE g a τ).bind fun x => (evE g b τ).bind fun y => match cmpD op x.1 y.1 with
    | some z => .ok (.bool z, [])
    | none => .st
  | .chain op op' a b c, τ => (evE g a τ).bind fun x => (evE g b τ).bind fun y => match cmpD op x.1 y.1 with
    | some true => (evE g c τ).bind fun z => match cmpD op' y.1 z.1 with
      | some r => .ok (.bool r, [])
      | none => .st
    | some false => .ok (.bool false, [])
    | none => .st
  | .and a b, τ => (evE g a τ).bind fun x => match x.1 with
    | .bool true => evE g b τ
    | .bool false => .ok (.bool false, [])
    | _ => .st
  | .or a b, τ => (evE g a τ).bind fun x => match x.1 with
    | .bool true => .ok (.bool true, [])
    | .bool false => evE g b τ
    | _ => .st
  | .not a, τ => (evE g a τ).bind fun x => match x.1 with
    | .bool b => .ok (.bool (!b), [])
    | _ => .st
  | .ite c a b, τ => (evT g c τ).bind fun x => iteR x (evE g a τ) (evE g b τ)
  | .tup es, τ => (evEs g es τ).bind fun x => if x.1.length ≤ sizeLine then .ok (.tuple x.1, x.2) else .st
  | .lst es, τ => (evEs g es τ).bind fun x => if x.1.length ≤ sizeLine then .ok (.list x.1, x.2) else .st
  | .dct0, _ => .ok (.dict [], [])
  | .sub a b, τ => (evE g a τ).bind fun x => (evE g b τ).bind fun y => match subD x.1 y.1 with
    | some z => .ok (z, lk z (lkE a x.2))
    | none => .st
  | .sli a lo hi, τ => (evE g a τ).bind fun x => (evO g lo τ).bind fun l => (evO g hi τ).bind fun h => match sliD x.1 l h with
    | some z => .ok (z, lk z (lkE a x.2))
    | none => .st
  | .rev a, τ => (evE g a τ).bind fun x => match revD x.1 with
    | some z => .ok (z, lk z (lkE a x.2))
    | none => .st
  | .call f es, τ => match g.io f with
    | [] => (evEs g es τ).bind fun x => (g.cf f x.1).bind fun r => match r.2 with
      | [] => .ok (r.1, lk r.1 x.2)
      | _ :: _ => .st
    | _ :: _ => .st
  | .bi f es, τ => (evEs g es τ).bind fun x => match biD f x.1 with
    | some z => .ok (z, lk z (match es with | .cons e .nil => lkE e x.2 | _ => x.2))
    | none => .st
  | .isi a ts, τ => (evE g a τ).bind fun x => match isiD x.1 ts with
    | some b => .ok (.bool b, [])
    | none => .st
  | .trev a, τ => (evE g a τ).bind fun x => match x.1 with
    | .list ds => .ok (.tuple ds.reverse, lk (.tuple ds) (lkE a x.2))
    | _ => .st
  | .comp elt t it c own, τ => (evI g it τ).bind fun x => if x.1.length ≤ sizeLine then
      (compL (evE g elt) (evC g c) t own (wipeT (frz (lkI it x.2) τ) own) x.1).bind fun y => .ok (.list y.1, lkI it x.2 ++ y.2)
    else .st
/-- as a test -/
def evT (g : G) : E → Tau → R Bool
  | .not a, τ => (evT g a τ).bind fun x => .ok (!x)
  | .and a b, τ => (evT g a τ).bind fun x => match x with
    | true => evT g b τ
    | false => .ok false
  | .or a b, τ => (evT g a τ).bind fun x => match x with
    | true => .ok true
    | false => evT g b τ
  | .ite _ _ _, _ => .st
  | .cmp op a b, τ => (evE g a τ).bind fun x => (evE g b τ).bind fun y => match cmpD op x.1 y.1 with
    | some z => .ok z
    | none => .st
  | .chain op op' a b c, τ => (evE g a τ).bind fun x => (evE g b τ).bind fun y => match cmpD op x.1 y.1 with
    | some true => (evE g c τ).bind fun z => match cmpD op' y.1 z.1 with
      | some r => .ok r
      | none => .st
    | some false => .ok false
    | none => .st
  | .call f es, τ => match g.io f with
    | [] => (evEs g es τ).bind fun x => (g.cf f x.1).bind fun r => match r.2 with
      | [] => R.of (truD r.1)
      | _ :: _ => .st
    | _ :: _ => .st
  | .v i, τ => match τ[i]? with
    | some (some (o, d)) => R.of (truD d)
    | _ => .st
  | .bi f es, τ => (evEs g es τ).bind fun x => (R.of (biD f x.1)).bind fun z => R.of (truD z)
  | .isi a ts, τ => (evE g a τ).bind fun x => R.of (isiD x.1 ts)
  | .sub a b, τ => (evE g a τ).bind fun x => (evE g b τ).bind fun y => (R.of (subD x.1 y.1)).bind fun z => R.of (truD z)
  | _, _ => .st
def evEs (g : G) : Es → Tau → R (List D × List Nat)
  | .nil, _ => .ok ([], [])
  | .cons e es, τ => (evE g e τ).bind fun x => (evEs g es τ).bind fun y => .ok (x.1 :: y.1, x.2 ++ y.2)
def evO (g : G) : O → Tau → R (Option Int)
  | .no, _ => .ok none
  | .yes e, τ => (evE g e τ).bind fun x => match x.1 with
    | .int i => .ok (some i)
    | _ => .st
/-- a clause's test -/
def evC (g : G) : O → Tau → R Bool
  | .no, _ => .ok true
  | .yes e, τ => evT g e τ
/-- what is walked -/
def evI (g : G) : I → Tau → R (List D × List Nat)
  | .it e, τ => (evE g e τ).bind fun x => match iter1 x.1 with
    | some ds => .ok (ds, x.2)
    | none => .st
  | .r1 a, τ => (evE g a τ).bind fun x => match x.1 with
    | .int j => rngR1 j
    | _ => .st
  | .r2 a b, τ => (evE g a τ).bind fun x => (evE g b τ).bind fun y => match x.1, y.1 with
    | .int i, .int j => rngR i j
    | _, _ => .st
  | .zip a b, τ => (evE g a τ).bind fun x => (evE g b τ).bind fun y => match x.1, y.1 with
    | .list xs, .list ys => .ok (zipL xs ys, x.2 ++ y.2)
    | _, _ => .st
  | .enum a, τ => (evE g a τ).bind fun x => match x.1 with
    | .list xs => .ok (enumL 0 xs, x.2)
    | _ => .st
  | .rev a, τ => (evE g a τ).bind fun x => match x.1 with
    | .list xs => .ok (xs.reverse, x.2)
    | .tuple xs => .ok (xs.reverse, x.2)
    | _ => .st
end
/-- the values of the slots that are handed back -/
def outs (τ : Tau) : List Nat → Option (List D)
  | [] => some []
  | i :: is => match τ[i]? with
    | some (some (true, d)) => (outs τ is).map (d :: ·)
    | _ => none
/-- an owned slot's datum -/
def own? (τ : Tau) (i : Nat) : Option D :=
  match τ[i]? with
  | some (some (true, d)) => some d
  | _ => none
/-- the arguments of a call that changes the one at place j: the data, what leaks, the slot -/
def evIo (g : G) : Nat → Es → Tau → R (List D × List Nat × Nat)
  | _, .nil, _ => .st
  | 0, .cons e es, τ => match e with
    | .v i => match own? τ i with
      | some d => (evEs g es τ).bind fun y => .ok (d :: y.1, y.2, i)
      | none => .st
    | _ => .st
  | j + 1, .cons e es, τ => (evE g e τ).bind fun x => (evIo g j es τ).bind fun y => .ok (x.1 :: y.1, x.2 ++ y.2.1, y.2.2)
def dPut (k v : D) (kds : List (D × D)) : List (D × D) := if (kds.any fun p => keyEq p.1 k) = true then kds.map (fun p => if keyEq p.1 k then (p.1, v) else p) else kds ++ [(k, v)]
def dDrop (k : D) (kds : List (D × D)) : List (D × D) := kds.filter fun p => !keyEq p.1 k
def setIxD (c x v : D) : Option D :=
  match c, x with
  | .list ds, .int i => (ixN ds.length i).map fun j => .list (ds.set j v)
  | .dict kds, k => if isKey k && decide (kds.length < sizeLine) then some (.dict (dPut k v kds)) else none
  | _, _ => none
def forL (io : List Nat) (t : T) (body : Tau → Out) : List D → Tau → Out
  | [], τ => .nx τ
  | d :: ds, τ => match asg io false t d τ with
    | none => .st
    | some τ1 => match body τ1 with
      | .nx τ2 => forL io t body ds τ2
      | .ct τ2 => forL io t body ds τ2
      | .brk τ2 => .nx τ2
      | .ret τ2 d => .ret τ2 d
      | .ex x τ2 => .ex x τ2
      | .st => .st
def whL (c : Tau → R Bool) (body : Tau → Out) : Nat → Tau → Out
  | 0, _ => .st
  | n + 1, τ => match c τ with
    | .ok true => match body τ with
      | .nx τ2 => whL c body n τ2
      | .ct τ2 => whL c body n τ2
      | .brk τ2 => .nx τ2
      | .ret τ2 d => .ret τ2 d
      | .ex x τ2 => .ex x τ2
      | .st => .st
    | .ok false => .nx τ
    | .ex x => .ex x τ
    | .st => .st
def Out.ofR {α : Type} (r : R α) (τ : Tau) (f : α → Out) : Out :=
  match r with
  | .ok a => f a
  | .ex x => .ex x τ
  | .st => .st
def Out.seq (o : Out) (f : Tau → Out) : Out := match o with
  | .nx τ2 => f τ2
  | .ret τ2 d => .ret τ2 d
  | .brk τ2 => .brk τ2
  | .ct τ2 => .ct τ2
  | .ex x τ2 => .ex x τ2
  | .st => .st
@[simp] theorem Out.seq_nx (τ : Tau) (f : Tau → Out) : Out.seq (.nx τ) f = f τ := rfl
@[simp] theorem Out.seq_ret (τ : Tau) (d : D) (f : Tau → Out) : Out.seq (.ret τ d) f = .ret τ d := rfl
@[simp] theorem Out.seq_brk (τ : Tau) (f : Tau → Out) : Out.seq (.brk τ) f = .brk τ := rfl
@[simp] theorem Out.seq_ct (τ : Tau) (f : Tau → Out) : Out.seq (.ct τ) f = .ct τ := rfl
@[simp] theorem Out.seq_ex (x : Exc) (τ : Tau) (f : Tau → Out) : Out.seq (.ex x τ) f = .ex x τ := rfl
@[simp] theorem Out.seq_st (f : Tau → Out) : Out.seq .st f = .st := rfl
def ifK (f h : Tau → Out) (τ : Tau) (b : Bool) : Out := match b with
  | true => f τ
  | false => h τ
@[simp] theorem ifK_t (f h : Tau → Out) (τ : Tau) : ifK f h τ true = f τ := rfl
@[simp] theorem ifK_f (f h : Tau → Out) (τ : Tau) : ifK f h τ false = h τ := rfl
@[simp] theorem Out.ofR_ok {α : Type} (a : α) (τ : Tau) (f : α → Out) : Out.ofR (.ok a) τ f = f a := rfl
@[simp] theorem Out.ofR_ex {α : Type} (x : Exc) (τ : Tau) (f : α → Out) : Out.ofR (.ex x : R α) τ f = .ex x τ := rfl
@[simp] theorem Out.ofR_st {α : Type} (τ : Tau) (f : α → Out) : Out.ofR (.st : R α) τ f = .st := rfl
def Out.ofO : Option Tau → Out
  | some τ => .nx τ
  | none => .st
@[simp] theorem Out.ofO_some (τ : Tau) : Out.ofO (some τ) = .nx τ := rfl
@[simp] theorem Out.ofO_none : Out.ofO none = .st := rfl
mutual
def evS (g : G) (io : List Nat) : S → Tau → Out
  | .bad, _ => .st
  | .set t e, τ => .ofR (evE g e τ) τ fun x => .ofO (asg io e.fresh t x.1 (frz x.2 τ))
  | .par is es, τ => .ofR (evEs g es τ) τ fun x => .ofO (asgs io is x.1 (frz x.2 τ))
  | .setIx i x e, τ => match own? τ i with
    | none => .st
    | some _ => .ofR (evE g e τ) τ fun v => .ofR (evE g x τ) τ fun k => match own? (frz v.2 τ) i with
      | some c => match setIxD c k.1 v.1 with
        | some c' => .nx ((frz v.2 τ).set i (some (true, c')))
        | none => .st
      | none => .st
  | .app i e, τ => match own? τ i with
    | some (.list _) => .ofR (evE g e τ) τ fun v => match own? (frz v.2 τ) i with
      | some (.list ds) => if ds.length < sizeLine then .nx ((frz v.2 τ).set i (some (true, .list (ds ++ [v.1])))) else .st
      | _ => .st
    | _ => .st
  | .ext i e, τ => match own? τ i with
    | some (.list _) => .ofR (evE g e τ) τ fun v => match v.1 with
      | .list es => match own? (frz (lkE e v.2) τ) i with
        | some (.list ds) => if ds.length + es.length ≤ sizeLine then .nx ((frz (lkE e v.2) τ).set i (some (true, .list (ds ++ es)))) else .st
        | _ => .st
      | _ => .st
    | _ => .st
  | .pop t i, τ => match own? τ i with
    | some (.list ds) => match ds[ds.length - 1]? with
      | some d => match t with
        | none => .nx (τ.set i (some (true, .list ds.dropLast)))
        | some j => if j ∈ io ∨ j = i then .st else .nx ((τ.set i (some (true, .list ds.dropLast))).set j (some (false, d)))
      | none => .st
    | _ => .st
  | .dpop i k d, τ => match own? τ i with
    | some (.dict kds) => .ofR (evE g k τ) τ fun x => .ofR (evE g d τ) τ fun y => if isKey x.1 then .nx (τ.set i (some (true, .dict (dDrop x.1 kds)))) else .st
    | _ => .st
  | .ex e, τ => .ofR (evE g e τ) τ fun _ => .nx τ
  | .io t f es, τ => match g.io f with
    | [j] => match evIo g j es τ with
      | .ok x => if x.2.1.contains x.2.2 then .st else match g.cf f x.1 with
        | .ok (r, [d]) => if isC d then match t with
            | none => .nx ((frz x.2.1 τ).set x.2.2 (some (true, d)))
            | some i => if i ∈ io ∨ i = x.2.2 then .st else .nx (((frz x.2.1 τ).set x.2.2 (some (true, d))).set i (some (false, r)))
          else .st
        | _ => .st
      | _ => .st
    | _ => .st
  | .ifS c a b, τ => .ofR (evT g c τ) τ (ifK (evSs g io a) (evSs g io b) τ)
  | .wh c b, τ => whL (evT g c) (evSs g io b) g.wN τ
  | .forS t it b, τ => .ofR (evI g it τ) τ fun x => forL io t (evSs g io b) x.1 (frz x.2 τ)
  | .ret e, τ => .ofR (evE g e τ) τ fun x => .ret (frz x.2 τ) x.1
  | .retN, τ => .ret τ .none
  | .brk, τ => .brk τ
  | .ct, τ => .ct τ
  | .pass, τ => .nx τ
  | .raise _ _, _ => .st
def evSs (g : G) (io : List Nat) : Ss → Tau → Out
  | .nil, τ => .nx τ
  | .cons s ss, τ => (evS g io s τ).seq (evSs g io ss)
end
/-- a def: its parameters' number, its slots' number, the parameters that it changes, its body -/
structure Fn where
  nps : Nat
  nsl : Nat
  io : List Nat
  body : Ss
def mark (io : List Nat) : Nat → List D → Tau
  | _, [] => []
  | i, d :: ds => some (io.contains i && isC d, d) :: mark io (i + 1) ds
def startT (F : Fn) (ds : List D) : Tau := mark F.io 0 ds ++ List.replicate (F.nsl - F.nps) none
def runF (g : G) (F : Fn) (ds : List D) : R (D × List D) :=
  if ds.length = F.nps then
    match evSs g F.io F.body (startT F ds) with
    | .nx τ => (R.of (outs τ F.io)).bind fun os => .ok (.none, os)
    | .ret τ d => (R.of (outs τ F.io)).bind fun os => .ok (d, os)
    | .ex x _ => .ex x
    | _ => .st
  else .st
structure Pr where
  fs : List Fn
  gl : Nat → Option D
  wN : Nat
def Pr.io (p : Pr) (f : Nat) : List Nat := match p.fs[f]? with | some F => F.io | none => []
def callN (p : Pr) : Nat → Nat → List D → R (D × List D)
  | 0, _, _ => .st
  | n + 1, f, ds => match p.fs[f]? with
    | some F => runF ⟨callN p n, p.io, p.gl, p.wN⟩ F ds
    | none => .st
end Mp

/-! MiniPy, part C: states and heaps. -/
namespace Mp
open PySem PySem.Spec PyProof.Rows L2

/-- what stands at an owned address -/
def OwnAt (K : PySem.W.Frag) (H : Hp) (P : Addr → Prop) (p : Addr) : D → Prop
  | .list ds => ∃ vs, H p = some (.lst vs) ∧ DnAll K (wo P H) vs ds
  | .dict kds => ∃ kvs, H p = some (.dK kvs) ∧ DnKV K (wo P H) kvs kds
  | _ => False
def IsCo : HO → Prop
  | .lst _ => True
  | .dK _ => True
  | _ => False
abbrev Ps := Nat → Option Addr
/-- the addresses that are taken away: those from outside and the owned ones -/
def PP (P0 : Addr → Prop) (ps : Ps) : Addr → Prop := fun a => P0 a ∨ ∃ i, ps i = some a
def dr (L : List Nat) (ps : Ps) : Ps := fun i => if i ∈ L then none else ps i
theorem dr_nil (ps : Ps) : dr [] ps = ps := by funext i; simp [dr]
theorem dr_some {L : List Nat} {ps : Ps} {i : Nat} {p : Addr} : dr L ps i = some p ↔ i ∉ L ∧ ps i = some p := by
  unfold dr; by_cases h : i ∈ L <;> simp [h]
theorem PP_dr {P0 : Addr → Prop} {L M : List Nat} {ps : Ps} (h : ∀ i, i ∈ L → i ∈ M) : ∀ a, PP P0 (dr M ps) a → PP P0 (dr L ps) a := fun a z => by
  rcases z with z | ⟨i, z⟩
  · exact .inl z
  · obtain ⟨h1, h2⟩ := dr_some.mp z
    exact .inr ⟨i, dr_some.mpr ⟨fun q => h1 (h i q), h2⟩⟩
theorem PP_dr0 {P0 : Addr → Prop} {M : List Nat} {ps : Ps} : ∀ a, PP P0 (dr M ps) a → PP P0 ps a := fun a z => by
  have := PP_dr (L := []) (M := M) (P0 := P0) (ps := ps) (fun i q => nomatch q) a z
  rwa [dr_nil] at this

/-- what is fixed through a def's body: the heap at its entry, the addresses that may change, those taken away from outside, the slots handed back and their addresses -/
structure Fx where
  H0 : Hp
  io : Addr → Prop
  P0 : Addr → Prop
  iol : List Nat
  q : Ps
structure Rel (K : PySem.W.Frag) (F : Fx) (ps : Ps) (H : Hp) (σ : L2.St) (τ : Tau) : Prop where
  ls : σ.length = τ.length
  own : ∀ (i : Nat) (d : D), τ[i]? = some (some (true, d)) → ∃ p, ps i = some p ∧ σ[i]? = some (some (.ref p)) ∧ OwnAt K H (PP F.P0 ps) p d
  cln : ∀ (i : Nat) (d : D), τ[i]? = some (some (false, d)) → ∃ v, σ[i]? = some (some v) ∧ Dn K (wo (PP F.P0 ps) H) v d
  pown : ∀ (i : Nat) (p : Addr), ps i = some p → ∃ d : D, τ[i]? = some (some (true, d))
  inj : ∀ (i j : Nat) (p : Addr), ps i = some p → ps j = some p → i = j
  out : ∀ (i : Nat) (p : Addr), ps i = some p → ¬ F.P0 p
  keep : ∀ a o, F.H0 a = some o → ¬ F.io a → H a = some o
  new : ∀ (i : Nat) (p : Addr), ps i = some p → F.io p ∨ F.H0 p = none
  p0 : ∀ a, F.P0 a → ∃ o, H a = some o ∧ IsCo o
  pin : ∀ (i : Nat) (p : Addr), i ∈ F.iol → ps i = some p → F.q i = some p
section
variable {K : PySem.W.Frag} {F : Fx} {ps : Ps} {H H' : Hp} {σ : L2.St} {τ : Tau}
theorem DnKV.mono' {K : PySem.W.Frag} {H H' : Hp} (e : Same H H') {kds : List (D × D)} {kvs : List (Key × V)} (h : DnKV K H kvs kds) : DnKV K H' kvs kds := DnKV.mono e kds h
theorem OwnAt.mono {P P' : Addr → Prop} {p : Addr} {d : D} (h : OwnAt K H P p d) (e : ∀ o, H p = some o → H' p = some o) (s : Same (wo P H) (wo P' H')) : OwnAt K H' P' p d := by
  cases d with
  | list ds => obtain ⟨vs, h1, h2⟩ := h; exact ⟨vs, e _ h1, DnAll.mono s _ h2⟩
  | dict ds => obtain ⟨vs, h1, h2⟩ := h; exact ⟨vs, e _ h1, DnKV.mono s _ h2⟩
  | _ => exact h.elim
theorem OwnAt.there {P : Addr → Prop} {p : Addr} {d : D} (h : OwnAt K H P p d) : ∃ o, H p = some o ∧ IsCo o := by
  cases d with
  | list ds => obtain ⟨vs, h1, h2⟩ := h; exact ⟨_, h1, trivial⟩
  | dict ds => obtain ⟨vs, h1, h2⟩ := h; exact ⟨_, h1, trivial⟩
  | _ => exact h.elim
theorem OwnAt.isC {P : Addr → Prop} {p : Addr} {d : D} (h : OwnAt K H P p d) : isC d = true := by
  cases d with
  | list ds => rfl
  | dict ds => rfl
  | _ => exact h.elim
theorem Rel.there (r : Rel K F ps H σ τ) {a : Addr} (h : PP F.P0 ps a) : ∃ o, H a = some o ∧ IsCo o := by
  rcases h with h | ⟨i, h⟩
  · exact r.p0 a h
  · obtain ⟨d, e⟩ := r.pown i a h
    obtain ⟨p, e1, _, e2⟩ := r.own i d e
    rw [h] at e1; cases e1
    exact e2.there
theorem Rel.mono (r : Rel K F ps H σ τ) (e : Same H H') : Rel K F ps H' σ τ :=
  ⟨r.ls, fun i d h => let ⟨p, h1, h2, h3⟩ := r.own i d h; ⟨p, h1, h2, h3.mono (fun o q => e _ _ q) (wo_same e)⟩, fun i d h => let ⟨v, h1, h2⟩ := r.cln i d h; ⟨v, h1, Dn.mono (wo_same e) _ h2⟩, r.pown, r.inj, r.out,
    fun a o h n => e _ _ (r.keep a o h n), r.new, fun a h => let ⟨o, h1, h2⟩ := r.p0 a h; ⟨o, e _ _ h1, h2⟩, r.pin⟩
/-- what a slot's value denotes, read in the whole heap -/
theorem Dn.full {P : Addr → Prop} {v : V} {d : D} (h : Dn K (wo P H) v d) : Dn K H v d := Dn.mono wo_all d h
theorem Dn.sub {P P' : Addr → Prop} {v : V} {d : D} (h : Dn K (wo P' H) v d) (e : ∀ a, P a → P' a) : Dn K (wo P H) v d := Dn.mono (wo_sub e) d h
theorem DnAll.full {P : Addr → Prop} {v : List V} {d : List D} (h : DnAll K (wo P H) v d) : DnAll K H v d := DnAll.mono wo_all d h
theorem DnAll.sub {P P' : Addr → Prop} {v : List V} {d : List D} (h : DnAll K (wo P' H) v d) (e : ∀ a, P a → P' a) : DnAll K (wo P H) v d := DnAll.mono (wo_sub e) d h
/-- an owned list, given up, is a datum like others -/
theorem OwnAt.dn {P P' : Addr → Prop} {p : Addr} {d : D} (h : OwnAt K H P p d) (n : ¬ P' p) (e : ∀ a, P' a → P a) : Dn K (wo P' H) (.ref p) d := by
  cases d with
  | list ds => obtain ⟨vs, h1, h2⟩ := h; exact .lst (.inl (.inl (wo_some.mpr ⟨n, h1⟩))) (h2.sub e)
  | dict ds => obtain ⟨vs, h1, h2⟩ := h; exact .dct (.inl (wo_some.mpr ⟨n, h1⟩)) (DnKV.mono (wo_sub e) _ h2)
  | _ => exact h.elim
theorem frz1_get {i j : Nat} : (frz1 τ i)[j]? = if j = i then (match τ[i]? with | some (some (_, d)) => some (some (false, d)) | x => x) else τ[j]? := by
  unfold frz1
  split
  · rename_i b d e
    by_cases h : j = i
    · subst h
      have := List.getElem?_eq_some_iff.mp e
      first
        | (rw [List.getElem?_set_self this.1, if_pos rfl, e]; done)
        | (rw [List.getElem?_set_self this.1, if_pos rfl]; done)
    · rw [List.getElem?_set_ne (fun z => h z.symm), if_neg h]
  · rename_i hn
    by_cases h : j = i
    · subst h
      first
        | (rw [if_pos rfl]; done)
        | (rw [if_pos rfl]
           split
           · rename_i b d e; exact (hn _ _ e).elim
           · rfl)
    · rw [if_neg h]
theorem frz1_length {i : Nat} : (frz1 τ i).length = τ.length := by
  unfold frz1; split <;> simp
theorem Rel.frz1 (r : Rel K F ps H σ τ) (i : Nat) : Rel K F (dr [i] ps) H σ (frz1 τ i) := by
  have hs : ∀ a, PP F.P0 (dr [i] ps) a → PP F.P0 ps a := PP_dr0
  refine ⟨by rw [frz1_length]; exact r.ls, fun j d h => ?_, fun j d h => ?_, fun j p h => ?_, fun j k p h1 h2 => ?_, fun j p h => ?_, r.keep, fun j p h => ?_, r.p0, fun j p hi h => ?_⟩
  · rw [frz1_get] at h
    by_cases hj : j = i
    · rw [if_pos hj] at h
      split at h
      · cases h
      · rename_i hn; subst hj; exact (hn _ _ h).elim
    · rw [if_neg hj] at h
      obtain ⟨p, h1, h2, h3⟩ := r.own j d h
      exact ⟨p, dr_some.mpr ⟨by simpa using hj, h1⟩, h2, h3.mono (fun _ q => q) (wo_sub hs)⟩
  · rw [frz1_get] at h
    by_cases hj : j = i
    · rw [if_pos hj] at h
      subst hj
      split at h
      · rename_i b d' e
        cases h
        cases b with
        | true =>
          obtain ⟨p, h1, h2, h3⟩ := r.own j _ e
          refine ⟨_, h2, h3.dn (fun z => ?_) hs⟩
          rcases z with z | ⟨k, z⟩
          · exact r.out _ _ h1 z
          · obtain ⟨z1, z2⟩ := dr_some.mp z
            exact z1 (by simp [r.inj _ _ _ z2 h1])
        | false =>
          obtain ⟨v, h1, h2⟩ := r.cln j _ e
          exact ⟨v, h1, h2.sub hs⟩
      · rename_i hn; exact (hn _ _ h).elim
    · rw [if_neg hj] at h
      obtain ⟨v, h1, h2⟩ := r.cln j d h
      exact ⟨v, h1, h2.sub hs⟩
  · obtain ⟨z1, z2⟩ := dr_some.mp h
    obtain ⟨d, e⟩ := r.pown j p z2
    exact ⟨d, by rw [frz1_get, if_neg (by simpa using z1)]; exact e⟩
  · exact r.inj j k p (dr_some.mp h1).2 (dr_some.mp h2).2
  · exact r.out j p (dr_some.mp h).2
  · exact r.new j p (dr_some.mp h).2
  · exact r.pin j p hi (dr_some.mp h).2
theorem dr_cons (i : Nat) (L : List Nat) (ps : Ps) : dr L (dr [i] ps) = dr (i :: L) ps := by
  funext j
  unfold dr
  by_cases h1 : j = i <;> by_cases h2 : j ∈ L <;> simp [h1, h2]
theorem Rel.frz (r : Rel K F ps H σ τ) (L : List Nat) : Rel K F (dr L ps) H σ (frz L τ) := by
  induction L generalizing τ ps with
  | nil => rw [dr_nil]; exact r
  | cons i L ih =>
    have := ih (r.frz1 i)
    rw [dr_cons] at this
    exact this
theorem frz_length (L : List Nat) (τ : Tau) : (frz L τ).length = τ.length := by
  induction L generalizing τ with
  | nil => rfl
  | cons i L ih => show (frz L (frz1 τ i)).length = _; rw [ih, frz1_length]
/-- forgetting one owned slot -/
theorem PP_drop {i : Nat} : ∀ a, PP F.P0 (fun j => if j = i then none else ps j) a → PP F.P0 ps a := fun a z => by
  rcases z with z | ⟨j, z⟩
  · exact .inl z
  · by_cases h : j = i
    · simp [h] at z
    · simp only [h, if_false] at z; exact .inr ⟨j, z⟩
/-- a slot takes a datum that is not owned -/
theorem Rel.set (r : Rel K F ps H σ τ) {i : Nat} {v : V} {d : D} (h : Dn K (wo (PP F.P0 ps) H) v d) : Rel K F (fun j => if j = i then none else ps j) H (σ.set i (some v)) (τ.set i (some (false, d))) := by
  have hs := PP_drop (F := F) (ps := ps) (i := i)
  have hl := r.ls
  refine ⟨by simp [hl], fun j e he => ?_, fun j e he => ?_, fun j p hp => ?_, fun j k p h1 h2 => ?_, fun j p hp => ?_, r.keep, fun j p hp => ?_, r.p0, fun j p hi hp => ?_⟩
  · by_cases hj : j = i
    · subst hj
      by_cases hlt : j < τ.length
      · rw [List.getElem?_set_self hlt] at he; cases he
      · rw [List.getElem?_eq_none (by simpa using hlt)] at he; cases he
    · rw [List.getElem?_set_ne (fun z => hj z.symm)] at he
      obtain ⟨p, h1, h2, h3⟩ := r.own j e he
      exact ⟨p, by simp [hj, h1], by rw [List.getElem?_set_ne (fun z => hj z.symm)]; exact h2, h3.mono (fun _ q => q) (wo_sub hs)⟩
  · by_cases hj : j = i
    · subst hj
      by_cases hlt : j < τ.length
      · rw [List.getElem?_set_self hlt] at he; cases he
        exact ⟨v, by rw [List.getElem?_set_self (by rw [hl]; exact hlt)], h.sub hs⟩
      · rw [List.getElem?_eq_none (by simpa using hlt)] at he; cases he
    · rw [List.getElem?_set_ne (fun z => hj z.symm)] at he
      obtain ⟨w, h1, h2⟩ := r.cln j e he
      exact ⟨w, by rw [List.getElem?_set_ne (fun z => hj z.symm)]; exact h1, h2.sub hs⟩
  · by_cases hj : j = i
    · simp [hj] at hp
    · simp only [hj, if_false] at hp
      obtain ⟨e, he⟩ := r.pown j p hp
      exact ⟨e, by rw [List.getElem?_set_ne (fun z => hj z.symm)]; exact he⟩
  · by_cases hj : j = i
    · simp [hj] at h1
    · by_cases hk : k = i
      · simp [hk] at h2
      · simp only [hj, hk, if_false] at h1 h2
        exact r.inj j k p h1 h2
  · by_cases hj : j = i
    · simp [hj] at hp
    · simp only [hj, if_false] at hp; exact r.out j p hp
  · by_cases hj : j = i
    · simp [hj] at hp
    · simp only [hj, if_false] at hp; exact r.new j p hp
  · by_cases hj : j = i
    · simp [hj] at hp
    · simp only [hj, if_false] at hp; exact r.pin j p hi hp
/-- a slot takes a new list or dict -/
theorem Rel.setNew (r : Rel K F ps H σ τ) (e : Same H H') {i : Nat} {p : Addr} {d : D} (hi : i ∉ F.iol) (hlt : i < τ.length) (hn : H p = none) (h : OwnAt K H' (fun a => a = p ∨ PP F.P0 ps a) p d) :
    Rel K F (fun j => if j = i then some p else ps j) H' (σ.set i (some (.ref p))) (τ.set i (some (true, d))) := by
  have hl := r.ls
  have npp : ¬ PP F.P0 ps p := fun z => by
    obtain ⟨o, q, _⟩ := r.there z
    rw [hn] at q; cases q
  have hs : ∀ a, PP F.P0 (fun j => if j = i then some p else ps j) a → (a = p ∨ PP F.P0 ps a) := fun a z => by
    rcases z with z | ⟨j, z⟩
    · exact .inr (.inl z)
    · by_cases hj : j = i
      · simp only [hj, if_true] at z; cases z; exact .inl rfl
      · simp only [hj, if_false] at z; exact .inr (.inr ⟨j, z⟩)
  have key : Same (wo (PP F.P0 ps) H) (wo (PP F.P0 (fun j => if j = i then some p else ps j)) H') := wo_gen fun a o h1 h2 =>
    ⟨fun q => (hs a q).elim (fun z => by rw [z, hn] at h2; cases h2) h1, e _ _ h2⟩
  refine ⟨by simp [hl], fun j x he => ?_, fun j x he => ?_, fun j q hq => ?_, fun j k q h1 h2 => ?_, fun j q hq => ?_, fun a o h1 h2 => e _ _ (r.keep a o h1 h2), fun j q hq => ?_, fun a h1 => let ⟨o, h2, h3⟩ := r.p0 a h1; ⟨o, e _ _ h2, h3⟩, fun j q hj2 hq => ?_⟩
  · by_cases hj : j = i
    · subst hj
      rw [List.getElem?_set_self hlt] at he; cases he
      exact ⟨p, by simp, by rw [List.getElem?_set_self (by rw [hl]; exact hlt)], h.mono (fun _ q => q) (wo_sub hs)⟩
    · rw [List.getElem?_set_ne (fun z => hj z.symm)] at he
      obtain ⟨q, h1, h2, h3⟩ := r.own j x he
      exact ⟨q, by simp [hj, h1], by rw [List.getElem?_set_ne (fun z => hj z.symm)]; exact h2, h3.mono (fun _ q => e _ _ q) key⟩
  · by_cases hj : j = i
    · subst hj
      rw [List.getElem?_set_self hlt] at he; cases he
    · rw [List.getElem?_set_ne (fun z => hj z.symm)] at he
      obtain ⟨w, h1, h2⟩ := r.cln j x he
      exact ⟨w, by rw [List.getElem?_set_ne (fun z => hj z.symm)]; exact h1, Dn.mono key _ h2⟩
  · by_cases hj : j = i
    · subst hj
      exact ⟨d, by rw [List.getElem?_set_self hlt]⟩
    · simp only [hj, if_false] at hq
      obtain ⟨x, he⟩ := r.pown j q hq
      exact ⟨x, by rw [List.getElem?_set_ne (fun z => hj z.symm)]; exact he⟩
  · have old : ∀ j : Nat, j ≠ i → ps j = some q → q ≠ p := fun j _ z1 z2 => npp (.inr ⟨j, by rw [z1, z2]⟩)
    by_cases hj : j = i
    · by_cases hk : k = i
      · rw [hj, hk]
      · simp only [hj, hk, if_true, if_false] at h1 h2
        exact absurd (Option.some.inj h1).symm (old k hk h2)
    · by_cases hk : k = i
      · simp only [hj, hk, if_true, if_false] at h1 h2
        exact absurd (Option.some.inj h2).symm (old j hj h1)
      · simp only [hj, hk, if_false] at h1 h2
        exact r.inj j k q h1 h2
  · by_cases hj : j = i
    · simp only [hj, if_true] at hq; cases hq; exact fun z => npp (.inl z)
    · simp only [hj, if_false] at hq; exact r.out j q hq
  · by_cases hj : j = i
    · simp only [hj, if_true] at hq; cases hq
      by_cases hio : F.io p
      · exact .inl hio
      · right
        cases h0 : F.H0 p with
        | none => rfl
        | some o => have := r.keep p o h0 hio; rw [hn] at this; cases this
    · simp only [hj, if_false] at hq; exact r.new j q hq
  · by_cases hj : j = i
    · exact absurd (hj ▸ hj2) hi
    · simp only [hj, if_false] at hq; exact r.pin j q hj2 hq
/-- an owned list is changed -/
theorem Rel.write (r : Rel K F ps H σ τ) {i : Nat} {p : Addr} {d : D} {o : HO} (hp : ps i = some p) (hd : OwnAt K (upd H p o) (PP F.P0 ps) p d) (ho : IsCo o) :
    Rel K F ps (upd H p o) σ (τ.set i (some (true, d))) := by
  have hl := r.ls
  obtain ⟨d0, hi⟩ := r.pown i p hp
  have hlt := (List.getElem?_eq_some_iff.mp hi).1
  have hpp : PP F.P0 ps p := .inr ⟨i, hp⟩
  have key : Same (wo (PP F.P0 ps) H) (wo (PP F.P0 ps) (upd H p o)) := wo_gen fun a u h1 h2 => ⟨h1, by
    rw [upd_ne (fun z => h1 (by rw [z]; exact hpp))]; exact h2⟩
  refine ⟨by simp [hl], fun j x he => ?_, fun j x he => ?_, fun j q hq => ?_, r.inj, r.out, fun a u h1 h2 => ?_, r.new, fun a h1 => ?_, r.pin⟩
  · by_cases hj : j = i
    · subst hj
      rw [List.getElem?_set_self hlt] at he; cases he
      obtain ⟨q, z1, z2, _⟩ := r.own j _ hi
      rw [hp] at z1; cases z1
      exact ⟨p, hp, z2, hd⟩
    · rw [List.getElem?_set_ne (fun z => hj z.symm)] at he
      obtain ⟨q, h1, h2, h3⟩ := r.own j x he
      exact ⟨q, h1, h2, h3.mono (fun u z => by rw [upd_ne (fun y => hj (r.inj j i p (by rw [h1, y]) hp))]; exact z) key⟩
  · by_cases hj : j = i
    · subst hj
      rw [List.getElem?_set_self hlt] at he; cases he
    · rw [List.getElem?_set_ne (fun z => hj z.symm)] at he
      obtain ⟨w, h1, h2⟩ := r.cln j x he
      exact ⟨w, h1, Dn.mono key _ h2⟩
  · by_cases hj : j = i
    · subst hj
      exact ⟨d, by rw [List.getElem?_set_self hlt]⟩
    · obtain ⟨x, he⟩ := r.pown j q hq
      exact ⟨x, by rw [List.getElem?_set_ne (fun z => hj z.symm)]; exact he⟩
  · have := r.keep a u h1 h2
    have hne : a ≠ p := fun z => by
      rcases r.new i p hp with n | n
      · exact h2 (by rw [z]; exact n)
      · rw [z, n] at h1; cases h1
    rw [upd_ne hne]; exact this
  · obtain ⟨u, h2, h3⟩ := r.p0 a h1
    have hne : a ≠ p := fun z => r.out i p hp (by rw [← z]; exact h1)
    exact ⟨u, by rw [upd_ne hne]; exact h2, h3⟩
/-- the slots of a comprehension's own names are forgotten -/
theorem wipeT_length : ∀ (τ : Tau) (vs : List Nat), (wipeT τ vs).length = τ.length
  | _, [] => rfl
  | τ, v :: vs => by show ((wipeT τ vs).set v none).length = _; rw [List.length_set, wipeT_length τ vs]
end
end Mp

/-! MiniPy, part D: operations by values. -/
namespace Mp
open PySem PySem.Spec PyProof.Rows L2

/-- a value, its items clean in G, itself read in H -/
def ElCl (K : PySem.W.Frag) (G H : Hp) (v : V) : D → Prop
  | .list ds => ∃ a vs, v = .ref a ∧ LsR K H a vs ∧ DnAll K G vs ds
  | .dict kds => ∃ a kvs, v = .ref a ∧ Rd H a (.dK kvs) ∧ DnKV K G kvs kds
  | d => Dn K G v d
/-- what an operation hands back: f where a list or dict is always new -/
inductive Res (K : PySem.W.Frag) (f : Bool) (G H : Hp) : D → V → Hp → Prop
  | same {z : D} {v : V} : (f = true → isC z = false) → Dn K G v z → Res K f G H z v H
  | lst {p : Addr} {vs : List V} {ds : List D} : H p = none → DnAll K G vs ds → Res K f G H (.list ds) (.ref p) (upd H p (.lst vs))
  | dct {p : Addr} {vs : List (Key × V)} {ds : List (D × D)} : H p = none → DnKV K G vs ds → Res K f G H (.dict ds) (.ref p) (upd H p (.dK vs))
  | tup {p : Addr} {vs : List V} {ds : List D} : H p = none → DnAll K G vs ds → Res K f G H (.tuple ds) (.ref p) (upd H p (.tup vs))
theorem same_upd {H : Hp} {p : Addr} {o : HO} (h : H p = none) : Same H (upd H p o) := fun b x e => by
  rw [upd_ne (ne_of_none e h)]; exact e
section
variable {K : PySem.W.Frag} {G G' H H' : Hp} {v : V} {d z : D}
theorem Res.same' {f : Bool} (r : Res K f G H z v H') : Same H H' := by
  cases r with
  | same _ _ => exact Same.refl _
  | lst h _ => exact same_upd h
  | dct h _ => exact same_upd h
  | tup h _ => exact same_upd h
theorem ElCl.full (e : Same G H) (h : ElCl K G H v d) : Dn K H v d := by
  cases d with
  | list ds => obtain ⟨a, vs, rfl, h1, h2⟩ := h; exact .lst h1 (DnAll.mono e _ h2)
  | dict ds => obtain ⟨a, vs, rfl, h1, h2⟩ := h; exact .dct h1 (DnKV.mono e _ h2)
  | none => exact Dn.mono e _ (show Dn K G v _ from h)
  | bool _ => exact Dn.mono e _ (show Dn K G v _ from h)
  | int _ => exact Dn.mono e _ (show Dn K G v _ from h)
  | str _ => exact Dn.mono e _ (show Dn K G v _ from h)
  | tuple _ => exact Dn.mono e _ (show Dn K G v _ from h)
theorem ElCl.mono (e : Same G G') (e' : Same H H') (h : ElCl K G H v d) : ElCl K G' H' v d := by
  cases d with
  | list ds => obtain ⟨a, vs, rfl, h1, h2⟩ := h; exact ⟨a, vs, rfl, Same.ls e' h1, DnAll.mono e _ h2⟩
  | dict ds => obtain ⟨a, vs, rfl, h1, h2⟩ := h; exact ⟨a, vs, rfl, Same.rd e' h1, DnKV.mono e _ h2⟩
  | none => exact Dn.mono e _ (show Dn K G v _ from h)
  | bool _ => exact Dn.mono e _ (show Dn K G v _ from h)
  | int _ => exact Dn.mono e _ (show Dn K G v _ from h)
  | str _ => exact Dn.mono e _ (show Dn K G v _ from h)
  | tuple _ => exact Dn.mono e _ (show Dn K G v _ from h)
theorem Dn.elcl (e : Same G H) (h : Dn K G v d) : ElCl K G H v d := by
  cases h with
  | lst h1 h2 => exact ⟨_, _, rfl, Same.ls e h1, h2⟩
  | dct h1 h2 => exact ⟨_, _, rfl, Same.rd e h1, h2⟩
  | non => exact .non
  | bl b => exact .bl b
  | int i => exact .int i
  | str x => exact .str x
  | tup h1 h2 => exact .tup h1 h2
end

section
variable {X : Cx} {pins : List (Addr × Obj)} {σ : L2.St} {H : Hp} {s : Shared}
/-- a list that is read, as an object -/
theorem lstR (I : Inv X pins σ H s) {l : Addr} {xs : List V} (h : LsR X.K H l xs) : xs.length ≤ sizeLine ∧ ∃ (its : List Value) (n : Nat), Vals xs its ∧ xs.length = its.length ∧ s.heap.get? l = some { cls := .type "list", data := .seq its.toArray n } := by
  rcases h with h | ⟨its, n, h1, h2, h3⟩
  · obtain ⟨z, its, n, r, e⟩ : ObjOk X.prog X.w H s.heap l (.lst xs) := h.ok I.hok
    exact ⟨z, its, n, r, r.length, e⟩
  · exact ⟨by rw [h3.length]; exact h2, its, n, h3, h3.length, I.kIn _ _ h1⟩
def rCatR (K : PySem.W.Frag) : R2 := fun x y H Q => ∃ l b xs zs, x = .ref l ∧ y = .ref b ∧ LsR K H l xs ∧ LsR K H b zs ∧ xs.length + zs.length ≤ sizeLine ∧ ∀ p, H p = none → Q (.ref p) (upd H p (.lst (xs ++ zs)))
theorem op_catR : OpR X (binaryOp .Add) (rCatR X.K) := by
  intro pins s σ H x y v u Q I rx ry h
  obtain ⟨l, b, xs, zs, rfl, rfl, hH, hB, hz, q⟩ := h
  cases rx
  cases ry
  obtain ⟨z, its, n, r, hl, e⟩ := lstR I hH
  obtain ⟨z2, its2, n2, r2, hl2, e2⟩ := lstR I hB
  refine PySem.P.add_list e e2 ?_ (by rw [List.size_toArray, List.size_toArray]; omega)
  have ea : its.toArray ++ its2.toArray = (its ++ its2).toArray := by simp
  rw [ea]
  exact ⟨.ref _, _, I.lnew (t' := s.toks) (r.append r2) (by rw [List.length_append]; omega), rfl, q _ I.fresh⟩
def rRepR (K : PySem.W.Frag) : R2 := fun x y H Q => ∃ l k xs, x = .ref l ∧ y = .int k ∧ LsR K H l xs ∧ -(2 ^ 63) ≤ k ∧ k < 2 ^ 63 ∧ xs.length * k.toNat ≤ sizeLine ∧
  ∀ p, H p = none → Q (.ref p) (upd H p (.lst (List.replicate k.toNat xs).flatten))
theorem op_repR : OpR X (binaryOp .Mult) (rRepR X.K) := by
  intro pins s σ H x y v u Q I rx ry h
  obtain ⟨l, k, xs, rfl, rfl, hH, h1, h2, hz, q⟩ := h
  cases rx
  obtain ⟨t, rfl⟩ := ry
  obtain ⟨z, its, n, r, hl, e⟩ := lstR I hH
  have hlen : its.toArray.size * k.toNat ≤ sizeLine := by rw [List.size_toArray, ← hl]; exact hz
  have hcap : ¬ its.toArray.size * k.toNat > (2 ^ 63 - 1) / 8 := by
    have : (sizeLine : Nat) ≤ (2 ^ 63 - 1) / 8 := by decide
    omega
  have hfit : ¬ (!Builtin.List.listFitsIndex k) = true := by
    rw [fitsIndex_both h1 h2]
    exact Bool.false_ne_true
  have hlong : ¬ Builtin.List.listTooLong (its.toArray.size * k.toNat) = true := by
    rw [notLongL hlen]
    exact Bool.false_ne_true
  have hnew : List.foldl (fun x1 x2 => x1 ++ x2) #[] (List.replicate (if its.toArray.isEmpty = true then 0 else k.toNat) its.toArray) = (List.replicate k.toNat its).flatten.toArray := by
    have f0 : ∀ m : Nat, List.foldl (fun x1 x2 => x1 ++ x2) #[] (List.replicate m its.toArray) = (List.replicate m its).flatten.toArray := fun m => by
      have := foldl_rep its m []
      rw [List.nil_append] at this
      exact this
    rw [f0]
    cases its with
    | nil => simp
    | cons a r' => rw [if_neg (by simp)]
  refine wpAny_binaryOp_repeat_ref (T := "list") (U := "int") (by decide) ⟨_, e, rfl⟩ (fun s' => typeIs_int s' k t) noFill_list_mul F.fills_int_mul F.slot_int_rmul repeat_list F.slot_int_index.lookup
    (call_meets F.slot_int_rmul (typeIs_int s k t) F.entry_int_rmul (F.args_int_rmul_2 _ _) (int___rmul___int_list k t l its.toArray n)
      ⟨e, rfl, ⟨_, e, rfl⟩, call_meets F.slot_list_mul ⟨_, e, rfl⟩ F.entry_list_mul (F.args_list_mul_2 _ _) (AutoListH.list___mul___list_int_3 l its.toArray n k t hfit hcap hlong) ⟨e, ?_⟩⟩)
  rw [hnew]
  exact ⟨.ref _, _, I.lnew (t' := s.toks) (r.rep k.toNat) (by rw [PyProof.Rows.lm_len_rep_flat, Nat.mul_comm]; exact hz), rfl, q _ I.fresh⟩
end

/-! ### binary operators -/
def rB (K : PySem.W.Frag) (op : Operator) : R2 := fun x y H Q => ∃ (G : Hp) (d e z : D), Same G H ∧ ElCl K G H x d ∧ ElCl K G H y e ∧ binD op d e = some z ∧ ∀ v H', Res K true G H z v H' → Q v H'
theorem cmul_of {i j : Int} (h : mulOk i j = true) : IntMulOk i j := by
  unfold mulOk at h
  simp only [Bool.or_eq_true, decide_eq_true_eq] at h
  rcases h with (h | h) | h
  · exact CMul.ok (.inl h)
  · exact CMul.ok (.inr h)
  · exact CMulX.ok h
theorem divOk_pos {i j : Int} (h : divOk i j = true) : 0 < j := by
  unfold divOk at h
  simp only [Bool.and_eq_true, decide_eq_true_eq] at h
  exact h.1
variable {X : Cx}
theorem op_fdivD : OpR X (binaryOp .FloorDiv) (rI (fun i j => divOk i j = true) fun i j => .int (i / j)) := by
  intro pins s σ H x y v u Q I rx ry h
  obtain ⟨i, j, rfl, rfl, c, q⟩ := h
  have hp := divOk_pos c
  unfold divOk at c
  simp only [Bool.and_eq_true, Bool.or_eq_true, decide_eq_true_eq] at c
  rcases c.2 with (h | h) | h
  · exact op_fdiv pins s σ H _ _ v u Q I rx ry ⟨i, j, rfl, rfl, ⟨hp, h⟩, q⟩
  · exact op_fdivW pins s σ H _ _ v u Q I rx ry ⟨i, j, rfl, rfl, ⟨hp, h⟩, q⟩
  · obtain ⟨t, rfl⟩ := rx
    obtain ⟨t', rfl⟩ := ry
    refine PyProof.Rows.floordiv_int (by omega) ⟨.int (i / j), H, I.tok _, ⟨_, by rw [Int.fdiv_eq_ediv_of_nonneg _ (by omega)]⟩, q⟩ (.inl h)
theorem op_shlD : OpR X (binaryOp .LShift) (rI (fun i j => shlOk i j = true) fun i j => .int (i * 2 ^ j.toNat)) := by
  intro pins s σ H x y v u Q I rx ry h
  obtain ⟨i, j, rfl, rfl, c, q⟩ := h
  unfold shlOk powOk at c
  simp only [Bool.or_eq_true, decide_eq_true_eq] at c
  rcases c with c | c
  · exact op_shl pins s σ H _ _ v u Q I rx ry ⟨i, j, rfl, rfl, c, q⟩
  · exact op_shlW pins s σ H _ _ v u Q I rx ry ⟨i, j, rfl, rfl, c, q⟩
theorem op_mulD : OpR X (binaryOp .Mult) (rI (fun i j => mulOk i j = true) fun i j => .int (i * j)) := opI fun _ _ _ _ _ _ _ hc q => mul_int q (cmul_of hc)
theorem dn_int {K : PySem.W.Frag} {G : Hp} {x : V} {i : Int} (h : Dn K G x (.int i)) : x = .int i := by cases h; rfl
theorem dn_str {K : PySem.W.Frag} {G : Hp} {x : V} {i : Str} (h : Dn K G x (.str i)) : x = .str i := by cases h; rfl
theorem dn_bool {K : PySem.W.Frag} {G : Hp} {x : V} {i : Bool} (h : Dn K G x (.bool i)) : x = .bl i := by cases h; rfl
theorem dn_none {K : PySem.W.Frag} {G : Hp} {x : V} (h : Dn K G x .none) : x = .non := by cases h; rfl
theorem dn_tup {K : PySem.W.Frag} {G : Hp} {x : V} {ds : List D} (h : Dn K G x (.tuple ds)) : ∃ a vs, x = .ref a ∧ SqT K G a vs ∧ DnAll K G vs ds := by
  cases h with | tup h1 h2 => exact ⟨_, _, rfl, h1, h2⟩
theorem op_bin (op : Operator) : OpR X (binaryOp op) (rB X.K op) := by
  intro pins s σ H x y v u Q I rx ry h
  obtain ⟨G, d, e, z, sg, hx, hy, hz, q⟩ := h
  have num : ∀ i : Int, (∀ v H', Res X.K true G H (.int i) v H' → Q v H') → Q (.int i) H := fun i q => q _ _ (.same (fun _ => rfl) (.int i))
  cases d with
  | int i =>
    obtain rfl := dn_int (show Dn X.K G x _ from hx)
    cases e with
    | int j =>
      obtain rfl := dn_int (show Dn X.K G y _ from hy)
      cases op <;> simp only [binD, Option.some.injEq, reduceCtorEq] at hz
      · subst hz; exact op_add pins s σ H _ _ v u Q I rx ry ⟨i, j, rfl, rfl, num _ q⟩
      · subst hz; exact op_sub pins s σ H _ _ v u Q I rx ry ⟨i, j, rfl, rfl, num _ q⟩
      · split at hz
        · rename_i c; cases hz; exact op_mulD pins s σ H _ _ v u Q I rx ry ⟨i, j, rfl, rfl, c, num _ q⟩
        · cases hz
      · split at hz
        · rename_i c; cases hz; exact op_mod pins s σ H _ _ v u Q I rx ry ⟨i, j, rfl, rfl, c, num _ q⟩
        · cases hz
      · split at hz
        · rename_i c; cases hz
          refine op_pow pins s σ H _ _ v u Q I rx ry ⟨i, j, rfl, rfl, ?_, num _ q⟩
          unfold powOk at c
          simp only [decide_eq_true_eq] at c
          exact c
        · cases hz
      · split at hz
        · rename_i c; cases hz; exact op_shlD pins s σ H _ _ v u Q I rx ry ⟨i, j, rfl, rfl, c, num _ q⟩
        · cases hz
      · split at hz
        · rename_i c; cases hz; exact op_shr pins s σ H _ _ v u Q I rx ry ⟨i, j, rfl, rfl, c, num _ q⟩
        · cases hz
      · subst hz; exact op_or pins s σ H _ _ v u Q I rx ry ⟨i, j, rfl, rfl, num _ q⟩
      · subst hz; exact op_xor pins s σ H _ _ v u Q I rx ry ⟨i, j, rfl, rfl, num _ q⟩
      · subst hz; exact op_and pins s σ H _ _ v u Q I rx ry ⟨i, j, rfl, rfl, num _ q⟩
      · split at hz
        · rename_i c; cases hz; exact op_fdivD pins s σ H _ _ v u Q I rx ry ⟨i, j, rfl, rfl, c, num _ q⟩
        · cases hz
    | _ => cases op <;> simp [binD] at hz
  | str a =>
    obtain rfl := dn_str (show Dn X.K G x _ from hx)
    cases e with
    | str b =>
      obtain rfl := dn_str (show Dn X.K G y _ from hy)
      cases op <;> simp only [binD, Option.some.injEq, reduceCtorEq] at hz
      split at hz
      · rename_i c; cases hz; exact op_add_str pins s σ H _ _ v u Q I rx ry ⟨a, b, rfl, rfl, c, q _ _ (.same (fun _ => rfl) (.str _))⟩
      · cases hz
    | _ => cases op <;> simp [binD] at hz
  | list ds =>
    obtain ⟨a, vs, rfl, h1, h2⟩ := hx
    cases e with
    | list es =>
      obtain ⟨b, ws, rfl, h3, h4⟩ := hy
      cases op <;> simp only [binD, Option.some.injEq, reduceCtorEq] at hz
      split at hz
      · rename_i c; cases hz
        exact op_catR pins s σ H _ _ v u Q I rx ry ⟨a, b, vs, ws, rfl, rfl, h1, h3, by rw [h2.length, h4.length]; exact c, fun p hp => q _ _ (.lst hp (h2.append h4))⟩
      · cases hz
    | int k =>
      obtain rfl := dn_int (show Dn X.K G y _ from hy)
      cases op <;> simp only [binD, Option.some.injEq, reduceCtorEq] at hz
      split at hz
      · rename_i c; cases hz
        exact op_repR pins s σ H _ _ v u Q I rx ry ⟨a, k, vs, rfl, rfl, h1, c.1, c.2.1, by rw [h2.length]; exact c.2.2, fun p hp => q _ _ (.lst hp (h2.rep _))⟩
      · cases hz
    | _ => cases op <;> simp [binD] at hz
  | tuple ds =>
    have hx : Dn X.K G x (.tuple ds) := hx
    obtain ⟨a, vs, rfl, h1, h2⟩ := dn_tup hx
    cases e with
    | tuple es =>
      have hy : Dn X.K G y (.tuple es) := hy
      obtain ⟨b, ws, rfl, h3, h4⟩ := dn_tup hy
      cases op <;> simp only [binD, Option.some.injEq, reduceCtorEq] at hz
      split at hz
      · rename_i c; cases hz
        refine op_catA pins s σ H _ _ v u Q I rx ry ⟨a, b, vs, ws, rfl, rfl, Same.seqT sg h1, Same.seqT sg h3, by rw [h2.length, h4.length]; exact c, fun hv => ?_, fun _ hw => ?_, fun _ _ p hp => q _ _ (.tup hp (h2.append h4))⟩
        · subst hv
          cases h2
          exact q _ _ (.same (fun _ => rfl) hy)
        · subst hw
          cases h4
          refine q _ _ (.same (fun _ => rfl) ?_)
          rw [List.append_nil]; exact hx
      · cases hz
    | _ => cases op <;> simp [binD] at hz
  | _ => cases op <;> simp [binD] at hz
end Mp

/-! MiniPy, part D2: comparisons, truth, subscripts, slices, built-ins by values. -/
namespace Mp
open PySem PySem.Spec PyProof.Rows L2
variable {X : Cx}
/-! ### comparisons -/
theorem Dn.nonref {K : PySem.W.Frag} {G : Hp} {x : V} {d : D} (h : Dn K G x d) : (x = .non ↔ d = .none) := by
  cases h <;> simp
theorem flat_dn {K : PySem.W.Frag} {G : Hp} {x : V} {d : D} (h : Dn K G x d) (f : flatD d = true) : flatV x = true := by
  cases h <;> simp_all [flatD, flatV]
theorem eqV_dn {K : PySem.W.Frag} {G G' : Hp} {x y : V} {d e : D} (h : Dn K G x d) (h' : Dn K G' y e) (f : flatD d = true) (f' : flatD e = true) : eqV x y = PyData.eqv d e := by
  cases h <;> cases h' <;> simp_all [flatD, eqV, PyData.eqv]
theorem flats_dn {K : PySem.W.Frag} {G : Hp} : ∀ {ds : List D} {vs : List V}, DnAll K G vs ds → ds.all flatD = true → vs.all flatV = true
  | [], _, h, _ => by cases h; rfl
  | d :: ds, _, h, f => by
    cases h with
    | cons h1 h2 =>
      simp only [List.all_cons, Bool.and_eq_true] at f ⊢
      exact ⟨flat_dn h1 f.1, flats_dn h2 f.2⟩
theorem inV_dn {K : PySem.W.Frag} {G G' : Hp} {x : V} {d : D} (h : Dn K G x d) (f : flatD d = true) : ∀ {ds : List D} {vs : List V}, DnAll K G' vs ds → ds.all flatD = true → inV x vs = ds.any fun e => PyData.eqv e d
  | [], _, h', _ => by cases h'; rfl
  | e :: ds, _, h', g => by
    cases h' with
    | cons h1 h2 =>
      simp only [List.all_cons, Bool.and_eq_true] at g
      have ih := inV_dn (x := x) h f h2 g.2
      unfold inV at ih ⊢
      rw [List.any_cons, List.any_cons, ih, eqV_dn h1 h g.1 f]
theorem key_dn {K : PySem.W.Frag} {G : Hp} {x : V} {d : D} (h : Dn K G x d) (f : isKey d = true) : ∃ k : Key, x = kV k ∧ ((∃ i, d = .int i ∧ k = .inl i) ∨ ∃ s, d = .str s ∧ k = .inr s) := by
  cases h with
  | int i => exact ⟨.inl i, rfl, .inl ⟨i, rfl, rfl⟩⟩
  | str s => exact ⟨.inr s, rfl, .inr ⟨s, rfl, rfl⟩⟩
  | _ => simp [isKey] at f
def keyOf : D → Key
  | .int i => .inl i
  | .str s => .inr s
  | _ => .inl 0
theorem keyEq_iff {k : D} (f : isKey k = true) {x : D} (f' : isKey x = true) : keyEq x k = decide (keyOf x = keyOf k) := by
  cases k <;> cases x <;> simp_all [isKey, keyEq, keyOf]
theorem valV_dn {K : PySem.W.Frag} {G : Hp} {k : D} (f : isKey k = true) : ∀ {kds : List (D × D)} {kvs : List (Key × V)}, DnKV K G kvs kds → match dGet k kds with
    | some d => ∃ v, valV kvs (keyOf k) = some v ∧ Dn K G v d
    | none => valV kvs (keyOf k) = none
  | [], _, h => by cases h; rfl
  | (x, d) :: kds, _, h => by
    cases h with
    | int h1 h2 =>
      rename_i i v kvs
      have ih := valV_dn f h2
      unfold dGet
      by_cases e : keyEq (.int i) k = true
      · rw [if_pos e]
        rw [keyEq_iff f rfl] at e
        exact ⟨v, valV_pos (of_decide_eq_true e), h1⟩
      · rw [if_neg e]
        rw [keyEq_iff f rfl] at e
        rw [valV_neg (show ¬ (Sum.inl i : Key) = keyOf k from fun z => e (decide_eq_true z))]
        exact ih
    | str h1 h2 =>
      rename_i i v kvs
      have ih := valV_dn f h2
      unfold dGet
      by_cases e : keyEq (.str i) k = true
      · rw [if_pos e]
        rw [keyEq_iff f rfl] at e
        exact ⟨v, valV_pos (of_decide_eq_true e), h1⟩
      · rw [if_neg e]
        rw [keyEq_iff f rfl] at e
        rw [valV_neg (show ¬ (Sum.inr i : Key) = keyOf k from fun z => e (decide_eq_true z))]
        exact ih
def rC (K : PySem.W.Frag) (op : CmpOp) : R2 := fun x y H Q => ∃ (d e : D) (z : Bool), Dn K H x d ∧ Dn K H y e ∧ cmpD op d e = some z ∧ Q (.bl z) H
theorem op_eqX (hu : X.A.units + 64 < cLine) : OpR X (compareOp .Eq) (rC X.K .Eq) := by
  intro pins s σ H x y v u Q I rx ry h
  obtain ⟨d, e, z, hx, hy, hz, q⟩ := h
  have hz : eqD d e = some z := hz
  have gen : ∀ w, SeqAt.shaped d = true → SeqAt.shaped e = true → PyData.eqv d e = w → Q (.bl w) H → wpAny (model X.prog X.w) X.A (compareOp .Eq v u) (EP X pins σ Q) X.xe s := fun w h1 h2 h3 h4 =>
    op_eqD hu pins s σ H x y v u Q I rx ry ⟨d, e, Dn.dp _ hx (SeqAt.canLay_of_shaped h1), Dn.dp _ hy (SeqAt.canLay_of_shaped h2), h1, h2, by rw [h3]; exact h4⟩
  unfold eqD at hz
  split at hz
  · cases hz; cases hx; cases hy
    refine op_eq pins s σ H _ _ v u Q I rx ry ⟨rfl, ?_⟩
    rw [dec_int, Bool.beq_eq_decide_eq]; exact q
  · cases hz; cases hx; cases hy
    refine op_eq pins s σ H _ _ v u Q I rx ry ⟨rfl, ?_⟩
    rw [dec_str, Bool.beq_eq_decide_eq]; exact q
  · cases hz; cases hx; cases hy
    refine op_eq pins s σ H _ _ v u Q I rx ry ⟨rfl, ?_⟩
    rw [dec_bl, Bool.beq_eq_decide_eq]; exact q
  · split at hz
    · rename_i c
      simp only [Bool.and_eq_true] at c
      cases hz
      exact gen _ c.1 c.2 rfl q
    · cases hz
theorem op_neX (hu : X.A.units + 64 < cLine) : OpR X (compareOp .NotEq) (rC X.K .NotEq) := by
  intro pins s σ H x y v u Q I rx ry h
  obtain ⟨d, e, z, hx, hy, hz, q⟩ := h
  have hz0 : (eqD d e).map (!·) = some z := hz
  clear hz
  obtain ⟨z', hz, rfl⟩ := Option.map_eq_some_iff.mp hz0
  clear hz0
  have gen : ∀ w, SeqAt.shaped d = true → SeqAt.shaped e = true → PyData.eqv d e = w → Q (.bl (!w)) H → wpAny (model X.prog X.w) X.A (compareOp .NotEq v u) (EP X pins σ Q) X.xe s := fun w h1 h2 h3 h4 =>
    op_neD hu pins s σ H x y v u Q I rx ry ⟨d, e, Dn.dp _ hx (SeqAt.canLay_of_shaped h1), Dn.dp _ hy (SeqAt.canLay_of_shaped h2), h1, h2, by rw [h3]; exact h4⟩
  unfold eqD at hz
  split at hz
  · cases hz; cases hx; cases hy
    refine op_ne pins s σ H _ _ v u Q I rx ry ⟨rfl, ?_⟩
    rw [dec_int, Bool.beq_eq_decide_eq]; exact q
  · cases hz; cases hx; cases hy
    refine op_ne pins s σ H _ _ v u Q I rx ry ⟨rfl, ?_⟩
    rw [dec_str, Bool.beq_eq_decide_eq]; exact q
  · cases hz; cases hx; cases hy
    refine op_ne pins s σ H _ _ v u Q I rx ry ⟨rfl, ?_⟩
    rw [dec_bl, Bool.beq_eq_decide_eq]; exact q
  · split at hz
    · rename_i c
      simp only [Bool.and_eq_true] at c
      cases hz
      exact gen _ c.1 c.2 rfl q
    · cases hz
theorem op_inX (hu : X.A.units + 1 < cLine) (neg : Bool) {op : CmpOp} (hop : op = if neg then .NotIn else .In) : OpR X (compareOp op) (fun x y H Q => ∃ (d e : D) (z : Bool), Dn X.K H x d ∧ Dn X.K H y e ∧ inD d e = some z ∧ Q (.bl (if neg then !z else z)) H) := by
  intro pins s σ H x y v u Q I rx ry h
  obtain ⟨d, e, z, hx, hy, hz, q⟩ := h
  cases e with
  | list ds =>
    simp only [inD] at hz
    split at hz
    · rename_i c
      simp only [Bool.and_eq_true] at c
      cases hz
      cases hy with
      | lst h1 h2 =>
        have e1 := inV_dn hx c.1 h2 c.2
        have hr : (rIn X.K neg) x (.ref _) H Q := ⟨_, _, rfl, .inl h1.sq, flat_dn hx c.1, flats_dn h2 c.2, by rw [e1]; exact q⟩
        cases neg with
        | true => subst hop; exact op_notIn_seq pins s σ H _ _ v u Q I rx ry hr
        | false => subst hop; exact op_in_seq pins s σ H _ _ v u Q I rx ry hr
    · cases hz
  | tuple ds =>
    simp only [inD] at hz
    split at hz
    · rename_i c
      simp only [Bool.and_eq_true] at c
      cases hz
      cases hy with
      | tup h1 h2 =>
        have e1 := inV_dn hx c.1 h2 c.2
        have hr : (rIn X.K neg) x (.ref _) H Q := ⟨_, _, rfl, .inr h1, flat_dn hx c.1, flats_dn h2 c.2, by rw [e1]; exact q⟩
        cases neg with
        | true => subst hop; exact op_notIn_seq pins s σ H _ _ v u Q I rx ry hr
        | false => subst hop; exact op_in_seq pins s σ H _ _ v u Q I rx ry hr
    · cases hz
  | dict kds =>
    simp only [inD] at hz
    split at hz
    · rename_i c
      cases hz
      cases hy with
      | @dct a kvs _ h1 h2 =>
        cases (show u = Value.ref _ from ry)
        obtain ⟨k, ek, hk⟩ := key_dn hx c
        have ek' : k = keyOf d := by rcases hk with ⟨i, rfl, rfl⟩ | ⟨i, rfl, rfl⟩ <;> rfl
        subst ek ek'
        have hv := valV_dn c h2
        have hs : (valV kvs (keyOf d)).isSome = (dGet d kds).isSome := by
          cases e2 : dGet d kds with
          | none => rw [e2] at hv; rw [hv]; rfl
          | some w => rw [e2] at hv; obtain ⟨v', h3, _⟩ := hv; rw [h3]; rfl
        have g : DGet H a (kV (keyOf d)) (valV kvs (keyOf d)) := .inl ⟨_, _, h1, rfl, rfl⟩
        cases neg with
        | true => subst hop; exact d_notIn hu I g rx fun s' I' => ⟨.bl _, H, I', rfl, by rw [hs]; exact q⟩
        | false => subst hop; exact d_in hu I g rx fun s' I' => ⟨.bl _, H, I', rfl, by rw [hs]; exact q⟩
    · cases hz
  | str b =>
    cases d with
    | str a =>
      simp only [inD] at hz
      cases hz; cases hx; cases hy
      cases neg with
      | true => subst hop; exact op_notin_str pins s σ H _ _ v u Q I rx ry ⟨a, b, rfl, rfl, q⟩
      | false => subst hop; exact op_in_str pins s σ H _ _ v u Q I rx ry ⟨a, b, rfl, rfl, q⟩
    | _ => simp [inD] at hz
  | _ => simp [inD] at hz
theorem op_cmp (hu : X.A.units + 64 < cLine) (op : CmpOp) : OpR X (compareOp op) (rC X.K op) := by
  cases op with
  | Eq => exact op_eqX hu
  | NotEq => exact op_neX hu
  | Lt =>
    intro pins s σ H x y v u Q I rx ry h
    obtain ⟨d, e, z, hx, hy, hz, q⟩ := h
    simp only [cmpD] at hz
    split at hz
    · cases hz; cases hx; cases hy
      exact op_lt pins s σ H _ _ v u Q I rx ry ⟨_, _, rfl, rfl, q⟩
    · cases hz; cases hx; cases hy
      exact op_lt_str pins s σ H _ _ v u Q I rx ry ⟨_, _, rfl, rfl, q⟩
    · cases hz
  | LtE =>
    intro pins s σ H x y v u Q I rx ry h
    obtain ⟨d, e, z, hx, hy, hz, q⟩ := h
    simp only [cmpD] at hz
    split at hz
    · cases hz; cases hx; cases hy
      exact op_le pins s σ H _ _ v u Q I rx ry ⟨_, _, rfl, rfl, q⟩
    · cases hz
  | Gt =>
    intro pins s σ H x y v u Q I rx ry h
    obtain ⟨d, e, z, hx, hy, hz, q⟩ := h
    simp only [cmpD] at hz
    split at hz
    · cases hz; cases hx; cases hy
      exact op_gt pins s σ H _ _ v u Q I rx ry ⟨_, _, rfl, rfl, q⟩
    · cases hz
  | GtE =>
    intro pins s σ H x y v u Q I rx ry h
    obtain ⟨d, e, z, hx, hy, hz, q⟩ := h
    simp only [cmpD] at hz
    split at hz
    · cases hz; cases hx; cases hy
      exact op_ge pins s σ H _ _ v u Q I rx ry ⟨_, _, rfl, rfl, q⟩
    · cases hz
  | Is =>
    intro pins s σ H x y v u Q I rx ry h
    obtain ⟨d, e, z, hx, hy, hz, q⟩ := h
    simp only [cmpD] at hz
    split at hz
    · rename_i c
      cases hz
      have ey : y = .non := by cases hy <;> simp_all [isNone]
      subst ey
      refine op_isN pins s σ H _ _ v u Q I rx ry ⟨rfl, ?_⟩
      have e1 : decide (x = V.non) = isNone d := by cases hx <;> simp [isNone]
      rw [e1]; exact q
    · cases hz
  | IsNot =>
    intro pins s σ H x y v u Q I rx ry h
    obtain ⟨d, e, z, hx, hy, hz, q⟩ := h
    simp only [cmpD] at hz
    split at hz
    · rename_i c
      cases hz
      have ey : y = .non := by cases hy <;> simp_all [isNone]
      subst ey
      refine op_notN pins s σ H _ _ v u Q I rx ry ⟨rfl, ?_⟩
      have e1 : decide (x = V.non) = isNone d := by cases hx <;> simp [isNone]
      rw [e1]; exact q
    · cases hz
  | In =>
    intro pins s σ H x y v u Q I rx ry h
    obtain ⟨d, e, z, hx, hy, hz, q⟩ := h
    exact op_inX (by omega) false rfl pins s σ H x y v u Q I rx ry ⟨d, e, z, hx, hy, hz, q⟩
  | NotIn =>
    intro pins s σ H x y v u Q I rx ry h
    obtain ⟨d, e, z, hx, hy, hz, q⟩ := h
    have hz0 : (inD d e).map (!·) = some z := hz
    clear hz
    obtain ⟨z', hz, rfl⟩ := Option.map_eq_some_iff.mp hz0
    clear hz0
    exact op_inX (by omega) true rfl pins s σ H x y v u Q I rx ry ⟨d, e, z', hx, hy, hz, q⟩
/-! ### truth -/
theorem truV_of {K : PySem.W.Frag} {H : Hp} {x : V} {d : D} {z : Bool} (h : Dn K H x d) (e : truD d = some z) (hd : ∀ kds, d ≠ .dict kds) : TruV K x H z := by
  cases h with
  | non => simp only [truD, Option.some.injEq] at e; exact e.symm
  | bl b => simp only [truD, Option.some.injEq] at e; exact e.symm
  | int i => simp only [truD, Option.some.injEq] at e; exact e.symm
  | str x =>
    simp only [truD] at e
    split at e
    · rename_i c; exact ⟨c, (Option.some.inj e).symm⟩
    · cases e
  | lst h1 h2 =>
    simp only [truD, Option.some.injEq] at e
    refine .inl ⟨_, h1.sq, ?_⟩
    rw [← e]; cases h2 <;> rfl
  | tup h1 h2 =>
    simp only [truD, Option.some.injEq] at e
    refine .inr (.inl ⟨_, h1, ?_⟩)
    rw [← e]; cases h2 <;> rfl
  | dct h1 h2 => exact absurd rfl (hd _)
theorem tru_okD : TruR X (fun x H Q => ∃ d z, Dn X.K H x d ∧ truD d = some z ∧ Q z H) := by
  intro pins s σ H x v Q I rx h
  obtain ⟨d, z, hx, hz, q⟩ := h
  by_cases hd : ∃ kds, d = .dict kds
  · obtain ⟨kds, rfl⟩ := hd
    cases hx with
    | @dct a kvs _ h1 h2 =>
      cases (show v = Value.ref _ from rx)
      simp only [truD, Option.some.injEq] at hz
      refine d_truth I h1 fun s' I' => ⟨H, I', ?_⟩
      have e : (!List.isEmpty kvs) = z := by rw [← hz]; cases h2 <;> rfl
      rw [e]; exact q
  · exact tru_ok pins s σ H x v Q I rx ⟨z, truV_of hx hz fun kds e => hd ⟨kds, e⟩, q⟩
theorem pt_truthD {a : Expr} {ta : TE} (ha : PE X a ta) (he : ∀ whole, isTrue a X.env whole = (do let v ← whole; standAt a.pos; holding [v] (truthy v))) :
    PT X a (fun σ H Q => ta σ H fun x H' => ∃ d z, Dn X.K H' x d ∧ truD d = some z ∧ Q z H') := by
  refine ⟨fun pins s σ H Q I h => ?_⟩
  exact isTrue_plain (thn (ha.run pins s σ H _ I h) fun v s1 ⟨x, H1, I1, r1, q1⟩ => tru_okD pins s1 σ H1 x v Q I1 r1 q1) (he _)
/-! ### subscripts -/
theorem atI_dn {K : PySem.W.Frag} {G : Hp} {vs : List V} {ds : List D} (h : DnAll K G vs ds) {i : Int} {d : D} (e : atI ds i = some d) : ∃ v, atI vs i = some v ∧ Dn K G v d := by
  unfold atI at e ⊢
  rw [h.length]
  cases hn : ixN ds.length i with
  | none => rw [hn] at e; cases e
  | some j =>
    rw [hn] at e
    obtain ⟨v, h1, h2⟩ := h.get (i := j) e
    exact ⟨v, h1, h2⟩
/-- an item, by values -/
def rIxD (K : PySem.W.Frag) : R2 := fun x y H Q => ∃ (G : Hp) (d e z : D), Same G H ∧ ElCl K G H x d ∧ Dn K H y e ∧ subD d e = some z ∧ ∀ v, Dn K G v z → Q v H
theorem ix_D (hu : X.A.units + 1 < cLine) : IxR X (rIxD X.K) := by
  intro value slice pins s σ H x y v u Q I rx ry h hs
  obtain ⟨G, d, e, z, sg, hx, hy, hz, q⟩ := h
  cases d with
  | list ds =>
    obtain ⟨a, vs, rfl, h1, h2⟩ := hx
    cases e with
    | int i =>
      cases hy
      obtain ⟨w, h3, h4⟩ := atI_dn h2 (show atI ds i = some z from hz)
      exact ix_seq value slice pins s σ H _ _ v u Q I rx ry (.inl ⟨a, vs, i, w, rfl, rfl, h1.sq, h3, q w h4⟩) hs
    | _ => simp [subD] at hz
  | tuple ds =>
    obtain ⟨a, vs, rfl, h1, h2⟩ := dn_tup (show Dn X.K G x (.tuple ds) from hx)
    cases e with
    | int i =>
      cases hy
      obtain ⟨w, h3, h4⟩ := atI_dn h2 (show atI ds i = some z from hz)
      exact ix_seq value slice pins s σ H _ _ v u Q I rx ry (.inr (.inl ⟨a, vs, i, w, rfl, rfl, Same.seqT sg h1, h3, q w h4⟩)) hs
    | _ => simp [subD] at hz
  | str t =>
    obtain rfl := dn_str (show Dn X.K G x _ from hx)
    cases e with
    | int i =>
      cases hy
      simp only [subD] at hz
      split at hz
      · rename_i c
        obtain ⟨w, h3, h4⟩ := Option.map_eq_some_iff.mp hz
        subst h4
        exact ix_seq value slice pins s σ H _ _ v u Q I rx ry (.inr (.inr ⟨t, i, w, rfl, rfl, c, h3, q _ (.str _)⟩)) hs
      · cases hz
    | _ => simp [subD] at hz
  | dict kds =>
    obtain ⟨a, kvs, rfl, h1, h2⟩ := hx
    simp only [subD] at hz
    split at hz
    · rename_i c
      cases (show v = Value.ref _ from rx)
      obtain ⟨k, ek, hk⟩ := key_dn hy c
      have ek' : k = keyOf e := by rcases hk with ⟨i, rfl, rfl⟩ | ⟨i, rfl, rfl⟩ <;> rfl
      subst ek ek'
      have hv := valV_dn c h2
      rw [hz] at hv
      obtain ⟨w, h3, h4⟩ := hv
      have g : DGet H a (kV (keyOf e)) (some w) := .inl ⟨_, _, h1, rfl, h3.symm⟩
      exact tail_any (dict_typeIs I g) PySem.F.slot_dict_getitem.lookup (d_getItem hu I g ry fun w' s' I' r' => ⟨w, H, I', r', q w h4⟩) hs
    · cases hz
  | _ => simp [subD] at hz
/-! ### slices -/
theorem DnAll.cut {K : PySem.W.Frag} {G : Hp} {vs : List V} {ds : List D} (h : DnAll K G vs ds) (lo hi : Option Int) : DnAll K G (cutV vs lo hi) (cutD ds lo hi) := by
  unfold cutV cutD
  rw [h.length]
  exact (h.drop _).take _
def rSlD (K : PySem.W.Frag) : V → Option Int → Option Int → Hp → VK → Prop := fun x lo hi H Q => ∃ (G : Hp) (d z : D), Same G H ∧ ElCl K G H x d ∧ sliD d lo hi = some z ∧ ∀ v H', Res K true G H z v H' → Q v H'
theorem sl_D : SlR X (rSlD X.K) := by
  intro pins s σ H x v vl vu lo hi sl Q I rx hs pl pu h
  obtain ⟨G, d, z, sg, hx, hz, q⟩ := h
  cases d with
  | list ds =>
    obtain ⟨a, vs, rfl, h1, h2⟩ := hx
    cases hz
    exact sl_list pins s σ H _ v vl vu lo hi sl Q I rx hs pl pu ⟨a, vs, rfl, h1.sq, fun p hp => q _ _ (.lst hp (h2.cut lo hi))⟩
  | tuple ds =>
    have hx : Dn X.K G x (.tuple ds) := hx
    obtain ⟨a, vs, rfl, h1, h2⟩ := dn_tup hx
    cases hz
    refine sl_tupA pins s σ H _ v vl vu lo hi sl Q I rx hs pl pu ⟨a, vs, rfl, Same.seqT sg h1, fun c => ?_, fun c p hp => q _ _ (.tup hp (h2.cut lo hi))⟩
    refine q _ _ (.same (fun _ => rfl) ?_)
    have e : cutD ds lo hi = ds := by
      unfold cutD
      rw [← h2.length, c.1, c.2]
      simp [h2.length]
    rw [e]; exact hx
  | str t =>
    obtain rfl := dn_str (show Dn X.K G x _ from hx)
    simp only [sliD] at hz
    split at hz
    · rename_i c
      cases hz
      exact sl_str pins s σ H _ v vl vu lo hi sl Q I rx hs pl pu ⟨t, rfl, c, q _ _ (.same (fun _ => rfl) (.str _))⟩
    · cases hz
  | _ => simp [sliD] at hz
end Mp

/-! MiniPy, part D3: reversed slices, built-ins, isinstance by values. -/
namespace HT
open PySem PySem.W PySem.Calls PyProof.Rows
section
variable {prog : Program} {w : World} {A : Around} {E : Value → Shared → Prop} {s : Shared}
theorem sliceApplied_rev {sl : Addr} {vl vu vs : Value} {n : Nat} {Q : Int × Int × Nat → Shared → Prop} (hs : s.heap.IsSliceOf sl vl vu vs) (pl : IsPart vl none) (pu : IsPart vu none) (pst : IsPart vs (some (-1)))
    (h : Q ((n : Int) - 1, -1, n) s) : wpAny (model prog w) A (Builtin.Slice.sliceApplied (.ref sl) (pure (n : Int))) Q E s := by
  obtain ⟨os, hos, hcs, hds⟩ := id hs
  unfold Builtin.Slice.sliceApplied Builtin.Slice.sliceFields
  refine wpAny_bind (wpAny_bind (wpAny_field hos hds (x := vl) rfl (wpAny_bind (wpAny_field hos hds (x := vu) rfl (wpAny_bind (wpAny_field hos hds (x := vs) rfl (wpAny_pure ?_)))))))
  refine wpAny_bind (slicePart_ pst ?_)
  show wpAny _ _ (if ((-1 : Int) == 0) = true then _ else _) _ _ s
  rw [if_neg (by decide)]
  refine wpAny_bind (slicePart_ pl (wpAny_bind (slicePart_ pu (wpAny_bind (wpAny_pure ?_)))))
  show wpAny _ _ (match Builtin.Slice.sliceAdjust none none (-1) (n : Int) with | (lo, hi) => pure (lo, (-1 : Int), Builtin.Slice.slicePlaces lo hi (-1))) _ _ s
  have e1 : Builtin.Slice.sliceAdjust none none (-1) (n : Int) = ((n : Int) - 1, -1) := by first | rfl | simp [Builtin.Slice.sliceAdjust]
  rw [e1]
  show wpAny _ _ (pure ((n : Int) - 1, (-1 : Int), Builtin.Slice.slicePlaces ((n : Int) - 1) (-1) (-1))) _ _ s
  have e2 : Builtin.Slice.slicePlaces ((n : Int) - 1) (-1) (-1) = n := by
    unfold Builtin.Slice.slicePlaces
    simp only [show ¬ ((-1 : Int) > 0) by omega, if_false, show (- -1 : Int) = 1 by decide, Int.ediv_one]
    split <;> omega
  rw [e2]
  exact wpAny_pure h
theorem pick_rev (xs : Array Value) : ((List.range xs.size).filterMap fun (m : Nat) => xs[((xs.size : Int) - 1 + (m : Int) * -1).toNat]?).toArray = xs.toList.reverse.toArray := by
  have h1 := PySem.W.krv_range xs.size
  have h2 := PySem.W.krv_all xs
  have e : (List.range xs.size).filterMap (fun (m : Nat) => xs[((xs.size : Int) - 1 + (m : Int) * -1).toNat]?) = ((List.range xs.size).map fun k => xs.size - 1 - k).filterMap (xs[·]?) := by
    rw [List.filterMap_map]
    have key : ∀ l : List Nat, (∀ m ∈ l, m < xs.size) → l.filterMap (fun (m : Nat) => xs[((xs.size : Int) - 1 + (m : Int) * -1).toNat]?) = l.filterMap ((xs[·]?) ∘ fun k => xs.size - 1 - k) := by
      intro l
      induction l with
      | nil => intro _; rfl
      | cons m l ih =>
        intro h
        have hm := h m (by simp)
        have e : ((xs.size : Int) - 1 + (m : Int) * -1).toNat = xs.size - 1 - m := by omega
        rw [List.filterMap_cons, List.filterMap_cons, ih fun k hk => h k (List.mem_cons_of_mem _ hk), e]
        rfl
    exact key _ fun m hm => List.mem_range.mp hm
  rw [e, h1, List.filterMap_reverse, h2]
theorem getItem_tuple_rev {t sl : Addr} {items : Array Value} {vl vu vs : Value} {Q : Value → Shared → Prop} (ht : IsTup s.heap t items) (hs : s.heap.IsSliceOf sl vl vu vs) (pl : IsPart vl none) (pu : IsPart vu none) (pst : IsPart vs (some (-1)))
    (h : Q (.ref s.heap.objs.size) { s with heap := s.heap.push { cls := .type "tuple", data := .seq items.toList.reverse.toArray } })
    (hsz : items.size ≤ sizeLine) : wpAny (model prog w) A (getItem (.ref t) (.ref sl)) Q E s := by
  have htake : sizeOk (.seq items.toList.reverse.toArray) := by
    show items.toList.reverse.toArray.size ≤ sizeLine
    rw [List.size_toArray, List.length_reverse, Array.length_toList]
    exact hsz
  obtain ⟨os, hos, hcs, hds⟩ := id hs
  have hTs : s.TypeIs (.ref sl) "slice" := ⟨os, hos, hcs⟩
  unfold getItem
  try with_reducible refine wpAny_holding ?_
  first | refine wpAny_bind (wpAny_pure ?_) | skip
  refine wpAny_bind (wpAny_sequenceKey ht.typeIs (by decide) ?_)
  refine wpAny_bind (wpAny_callSpecial?_slot (name := Str.ofString "__getitem__") ht.typeIs PyProof.Rows.slot_tuple_getitem
    (wpAny_call_entry PyProof.Rows.slot_tuple_getitem ht.typeIs entry_tuple_getitem ?_ (args_tuple_getitem _ _)))
  show wpAny _ _ (Builtin.Tuple.tupleItemsOf (.ref t) >>= _) _ _ s
  refine wpAny_bind (tupleItemsOf_ ht ?_)
  refine wpAny_bind (wpAny_typeOf hTs ?_)
  rw [if_pos (by decide)]
  refine wpAny_bind (sliceApplied_rev hs pl pu pst ?_)
  have hno : ¬ (((items.size : Int) - 1 == 0 && (-1 : Int) == 1 && items.size == items.size) = true) := by
    intro q
    rw [Bool.and_eq_true, Bool.and_eq_true] at q
    have q1 : (-1 : Int) = 1 := eq_of_beq q.1.2
    omega
  show wpAny _ _ (if ((items.size : Int) - 1 == 0 && (-1 : Int) == 1 && items.size == items.size) = true then _ else _) _ _ s
  rw [if_neg hno, pick_rev]
  first
    | exact wpAny_bind (m := Builtin.Tuple.tupleExact _) (wpAny_newObj_type (wpAny_pure ⟨_, rfl, wpAny_pure h⟩) htake)
    | exact wpAny_bind (m := Builtin.Tuple.tupleExact _) (wpAny_newObj_type (wpAny_bind (wpAny_pure (wpAny_pure ⟨_, rfl, wpAny_pure h⟩))) htake)
    | exact wpAny_bind (wpAny_bind (m := Builtin.Tuple.tupleExact _) (wpAny_newObj_type (wpAny_pure (wpAny_pure ⟨_, rfl, wpAny_pure h⟩)) htake))
    | exact wpAny_bind (wpAny_bind (m := Builtin.Tuple.tupleExact _) (wpAny_newObj_type (wpAny_pure ⟨_, rfl, wpAny_pure h⟩) htake))
end
end HT
namespace Mp
open PySem PySem.Spec PyProof.Rows L2
variable {X : Cx}
def tRevA (K : PySem.W.Frag) (te : TE) : TE := fun σ H Q => te σ H fun x H1 => ∃ a xs, x = .ref a ∧
  ((SqL K H1 a xs ∧ ∀ p, H1 p = none → Q (.ref p) (upd H1 p (.lst xs.reverse))) ∨ (SqT K H1 a xs ∧ ∀ p, H1 p = none → Q (.ref p) (upd H1 p (.tup xs.reverse))))
theorem pe_revA {e : Expr} {te : TE} {k : Nat} {p1 p2 p3 pos : Pos} (he : PE X e te) : PE X (.Subscript e (.Slice none none (some (.UnaryOp .USub (.Constant (.int 1) k p1) p2)) p3) pos) (tRevA X.K te) := by
  refine ⟨fun pins s σ H Q I h => ?_⟩
  refine Subscript_ (thn (he.run pins s σ H _ I h) fun v s1 ⟨x, H1, I1, r1, q1⟩ => ?_)
  obtain ⟨a, xs, ex, q⟩ := q1
  subst ex
  cases r1
  have hst : PO X (some (.UnaryOp .USub (.Constant (.int 1) k p1) p2)) (tPart (tUn (rU fun i => .int (-i)) (tC (.int 1)))) := po_some (pe_un un_neg pe_int)
  refine wpAny_Slice (thn (po_none.run pins s1 σ H1 (fun o H2 => o = none ∧ H2 = H1) I1 ⟨rfl, rfl⟩) fun vl s2 ⟨l, H2, I2, pl, el, e2⟩ => ?_)
  subst el e2
  refine thn (po_none.run pins s2 σ H2 (fun o H3 => o = none ∧ H3 = H2) I2 ⟨rfl, rfl⟩) fun vu s3 ⟨u, H3, I3, pu, eu, e3⟩ => ?_
  subst eu e3
  refine thn (hst.run pins s3 σ H3 (fun o H4 => o = some (-1) ∧ H4 = H3) I3 ⟨1, rfl, -1, rfl, rfl, rfl⟩) fun vs s4 ⟨o, H4, I4, ps, eo, e4⟩ => ?_
  subst eo e4
  have I5 : Inv X pins σ H4 { s4 with heap := s4.heap.push { cls := .type "slice", data := .fields #[vl, vu, vs] } } := I4.kept (t' := s4.toks) fun b ob q => Heap.get?_push_of_some _ q
  show wpAny (model X.prog X.w) X.A (subscriptTail e (.Slice none none (some (.UnaryOp .USub (.Constant (.int 1) k p1) p2)) p3) (.ref a) (.ref s4.heap.objs.size)) (EP X pins σ Q) X.xe { s4 with heap := s4.heap.push { cls := .type "slice", data := .fields #[vl, vu, vs] } }
  rcases q with ⟨hx, q⟩ | ⟨hx, q⟩
  · obtain ⟨its, r, ht, hz⟩ := I5.list hx
    have hlen := r.length
    refine tail_any (ops := [.ref a, .ref s4.heap.objs.size]) ht.isList.typeIs (PySem.slot_list_getitem.lookup) ?_ (by with_unfolding_all rfl)
    refine wpAny_getItem_list_slice ht.isList (Heap.IsSliceOf.new _ vl vu vs) pl pu ps (by decide) ?_ (by rw [List.size_toArray]; omega)
    rw [PySem.W.krv_pick]
    refine ⟨.ref _, _, I5.laid (t' := s4.toks) (o := .lst xs.reverse) (fun b ob q => Heap.get?_push_of_some _ q) (Nat.le_refl _) ?_, rfl, q _ (I5.hok.fresh (Nat.le_refl _))⟩
    exact ⟨by rw [List.length_reverse]; exact hz, _, 0, r.reverse, Heap.get?_push_size _ rfl⟩
  · obtain ⟨its, r, ht, hz⟩ := I5.tuple hx
    have hlen := r.length
    refine tail_any (ops := [.ref a, .ref s4.heap.objs.size]) ht.typeIs (PyProof.Rows.slot_tuple_getitem.lookup) ?_ (by with_unfolding_all rfl)
    refine HT.getItem_tuple_rev ht (Heap.IsSliceOf.new _ vl vu vs) pl pu ps ?_ (by rw [List.size_toArray]; omega)
    refine ⟨.ref _, _, I5.laid (t' := s4.toks) (o := .tup xs.reverse) (fun b ob q => Heap.get?_push_of_some _ q) (Nat.le_refl _) ?_, rfl, q _ (I5.hok.fresh (Nat.le_refl _))⟩
    exact ⟨by rw [List.length_reverse]; exact hz, _, r.reverse, ⟨_, Heap.get?_push_size _ rfl, rfl, 0, rfl⟩⟩
/-! ### built-ins -/
/-- a call of a built-in, by data: f where a list is always new -/
def rBi (K : PySem.W.Frag) (f : Bi) : List V → Hp → VK → Prop := fun vs H Q => ∃ (G : Hp) (ds : List D) (z : D), Same G H ∧ vs.length = ds.length ∧ (∀ (i : Nat) (v : V) (d : D), vs[i]? = some v → ds[i]? = some d → ElCl K G H v d) ∧ biD f ds = some z ∧ ∀ v H', Res K (f == .list) G H z v H' → Q v H'
theorem one_of {K : PySem.W.Frag} {G H : Hp} {vs : List V} {d : D} (hl : vs.length = [d].length) (h : ∀ (i : Nat) (v : V) (e : D), vs[i]? = some v → [d][i]? = some e → ElCl K G H v e) : ∃ v, vs = [v] ∧ ElCl K G H v d := by
  match vs, hl with
  | [v], _ => exact ⟨v, rfl, h 0 v d rfl rfl⟩
theorem two_of {K : PySem.W.Frag} {G H : Hp} {vs : List V} {d d' : D} (hl : vs.length = [d, d'].length) (h : ∀ (i : Nat) (v : V) (e : D), vs[i]? = some v → [d, d'][i]? = some e → ElCl K G H v e) : ∃ v v', vs = [v, v'] ∧ ElCl K G H v d ∧ ElCl K G H v' d' := by
  match vs, hl with
  | [v, v'], _ => exact ⟨v, v', rfl, h 0 v d rfl rfl, h 1 v' d' rfl rfl⟩
theorem intsOf_eq : ∀ {ds : List D} {is : List Int}, intsOf ds = some is → ds = is.map PyData.int
  | [], _, h => by cases h; rfl
  | d :: ds, is, h => by
    cases d with
    | int i =>
      obtain ⟨js, h1, h2⟩ := Option.map_eq_some_iff.mp (show (intsOf ds).map (i :: ·) = some is from h)
      subst h2
      rw [intsOf_eq h1]; rfl
    | _ => simp [intsOf] at h
theorem boolsOf_eq : ∀ {ds : List D} {is : List Bool}, boolsOf ds = some is → ds = is.map PyData.bool
  | [], _, h => by cases h; rfl
  | d :: ds, is, h => by
    cases d with
    | bool i =>
      obtain ⟨js, h1, h2⟩ := Option.map_eq_some_iff.mp (show (boolsOf ds).map (i :: ·) = some is from h)
      subst h2
      rw [boolsOf_eq h1]; rfl
    | _ => simp [boolsOf] at h
theorem DnAll.bls {K : PySem.W.Frag} {H : Hp} {vs : List V} : ∀ {ns : List Bool}, DnAll K H vs (ns.map PyData.bool) → vs = ns.map V.bl := by
  induction vs with
  | nil => intro ns h; cases ns with | nil => rfl | cons _ _ => cases h
  | cons v vs ih =>
    intro ns h
    cases ns with
    | nil => cases h
    | cons n ns => cases h with | cons h1 h2 => cases h1; rw [ih h2]; rfl
theorem DnKV.length {K : PySem.W.Frag} {H : Hp} : ∀ {kvs : List (Key × V)} {kds : List (D × D)}, DnKV K H kvs kds → kvs.length = kds.length
  | _, _, .nil => rfl
  | _, _, .int _ h => by simp [DnKV.length h]
  | _, _, .str _ h => by simp [DnKV.length h]
theorem foldl_max_mem : ∀ (is : List Int) (i m : Int), m ∈ i :: is → (∀ y, y ∈ i :: is → y ≤ m) → is.foldl max i = m
  | [], i, m, hm, _ => (List.mem_singleton.mp hm).symm
  | j :: js, i, m, hm, h => by
    show js.foldl max (max i j) = m
    refine foldl_max_mem js (max i j) m ?_ fun y hy => ?_
    · have hi := h i (by simp)
      have hj := h j (by simp)
      rcases List.mem_cons.mp hm with rfl | hm
      · simp [Int.max_eq_left hj]
      · rcases List.mem_cons.mp hm with rfl | hm
        · simp [Int.max_eq_right hi]
        · exact List.mem_cons_of_mem _ hm
    · rcases List.mem_cons.mp hy with rfl | hy
      · exact Int.max_le.mpr ⟨h i (by simp), h j (by simp)⟩
      · exact h y (by simp [hy])
theorem foldl_min_mem : ∀ (is : List Int) (i m : Int), m ∈ i :: is → (∀ y, y ∈ i :: is → m ≤ y) → is.foldl min i = m
  | [], i, m, hm, _ => (List.mem_singleton.mp hm).symm
  | j :: js, i, m, hm, h => by
    show js.foldl min (min i j) = m
    refine foldl_min_mem js (min i j) m ?_ fun y hy => ?_
    · have hi := h i (by simp)
      have hj := h j (by simp)
      rcases List.mem_cons.mp hm with rfl | hm
      · simp [Int.min_eq_left hj]
      · rcases List.mem_cons.mp hm with rfl | hm
        · simp [Int.min_eq_right hi]
        · exact List.mem_cons_of_mem _ hm
    · rcases List.mem_cons.mp hy with rfl | hy
      · exact Int.le_min.mpr ⟨h i (by simp), h j (by simp)⟩
      · exact h y (by simp [hy])
def Bi.val : Bi → Value
  | .len => .builtin "len"
  | .int => .type "int"
  | .abs => .builtin "abs"
  | .max => .builtin "max"
  | .min => .builtin "min"
  | .tuple => .type "tuple"
  | .list => .type "list"
  | .sum => .builtin "sum"
  | .any => .builtin "any"
  | .all => .builtin "all"
  | .str => .type "str"
  | .bool => .type "bool"
  | .sorted => .builtin "sorted"
  | .bitlen => .none
theorem scal_res {K : PySem.W.Frag} {G H : Hp} {f : Bool} {Q : VK} {z : D} {v : V} (q : ∀ v H', Res K f G H z v H' → Q v H') (hc : isC z = false) (h : Dn K G v z) : Q v H := q v H (.same (fun _ => hc) h)
theorem call_bi (hc : X.calm = true) {f : Bi} (hf : f ≠ .bitlen) : CallR X f.val (rBi X.K f) := by
  intro pins s σ H xs us Q I r h
  obtain ⟨G, ds, z, sg, hl, hv, hz, q⟩ := h
  unfold biD at hz
  split at hz
  · split at hz
    · rename_i c; cases hz
      obtain ⟨v, rfl, e⟩ := one_of hl hv
      obtain rfl := dn_str (show Dn X.K G v _ from e)
      exact call_len pins s σ H _ us Q I r ⟨_, _, rfl, ⟨c, rfl⟩, scal_res q rfl (.int _)⟩
    · cases hz
  · cases hz
    obtain ⟨v, rfl, a, vs, rfl, h1, h2⟩ := one_of hl hv
    exact call_len pins s σ H _ us Q I r ⟨_, _, rfl, .inl ⟨vs, h1.sq, h2.length.symm⟩, scal_res q rfl (.int _)⟩
  · cases hz
    obtain ⟨v, rfl, e⟩ := one_of hl hv
    obtain ⟨a, vs, rfl, h1, h2⟩ := dn_tup (show Dn X.K G v _ from e)
    exact call_len pins s σ H _ us Q I r ⟨_, _, rfl, .inr ⟨vs, Same.seqT sg h1, h2.length.symm⟩, scal_res q rfl (.int _)⟩
  · cases hz
    obtain ⟨v, rfl, a, vs, rfl, h1, h2⟩ := one_of hl hv
    obtain ⟨u, rfl, ru⟩ := vals1 r
    cases ru
    refine d_len I h1 fun t s' I' => ⟨.int vs.length, H, I', ⟨t, rfl⟩, ?_⟩
    rw [h2.length]
    exact scal_res q rfl (.int _)
  · cases hz
    obtain ⟨v, rfl, e⟩ := one_of hl hv
    obtain rfl := dn_int (show Dn X.K G v _ from e)
    exact call_int1 pins s σ H _ us Q I r (.inl ⟨_, rfl, scal_res q rfl (.int _)⟩)
  · cases hz
    obtain ⟨v, rfl, e⟩ := one_of hl hv
    obtain rfl := dn_bool (show Dn X.K G v _ from e)
    exact call_int1 pins s σ H _ us Q I r (.inr ⟨_, rfl, scal_res q rfl (.int _)⟩)
  · cases hz
    obtain ⟨v, rfl, e⟩ := one_of hl hv
    obtain rfl := dn_int (show Dn X.K G v _ from e)
    exact call_abs pins s σ H _ us Q I r ⟨_, rfl, scal_res q rfl (.int _)⟩
  · cases hz
    obtain ⟨v, w, rfl, e, e'⟩ := two_of hl hv
    obtain rfl := dn_int (show Dn X.K G v _ from e)
    obtain rfl := dn_int (show Dn X.K G w _ from e')
    exact call_max2 hc pins s σ H _ us Q I r ⟨_, _, rfl, scal_res q rfl (.int _)⟩
  · cases hz
    obtain ⟨v, w, rfl, e, e'⟩ := two_of hl hv
    obtain rfl := dn_int (show Dn X.K G v _ from e)
    obtain rfl := dn_int (show Dn X.K G w _ from e')
    exact call_min2 hc pins s σ H _ us Q I r ⟨_, _, rfl, scal_res q rfl (.int _)⟩
  · obtain ⟨is, h1, h2⟩ := Option.bind_eq_some_iff.mp hz
    obtain ⟨m, h3, rfl⟩ := Option.map_eq_some_iff.mp h2
    obtain rfl := intsOf_eq h1
    obtain ⟨v, rfl, a, vs, rfl, h4, h5⟩ := one_of hl hv
    obtain rfl := h5.ints
    cases is with
    | nil => cases h3
    | cons i is =>
      cases h3
      refine cr_max hc pins s σ H _ us Q I r ⟨a, i :: is, rfl, h4.sq, by simp, fun m hm hle => ?_⟩
      have := scal_res q rfl (.int _)
      rw [foldl_max_mem is i m hm hle] at this
      exact this
  · obtain ⟨is, h1, h2⟩ := Option.bind_eq_some_iff.mp hz
    obtain ⟨m, h3, rfl⟩ := Option.map_eq_some_iff.mp h2
    obtain rfl := intsOf_eq h1
    obtain ⟨v, rfl, a, vs, rfl, h4, h5⟩ := one_of hl hv
    obtain rfl := h5.ints
    cases is with
    | nil => cases h3
    | cons i is =>
      cases h3
      refine cr_min hc pins s σ H _ us Q I r ⟨a, i :: is, rfl, h4.sq, by simp, fun m hm hle => ?_⟩
      have := scal_res q rfl (.int _)
      rw [foldl_min_mem is i m hm hle] at this
      exact this
  · cases hz
    obtain ⟨v, rfl, a, vs, rfl, h1, h2⟩ := one_of hl hv
    exact call_tuple_of pins s σ H _ us Q I r ⟨a, vs, rfl, .inl ⟨h1.sq, fun l hl => q _ _ (.tup hl h2)⟩⟩
  · cases hz
    obtain ⟨v, rfl, e⟩ := one_of hl hv
    have e : Dn X.K G v (.tuple _) := e
    obtain ⟨a, vs, rfl, h1, h2⟩ := dn_tup e
    exact call_tuple_of pins s σ H _ us Q I r ⟨a, vs, rfl, .inr ⟨Same.seqT sg h1, scal_res q rfl e⟩⟩
  · cases hz
    obtain ⟨v, rfl, a, vs, rfl, h1, h2⟩ := one_of hl hv
    exact call_list_of pins s σ H _ us Q I r ⟨a, vs, rfl, .inl h1.sq, fun l hl => q _ _ (.lst hl h2)⟩
  · cases hz
    obtain ⟨v, rfl, e⟩ := one_of hl hv
    obtain ⟨a, vs, rfl, h1, h2⟩ := dn_tup (show Dn X.K G v (.tuple _) from e)
    exact call_list_of pins s σ H _ us Q I r ⟨a, vs, rfl, .inr (Same.seqT sg h1), fun l hl => q _ _ (.lst hl h2)⟩
  · obtain ⟨is, h1, rfl⟩ := Option.map_eq_some_iff.mp hz
    obtain rfl := intsOf_eq h1
    obtain ⟨v, rfl, a, vs, rfl, h4, h5⟩ := one_of hl hv
    obtain rfl := h5.ints
    exact cr_sum hc pins s σ H _ us Q I r ⟨a, is, rfl, h4.sq, scal_res q rfl (.int _)⟩
  · obtain ⟨is, h1, rfl⟩ := Option.map_eq_some_iff.mp hz
    obtain rfl := boolsOf_eq h1
    obtain ⟨v, rfl, a, vs, rfl, h4, h5⟩ := one_of hl hv
    obtain rfl := h5.bls
    exact cr_any hc pins s σ H _ us Q I r ⟨a, is, rfl, h4.sq, scal_res q rfl (.bl _)⟩
  · obtain ⟨is, h1, rfl⟩ := Option.map_eq_some_iff.mp hz
    obtain rfl := boolsOf_eq h1
    obtain ⟨v, rfl, a, vs, rfl, h4, h5⟩ := one_of hl hv
    obtain rfl := h5.bls
    exact cr_all hc pins s σ H _ us Q I r ⟨a, is, rfl, h4.sq, scal_res q rfl (.bl _)⟩
  · split at hz
    · rename_i c; cases hz
      obtain ⟨v, rfl, e⟩ := one_of hl hv
      obtain rfl := dn_int (show Dn X.K G v _ from e)
      exact call_str_int pins s σ H _ us Q I r ⟨_, rfl, c, scal_res q rfl (.str _)⟩
    · cases hz
  · exact absurd rfl hf
  · cases hz
/-! ### isinstance -/
theorem tyX_dn {K : PySem.W.Frag} {H : Hp} {v : V} {d : D} (h : Dn K H v d) : TyX K H v (.type (tyOf d)) := by
  cases h with
  | non => exact .base .non
  | bl b => exact .base (.bl b)
  | int i => exact .base (.int i)
  | str x => exact .base (.str x)
  | lst h1 _ =>
    rcases h1 with (h1 | ⟨o, h1⟩) | ⟨its, n, h1, _, _⟩
    · exact .base (.lst h1)
    · exact .base (.frz h1)
    · exact .kList h1 rfl
  | tup h1 _ =>
    rcases h1 with (h1 | ⟨o, h1⟩) | ⟨o, its, n, h1, h2, _⟩
    · exact .base (.tup h1)
    · exact .fTuple h1
    · exact .kTuple h1 h2
  | dct h1 _ =>
    rcases h1 with h1 | ⟨o, h1⟩
    · exact .base (.dK h1)
    · exact .fDict h1
theorem isT_kit {K : PySem.W.Frag} {d : D} {n : String} {b : Bool} (h : isT d n = some b) : PySem.W.kitOne K (.type (tyOf d)) (.type n) = some b := by
  refine kit_ty ?_
  unfold isT at h
  split at h
  · rename_i c
    cases h
    cases d <;> simp only [tyOf] <;> rcases c with rfl | rfl | rfl | rfl | rfl | rfl <;> decide +kernel
  · cases h
def rIsiD (K : PySem.W.Frag) (n : String) : List V → Hp → VK → Prop := fun vs H Q => ∃ v d b, vs = [v, .ty n] ∧ Dn K H v d ∧ isT d n = some b ∧ Q (.bl b) H
theorem call_isiD {n : String} : CallR X (.builtin "isinstance") (rIsiD X.K n) := by
  intro pins s σ H xs us Q I r h
  obtain ⟨v, d, b, rfl, hd, hb, q⟩ := h
  exact call_isi pins s σ H _ us Q I r ⟨v, .ty n, _, _, b, rfl, .ty n, tyX_dn hd, isT_kit hb, q⟩
end Mp

/-! MiniPy, part E: from the text to the core syntax; what the readings are. -/
namespace Mp
open PySem PySem.Spec PyProof.Rows L2

/-! ### from the text to the core -/
/-- a text's names: a def's slots, the text's own defs, its constants, the built-ins -/
structure Cfg where
  N : List Str
  fns : List Str
  gls : List Str
  bis : List Str
  io : Nat → List Nat
def ixOf (x : Str) : List Str → Option Nat
  | [] => none
  | y :: r => if y = x then some 0 else (ixOf x r).map (· + 1)
theorem ixOf_get {x : Str} : ∀ {l : List Str} {i : Nat}, ixOf x l = some i → l[i]? = some x
  | [], _, h => by cases h
  | y :: r, i, h => by
    unfold ixOf at h
    by_cases e : y = x
    · rw [if_pos e] at h; cases h; rw [e]; rfl
    · rw [if_neg e] at h
      obtain ⟨j, h1, rfl⟩ := Option.map_eq_some_iff.mp h
      simpa using ixOf_get h1
def okName (x : Str) : Bool := !(x == ("__debug__" : Str)) && !(x == ("__classdict__" : Str)) && !(x == ("__name__" : Str))
def isVis (sc : Scope) (x : Str) : Bool := match sc.names.lookup x with
  | some .local => true
  | some .cell => true
  | some .free => true
  | _ => false
def isGl (sc : Scope) (x : Str) : Bool := match sc.names.lookup x with
  | some .globalImplicit => true
  | _ => false
/-- a name that may be stored: one of the def's (the block's) own -/
def isOwn (sc : Scope) (x : Str) : Bool := match sc.names.lookup x with
  | some .local => true
  | some .cell => true
  | _ => false
def toEs : List E → Es
  | [] => .nil
  | e :: es => .cons e (toEs es)
def biOf1 (x : Str) : Option Bi :=
  if x = "len" then some .len else if x = "int" then some .int else if x = "abs" then some .abs else if x = "max" then some .max else if x = "min" then some .min else
  if x = "tuple" then some .tuple else if x = "list" then some .list else if x = "sum" then some .sum else if x = "any" then some .any else if x = "all" then some .all else if x = "str" then some .str else none
def biOf2 (x : Str) : Option Bi :=
  if x = "max" then some .max else if x = "min" then some .min else none
def tyName (x : Str) : Option String :=
  if x = "int" then some "int" else if x = "bool" then some "bool" else if x = "str" then some "str" else if x = "tuple" then some "tuple" else if x = "list" then some "list" else if x = "dict" then some "dict" else none
def plainIx : Expr → Bool
  | .Slice .. => false
  | _ => true
def noSuper : Expr → Bool
  | .Call (.Name _ _) [] [] _ => false
  | _ => true
def namesIx (N : List Str) (sc : Scope) : List Expr → Option (List Nat)
  | [] => some []
  | .Name x _ :: es => if isOwn sc x then match ixOf x N with
      | some i => (namesIx N sc es).map (i :: ·)
      | none => none
    else none
  | _ => none
def cT (N : List Str) (sc : Scope) : Expr → Option T
  | .Name x _ => if isOwn sc x then (ixOf x N).map .n else none
  | .Tuple es _ _ => (namesIx N sc es).map .tup
  | _ => none
def ownOf (N : List Str) (scope : Scope) : List (Str × Nat) := scope.names.filterMap fun y => match y.2 with
  | .local => (ixOf y.1 N).map fun i => (y.1, i)
  | .cell => (ixOf y.1 N).map fun i => (y.1, i)
  | _ => none
def isTup : Expr → Bool
  | .Tuple .. => true
  | _ => false
def isStar : Expr → Bool
  | .Starred .. => true
  | _ => false
/-- what is walked; f translates expressions -/
def mkI (c : Cfg) (sc : Scope) (f : Expr → E) (tg iter : Expr) : I :=
  match iter with
  | .Call (.Name x _) [a] [] _ =>
    if isGl sc x && (c.fns.contains x == false) && !isStar a then
      if x = "range" then (if c.bis.contains "range" then .r1 (f a) else .it .bad)
      else if x = "reversed" then (if c.bis.contains "reversed" then .rev (f a) else .it .bad)
      else if x = "enumerate" then (if c.bis.contains "enumerate" && isTup tg then .enum (f a) else .it .bad)
      else .it (f iter)
    else .it (f iter)
  | .Call (.Name x _) [a, b] [] _ =>
    if isGl sc x && (c.fns.contains x == false) && !isStar a && !isStar b then
      if x = "range" then (if c.bis.contains "range" then .r2 (f a) (f b) else .it .bad)
      else if x = "zip" then (if c.bis.contains "zip" && isTup tg then .zip (f a) (f b) else .it .bad)
      else .it (f iter)
    else .it (f iter)
  | _ => .it (f iter)
def isSet : Expr → Bool
  | .Set .. => true
  | _ => false
/-- a built-in's call -/
def mkB (c : Cfg) (sc : Scope) (f : Expr → E) (x : Str) (args : List Expr) : E :=
  if c.bis.contains x then match args with
    | [a] => match a with
      | .Call (.Name y _) [b] [] _ => if x = "tuple" ∧ y = "reversed" ∧ isGl sc y ∧ c.bis.contains y ∧ isStar b = false then .trev (f b) else match biOf1 x with
        | some k => .bi k (.cons (f a) .nil)
        | none => .bad
      | _ => match biOf1 x with
        | some k => .bi k (.cons (f a) .nil)
        | none => .bad
    | [a, b] => if x = "isinstance" then match b with
        | .Name t _ => if isGl sc t && c.bis.contains t && okName t then match tyName t with
            | some n => .isi (f a) [.b n]
            | none => .bad
          else .bad
        | _ => .bad
      else match biOf2 x with
        | some k => .bi k (.cons (f a) (.cons (f b) .nil))
        | none => .bad
    | _ => .bad
  else .bad
def tIn (t : T) (own : List Nat) : Bool := match t with
  | .n i => own.contains i
  | .tup is => is.all own.contains
def cE (c : Cfg) : Nat → Scope → Expr → E
  | 0, _, _ => .bad
  | n + 1, sc, e => match e with
    | .Name x _ => if okName x then
        if isVis sc x then match ixOf x c.N with
          | some i => .v i
          | none => .bad
        else if isGl sc x then match ixOf x c.gls with
          | some i => .g i
          | none => .bad
        else .bad
      else .bad
    | .Constant (.int i) _ _ => .k (.int i)
    | .Constant (.bool b) _ _ => .k (.bool b)
    | .Constant .none _ _ => .k .none
    | .Constant (.str s) _ _ => .k (.str s)
    | .BinOp a op b _ => .bin op (cE c n sc a) (cE c n sc b)
    | .UnaryOp .Not a _ => .not (cE c n sc a)
    | .UnaryOp .USub a _ => .neg (cE c n sc a)
    | .BoolOp .And (a :: b :: r) p => match r with
      | [] => .and (cE c n sc a) (cE c n sc b)
      | _ => .and (cE c n sc a) (cE c n sc (.BoolOp .And (b :: r) p))
    | .BoolOp .Or (a :: b :: r) p => match r with
      | [] => .or (cE c n sc a) (cE c n sc b)
      | _ => .or (cE c n sc a) (cE c n sc (.BoolOp .Or (b :: r) p))
    | .Compare a [op] [b] _ => if isSet b then .bad else .cmp op (cE c n sc a) (cE c n sc b)
    | .Compare a [op, op'] [b, b'] _ => if op = .In ∨ op = .NotIn ∨ op' = .In ∨ op' = .NotIn then .bad else .chain op op' (cE c n sc a) (cE c n sc b) (cE c n sc b')
    | .IfExp t a b _ => .ite (cE c n sc t) (cE c n sc a) (cE c n sc b)
    | .Tuple es _ _ => if es.any isStar then .bad else .tup (toEs (es.map (cE c n sc)))
    | .List es _ => if es.any isStar then .bad else .lst (toEs (es.map (cE c n sc)))
    | .Dict [] [] _ => .dct0
    | .Subscript a (.Slice lo hi none _) _ => .sli (cE c n sc a) (match lo with | some e => .yes (cE c n sc e) | none => .no) (match hi with | some e => .yes (cE c n sc e) | none => .no)
    | .Subscript a (.Slice none none (some (.UnaryOp .USub (.Constant (.int 1) _ _) _)) _) _ => .rev (cE c n sc a)
    | .Subscript a i _ => if plainIx i then .sub (cE c n sc a) (cE c n sc i) else .bad
    | .Call (.Name x _) args [] _ => if okName x && isGl sc x && !(args.any isStar) then match ixOf x c.fns with
        | some k => .call k (toEs (args.map (cE c n sc)))
        | none => mkB c sc (cE c n sc) x args
      else .bad
    | .Call (.Attribute o m apos) [] [] pos => if m = "bit_length" && (apos.endLine == pos.line) && noSuper o then .bi .bitlen (.cons (cE c n sc o) .nil) else .bad
    | .ListComp elt [⟨tg, iter, ifs, 0⟩] scope _ =>
      if blkC c.N sc scope (ownOf c.N scope) && !isSet iter then match cT c.N scope tg with
        | some t => if tIn t ((ownOf c.N scope).map (·.2)) then match ifs with
            | [] => .comp (cE c n (relS scope sc) elt) t (mkI c sc (cE c n sc) tg iter) .no ((ownOf c.N scope).map (·.2))
            | [q] => .comp (cE c n (relS scope sc) elt) t (mkI c sc (cE c n sc) tg iter) (.yes (cE c n (relS scope sc) q)) ((ownOf c.N scope).map (·.2))
            | _ => .bad
          else .bad
        | none => .bad
      else .bad
    | _ => .bad
end Mp

/-! MiniPy, part F: the readings, one lemma a construct. -/
namespace Mp
open PySem PySem.Spec PyProof.Rows L2

/-- what is true of a result -/
def Sat {α : Type} (r : R α) (p : α → Prop) (xo : Exc → Prop) : Prop := match r with
  | .ok a => p a
  | .ex x => xo x
  | .st => False
theorem Sat.bind {α β : Type} {r : R α} {f : α → R β} {p : β → Prop} {xo : Exc → Prop} : Sat (r.bind f) p xo ↔ Sat r (fun a => Sat (f a) p xo) xo := by
  cases r <;> rfl
theorem Sat.imp {α : Type} {r : R α} {p q : α → Prop} {xo yo : Exc → Prop} (h : Sat r p xo) (hp : ∀ a, p a → q a) (hx : ∀ x, xo x → yo x) : Sat r q yo := by
  cases r with
  | ok a => exact hp a h
  | ex x => exact hx x h
  | st => exact h
/-- how an exception lies in the heap (given from outside) -/
abbrev XA := Exc → Value → Option Addr → Hp → Prop
def XO (W : WX) (xa : XA) (σ : L2.St) (H : Hp) (x : Exc) : Prop := ∀ cls dd H', Same H H' → xa x cls dd H' → W cls dd σ H'
theorem XO.mono {W : WX} {xa : XA} {σ : L2.St} {H H' : Hp} {x : Exc} (h : XO W xa σ H x) (e : Same H H') : XO W xa σ H' x := fun cls dd H2 e2 => h cls dd H2 (e.trans e2)
structure EPost (K : PySem.W.Frag) (P0 : Addr → Prop) (ps : Ps) (H H' : Hp) (c : E) (x : D × List Nat) (v : V) : Prop where
  same : Same H H'
  den : Dn K (wo (PP P0 (dr x.2 ps)) H') v x.1
  el : ElCl K (wo (PP P0 (dr (lkE c x.2) ps)) H') H' v x.1
  fr : c.fresh = true → isC x.1 = true → ∃ p, v = .ref p ∧ H p = none ∧ OwnAt K H' (fun a => a = p ∨ PP P0 (dr x.2 ps) a) p x.1
def tE (K : PySem.W.Frag) (g : G) (W : WX) (xa : XA) (c : E) : TE := fun σ H Q => ∃ F ps τ, Rel K F ps H σ τ ∧ Sat (evE g c τ) (fun x => ∀ v H', EPost K F.P0 ps H H' c x v → Q v H') (XO W xa σ H)
def tT (K : PySem.W.Frag) (g : G) (W : WX) (xa : XA) (c : E) : TT := fun σ H Q => ∃ F ps τ, Rel K F ps H σ τ ∧ Sat (evT g c τ) (fun b => ∀ H', Same H H' → Q b H') (XO W xa σ H)
structure APost (K : PySem.W.Frag) (P0 : Addr → Prop) (ps : Ps) (H H' : Hp) (x : List D × List Nat) (vs : List V) : Prop where
  same : Same H H'
  den : DnAll K (wo (PP P0 (dr x.2 ps)) H') vs x.1
def tA (K : PySem.W.Frag) (g : G) (W : WX) (xa : XA) (cs : Es) : TA := fun σ H Q => ∃ F ps τ, Rel K F ps H σ τ ∧ Sat (evEs g cs τ) (fun x => ∀ vs H', APost K F.P0 ps H H' x vs → Q vs H') (XO W xa σ H)
theorem PE.imp {X : Cx} {e : Expr} {t t' : TE} (h : PE X e t) (i : ∀ σ H Q, t' σ H Q → t σ H Q) : PE X e t' := ⟨fun pins s σ H Q I q => h.run pins s σ H Q I (i σ H Q q)⟩
theorem PT.imp {X : Cx} {e : Expr} {t t' : TT} (h : PT X e t) (i : ∀ σ H Q, t' σ H Q → t σ H Q) : PT X e t' := ⟨fun pins s σ H Q I q => h.run pins s σ H Q I (i σ H Q q)⟩
theorem PA.imp {X : Cx} {e : List Expr} {t t' : TA} (h : PA X e t) (i : ∀ σ H Q, t' σ H Q → t σ H Q) : PA X e t' := ⟨fun pos pins s σ H Q I q => h.run pos pins s σ H Q I (i σ H Q q)⟩

section
variable {K : PySem.W.Frag} {P0 : Addr → Prop} {ps : Ps} {H H' : Hp} {c : E} {v : V} {z : D} {L M : List Nat}
theorem Dn.isC {K : PySem.W.Frag} {H : Hp} {v : V} {d : D} (h : Dn K H v d) : isC d = true → ∃ a, v = .ref a := fun e => by
  cases h <;> first | exact ⟨_, rfl⟩ | (simp [Mp.isC] at e)
/-- a scalar, whatever the heap -/
theorem scal {G G' : Hp} (h : Dn K G v z) (f : flatD z = true) : Dn K G' v z := by
  cases h <;> first | exact .non | exact .bl _ | exact .int _ | exact .str _ | (simp [flatD] at f)
theorem lk_flat (f : flatD z = true) : lk z L = [] := by
  cases L with
  | nil => rfl
  | cons i L => cases z <;> simp_all [lk, flatD, noL]
/-- what leaks, where nothing can -/
theorem lk_cons {i : Nat} : lk z (i :: L) = if noL z then [] else i :: L := rfl
theorem lk_dn (hP : ∀ a, PP P0 ps a → ∃ o, H' a = some o ∧ IsCo o) (h : Dn K (wo (PP P0 (dr L ps)) H') v z) : Dn K (wo (PP P0 (dr (lk z L) ps)) H') v z := by
  cases L with
  | nil => exact h
  | cons i L =>
    by_cases n : noL z = true
    · rw [lk_cons, if_pos n, dr_nil]
      refine Dn.noL (fun a q => ?_) z h.full n
      obtain ⟨o, h1, h2⟩ := hP a q
      cases o with
      | lst xs => exact .inl ⟨xs, h1⟩
      | dK kvs => exact .inr ⟨kvs, h1⟩
      | _ => exact h2.elim
    · rw [lk_cons, if_neg n]; exact h
theorem lk_sub : ∀ i, i ∈ lk z L → i ∈ L := fun i h => by
  cases L with
  | nil => exact h
  | cons j L =>
    rw [lk_cons] at h
    split at h
    · cases h
    · exact h
theorem lk_isC (h : isC z = true) : lk z L = L := by
  cases L with
  | nil => rfl
  | cons i L => cases z <;> simp_all [lk, Mp.isC, noL]
theorem lkE_sub : ∀ i, i ∈ lkE c L → i ∈ L := fun i h => by
  unfold lkE at h; split at h
  · cases h
  · exact h
theorem lkE_nv (h : ∀ i, c ≠ .v i) : lkE c L = L := by
  unfold lkE; split
  · exact absurd rfl (h _)
  · rfl
/-- from an operation's result -/
theorem EPost.of_res {f : Bool} {H1 H2 : Hp} (nv : ∀ i, c ≠ .v i) (hf : c.fresh = true → f = true) (e : Same H H1) (e' : Same H1 H2) (hP : ∀ a, PP P0 ps a → ∃ o, H a = some o ∧ IsCo o)
    (r : Res K f (wo (PP P0 (dr L ps)) H1) H1 z v H2) : EPost K P0 ps H H2 c (z, lk z L) v := by
  have there : ∀ a, PP P0 ps a → ∃ o, H2 a = some o ∧ IsCo o := fun a q => let ⟨o, h1, h2⟩ := hP a q; ⟨o, e' _ _ (e _ _ h1), h2⟩
  have key : Dn K (wo (PP P0 (dr L ps)) H2) v z ∧ (f = true → isC z = true → ∃ p, v = .ref p ∧ H p = none ∧ OwnAt K H2 (fun a => a = p ∨ PP P0 (dr L ps) a) p z) := by
    cases r with
    | same h1 h2 => exact ⟨Dn.mono (wo_same e') _ h2, fun a b => by rw [h1 a] at b; cases b⟩
    | lst h1 h2 =>
      rename_i p vs ds
      have hn : H p = none := e.free h1
      have np : ¬ PP P0 (dr L ps) p := fun q => by
        obtain ⟨o, h3, _⟩ := hP p (PP_dr0 p q)
        rw [hn] at h3; cases h3
      have hs : Same (wo (PP P0 (dr L ps)) H1) (wo (fun a => a = p ∨ PP P0 (dr L ps) a) (upd H1 p (.lst vs))) := wo_gen fun a o q1 q2 =>
        ⟨fun q => q.elim (fun q => by rw [q, h1] at q2; cases q2) q1, e' _ _ q2⟩
      exact ⟨.lst (.inl (.inl (wo_some.mpr ⟨np, upd_same⟩))) (DnAll.mono (wo_same e') _ h2), fun _ _ => ⟨p, rfl, hn, vs, upd_same, DnAll.mono hs _ h2⟩⟩
    | dct h1 h2 =>
      rename_i p vs ds
      have hn : H p = none := e.free h1
      have np : ¬ PP P0 (dr L ps) p := fun q => by
        obtain ⟨o, h3, _⟩ := hP p (PP_dr0 p q)
        rw [hn] at h3; cases h3
      have hs : Same (wo (PP P0 (dr L ps)) H1) (wo (fun a => a = p ∨ PP P0 (dr L ps) a) (upd H1 p (.dK vs))) := wo_gen fun a o q1 q2 =>
        ⟨fun q => q.elim (fun q => by rw [q, h1] at q2; cases q2) q1, e' _ _ q2⟩
      exact ⟨.dct (.inl (wo_some.mpr ⟨np, upd_same⟩)) (DnKV.mono (wo_same e') _ h2), fun _ _ => ⟨p, rfl, hn, vs, upd_same, DnKV.mono hs _ h2⟩⟩
    | tup h1 h2 =>
      rename_i p vs ds
      have hn : H p = none := e.free h1
      have np : ¬ PP P0 (dr L ps) p := fun q => by
        obtain ⟨o, h3, _⟩ := hP p (PP_dr0 p q)
        rw [hn] at h3; cases h3
      exact ⟨.tup (.inl (.inl (wo_some.mpr ⟨np, upd_same⟩))) (DnAll.mono (wo_same e') _ h2), fun _ b => by cases b⟩
  have den : Dn K (wo (PP P0 (dr (lk z L) ps)) H2) v z := lk_dn there key.1
  refine ⟨e.trans e', den, ?_, fun h1 h2 => ?_⟩
  · rw [lkE_nv nv]; exact Dn.elcl wo_all den
  · obtain ⟨p, q1, q2, q3⟩ := key.2 (hf h1) h2
    exact ⟨p, q1, q2, by rw [lk_isC h2]; exact q3⟩
theorem EPost.scal (nv : ∀ i, c ≠ .v i) (e : Same H H') (h : ∀ G, Dn K G v z) (f : isC z = false) : EPost K P0 ps H H' c (z, []) v :=
  ⟨e, h _, by rw [lkE_nv nv]; exact Dn.elcl wo_all (h _), fun _ b => by rw [f] at b; cases b⟩
end

/-- an operand's items, in the heap behind the second one -/
theorem EPost.el2 {K : PySem.W.Frag} {P0 : Addr → Prop} {ps : Ps} {H H1 H2 : Hp} {c : E} {x : D × List Nat} {v : V} (p : EPost K P0 ps H H1 c x v) (e : Same H1 H2) {M : List Nat} (hM : ∀ i, i ∈ lkE c x.2 → i ∈ M) : ElCl K (wo (PP P0 (dr M ps)) H2) H2 v x.1 :=
  p.el.mono ((wo_same e).trans (wo_sub (PP_dr hM))) e
theorem EPost.dn {K : PySem.W.Frag} {P0 : Addr → Prop} {ps : Ps} {H H1 : Hp} {c : E} {x : D × List Nat} {v : V} (p : EPost K P0 ps H H1 c x v) : Dn K H1 v x.1 := p.den.full
/-- behind a call -/
structure CPost (K : PySem.W.Frag) (P0 : Addr → Prop) (ps : Ps) (io : List Nat) (H H' : Hp) (r : D × List D) (v : V) : Prop where
  keep : ∀ a o, H a = some o → (¬ ∃ i, ps i = some a) → H' a = some o
  den : Dn K (wo (PP P0 ps) H') v r.1
  outs : ∀ (m i : Nat), io[m]? = some i → ∃ p d, ps i = some p ∧ r.2[m]? = some d ∧ OwnAt K H' (PP P0 ps) p d
  len : r.2.length = io.length
/-- a def's promise: what its meaning hands back -/
def spD (K : PySem.W.Frag) (cf : List D → R (D × List D)) (io : List Nat) (xa : XA) : Sp := fun vs H Q E => ∃ (F : Fx) (ps : Ps) (ds : List D),
  Rel K F ps H (vs.map some) (mark io 0 ds) ∧ F.H0 = H ∧ F.io = (fun a => ∃ i, ps i = some a) ∧ F.iol = io ∧ F.q = ps ∧
  Sat (cf ds) (fun r => ∀ v H', CPost K F.P0 ps io H H' r v → Q v H') (fun x => ∀ cls dd H', (∀ a o, H a = some o → (¬ ∃ i, ps i = some a) → H' a = some o) → xa x cls dd H' → E cls dd H')
structure Envr (X : Cx) (c : Cfg) (sc : Scope) (g : G) (k : Nat) (W : WX) (xa : XA) : Prop where
  N : X.N = c.N
  nd : X.N.Nodup
  sc : X.env.scope = sc
  calm : X.calm = true
  room : Room k X.A
  tk : Takes X W
  fn : ∀ (f : Nat) (x : Str), c.fns[f]? = some x → ∃ a fd qs, X.mg x = some (.ref a) ∧ PySem.W.keepIn X.K (.ref a) = true ∧ Binds X.K fd qs [] ∧ FnOk X.prog X.w X.K X.mg X.base (L2.CX X.prog X.w) k a fd qs (spD X.K (g.cf f) (g.io f) xa)
  bi : ∀ x : Str, c.bis.contains x = true → X.mg x = none
  gl : ∀ (i : Nat) (x : Str), c.gls[i]? = some x → ∃ u v, X.mg x = some u ∧ RelV v u ∧ ∀ d, g.gl i = some d → ∀ H, Dn X.K H v d
section
variable {X : Cx} {c : Cfg} {sc : Scope} {g : G} {k : Nat} {W : WX} {xa : XA} (ev : Envr X c sc g k W xa)
theorem ok_names {x : Str} (h : okName x = true) : (x == ("__debug__" : Str)) = false ∧ (x == ("__classdict__" : Str)) = false ∧ x ≠ "__name__" := by
  unfold okName at h
  simp only [Bool.and_eq_true, Bool.not_eq_true'] at h
  exact ⟨h.1.1, h.1.2, fun e => by rw [e] at h; simp at h⟩
include ev
theorem Envr.gl_of {x : Str} (h : isGl sc x = true) : Gl X x := by
  show X.env.kindOf x = _
  unfold isGl at h
  rw [← ev.sc] at h
  show X.env.scope.names.lookup x = _
  split at h
  · assumption
  · cases h
theorem Envr.vis_of {x : Str} (h : isVis sc x = true) : Vis X.env.scope x := by
  unfold isVis at h
  rw [← ev.sc] at h
  split at h
  · exact .inl (by assumption)
  · exact .inr (.inl (by assumption))
  · exact .inr (.inr (by assumption))
  · cases h
theorem Envr.at_ {x : Str} {i : Nat} (h : ixOf x c.N = some i) : X.N[i]? = some x := by rw [ev.N]; exact ixOf_get h
omit ev in
theorem sE_bad {e : Expr} : PE X e (tE X.K g W xa .bad) := ⟨fun _ _ _ _ _ _ h => by obtain ⟨_, _, _, _, h⟩ := h; exact h.elim⟩
omit ev in
theorem sT_bad {e : Expr} : PT X e (tT X.K g W xa .bad) := ⟨fun _ _ _ _ _ _ h => by obtain ⟨_, _, _, _, h⟩ := h; exact h.elim⟩
theorem sE_v {x : Str} {i : Nat} {pos : Pos} (ho : okName x = true) (hv : isVis sc x = true) (hi : ixOf x c.N = some i) : PE X (.Name x pos) (tE X.K g W xa (.v i)) := by
  obtain ⟨o1, o2, _⟩ := ok_names ho
  refine PE.imp (pe_var (ev.at_ hi) (ev.vis_of hv) o1 o2) fun σ H Q h => ?_
  obtain ⟨F, ps, τ, r, h⟩ := h
  unfold evE at h
  split at h
  · rename_i o d e
    cases o with
    | true =>
      obtain ⟨p, h1, h2, h3⟩ := r.own i d e
      refine ⟨.ref p, h2, h _ H ⟨Same.refl _, ?_, ?_, fun z => by cases z⟩⟩
      · refine h3.dn (fun q => ?_) PP_dr0
        rcases q with q | ⟨j, q⟩
        · exact r.out _ _ h1 q
        · obtain ⟨q1, q2⟩ := dr_some.mp q
          exact q1 (by simp [r.inj _ _ _ q2 h1])
      · show ElCl X.K (wo (PP F.P0 (dr [] ps)) H) H (.ref p) d
        rw [dr_nil]
        cases d with
        | list ds => obtain ⟨vs, q1, q2⟩ := h3; exact ⟨p, vs, rfl, .inl (.inl q1), q2⟩
        | dict ds => obtain ⟨vs, q1, q2⟩ := h3; exact ⟨p, vs, rfl, .inl q1, q2⟩
        | _ => exact h3.elim
    | false =>
      obtain ⟨v, h1, h2⟩ := r.cln i d e
      refine ⟨v, h1, h _ H ⟨Same.refl _, ?_, ?_, fun z => by cases z⟩⟩
      · show Dn X.K (wo (PP F.P0 (dr [] ps)) H) v d
        rw [dr_nil]; exact h2
      · show ElCl X.K (wo (PP F.P0 (dr [] ps)) H) H v d
        rw [dr_nil]; exact Dn.elcl wo_all h2
  · exact h.elim
theorem sE_g {x : Str} {i : Nat} {pos : Pos} (ho : okName x = true) (hv : isGl sc x = true) (hi : ixOf x c.gls = some i) : PE X (.Name x pos) (tE X.K g W xa (.g i)) := by
  obtain ⟨o1, o2, _⟩ := ok_names ho
  obtain ⟨u, v, h1, h2, h3⟩ := ev.gl i x (ixOf_get hi)
  refine PE.imp (pe_glob (ev.gl_of hv) h1 h2 o1) fun σ H Q h => ?_
  obtain ⟨F, ps, τ, r, h⟩ := h
  unfold evE at h
  split at h
  · rename_i d e
    refine h v H ⟨Same.refl _, h3 d e _, Dn.elcl wo_all (h3 d e _), fun z => by cases z⟩
  · exact h.elim
omit ev in
theorem sE_k {e : Expr} {v : V} {d : D} (h : PE X e (tC v)) (hd : ∀ G, Dn X.K G v d) (hc : isC d = false) : PE X e (tE X.K g W xa (.k d)) := by
  refine PE.imp h fun σ H Q h => ?_
  obtain ⟨F, ps, τ, r, h⟩ := h
  exact h v H (EPost.scal (fun i z => by cases z) (Same.refl _) hd hc)
omit ev in
theorem two {a b : E} {F : Fx} {ps : Ps} {H : Hp} {σ : L2.St} {τ : Tau} {α : Type} {f : D × List Nat → D × List Nat → R α} {p : α → Prop} {Q : V → V → Hp → Prop} (r : Rel X.K F ps H σ τ)
    (h : Sat ((evE g a τ).bind fun x => (evE g b τ).bind fun y => f x y) p (XO W xa σ H))
    (q : ∀ x y v u H1 H2, EPost X.K F.P0 ps H H1 a x v → EPost X.K F.P0 ps H1 H2 b y u → Rel X.K F ps H2 σ τ → Sat (f x y) p (XO W xa σ H) → Q v u H2) :
    tE X.K g W xa a σ H fun v H1 => tE X.K g W xa b σ H1 fun u H2 => Q v u H2 := by
  refine ⟨F, ps, τ, r, (Sat.bind.mp h).imp (fun x hx v H1 pa => ?_) fun _ z => z⟩
  refine ⟨F, ps, τ, r.mono pa.same, (Sat.bind.mp hx).imp (fun y hy u H2 pb => ?_) fun _ z => XO.mono z pa.same⟩
  exact q x y v u H1 H2 pa pb ((r.mono pa.same).mono pb.same) hy
theorem sE_bin {a b : Expr} {ca cb : E} {op : Operator} {pos : Pos} (ha : PE X a (tE X.K g W xa ca)) (hb : PE X b (tE X.K g W xa cb)) : PE X (.BinOp a op b pos) (tE X.K g W xa (.bin op ca cb)) := by
  refine PE.imp (pe_op (op_bin op) ha hb) fun σ H Q h => ?_
  obtain ⟨F, ps, τ, r, h⟩ := h
  unfold evE at h
  refine two r h fun x y v u H1 H2 pa pb r2 hz => ?_
  split at hz
  · rename_i z e
    refine ⟨wo (PP F.P0 (dr (lkE ca x.2 ++ lkE cb y.2) ps)) H2, x.1, y.1, z, wo_all, pa.el2 pb.same fun i hi => List.mem_append_left _ hi, pb.el2 (Same.refl _) fun i hi => List.mem_append_right _ hi, e, fun v' H' rs => ?_⟩
    exact hz v' H' (EPost.of_res (fun i z => by cases z) (fun _ => rfl) (pa.same.trans pb.same) rs.same' (fun a q => r.there q) rs)
  · exact hz.elim
omit ev in
theorem one {a : E} {F : Fx} {ps : Ps} {H : Hp} {σ : L2.St} {τ : Tau} {α : Type} {f : D × List Nat → R α} {p : α → Prop} {Q : V → Hp → Prop} (r : Rel X.K F ps H σ τ)
    (h : Sat ((evE g a τ).bind f) p (XO W xa σ H)) (q : ∀ x v H1, EPost X.K F.P0 ps H H1 a x v → Rel X.K F ps H1 σ τ → Sat (f x) p (XO W xa σ H) → Q v H1) : tE X.K g W xa a σ H Q :=
  ⟨F, ps, τ, r, (Sat.bind.mp h).imp (fun x hx v H1 pa => q x v H1 pa (r.mono pa.same) hx) fun _ z => z⟩
omit ev in
theorem sE_neg {a : Expr} {ca : E} {pos : Pos} (ha : PE X a (tE X.K g W xa ca)) : PE X (.UnaryOp .USub a pos) (tE X.K g W xa (.neg ca)) := by
  refine PE.imp (pe_un un_neg ha) fun σ H Q h => ?_
  obtain ⟨F, ps, τ, r, h⟩ := h
  unfold evE at h
  refine one r h fun x v H1 pa r1 hz => ?_
  split at hz
  · rename_i i e
    have := pa.dn
    rw [e] at this
    cases this
    exact ⟨i, rfl, hz _ _ (EPost.scal (fun i z => by cases z) pa.same (fun _ => .int _) rfl)⟩
  · exact hz.elim
theorem sE_cmp {a b : Expr} {ca cb : E} {op : CmpOp} {pos : Pos} (ha : PE X a (tE X.K g W xa ca)) (hb : PE X b (tE X.K g W xa cb)) (hm : behindInMarks op b = false) : PE X (.Compare a [op] [b] pos) (tE X.K g W xa (.cmp op ca cb)) := by
  refine PE.imp (pe_cmpR (op_cmp ev.room.units op) ha hb hm) fun σ H Q h => ?_
  obtain ⟨F, ps, τ, r, h⟩ := h
  unfold evE at h
  refine two r h fun x y v u H1 H2 pa pb r2 hz => ?_
  split at hz
  · rename_i z e
    exact ⟨x.1, y.1, z, Dn.mono pb.same _ pa.dn, pb.dn, e, hz _ _ (EPost.scal (fun i z => by cases z) (pa.same.trans pb.same) (fun _ => .bl _) rfl)⟩
  · exact hz.elim
theorem sT_cmp {a b : Expr} {ca cb : E} {op : CmpOp} {pos : Pos} (ha : PE X a (tE X.K g W xa ca)) (hb : PE X b (tE X.K g W xa cb)) (hm : behindInMarks op b = false) : PT X (.Compare a [op] [b] pos) (tT X.K g W xa (.cmp op ca cb)) := by
  refine PT.imp (pt_cmpR (op_cmp ev.room.units op) ha hb hm) fun σ H Q h => ?_
  obtain ⟨F, ps, τ, r, h⟩ := h
  unfold evT at h
  refine two r h fun x y v u H1 H2 pa pb r2 hz => ?_
  split at hz
  · rename_i z e
    exact ⟨x.1, y.1, z, Dn.mono pb.same _ pa.dn, pb.dn, e, z, rfl, hz _ (pa.same.trans pb.same)⟩
  · exact hz.elim
theorem sE_chain {a b d : Expr} {ca cb cd : E} {op op' : CmpOp} {pos : Pos} (ha : PE X a (tE X.K g W xa ca)) (hb : PE X b (tE X.K g W xa cb)) (hd : PE X d (tE X.K g W xa cd))
    (h2 : behindInMarks op' d = false) : PE X (.Compare a [op, op'] [b, d] pos) (tE X.K g W xa (.chain op op' ca cb cd)) := by
  refine PE.imp (pe_chain (op_cmp ev.room.units op) (op_cmp ev.room.units op') ha hb hd h2) fun σ H Q h => ?_
  obtain ⟨F, ps, τ, r, h⟩ := h
  unfold evE at h
  refine two r h fun x y v u H1 H2 pa pb r2 hz => ?_
  split at hz
  · rename_i e
    refine ⟨x.1, y.1, true, Dn.mono pb.same _ pa.dn, pb.dn, e, true, rfl, ?_⟩
    rw [if_pos rfl]
    have hz' : Sat ((evE g cd τ).bind fun z => match cmpD op' y.1 z.1 with | some r => R.ok (PyData.bool r, ([] : List Nat)) | none => .st) _ (XO W xa σ H2) := hz.imp (fun _ z => z) fun _ z => XO.mono z (pa.same.trans pb.same)
    refine one r2 hz' fun z w H3 pc r3 hz => ?_
    split at hz
    · rename_i q e'
      exact ⟨y.1, z.1, q, Dn.mono pc.same _ pb.dn, pc.dn, e', hz _ _ (EPost.scal (fun i z => by cases z) ((pa.same.trans pb.same).trans pc.same) (fun _ => .bl _) rfl)⟩
    · exact hz.elim
  · rename_i e
    refine ⟨x.1, y.1, false, Dn.mono pb.same _ pa.dn, pb.dn, e, false, rfl, ?_⟩
    rw [if_neg (by decide)]
    exact hz _ _ (EPost.scal (fun i z => by cases z) (pa.same.trans pb.same) (fun _ => .bl _) rfl)
  · exact hz.elim
theorem sT_chain {a b d : Expr} {ca cb cd : E} {op op' : CmpOp} {pos : Pos} (ha : PE X a (tE X.K g W xa ca)) (hb : PE X b (tE X.K g W xa cb)) (hd : PE X d (tE X.K g W xa cd))
    (h2 : behindInMarks op' d = false) : PT X (.Compare a [op, op'] [b, d] pos) (tT X.K g W xa (.chain op op' ca cb cd)) := by
  refine PT.imp (pt_chain (op_cmp ev.room.units op) (op_cmp ev.room.units op') ha hb hd h2) fun σ H Q h => ?_
  obtain ⟨F, ps, τ, r, h⟩ := h
  unfold evT at h
  refine two r h fun x y v u H1 H2 pa pb r2 hz => ?_
  split at hz
  · rename_i e
    refine ⟨x.1, y.1, true, Dn.mono pb.same _ pa.dn, pb.dn, e, true, rfl, ?_⟩
    rw [if_pos rfl]
    have hz' : Sat ((evE g cd τ).bind fun z => match cmpD op' y.1 z.1 with | some r => R.ok r | none => .st) _ (XO W xa σ H2) := hz.imp (fun _ z => z) fun _ z => XO.mono z (pa.same.trans pb.same)
    refine one r2 hz' fun z w H3 pc r3 hz => ?_
    split at hz
    · rename_i q e'
      exact ⟨y.1, z.1, q, Dn.mono pc.same _ pb.dn, pc.dn, e', q, rfl, hz _ ((pa.same.trans pb.same).trans pc.same)⟩
    · exact hz.elim
  · rename_i e
    refine ⟨x.1, y.1, false, Dn.mono pb.same _ pa.dn, pb.dn, e, false, rfl, ?_⟩
    rw [if_neg (by decide)]
    exact ⟨false, rfl, hz _ (pa.same.trans pb.same)⟩
  · exact hz.elim
omit ev in
/-- a test, then what stands behind it -/
theorem oneT {a : E} {F : Fx} {ps : Ps} {H : Hp} {σ : L2.St} {τ : Tau} {α : Type} {f : Bool → R α} {p : α → Prop} {Q : Bool → Hp → Prop} (r : Rel X.K F ps H σ τ)
    (h : Sat ((evT g a τ).bind f) p (XO W xa σ H)) (q : ∀ b H1, Same H H1 → Rel X.K F ps H1 σ τ → Sat (f b) p (XO W xa σ H) → Q b H1) : tT X.K g W xa a σ H Q :=
  ⟨F, ps, τ, r, (Sat.bind.mp h).imp (fun b hx H1 e => q b H1 e (r.mono e) hx) fun _ z => z⟩
omit ev in
/-- the same result at a later heap -/
theorem later {c : E} {F : Fx} {ps : Ps} {H H1 : Hp} {σ : L2.St} {τ : Tau} {cc : E} {Q : VK} (nv : ∀ i, cc ≠ .v i) (nf : cc.fresh = false) (e : Same H H1) (r : Rel X.K F ps H1 σ τ)
    (h : Sat (evE g c τ) (fun x => ∀ v H', EPost X.K F.P0 ps H H' cc x v → Q v H') (XO W xa σ H)) : tE X.K g W xa c σ H1 Q :=
  ⟨F, ps, τ, r, h.imp (fun x hx v H' p => hx v H' ⟨e.trans p.same, p.den, by rw [lkE_nv nv]; exact Dn.elcl wo_all p.den, fun z => by rw [nf] at z; cases z⟩) fun _ z => XO.mono z e⟩
omit ev in
theorem sE_and {a : Expr} {b : Expr} {rest : List Expr} {ca cb : E} {pos : Pos} (ha : PE X a (tE X.K g W xa ca)) (hb : PE X (.BoolOp .And (b :: rest) pos) (tE X.K g W xa cb)) : PE X (.BoolOp .And (a :: b :: rest) pos) (tE X.K g W xa (.and ca cb)) := by
  refine PE.imp (pe_and ha hb) fun σ H Q h => ?_
  obtain ⟨F, ps, τ, r, h⟩ := h
  unfold evE at h
  refine one r h fun x v H1 pa r1 hz => ?_
  have dv := pa.dn
  split at hz
  · rename_i e
    rw [e] at dv; cases dv
    refine ⟨true, rfl, ?_⟩
    rw [if_pos rfl]
    exact later (fun i z => by cases z) rfl pa.same r1 hz
  · rename_i e
    rw [e] at dv; cases dv
    refine ⟨false, rfl, ?_⟩
    rw [if_neg (by decide)]
    exact hz _ _ (EPost.scal (fun i z => by cases z) pa.same (fun _ => .bl _) rfl)
  · exact hz.elim
omit ev in
theorem sE_or {a : Expr} {b : Expr} {rest : List Expr} {ca cb : E} {pos : Pos} (ha : PE X a (tE X.K g W xa ca)) (hb : PE X (.BoolOp .Or (b :: rest) pos) (tE X.K g W xa cb)) : PE X (.BoolOp .Or (a :: b :: rest) pos) (tE X.K g W xa (.or ca cb)) := by
  refine PE.imp (pe_or ha hb) fun σ H Q h => ?_
  obtain ⟨F, ps, τ, r, h⟩ := h
  unfold evE at h
  refine one r h fun x v H1 pa r1 hz => ?_
  have dv := pa.dn
  split at hz
  · rename_i e
    rw [e] at dv; cases dv
    refine ⟨true, rfl, ?_⟩
    rw [if_pos rfl]
    exact hz _ _ (EPost.scal (fun i z => by cases z) pa.same (fun _ => .bl _) rfl)
  · rename_i e
    rw [e] at dv; cases dv
    refine ⟨false, rfl, ?_⟩
    rw [if_neg (by decide)]
    exact later (fun i z => by cases z) rfl pa.same r1 hz
  · exact hz.elim
omit ev in
theorem sE_not {a : Expr} {ca : E} {pos : Pos} (ha : PE X a (tE X.K g W xa ca)) : PE X (.UnaryOp .Not a pos) (tE X.K g W xa (.not ca)) := by
  refine PE.imp (pe_not ha) fun σ H Q h => ?_
  obtain ⟨F, ps, τ, r, h⟩ := h
  unfold evE at h
  refine one r h fun x v H1 pa r1 hz => ?_
  have dv := pa.dn
  split at hz
  · rename_i b e
    rw [e] at dv; cases dv
    exact ⟨b, rfl, hz _ _ (EPost.scal (fun i z => by cases z) pa.same (fun _ => .bl _) rfl)⟩
  · exact hz.elim
omit ev in
theorem sT_not {a : Expr} {ca : E} {pos : Pos} (ha : PT X a (tT X.K g W xa ca)) : PT X (.UnaryOp .Not a pos) (tT X.K g W xa (.not ca)) := by
  refine PT.imp (pt_not ha) fun σ H Q h => ?_
  obtain ⟨F, ps, τ, r, h⟩ := h
  unfold evT at h
  exact oneT r h fun b H1 e r1 hz => hz _ e
omit ev in
theorem laterT {c : E} {F : Fx} {ps : Ps} {H H1 : Hp} {σ : L2.St} {τ : Tau} {Q : Bool → Hp → Prop} (e : Same H H1) (r : Rel X.K F ps H1 σ τ)
    (h : Sat (evT g c τ) (fun b => ∀ H', Same H H' → Q b H') (XO W xa σ H)) : tT X.K g W xa c σ H1 Q :=
  ⟨F, ps, τ, r, h.imp (fun b hx H' q => hx H' (e.trans q)) fun _ z => XO.mono z e⟩
omit ev in
theorem sW_and {a : Expr} {b : Expr} {rest : List Expr} {ca cb : E} {pos : Pos} (ha : PT X a (tT X.K g W xa ca)) (hb : PW X (.BoolOp .And (b :: rest) pos) (tT X.K g W xa cb)) : PW X (.BoolOp .And (a :: b :: rest) pos) (tT X.K g W xa (.and ca cb)) := by
  have h0 := pw_and ha hb
  refine ⟨fun wh pins s σ H Q I h => h0.run wh pins s σ H Q I ?_⟩
  obtain ⟨F, ps, τ, r, h⟩ := h
  unfold evT at h
  refine oneT r h fun b H1 e r1 hz => ?_
  cases b with
  | true => rw [if_pos rfl]; exact laterT e r1 hz
  | false => rw [if_neg (by decide)]; exact hz _ e
omit ev in
theorem sW_or {a : Expr} {b : Expr} {rest : List Expr} {ca cb : E} {pos : Pos} (ha : PT X a (tT X.K g W xa ca)) (hb : PW X (.BoolOp .Or (b :: rest) pos) (tT X.K g W xa cb)) : PW X (.BoolOp .Or (a :: b :: rest) pos) (tT X.K g W xa (.or ca cb)) := by
  have h0 := pw_or ha hb
  refine ⟨fun wh pins s σ H Q I h => h0.run wh pins s σ H Q I ?_⟩
  obtain ⟨F, ps, τ, r, h⟩ := h
  unfold evT at h
  refine oneT r h fun b H1 e r1 hz => ?_
  cases b with
  | true => rw [if_pos rfl]; exact hz _ e
  | false => rw [if_neg (by decide)]; exact laterT e r1 hz
omit ev in
theorem sE_ite {t a b : Expr} {ct ca cb : E} {pos : Pos} (ht : PT X t (tT X.K g W xa ct)) (ha : PE X a (tE X.K g W xa ca)) (hb : PE X b (tE X.K g W xa cb)) : PE X (.IfExp t a b pos) (tE X.K g W xa (.ite ct ca cb)) := by
  refine PE.imp (pe_ifExp ht ha hb) fun σ H Q h => ?_
  obtain ⟨F, ps, τ, r, h⟩ := h
  unfold evE at h
  refine oneT r h fun q H1 e r1 hz => ?_
  cases q with
  | true => rw [if_pos rfl]; exact later (fun i z => by cases z) rfl e r1 hz
  | false => rw [if_neg (by decide)]; exact later (fun i z => by cases z) rfl e r1 hz
omit ev in
theorem star_step {e : Expr} (h : isStar e = false) (es : List Expr) (env : Env) : starEach (e :: es) env = (false, eval e env) :: starEach es env := by
  cases e <;> first | rfl | (simp [isStar] at h)
omit ev in
theorem star_all {pos : Pos} {env : Env} : ∀ {es : List Expr}, es.any isStar = false → (backTo pos (starEach es env)).any (·.1) = false
  | [], _ => rfl
  | e :: es, h => by
    simp only [List.any_cons, Bool.or_eq_false_iff] at h
    rw [star_step h.1]
    show (false || (backTo pos (starEach es env)).any (·.1)) = false
    rw [star_all h.2]; rfl
omit ev in
theorem sEs {f : Expr → E} : ∀ {es : List Expr}, (∀ e ∈ es, PE X e (tE X.K g W xa (f e))) → es.any isStar = false → PA X es (tA X.K g W xa (toEs (es.map f)))
  | [], _, _ => PA.imp pa_nil fun σ H Q h => by
    obtain ⟨F, ps, τ, r, h⟩ := h
    exact h [] H ⟨Same.refl _, .nil⟩
  | e :: es, h, hs => by
    simp only [List.any_cons, Bool.or_eq_false_iff] at hs
    refine PA.imp (pa_cons (h e (by simp)) (sEs (es := es) (fun e' q => h e' (List.mem_cons_of_mem _ q)) hs.2) (star_step hs.1 _ _)) fun σ H Q h => ?_
    obtain ⟨F, ps, τ, r, h⟩ := h
    have h : Sat ((evE g (f e) τ).bind fun x => (evEs g (toEs (es.map f)) τ).bind fun y => R.ok (x.1 :: y.1, x.2 ++ y.2)) _ _ := h
    refine one r h fun x v H1 pa r1 hz => ⟨F, ps, τ, r1, (Sat.bind.mp hz).imp (fun y hy vs H2 pb => ?_) fun _ z => XO.mono z pa.same⟩
    refine hy (v :: vs) H2 ⟨pa.same.trans pb.same, .cons ?_ (pb.den.sub (PP_dr fun i hi => List.mem_append_right _ hi))⟩
    exact Dn.mono (wo_same pb.same) _ (pa.den.sub (PP_dr fun i hi => List.mem_append_left _ hi))
omit ev in
theorem sE_tup {es : List Expr} {cs : Es} {n : Nat} {pos : Pos} (h : PA X es (tA X.K g W xa cs)) : PE X (.Tuple es n pos) (tE X.K g W xa (.tup cs)) := by
  refine PE.imp (pe_tup h) fun σ H Q h => ?_
  obtain ⟨F, ps, τ, r, h⟩ := h
  unfold evE at h
  refine ⟨F, ps, τ, r, (Sat.bind.mp h).imp (fun x hx vs H1 pa => ?_) fun _ z => z⟩
  split at hx
  · rename_i c
    refine ⟨by rw [pa.den.length]; exact c, fun p hp => ?_⟩
    have r1 := r.mono pa.same
    have np : ¬ PP F.P0 (dr x.2 ps) p := fun q => by
      obtain ⟨o, h3, _⟩ := r1.there (PP_dr0 p q)
      rw [hp] at h3; cases h3
    have den : Dn X.K (wo (PP F.P0 (dr x.2 ps)) (upd H1 p (.tup vs))) (.ref p) (.tuple x.1) := .tup (.inl (.inl (wo_some.mpr ⟨np, upd_same⟩))) (DnAll.mono (wo_same (same_upd hp)) _ pa.den)
    exact hx _ _ ⟨pa.same.trans (same_upd hp), den, Dn.elcl wo_all den, fun z => by cases z⟩
  · exact hx.elim
omit ev in
theorem sE_lst {es : List Expr} {cs : Es} {pos : Pos} (h : PA X es (tA X.K g W xa cs)) : PE X (.List es pos) (tE X.K g W xa (.lst cs)) := by
  refine PE.imp (pe_lst h) fun σ H Q h => ?_
  obtain ⟨F, ps, τ, r, h⟩ := h
  unfold evE at h
  refine ⟨F, ps, τ, r, (Sat.bind.mp h).imp (fun x hx vs H1 pa => ?_) fun _ z => z⟩
  split at hx
  · rename_i c
    refine ⟨by rw [pa.den.length]; exact c, fun p hp => ?_⟩
    have r1 := r.mono pa.same
    have := EPost.of_res (K := X.K) (P0 := F.P0) (ps := ps) (H := H) (c := .lst cs) (f := true) (L := x.2) (fun i z => by cases z) (fun _ => rfl) pa.same (same_upd hp) (fun a q => r.there q) (.lst hp pa.den)
    rw [lk_isC rfl] at this
    exact hx _ _ this
  · exact hx.elim
omit ev in
theorem sE_dct0 {pos : Pos} : PE X (.Dict [] [] pos) (tE X.K g W xa .dct0) := by
  refine PE.imp pe_dnewK fun σ H Q h => ?_
  obtain ⟨F, ps, τ, r, h⟩ := h
  intro p hp
  exact h _ _ (EPost.of_res (K := X.K) (P0 := F.P0) (ps := ps) (H := H) (c := .dct0) (f := true) (L := []) (fun i z => by cases z) (fun _ => rfl) (Same.refl _) (same_upd hp) (fun a q => r.there q) (.dct hp .nil))
theorem sE_sub {a b : Expr} {ca cb : E} {pos : Pos} (ha : PE X a (tE X.K g W xa ca)) (hb : PE X b (tE X.K g W xa cb)) (hs : PlainIx b) : PE X (.Subscript a b pos) (tE X.K g W xa (.sub ca cb)) := by
  refine PE.imp (pe_ix (ix_D (hu_of ev.room)) ha hb hs) fun σ H Q h => ?_
  obtain ⟨F, ps, τ, r, h⟩ := h
  unfold evE at h
  refine two r h fun x y v u H1 H2 pa pb r2 hz => ?_
  split at hz
  · rename_i z e
    refine ⟨_, x.1, y.1, z, wo_all, pa.el2 pb.same (fun i hi => hi), pb.dn, e, fun v' hv => hz _ _ ?_⟩
    exact EPost.of_res (f := false) (fun i z => by cases z) (fun z => by cases z) (pa.same.trans pb.same) (Same.refl _) (fun a q => r.there q) (.same (fun z => by cases z) hv)
  · exact hz.elim
theorem sT_sub {a b : Expr} {ca cb : E} {pos : Pos} (ha : PE X a (tE X.K g W xa ca)) (hb : PE X b (tE X.K g W xa cb)) (hs : PlainIx b) : PT X (.Subscript a b pos) (tT X.K g W xa (.sub ca cb)) := by
  refine PT.imp (pt_truthD (pe_ix (ix_D (hu_of ev.room)) ha hb hs) fun _ => rfl) fun σ H Q h => ?_
  obtain ⟨F, ps, τ, r, h⟩ := h
  unfold evT at h
  refine two r h fun x y v u H1 H2 pa pb r2 hz => ?_
  cases e : subD x.1 y.1 with
  | none => rw [e] at hz; exact hz.elim
  | some z =>
    rw [e] at hz
    cases e' : truD z with
    | none =>
      have hz : Sat (R.of (truD z)) _ _ := hz
      rw [e'] at hz; exact hz.elim
    | some q =>
      have hz : Sat (R.of (truD z)) _ _ := hz
      rw [e'] at hz
      exact ⟨_, x.1, y.1, z, wo_all, pa.el2 pb.same (fun i hi => hi), pb.dn, e, fun v' hv => ⟨z, q, hv.full, e', hz _ (pa.same.trans pb.same)⟩⟩
end
end Mp

/-! MiniPy, part G: calls, built-ins, slices, what is walked, targets. -/
namespace Mp
open PySem PySem.Spec PyProof.Rows L2
section
variable {X : Cx} {c : Cfg} {sc : Scope} {g : G} {k : Nat} {W : WX} {xa : XA} (ev : Envr X c sc g k W xa)
include ev
/-! ### slices -/
def tO (K : PySem.W.Frag) (g : G) (W : WX) (xa : XA) (o : O) : TO := fun σ H Q => ∃ F ps τ, Rel K F ps H σ τ ∧ Sat (evO g o τ) (fun l => ∀ H', Same H H' → Q l H') (XO W xa σ H)
omit ev in
theorem sO_no : PO X none (tO X.K g W xa .no) := ⟨fun pins s σ H Q I h => po_none.run pins s σ H Q I (by
  obtain ⟨F, ps, τ, r, h⟩ := h
  exact h H (Same.refl _))⟩
omit ev in
theorem sO_yes {e : Expr} {ce : E} (he : PE X e (tE X.K g W xa ce)) : PO X (some e) (tO X.K g W xa (.yes ce)) := ⟨fun pins s σ H Q I h => (po_some he).run pins s σ H Q I (by
  obtain ⟨F, ps, τ, r, h⟩ := h
  unfold evO at h
  refine one r h fun x v H1 pa r1 hz => ?_
  split at hz
  · rename_i i e
    have := pa.dn
    rw [e] at this; cases this
    exact ⟨i, rfl, hz _ pa.same⟩
  · exact hz.elim)⟩
omit ev in
theorem sE_sli {a : Expr} {lo hi : Option Expr} {ca : E} {cl ch : O} {p2 pos : Pos} (ha : PE X a (tE X.K g W xa ca)) (hl : PO X lo (tO X.K g W xa cl)) (hh : PO X hi (tO X.K g W xa ch)) :
    PE X (.Subscript a (.Slice lo hi none p2) pos) (tE X.K g W xa (.sli ca cl ch)) := by
  refine PE.imp (pe_slice sl_D ha hl hh) fun σ H Q h => ?_
  obtain ⟨F, ps, τ, r, h⟩ := h
  unfold evE at h
  refine one r h fun x v H1 pa r1 hz => ⟨F, ps, τ, r1, (Sat.bind.mp hz).imp (fun l hl H2 e2 => ⟨F, ps, τ, r1.mono e2, (Sat.bind.mp hl).imp (fun u hu H3 e3 => ?_) fun _ z => XO.mono z (pa.same.trans e2)⟩) fun _ z => XO.mono z pa.same⟩
  split at hu
  · rename_i z e
    exact ⟨_, x.1, z, wo_all, pa.el2 (e2.trans e3) (fun i hi => hi), e, fun v' H' rs => hu _ _ (EPost.of_res (fun i z => by cases z) (fun _ => rfl) ((pa.same.trans e2).trans e3) rs.same' (fun a q => r.there q) rs)⟩
  · exact hu.elim
omit ev in
theorem sE_rev {a : Expr} {ca : E} {j : Nat} {p1 p2 p3 pos : Pos} (ha : PE X a (tE X.K g W xa ca)) :
    PE X (.Subscript a (.Slice none none (some (.UnaryOp .USub (.Constant (.int 1) j p1) p2)) p3) pos) (tE X.K g W xa (.rev ca)) := by
  refine PE.imp (pe_revA ha) fun σ H Q h => ?_
  obtain ⟨F, ps, τ, r, h⟩ := h
  unfold evE at h
  refine one r h fun x v H1 pa r1 hz => ?_
  obtain ⟨d, L⟩ := x
  cases d with
  | list ds =>
    obtain ⟨b, vs, rfl, h1, h2⟩ := pa.el
    exact ⟨b, vs, rfl, .inl ⟨h1.sq, fun p hp => hz _ _ (EPost.of_res (fun i z => by cases z) (fun _ => rfl) pa.same (same_upd hp) (fun a q => r.there q) (.lst hp h2.reverse))⟩⟩
  | tuple ds =>
    obtain ⟨b, vs, rfl, h1, h2⟩ := dn_tup (show Dn X.K _ v (.tuple ds) from pa.el)
    exact ⟨b, vs, rfl, .inr ⟨Same.seqT wo_all h1, fun p hp => hz _ _ (EPost.of_res (f := true) (fun i z => by cases z) (fun _ => rfl) pa.same (same_upd hp) (fun a q => r.there q) (.tup hp h2.reverse))⟩⟩
  | _ => exact hz.elim
/-! ### calls -/
omit ev in
theorem mark_nil : ∀ (i : Nat) (ds : List D), mark [] i ds = ds.map fun d => some (false, d)
  | _, [] => rfl
  | i, d :: ds => by
    show some (([] : List Nat).contains i && isC d, d) :: mark [] (i + 1) ds = _
    rw [mark_nil (i + 1) ds]; rfl
omit ev in
theorem rel_args {K : PySem.W.Frag} {P : Addr → Prop} {H : Hp} {vs : List V} {ds : List D} (h : DnAll K (wo P H) vs ds) (hP : ∀ a, P a → ∃ o, H a = some o ∧ IsCo o) :
    Rel K ⟨H, fun a => ∃ i, (fun _ => none : Ps) i = some a, P, [], fun _ => none⟩ (fun _ => none) H (vs.map some) (mark [] 0 ds) := by
  rw [mark_nil]
  have hpp : ∀ a, PP P (fun _ => none) a → P a := fun a z => z.elim (fun q => q) fun ⟨_, q⟩ => by cases q
  refine ⟨by simp [h.length], fun i d e => ?_, fun i d e => ?_, fun i p e => (by cases e), fun i j p e => (by cases e), fun i p e => (by cases e), fun a o e _ => e, fun i p e => (by cases e), hP, fun i p e => (by cases e)⟩
  · rw [List.getElem?_map] at e
    obtain ⟨_, _, e2⟩ := Option.map_eq_some_iff.mp e
    cases e2
  · rw [List.getElem?_map] at e
    obtain ⟨d', e1, e2⟩ := Option.map_eq_some_iff.mp e
    cases e2
    obtain ⟨v, h1, h2⟩ := h.get e1
    exact ⟨v, by rw [List.getElem?_map, h1]; rfl, h2.sub hpp⟩
omit ev in
/-- a call's promise, from its meaning, where it changes nothing -/
theorem spD_pure {K : PySem.W.Frag} {cf : List D → R (D × List D)} {P : Addr → Prop} {H : Hp} {vs : List V} {ds : List D} {Q : VK} {E : XK} (h : DnAll K (wo P H) vs ds) (hP : ∀ a, P a → ∃ o, H a = some o ∧ IsCo o)
    (q : Sat (cf ds) (fun r => r.2 = [] → ∀ v H', Same H H' → Dn K (wo P H') v r.1 → Q v H') (fun x => ∀ cls dd H', Same H H' → xa x cls dd H' → E cls dd H')) : spD K cf [] xa vs H Q E := by
  refine ⟨_, _, ds, rel_args h hP, rfl, rfl, rfl, rfl, q.imp (fun r hr v H' p => ?_) fun x hx cls dd H' k => hx cls dd H' fun a o e => k a o e fun ⟨_, z⟩ => by cases z⟩
  refine hr ?_ v H' (fun a o e => p.keep a o e fun ⟨_, z⟩ => by cases z) (p.den.sub fun a z => .inl z)
  have := p.len
  simpa using this
theorem pe_call0S {CX : CXT} {sp : Sp} {E : L2.St → XK} {f : Addr} {fd : FuncData} {qs : List Str} {x : Str} {p pos : Pos} (F : FnOk X.prog X.w X.K X.mg X.base CX k f fd qs sp) (hr : Room k X.A) (hg : Gl X x) (hm : X.mg x = some (.ref f)) (hk : PySem.W.keepIn X.K (.ref f) = true) (hb : Binds X.K fd qs []) (hx : ∀ σ, PassesAt CX X σ (E σ))
    (hdb : (x == ("__debug__" : Str)) = false := by decide) : PE X (.Call (.Name x p) [] [] pos) (tCallS sp E tNil) := by
  refine ⟨fun pins s σ H Q I h => ?_⟩
  refine wpAny_Call_Name_kw (ld_glob I hg hm ?_ hdb)
  exact PySem.W.callWith_K0 I.kIn hk (run_fnS (us := []) F hr hb (hx σ) I .nil h)
/-- the reading of a call of the text's own, changing nothing -/
theorem call_rd {f : Nat} {cs : Es} (hio : g.io f = []) {F : Fx} {ps : Ps} {H : Hp} {σ : L2.St} {τ : Tau} (r : Rel X.K F ps H σ τ) {α : Type} {h : D × List D → List D × List Nat → R α} {p : α → Prop} {Q : VK}
    (hs : Sat ((evEs g cs τ).bind fun x => (g.cf f x.1).bind fun q => h q x) p (XO W xa σ H))
    (hq : ∀ q x v H', q.2 = [] → Same H H' → Dn X.K (wo (PP F.P0 (dr x.2 ps)) H') v q.1 → Sat (h q x) p (XO W xa σ H) → Q v H') : tCallS (spD X.K (g.cf f) (g.io f) xa) (WE W) (tA X.K g W xa cs) σ H Q := by
  refine ⟨F, ps, τ, r, (Sat.bind.mp hs).imp (fun x hx vs H1 pa => ?_) fun _ z => z⟩
  rw [hio]
  have r1 := r.mono pa.same
  refine spD_pure pa.den (fun a z => r1.there (PP_dr0 a z)) ((Sat.bind.mp hx).imp (fun q hq' h0 v H' e den => ?_) fun x z cls dd H' e => z cls dd H' (pa.same.trans e))
  exact hq q x v H' h0 (pa.same.trans e) den hq'
theorem sE_call {x : Str} {args : List Expr} {f : Nat} {cs : Es} {p pos : Pos} (ho : okName x = true) (hg : isGl sc x = true) (hf : ixOf x c.fns = some f) (hs : args.any isStar = false) (hn : args = [] → cs = .nil) (ha : PA X args (tA X.K g W xa cs)) :
    PE X (.Call (.Name x p) args [] pos) (tE X.K g W xa (.call f cs)) := by
  obtain ⟨a, fd, qs, h1, h2, h3, h4⟩ := ev.fn f x (ixOf_get hf)
  obtain ⟨o1, _, _⟩ := ok_names ho
  have main : PE X (.Call (.Name x p) args [] pos) (tCallS (spD X.K (g.cf f) (g.io f) xa) (WE W) (tA X.K g W xa cs)) := by
    cases args with
    | nil =>
      obtain rfl := hn rfl
      refine PE.imp (pe_call0S ev h4 ev.room (ev.gl_of hg) h1 h2 h3 (fun σ => passAt ev.tk σ) o1) fun σ H Q h => ?_
      obtain ⟨F, ps, τ, r, h⟩ := h
      exact h [] H ⟨Same.refl _, .nil⟩
    | cons e es =>
      simp only [List.any_cons, Bool.or_eq_false_iff] at hs
      exact pe_callS h4 ev.room (ev.gl_of hg) h1 h2 h3 (fun σ => passAt ev.tk σ) ha o1 (star_step hs.1 _ _) (star_all hs.2)
  refine PE.imp main fun σ H Q h => ?_
  obtain ⟨F, ps, τ, r, h⟩ := h
  unfold evE at h
  split at h
  · rename_i hio
    refine call_rd ev hio r h fun q x v H' h0 e den hz => ?_
    rw [h0] at hz
    refine hz v H' ?_
    have den' := lk_dn (fun a z => let ⟨o, q1, q2⟩ := r.there z; ⟨o, e _ _ q1, q2⟩) den
    exact ⟨e, den', Dn.elcl wo_all den', fun z => by cases z⟩
  · exact h.elim
theorem sE_callMain {x : Str} {args : List Expr} {f : Nat} {cs : Es} {p pos : Pos} (ho : okName x = true) (hg : isGl sc x = true) (hf : ixOf x c.fns = some f) (hs : args.any isStar = false) (hn : args = [] → cs = .nil) (ha : PA X args (tA X.K g W xa cs)) :
    PE X (.Call (.Name x p) args [] pos) (tCallS (spD X.K (g.cf f) (g.io f) xa) (WE W) (tA X.K g W xa cs)) := by
  obtain ⟨a, fd, qs, h1, h2, h3, h4⟩ := ev.fn f x (ixOf_get hf)
  obtain ⟨o1, _, _⟩ := ok_names ho
  cases args with
  | nil =>
    obtain rfl := hn rfl
    refine PE.imp (pe_call0S ev h4 ev.room (ev.gl_of hg) h1 h2 h3 (fun σ => passAt ev.tk σ) o1) fun σ H Q h => ?_
    obtain ⟨F, ps, τ, r, h⟩ := h
    exact h [] H ⟨Same.refl _, .nil⟩
  | cons e es =>
    simp only [List.any_cons, Bool.or_eq_false_iff] at hs
    exact pe_callS h4 ev.room (ev.gl_of hg) h1 h2 h3 (fun σ => passAt ev.tk σ) ha o1 (star_step hs.1 _ _) (star_all hs.2)
theorem sT_call {x : Str} {args : List Expr} {f : Nat} {cs : Es} {p pos : Pos} (ho : okName x = true) (hg : isGl sc x = true) (hf : ixOf x c.fns = some f) (hs : args.any isStar = false) (hn : args = [] → cs = .nil) (ha : PA X args (tA X.K g W xa cs)) :
    PT X (.Call (.Name x p) args [] pos) (tT X.K g W xa (.call f cs)) := by
  refine PT.imp (pt_truthD (sE_callMain ev ho hg hf hs hn ha) fun _ => rfl) fun σ H Q h => ?_
  obtain ⟨F, ps, τ, r, h⟩ := h
  unfold evT at h
  split at h
  · rename_i hio
    refine call_rd ev hio r h fun q x v H' h0 e den hz => ?_
    rw [h0] at hz
    cases e' : truD q.1 with
    | none =>
      have hz : Sat (R.of (truD q.1)) _ _ := hz
      rw [e'] at hz; exact hz.elim
    | some z =>
      have hz : Sat (R.of (truD q.1)) _ _ := hz
      rw [e'] at hz
      exact ⟨q.1, z, den.full, e', hz _ e⟩
  · exact h.elim
/-! ### names as tests -/
theorem sT_v {x : Str} {i : Nat} {pos : Pos} (ho : okName x = true) (hv : isVis sc x = true) (hi : ixOf x c.N = some i) : PT X (.Name x pos) (tT X.K g W xa (.v i)) := by
  refine PT.imp (pt_truthD (sE_v ev ho hv hi) fun _ => rfl) fun σ H Q h => ?_
  obtain ⟨F, ps, τ, r, h⟩ := h
  refine ⟨F, ps, τ, r, ?_⟩
  unfold evT at h
  unfold evE
  split
  · rename_i o d e
    rw [e] at h
    have h : Sat (R.of (truD d)) _ _ := h
    cases e' : truD d with
    | none => rw [e'] at h; exact h.elim
    | some z =>
      rw [e'] at h
      exact fun v H' pa => ⟨d, z, pa.dn, e', h _ pa.same⟩
  · rename_i hn
    split at h
    · rename_i o d e; exact (hn _ _ e).elim
    · exact h.elim
/-! ### built-ins -/
omit ev in
theorem boot1 {x : Str} {f : Bi} (h : biOf1 x = some f) : bootBuiltins x = some f.val ∧ x ≠ "__name__" ∧ (x == ("__debug__" : Str)) = false ∧ f ≠ .bitlen := by
  unfold biOf1 at h
  by_cases h1 : x = "len"
  · rw [if_pos h1] at h; cases h; subst h1; exact ⟨by decide +kernel, by decide, by decide, by decide⟩
  rw [if_neg h1] at h
  by_cases h1 : x = "int"
  · rw [if_pos h1] at h; cases h; subst h1; exact ⟨by decide +kernel, by decide, by decide, by decide⟩
  rw [if_neg h1] at h
  by_cases h1 : x = "abs"
  · rw [if_pos h1] at h; cases h; subst h1; exact ⟨by decide +kernel, by decide, by decide, by decide⟩
  rw [if_neg h1] at h
  by_cases h1 : x = "max"
  · rw [if_pos h1] at h; cases h; subst h1; exact ⟨by decide +kernel, by decide, by decide, by decide⟩
  rw [if_neg h1] at h
  by_cases h1 : x = "min"
  · rw [if_pos h1] at h; cases h; subst h1; exact ⟨by decide +kernel, by decide, by decide, by decide⟩
  rw [if_neg h1] at h
  by_cases h1 : x = "tuple"
  · rw [if_pos h1] at h; cases h; subst h1; exact ⟨by decide +kernel, by decide, by decide, by decide⟩
  rw [if_neg h1] at h
  by_cases h1 : x = "list"
  · rw [if_pos h1] at h; cases h; subst h1; exact ⟨by decide +kernel, by decide, by decide, by decide⟩
  rw [if_neg h1] at h
  by_cases h1 : x = "sum"
  · rw [if_pos h1] at h; cases h; subst h1; exact ⟨by decide +kernel, by decide, by decide, by decide⟩
  rw [if_neg h1] at h
  by_cases h1 : x = "any"
  · rw [if_pos h1] at h; cases h; subst h1; exact ⟨by decide +kernel, by decide, by decide, by decide⟩
  rw [if_neg h1] at h
  by_cases h1 : x = "all"
  · rw [if_pos h1] at h; cases h; subst h1; exact ⟨by decide +kernel, by decide, by decide, by decide⟩
  rw [if_neg h1] at h
  by_cases h1 : x = "str"
  · rw [if_pos h1] at h; cases h; subst h1; exact ⟨by decide +kernel, by decide, by decide, by decide⟩
  rw [if_neg h1] at h
  cases h
omit ev in
theorem boot2 {x : Str} {f : Bi} (h : biOf2 x = some f) : bootBuiltins x = some f.val ∧ x ≠ "__name__" ∧ (x == ("__debug__" : Str)) = false ∧ f ≠ .bitlen := by
  unfold biOf2 at h
  by_cases h1 : x = "max"
  · rw [if_pos h1] at h; cases h; subst h1; exact ⟨by decide +kernel, by decide, by decide, by decide⟩
  rw [if_neg h1] at h
  by_cases h1 : x = "min"
  · rw [if_pos h1] at h; cases h; subst h1; exact ⟨by decide +kernel, by decide, by decide, by decide⟩
  rw [if_neg h1] at h
  cases h
/-- any built-in's call -/
theorem pe_bi {x : Str} {f : Bi} {e : Expr} {es : List Expr} {t : TA} {p pos : Pos} (hv : bootBuiltins x = some f.val) (hb : f ≠ .bitlen) (hn : x ≠ "__name__") (hd : (x == ("__debug__" : Str)) = false) (hg : isGl sc x = true) (hm : c.bis.contains x = true)
    (hs : (e :: es).any isStar = false) (ha : PA X (e :: es) t) : PE X (.Call (.Name x p) (e :: es) [] pos) (tCB (rBi X.K f) t) := by
  simp only [List.any_cons, Bool.or_eq_false_iff] at hs
  have hc := call_bi (X := X) ev.calm hb
  cases f with
  | bitlen => exact absurd rfl hb
  | len => exact pe_callB hc (ev.gl_of hg) (ev.bi x hm) hv ha hn hd (star_step hs.1 _ _) (star_all hs.2)
  | abs => exact pe_callB hc (ev.gl_of hg) (ev.bi x hm) hv ha hn hd (star_step hs.1 _ _) (star_all hs.2)
  | max => exact pe_callB hc (ev.gl_of hg) (ev.bi x hm) hv ha hn hd (star_step hs.1 _ _) (star_all hs.2)
  | min => exact pe_callB hc (ev.gl_of hg) (ev.bi x hm) hv ha hn hd (star_step hs.1 _ _) (star_all hs.2)
  | sum => exact pe_callB hc (ev.gl_of hg) (ev.bi x hm) hv ha hn hd (star_step hs.1 _ _) (star_all hs.2)
  | any => exact pe_callB hc (ev.gl_of hg) (ev.bi x hm) hv ha hn hd (star_step hs.1 _ _) (star_all hs.2)
  | all => exact pe_callB hc (ev.gl_of hg) (ev.bi x hm) hv ha hn hd (star_step hs.1 _ _) (star_all hs.2)
  | sorted => exact pe_callB hc (ev.gl_of hg) (ev.bi x hm) hv ha hn hd (star_step hs.1 _ _) (star_all hs.2)
  | int => exact pe_callTy hc (ev.gl_of hg) (ev.bi x hm) hv ha hn hd (star_step hs.1 _ _) (star_all hs.2)
  | tuple => exact pe_callTy hc (ev.gl_of hg) (ev.bi x hm) hv ha hn hd (star_step hs.1 _ _) (star_all hs.2)
  | list => exact pe_callTy hc (ev.gl_of hg) (ev.bi x hm) hv ha hn hd (star_step hs.1 _ _) (star_all hs.2)
  | str => exact pe_callTy hc (ev.gl_of hg) (ev.bi x hm) hv ha hn hd (star_step hs.1 _ _) (star_all hs.2)
  | bool => exact pe_callTy hc (ev.gl_of hg) (ev.bi x hm) hv ha hn hd (star_step hs.1 _ _) (star_all hs.2)
omit ev in
theorem fresh_bi {f : Bi} {es : Es} (h : (E.bi f es).fresh = true) : (f == Bi.list) = true := by
  cases f <;> first | rfl | (simp [E.fresh] at h)
/-- one argument -/
theorem bi1_rd {f : Bi} {ca : E} {F : Fx} {ps : Ps} {H : Hp} {σ : L2.St} {τ : Tau} {α : Type} {h : D × List Nat → D → R α} {p : α → Prop} {Q : VK} (r : Rel X.K F ps H σ τ)
    (hs : Sat ((evE g ca τ).bind fun x => (R.of (biD f [x.1])).bind (h x)) p (XO W xa σ H))
    (hq : ∀ x z v H', Same H H' → EPost X.K F.P0 ps H H' (.bi f (.cons ca .nil)) (z, lk z (lkE ca x.2)) v → Sat (h x z) p (XO W xa σ H) → Q v H') : tCB (rBi X.K f) (tCons (tE X.K g W xa ca) tNil) σ H Q := by
  refine one r hs fun x v H1 pa r1 hz => ?_
  cases e : biD f [x.1] with
  | none => rw [e] at hz; exact hz.elim
  | some z =>
    rw [e] at hz
    refine ⟨wo (PP F.P0 (dr (lkE ca x.2) ps)) H1, [x.1], z, wo_all, rfl, fun i w d h1 h2 => ?_, e, fun v' H' rs => ?_⟩
    · cases i with
      | zero => cases h1; cases h2; exact pa.el
      | succ i => simp at h1
    · exact hq x z v' H' (pa.same.trans rs.same') (EPost.of_res (fun i z => by cases z) fresh_bi pa.same rs.same' (fun a q => r.there q) rs) hz
theorem sE_bi1 {x : Str} {f : Bi} {a : Expr} {ca : E} {p pos : Pos} (hf : biOf1 x = some f) (hg : isGl sc x = true) (hm : c.bis.contains x = true) (hs : [a].any isStar = false) (ha : PE X a (tE X.K g W xa ca)) :
    PE X (.Call (.Name x p) [a] [] pos) (tE X.K g W xa (.bi f (.cons ca .nil))) := by
  obtain ⟨b1, b2, b3, b4⟩ := boot1 hf
  have hs0 := hs
  simp only [List.any_cons, Bool.or_eq_false_iff] at hs
  refine PE.imp (pe_bi ev b1 b4 b2 b3 hg hm hs0 (pa_cons ha pa_nil (star_step hs.1 _ _))) fun σ H Q h => ?_
  obtain ⟨F, ps, τ, r, h⟩ := h
  unfold evE at h
  have h' : Sat ((evE g ca τ).bind fun x => (R.of (biD f [x.1])).bind fun z => R.ok (z, lk z (lkE ca x.2))) (fun x => ∀ v H', EPost X.K F.P0 ps H H' (.bi f (.cons ca .nil)) x v → Q v H') (XO W xa σ H) := by
    simp only [evEs] at h
    rw [Sat.bind] at h ⊢
    rw [Sat.bind] at h
    refine h.imp (fun x hx => ?_) fun _ z => z
    simp only [R.bind_ok] at hx
    have hx : Sat (match biD f [x.1] with | some z => R.ok (z, lk z (lkE ca (x.2 ++ []))) | none => R.st) _ _ := hx
    rw [List.append_nil] at hx
    cases e : biD f [x.1] with
    | none => rw [e] at hx; exact hx
    | some z => rw [e] at hx; exact hx
  exact bi1_rd ev r h' fun x z v H' e pp hz => hz v H' pp
theorem sT_bi1 {x : Str} {f : Bi} {a : Expr} {ca : E} {p pos : Pos} (hf : biOf1 x = some f) (hg : isGl sc x = true) (hm : c.bis.contains x = true) (hs : [a].any isStar = false) (ha : PE X a (tE X.K g W xa ca)) :
    PT X (.Call (.Name x p) [a] [] pos) (tT X.K g W xa (.bi f (.cons ca .nil))) := by
  obtain ⟨b1, b2, b3, b4⟩ := boot1 hf
  have hs0 := hs
  simp only [List.any_cons, Bool.or_eq_false_iff] at hs
  refine PT.imp (pt_truthD (pe_bi ev b1 b4 b2 b3 hg hm hs0 (pa_cons ha pa_nil (star_step hs.1 _ _))) fun _ => rfl) fun σ H Q h => ?_
  obtain ⟨F, ps, τ, r, h⟩ := h
  unfold evT at h
  have h' : Sat ((evE g ca τ).bind fun x => (R.of (biD f [x.1])).bind fun z => R.of (truD z)) (fun b => ∀ H', Same H H' → Q b H') (XO W xa σ H) := by
    simp only [evEs] at h
    rw [Sat.bind] at h ⊢
    rw [Sat.bind] at h
    refine h.imp (fun x hx => ?_) fun _ z => z
    simp only [R.bind_ok] at hx
    exact hx
  refine bi1_rd ev r h' fun x z v H' e pp hz => ?_
  cases e' : truD z with
  | none => rw [e'] at hz; exact hz.elim
  | some q => rw [e'] at hz; exact ⟨z, q, pp.dn, e', hz _ e⟩
theorem sE_bi2 {x : Str} {f : Bi} {a b : Expr} {ca cb : E} {p pos : Pos} (hf : biOf2 x = some f) (hg : isGl sc x = true) (hm : c.bis.contains x = true) (hs : [a, b].any isStar = false) (ha : PE X a (tE X.K g W xa ca)) (hb : PE X b (tE X.K g W xa cb)) :
    PE X (.Call (.Name x p) [a, b] [] pos) (tE X.K g W xa (.bi f (.cons ca (.cons cb .nil)))) := by
  obtain ⟨b1, b2, b3, b4⟩ := boot2 hf
  have hs0 := hs
  simp only [List.any_cons, Bool.or_eq_false_iff] at hs
  refine PE.imp (pe_bi ev b1 b4 b2 b3 hg hm hs0 (pa_cons ha (pa_cons hb pa_nil (star_step hs.2.1 _ _)) (star_step hs.1 _ _))) fun σ H Q h => ?_
  obtain ⟨F, ps, τ, r, h⟩ := h
  unfold evE at h
  have h' : Sat ((evE g ca τ).bind fun x => (evE g cb τ).bind fun y => (R.of (biD f [x.1, y.1])).bind fun z => R.ok (z, lk z (x.2 ++ y.2))) (fun x => ∀ v H', EPost X.K F.P0 ps H H' (.bi f (.cons ca (.cons cb .nil))) x v → Q v H') (XO W xa σ H) := by
    simp only [evEs] at h
    rw [Sat.bind] at h ⊢
    rw [Sat.bind] at h
    refine h.imp (fun x hx => ?_) fun _ z => z
    rw [Sat.bind] at hx ⊢
    rw [Sat.bind] at hx
    refine hx.imp (fun y hy => ?_) fun _ z => z
    have hy : Sat (match biD f [x.1, y.1] with | some z => R.ok (z, lk z (x.2 ++ (y.2 ++ []))) | none => R.st) _ _ := hy
    rw [List.append_nil] at hy
    cases e : biD f [x.1, y.1] with
    | none => rw [e] at hy; exact hy
    | some z => rw [e] at hy; exact hy
  refine two r h' fun x y v u H1 H2 pa pb r2 hz => ?_
  cases e : biD f [x.1, y.1] with
  | none => rw [e] at hz; exact hz.elim
  | some z =>
    rw [e] at hz
    refine ⟨wo (PP F.P0 (dr (x.2 ++ y.2) ps)) H2, [x.1, y.1], z, wo_all, rfl, fun i w d h1 h2 => ?_, e, fun v' H' rs => ?_⟩
    · cases i with
      | zero => cases h1; cases h2; exact pa.el2 pb.same fun i hi => List.mem_append_left _ (lkE_sub i hi)
      | succ i =>
        cases i with
        | zero => cases h1; cases h2; exact pb.el2 (Same.refl _) fun i hi => List.mem_append_right _ (lkE_sub i hi)
        | succ i => simp at h1
    · exact hz v' H' (EPost.of_res (fun i z => by cases z) fresh_bi (pa.same.trans pb.same) rs.same' (fun a q => r.there q) rs)
/-! ### isinstance, tuple(reversed(..)), bit_length -/
omit ev in
theorem tyName_ok {t : Str} {n : String} (h : tyName t = some n) : bootBuiltins t = some (.type n) ∧ t ≠ "__name__" ∧ (t == ("__debug__" : Str)) = false := by
  unfold tyName at h
  by_cases h1 : t = "int"
  · rw [if_pos h1] at h; cases h; subst h1; exact ⟨by decide +kernel, by decide, by decide⟩
  rw [if_neg h1] at h
  by_cases h1 : t = "bool"
  · rw [if_pos h1] at h; cases h; subst h1; exact ⟨by decide +kernel, by decide, by decide⟩
  rw [if_neg h1] at h
  by_cases h1 : t = "str"
  · rw [if_pos h1] at h; cases h; subst h1; exact ⟨by decide +kernel, by decide, by decide⟩
  rw [if_neg h1] at h
  by_cases h1 : t = "tuple"
  · rw [if_pos h1] at h; cases h; subst h1; exact ⟨by decide +kernel, by decide, by decide⟩
  rw [if_neg h1] at h
  by_cases h1 : t = "list"
  · rw [if_pos h1] at h; cases h; subst h1; exact ⟨by decide +kernel, by decide, by decide⟩
  rw [if_neg h1] at h
  by_cases h1 : t = "dict"
  · rw [if_pos h1] at h; cases h; subst h1; exact ⟨by decide +kernel, by decide, by decide⟩
  rw [if_neg h1] at h
  cases h
theorem pe_isiD {t : Str} {n : String} {a : Expr} {ca : E} {p p2 pos : Pos} (hx : c.bis.contains "isinstance" = true) (hgx : isGl sc "isinstance" = true) (ht : tyName t = some n) (hg : isGl sc t = true) (hm : c.bis.contains t = true) (hs : isStar a = false) (ha : PE X a (tE X.K g W xa ca)) :
    PE X (.Call (.Name "isinstance" p) [a, .Name t p2] [] pos) (tCB (rIsiD X.K n) (tCons (tE X.K g W xa ca) (tCons (tC (.ty n)) tNil))) := by
  obtain ⟨b1, b2, b3⟩ := tyName_ok ht
  exact pe_callB call_isiD (ev.gl_of hgx) (ev.bi _ hx) (by decide +kernel) (pa_cons ha (pa_cons (pe_bltn (ev.gl_of hg) (ev.bi t hm) b1 rfl b2 b3) pa_nil rfl) (star_step hs _ _)) (by decide) (by decide) (star_step hs _ _) rfl
theorem sE_isi {t : Str} {n : String} {a : Expr} {ca : E} {p p2 pos : Pos} (hx : c.bis.contains "isinstance" = true) (hgx : isGl sc "isinstance" = true) (ht : tyName t = some n) (hg : isGl sc t = true) (hm : c.bis.contains t = true) (hs : isStar a = false) (ha : PE X a (tE X.K g W xa ca)) :
    PE X (.Call (.Name "isinstance" p) [a, .Name t p2] [] pos) (tE X.K g W xa (.isi ca [.b n])) := by
  refine PE.imp (pe_isiD ev hx hgx ht hg hm hs ha) fun σ H Q h => ?_
  obtain ⟨F, ps, τ, r, h⟩ := h
  unfold evE at h
  refine one r h fun x v H1 pa r1 hz => ?_
  split at hz
  · rename_i b e
    exact ⟨v, x.1, b, rfl, pa.dn, e, hz _ _ (EPost.scal (fun i z => by cases z) pa.same (fun _ => .bl _) rfl)⟩
  · exact hz.elim
theorem sT_isi {t : Str} {n : String} {a : Expr} {ca : E} {p p2 pos : Pos} (hx : c.bis.contains "isinstance" = true) (hgx : isGl sc "isinstance" = true) (ht : tyName t = some n) (hg : isGl sc t = true) (hm : c.bis.contains t = true) (hs : isStar a = false) (ha : PE X a (tE X.K g W xa ca)) :
    PT X (.Call (.Name "isinstance" p) [a, .Name t p2] [] pos) (tT X.K g W xa (.isi ca [.b n])) := by
  refine PT.imp (pt_val (pe_isiD ev hx hgx ht hg hm hs ha) fun _ => rfl) fun σ H Q h => ?_
  obtain ⟨F, ps, τ, r, h⟩ := h
  unfold evT at h
  refine one r h fun x v H1 pa r1 hz => ?_
  cases e : isiD x.1 [.b n] with
  | none => rw [e] at hz; exact hz.elim
  | some b =>
    rw [e] at hz
    exact ⟨v, x.1, b, rfl, pa.dn, e, b, rfl, hz _ pa.same⟩
omit ev in
theorem noLs_append (as bs : List D) : noLs (as ++ bs) = (noLs as && noLs bs) := by
  induction as with
  | nil => rfl
  | cons a as ih => show (noL a && noLs (as ++ bs)) = ((noL a && noLs as) && noLs bs); rw [ih, Bool.and_assoc]
omit ev in
theorem noLs_reverse (ds : List D) : noLs ds.reverse = noLs ds := by
  induction ds with
  | nil => rfl
  | cons a as ih => rw [List.reverse_cons, noLs_append, ih]; show (noLs as && (noL a && true)) = (noL a && noLs as); rw [Bool.and_true, Bool.and_comm]
theorem sE_trev {a : Expr} {ca : E} {p p2 pos pos2 : Pos} (h1 : c.bis.contains "tuple" = true) (hg1 : isGl sc "tuple" = true) (h2 : c.bis.contains "reversed" = true) (hg2 : isGl sc "reversed" = true) (hs : isStar a = false) (ha : PE X a (tE X.K g W xa ca)) :
    PE X (.Call (.Name "tuple" p) [.Call (.Name "reversed" p2) [a] [] pos2] [] pos) (tE X.K g W xa (.trev ca)) := by
  refine PE.imp (RT.pe_tupRev ev.calm (ev.gl_of hg1) (ev.bi _ h1) (ev.gl_of hg2) (ev.bi _ h2) ha (star_step hs _ _) rfl) fun σ H Q h => ?_
  obtain ⟨F, ps, τ, r, h⟩ := h
  unfold evE at h
  refine one r h fun x v H1 pa r1 hz => ?_
  obtain ⟨d, L⟩ := x
  cases d with
  | list ds =>
    obtain ⟨b, vs, rfl, h1, h2⟩ := pa.el
    refine ⟨b, vs, rfl, h1.sq, fun p hp => hz _ _ ?_⟩
    have e : lk (PyData.tuple ds) (lkE ca L) = lk (PyData.tuple ds.reverse) (lkE ca L) := by
      have := noLs_reverse ds
      cases hL : lkE ca L with
      | nil => rfl
      | cons i M => rw [lk_cons, lk_cons]; show (if noLs ds then _ else _) = (if noLs ds.reverse then _ else _); rw [this]
    rw [e]
    exact EPost.of_res (f := true) (fun i z => by cases z) (fun _ => rfl) pa.same (same_upd hp) (fun a q => r.there q) (.tup hp h2.reverse)
  | _ => exact hz.elim
omit ev in
theorem noSuper_base {o : Expr} {m : Str} {env : Env} (h : noSuper o = true) : attributeBase o m env (eval o env) = eval o env := by
  unfold attributeBase
  split
  · rename_i id p pos; simp [noSuper] at h
  · rfl
omit ev in
theorem sE_bits {a : Expr} {ca : E} {apos pos : Pos} (hn : noSuper a = true) (hl : (apos.endLine == pos.line) = true) (ha : PE X a (tE X.K g W xa ca)) :
    PE X (.Call (.Attribute a "bit_length" apos) [] [] pos) (tE X.K g W xa (.bi .bitlen (.cons ca .nil))) := by
  refine PE.imp (pe_bits ha (noSuper_base hn) hl) fun σ H Q h => ?_
  obtain ⟨F, ps, τ, r, h⟩ := h
  unfold evE at h
  simp only [evEs] at h
  rw [Sat.bind] at h
  refine one r h fun x v H1 pa r1 hz => ?_
  simp only [R.bind_ok] at hz
  have hz : Sat (match biD .bitlen [x.1] with | some z => R.ok (z, lk z (lkE ca (x.2 ++ []))) | none => R.st) _ _ := hz
  obtain ⟨d, L⟩ := x
  cases d with
  | int i =>
    have := pa.dn
    cases this
    have hz : Sat (R.ok (PyData.int (Builtin.Int.intBits i : Nat), lk (PyData.int (Builtin.Int.intBits i : Nat)) (lkE ca (L ++ [])))) _ _ := hz
    rw [lk_flat rfl] at hz
    exact ⟨i, rfl, hz _ _ (EPost.scal (fun i z => by cases z) pa.same (fun _ => .int _) rfl)⟩
  | _ => exact hz.elim
end
end Mp

/-! MiniPy, part H: what is walked, targets, comprehensions. -/
namespace Mp
open PySem PySem.Spec PyProof.Rows L2
/-! ### what is walked -/
/-- an iterator's turns: C holds what it walks, G its items -/
structure ItOk (K : PySem.W.Frag) (J : It) (ds : List D) (C G : Hp) : Prop where
  go : ∀ i H, Same C H → i < ds.length → J.go i H
  stop : ∀ i H, Same C H → ds.length ≤ i → J.stop i H
  yld : ∀ i H x H' d (P : Addr → Prop), Same C H → Same G (wo P H) → (∀ a, P a → ∃ o, H a = some o) → J.yld i H x H' → ds[i]? = some d → Same H H' ∧ Dn K (wo P H') x d
section
variable {K : PySem.W.Frag} {C G C' G' : Hp} {ds : List D} {J : It}
theorem ItOk.mono (h : ItOk K J ds C G) (e : Same C C') (e' : Same G G') : ItOk K J ds C' G' :=
  ⟨fun i H q => h.go i H (e.trans q), fun i H q => h.stop i H (e.trans q), fun i H x H' d P q1 q2 => h.yld i H x H' d P (e.trans q1) (e'.trans q2)⟩
theorem get_lt {α : Type} {l : List α} {i : Nat} (h : i < l.length) : ∃ x, l[i]? = some x := ⟨l[i], by simp [h]⟩
theorem itl_ok {a : Addr} {vs : List V} (h1 : LsR K C a vs) (h2 : DnAll K G vs ds) : ItOk K (Itl K a) ds C G := by
  refine ⟨fun i H e hi => ?_, fun i H e hi => ⟨vs, (Same.ls e h1).sq, by rw [h2.length]; exact hi⟩, fun i H x H' d P e1 e2 _ y hd => ?_⟩
  · obtain ⟨x, hx⟩ := get_lt (l := vs) (by rw [h2.length]; exact hi)
    exact ⟨vs, x, (Same.ls e h1).sq, hx⟩
  · obtain ⟨e, y⟩ := y
    subst e
    obtain ⟨d', q1, q2⟩ := h2.get' (y vs ((Same.ls e1 h1).sq))
    rw [hd] at q1; cases q1
    exact ⟨Same.refl _, Dn.mono e2 _ q2⟩
theorem itt_ok {a : Addr} {vs : List V} (h1 : SqT K C a vs) (h2 : DnAll K G vs ds) : ItOk K (Itt K a) ds C G := by
  refine ⟨fun i H e hi => ?_, fun i H e hi => ⟨vs, Same.seqT e h1, by rw [h2.length]; exact hi⟩, fun i H x H' d P e1 e2 _ y hd => ?_⟩
  · obtain ⟨x, hx⟩ := get_lt (l := vs) (by rw [h2.length]; exact hi)
    exact ⟨vs, x, Same.seqT e h1, hx⟩
  · obtain ⟨e, y⟩ := y
    subst e
    obtain ⟨d', q1, q2⟩ := h2.get' (y vs (Same.seqT e1 h1))
    rw [hd] at q1; cases q1
    exact ⟨Same.refl _, Dn.mono e2 _ q2⟩
theorem its_ok {s : Str} : ItOk K (Its s) (strL s) C G := by
  have hl : (strL s).length = s.cps.size := by simp [strL]
  refine ⟨fun i H e hi => by rw [hl] at hi; exact hi, fun i H e hi => by rw [hl] at hi; exact hi, fun i H x H' d P e1 e2 _ y hd => ?_⟩
  obtain ⟨e, c, h1, h2⟩ := y
  subst e h2
  refine ⟨Same.refl _, ?_⟩
  unfold strL at hd
  rw [List.getElem?_map] at hd
  obtain ⟨c', q1, q2⟩ := Option.map_eq_some_iff.mp hd
  have : c' = c := by
    rw [Array.getElem?_toList] at q1
    rw [h1] at q1; exact (Option.some.inj q1).symm
  subst this q2
  exact .str _
theorem itr_ok {lo : Int} {n : Nat} : ItOk K (Itr lo n) (rngL lo n) C G := by
  have hl : (rngL lo n).length = n := by simp [rngL]
  refine ⟨fun i H e hi => by rw [hl] at hi; exact hi, fun i H e hi => by rw [hl] at hi; exact hi, fun i H x H' d P e1 e2 _ y hd => ?_⟩
  obtain ⟨e, h2⟩ := y
  subst e h2
  refine ⟨Same.refl _, ?_⟩
  unfold rngL at hd
  rw [List.getElem?_map] at hd
  obtain ⟨k, q1, q2⟩ := Option.map_eq_some_iff.mp hd
  have : k = i := by
    have := List.getElem?_eq_some_iff.mp q1
    obtain ⟨h, e⟩ := this
    rw [List.getElem_range] at e; exact e.symm
  subst this q2
  exact .int _
theorem rev_get {α : Type} {l : List α} {i : Nat} (h : i < l.length) : l.reverse[i]? = l[l.length - 1 - i]? := by
  rw [List.getElem?_reverse h]
theorem itv_ok {a : Addr} {vs : List V} (h1 : LsR K C a vs) (h2 : DnAll K G vs ds) : ItOk K (Itv K a vs.length) ds.reverse C G := by
  have hl := h2.length
  refine ⟨fun i H e hi => ?_, fun i H e hi => ?_, fun i H x H' d P e1 e2 _ y hd => ?_⟩
  · rw [List.length_reverse] at hi
    obtain ⟨x, hx⟩ := get_lt (l := vs) (i := vs.length - 1 - i) (by omega)
    exact ⟨by omega, vs, x, (Same.ls e h1).sq, hx⟩
  · rw [List.length_reverse] at hi; show vs.length ≤ i; omega
  · obtain ⟨e, y⟩ := y
    subst e
    have hi : i < ds.reverse.length := (List.getElem?_eq_some_iff.mp hd).1
    rw [List.length_reverse] at hi
    rw [rev_get hi] at hd
    obtain ⟨d', q1, q2⟩ := h2.get' (y vs ((Same.ls e1 h1).sq))
    rw [hl, hd] at q1; cases q1
    exact ⟨Same.refl _, Dn.mono e2 _ q2⟩
theorem itvT_ok {a : Addr} {vs : List V} (h1 : SqT K C a vs) (h2 : DnAll K G vs ds) : ItOk K (RT.ItvT K a vs.length) ds.reverse C G := by
  have hl := h2.length
  refine ⟨fun i H e hi => ?_, fun i H e hi => ?_, fun i H x H' d P e1 e2 _ y hd => ?_⟩
  · rw [List.length_reverse] at hi
    obtain ⟨x, hx⟩ := get_lt (l := vs) (i := vs.length - 1 - i) (by omega)
    exact ⟨by omega, vs, x, Same.seqT e h1, hx⟩
  · rw [List.length_reverse] at hi; show vs.length ≤ i; omega
  · obtain ⟨e, y⟩ := y
    subst e
    have hi : i < ds.reverse.length := (List.getElem?_eq_some_iff.mp hd).1
    rw [List.length_reverse] at hi
    rw [rev_get hi] at hd
    obtain ⟨d', q1, q2⟩ := h2.get' (y vs (Same.seqT e1 h1))
    rw [hl, hd] at q1; cases q1
    exact ⟨Same.refl _, Dn.mono e2 _ q2⟩
theorem enumL_get : ∀ {ds : List D} {k : Int} {i : Nat} {d : D}, (enumL k ds)[i]? = some d → ∃ x, ds[i]? = some x ∧ d = .tuple [.int (k + i), x]
  | [], _, _, _, h => by simp [enumL] at h
  | x :: ds, k, 0, d, h => by
    have h : some (PyData.tuple [.int k, x]) = some d := h
    cases h
    exact ⟨x, rfl, by simp⟩
  | x :: ds, k, i + 1, d, h => by
    have h : (enumL (k + 1) ds)[i]? = some d := h
    obtain ⟨y, h1, h2⟩ := enumL_get h
    refine ⟨y, h1, ?_⟩
    rw [h2]
    have : k + 1 + (i : Int) = k + ((i + 1 : Nat) : Int) := by omega
    rw [this]
theorem enumL_length : ∀ (ds : List D) (k : Int), (enumL k ds).length = ds.length
  | [], _ => rfl
  | x :: ds, k => by show (enumL (k + 1) ds).length + 1 = ds.length + 1; rw [enumL_length ds]
theorem fresh_not {P : Addr → Prop} {H : Hp} {T : Addr} (hT : H T = none) (hP : ∀ a, P a → ∃ o, H a = some o) : ¬ P T := fun z => by
  obtain ⟨o, q⟩ := hP T z
  rw [hT] at q; cases q
theorem ite_ok {a : Addr} {vs : List V} (h1 : LsR K C a vs) (h2 : DnAll K G vs ds) : ItOk K (Ite K a) (enumL 0 ds) C G := by
  have hl := enumL_length ds 0
  refine ⟨fun i H e hi => ?_, fun i H e hi => ⟨vs, (Same.ls e h1).sq, by rw [h2.length, ← hl]; exact hi⟩, fun i H v H' d P e1 e2 hP y hd => ?_⟩
  · rw [hl] at hi
    obtain ⟨x, hx⟩ := get_lt (l := vs) (by rw [h2.length]; exact hi)
    exact ⟨vs, x, (Same.ls e h1).sq, hx⟩
  · obtain ⟨T, x, rfl, hT, rfl, y⟩ := y
    obtain ⟨d', q1, rfl⟩ := enumL_get hd
    obtain ⟨d'', q3, q4⟩ := h2.get' (y vs ((Same.ls e1 h1).sq))
    rw [q1] at q3; cases q3
    have sm := same_upd (o := .tup [.int (i : Nat), x]) hT
    refine ⟨sm, .tup (.inl (.inl (wo_some.mpr ⟨fresh_not hT hP, upd_same⟩))) (.cons ?_ (.cons (Dn.mono (e2.trans (wo_same sm)) _ q4) .nil))⟩
    have : (0 : Int) + (i : Int) = ((i : Nat) : Int) := by omega
    rw [this]
    exact .int _
theorem zipL_get : ∀ {xs ys : List D} {i : Nat} {d : D}, (zipL xs ys)[i]? = some d → ∃ x y, xs[i]? = some x ∧ ys[i]? = some y ∧ d = .tuple [x, y]
  | [], _, _, _, h => by simp [zipL] at h
  | _ :: _, [], _, _, h => by simp [zipL] at h
  | x :: xs, y :: ys, 0, d, h => by
    have h : some (PyData.tuple [x, y]) = some d := h
    cases h
    exact ⟨x, y, rfl, rfl, rfl⟩
  | x :: xs, y :: ys, i + 1, d, h => zipL_get (xs := xs) (ys := ys) (show (zipL xs ys)[i]? = some d from h)
theorem zipL_length : ∀ (xs ys : List D), (zipL xs ys).length = min xs.length ys.length
  | [], _ => by simp [zipL]
  | _ :: _, [] => by simp [zipL]
  | x :: xs, y :: ys => by show (zipL xs ys).length + 1 = _; rw [zipL_length xs ys]; simp only [List.length_cons]; omega
theorem itz_ok {a b : Addr} {vs ws : List V} {es : List D} (h1 : LsR K C a vs) (h2 : DnAll K G vs ds) (h3 : LsR K C b ws) (h4 : DnAll K G ws es) : ItOk K (Itz K a b) (zipL ds es) C G := by
  have hl := zipL_length ds es
  have l1 := h2.length
  have l2 := h4.length
  refine ⟨fun i H e hi => ?_, fun i H e hi => ⟨vs, ws, (Same.ls e h1).sq, (Same.ls e h3).sq, by omega⟩, fun i H v H' d P e1 e2 hP y hd => ?_⟩
  · obtain ⟨x, hx⟩ := get_lt (l := vs) (i := i) (by omega)
    obtain ⟨y, hy⟩ := get_lt (l := ws) (i := i) (by omega)
    exact ⟨vs, ws, x, y, (Same.ls e h1).sq, (Same.ls e h3).sq, hx, hy⟩
  · obtain ⟨T, x, y', rfl, hT, rfl, y1, y2⟩ := y
    obtain ⟨dx, dy, q1, q2, rfl⟩ := zipL_get hd
    obtain ⟨d1, q3, q4⟩ := h2.get' (y1 vs ((Same.ls e1 h1).sq))
    obtain ⟨d2, q5, q6⟩ := h4.get' (y2 ws ((Same.ls e1 h3).sq))
    rw [q1] at q3; cases q3
    rw [q2] at q5; cases q5
    have sm := same_upd (o := .tup [x, y']) hT
    exact ⟨sm, .tup (.inl (.inl (wo_some.mpr ⟨fresh_not hT hP, upd_same⟩))) (.cons (Dn.mono (e2.trans (wo_same sm)) _ q4) (.cons (Dn.mono (e2.trans (wo_same sm)) _ q6) .nil))⟩
end
/-- the reading of what is walked -/
def tI (K : PySem.W.Frag) (g : G) (W : WX) (xa : XA) (it : I) : TI := fun σ H R => ∃ F ps τ, Rel K F ps H σ τ ∧ Sat (evI g it τ) (fun x => ∀ J H', Same H H' →
  ItOk K J x.1 (wo (PP F.P0 (dr x.2 ps)) H') (wo (PP F.P0 (dr x.2 ps)) H') → ItOk K J x.1 H' (wo (PP F.P0 (dr (lkI it x.2) ps)) H') → R J H') (XO W xa σ H)
theorem PI.imp {X : Cx} {tg e : Expr} {t t' : TI} (h : PI X tg e t) (i : ∀ σ H R, t' σ H R → t σ H R) : PI X tg e t' := ⟨fun pins s σ H R I q => h.run pins s σ H R I (i σ H R q)⟩
section
variable {X : Cx} {c : Cfg} {sc : Scope} {g : G} {k : Nat} {W : WX} {xa : XA} (ev : Envr X c sc g k W xa)
/-- one that is walked, whichever it is -/
theorem pi_any {tg l : Expr} {tl : TE} (hl : PE X l tl) : PI X tg l (fun σ H R => tl σ H fun x H1 => (∃ a, x = .ref a ∧ (∃ xs, SqL X.K H1 a xs) ∧ R (Itl X.K a) H1) ∨ (∃ a, x = .ref a ∧ (∃ xs, SqT X.K H1 a xs) ∧ R (Itt X.K a) H1) ∨ ∃ s, x = .str s ∧ R (Its s) H1) := by
  refine ⟨fun pins s σ H R I h => ?_⟩
  refine thn (hl.run pins s σ H _ I h) fun v s1 ⟨x, H1, I1, r1, q1⟩ => ?_
  rcases q1 with ⟨a, e, ⟨xs, hq⟩, q⟩ | ⟨a, e, ⟨xs, hq⟩, q⟩ | ⟨z, e, q⟩
  · subst e
    cases r1
    obtain ⟨its, rv, p, hz⟩ := I1.list hq
    refine wpAny_pyIter_list p.isList ?_
    refine ⟨s1.heap.objs.size, [s1.heap.objs.size], _, _, H1, rfl, I1.kept (t' := s1.toks) fun b o e => Heap.get?_push_of_some _ e, turn_list a _, ⟨_, Heap.get?_push_size _ rfl, rfl, rfl⟩, fun b hb => ?_, q⟩
    have e : b = s1.heap.objs.size := by simpa using hb
    subst e
    exact I1.fpOk (Nat.le_refl _) (I1.hok.fresh (Nat.le_refl _))
  · subst e
    cases r1
    obtain ⟨its, rv, p, hz⟩ := I1.tuple hq
    refine wpAny_pyIter_tuple (show s1.heap.IsTuple a its.toArray from p) ?_
    refine ⟨s1.heap.objs.size, [s1.heap.objs.size], _, _, H1, rfl, I1.kept (t' := s1.toks) fun b o e => Heap.get?_push_of_some _ e, turn_tuple a _, ⟨_, Heap.get?_push_size _ rfl, rfl, rfl⟩, fun b hb => ?_, q⟩
    have e : b = s1.heap.objs.size := by simpa using hb
    subst e
    exact I1.fpOk (Nat.le_refl _) (I1.hok.fresh (Nat.le_refl _))
  · -- a text: by the layer's own rule, the value already there
    subst e
    obtain ⟨t, rfl⟩ := r1
    cases ha : z.cps.all (· < 128)
    · exact wpAny_pyIter_wide ha (pi_one (tk := s1.toks) I1 _ (turn_str _ z t "str_iterator" (.inr rfl)) ⟨_, Heap.get?_push_size _ rfl, rfl, rfl⟩ q)
    · exact wpAny_pyIter_ascii ha (pi_one (tk := s1.toks) I1 _ (turn_str _ z t "str_ascii_iterator" (.inl rfl)) ⟨_, Heap.get?_push_size _ rfl, rfl, rfl⟩ q)
theorem sI_it {tg e : Expr} {ce : E} (he : PE X e (tE X.K g W xa ce)) : PI X tg e (tI X.K g W xa (.it ce)) := by
  refine PI.imp (pi_any he) fun σ H R h => ?_
  obtain ⟨F, ps, τ, r, h⟩ := h
  unfold evI at h
  refine one r h fun x v H1 pa r1 hz => ?_
  obtain ⟨d, L⟩ := x
  cases d with
  | list ds =>
    obtain ⟨a, vs, rfl, h1, h2⟩ := pa.el
    refine .inl ⟨a, rfl, ⟨vs, h1.sq⟩, hz _ _ pa.same ?_ (itl_ok h1 h2)⟩
    have hd := pa.den
    cases hd with | lst q1 q2 => exact itl_ok q1 q2
  | tuple ds =>
    obtain ⟨a, vs, rfl, h1, h2⟩ := dn_tup (show Dn X.K _ v (.tuple ds) from pa.el)
    refine .inr (.inl ⟨a, rfl, ⟨vs, Same.seqT wo_all h1⟩, hz _ _ pa.same ?_ (itt_ok (Same.seqT wo_all h1) h2)⟩)
    have hd := pa.den
    cases hd with | tup q1 q2 => exact itt_ok q1 q2
  | str s =>
    obtain rfl := dn_str pa.dn
    exact .inr (.inr ⟨s, rfl, hz _ _ pa.same its_ok its_ok⟩)
  | _ => exact hz.elim
include ev
theorem sI_r1 {tg a : Expr} {ca : E} {p pos : Pos} (hb : c.bis.contains "range" = true) (hg : isGl sc "range" = true) (hs : isStar a = false) (ha : PE X a (tE X.K g W xa ca)) : PI X tg (.Call (.Name "range" p) [a] [] pos) (tI X.K g W xa (.r1 ca)) := by
  refine PI.imp (pi_range1 (ev.gl_of hg) (ev.bi _ hb) (pa_cons ha pa_nil (star_step hs _ _)) (star_step hs _ _)) fun σ H R h => ?_
  obtain ⟨F, ps, τ, r, h⟩ := h
  unfold evI at h
  refine one r h fun x v H1 pa r1 hz => ?_
  obtain ⟨d, L⟩ := x
  cases d with
  | int j =>
    obtain rfl := dn_int pa.dn
    dsimp only at hz
    unfold rngR1 at hz
    split at hz
    · rename_i q
      unfold small62 at q
      have q := of_decide_eq_true q
      exact ⟨j, rfl, q.1, q.2, hz _ _ pa.same itr_ok itr_ok⟩
    · exact hz.elim
  | _ => exact hz.elim
theorem sI_r2 {tg a b : Expr} {ca cb : E} {p pos : Pos} (hb : c.bis.contains "range" = true) (hg : isGl sc "range" = true) (hs : isStar a = false) (hs' : isStar b = false) (ha : PE X a (tE X.K g W xa ca)) (hb' : PE X b (tE X.K g W xa cb)) :
    PI X tg (.Call (.Name "range" p) [a, b] [] pos) (tI X.K g W xa (.r2 ca cb)) := by
  have e2 : starEach [b] X.env = [(false, eval b X.env)] := star_step hs' _ _
  refine PI.imp (pi_range2 (ev.gl_of hg) (ev.bi _ hb) (pa_cons ha (pa_cons hb' pa_nil (star_step hs' _ _)) (star_step hs _ _)) ((star_step hs _ _).trans (by rw [e2])) e2) fun σ H R h => ?_
  obtain ⟨F, ps, τ, r, h⟩ := h
  unfold evI at h
  refine two r h fun x y v u H1 H2 pa pb r2 hz => ?_
  obtain ⟨d, L⟩ := x
  obtain ⟨d', L'⟩ := y
  cases d with
  | int i =>
    cases d' with
    | int j =>
      obtain rfl := dn_int pa.dn
      obtain rfl := dn_int pb.dn
      dsimp only at hz
      unfold rngR at hz
      split at hz
      · rename_i q
        simp only [Bool.and_eq_true] at q
        have q1 := of_decide_eq_true q.1
        have q2 := of_decide_eq_true q.2
        exact ⟨i, j, rfl, ⟨q1.1, q1.2, q2.1, q2.2⟩, hz _ _ (pa.same.trans pb.same) itr_ok itr_ok⟩
      · exact hz.elim
    | _ => exact hz.elim
  | _ => exact hz.elim
theorem sI_rev {tg a : Expr} {ca : E} {p pos : Pos} (hb : c.bis.contains "reversed" = true) (hg : isGl sc "reversed" = true) (hs : isStar a = false) (ha : PE X a (tE X.K g W xa ca)) : PI X tg (.Call (.Name "reversed" p) [a] [] pos) (tI X.K g W xa (.rev ca)) := by
  refine PI.imp (RT.pi_revA (ev.gl_of hg) (ev.bi _ hb) ha (star_step hs _ _)) fun σ H R h => ?_
  obtain ⟨F, ps, τ, r, h⟩ := h
  unfold evI at h
  refine one r h fun x v H1 pa r1 hz => ?_
  obtain ⟨d, L⟩ := x
  have hd := pa.den
  cases d with
  | list ds =>
    cases hd with
    | @lst a vs _ q1 q2 =>
      have e := itv_ok q1 q2
      exact ⟨a, vs, rfl, .inl ⟨(Same.ls wo_all q1).sq, hz _ _ pa.same e (e.mono wo_all (Same.refl _))⟩⟩
  | tuple ds =>
    cases hd with
    | @tup a vs _ q1 q2 =>
      have e := itvT_ok q1 q2
      exact ⟨a, vs, rfl, .inr ⟨Same.seqT wo_all q1, hz _ _ pa.same e (e.mono wo_all (Same.refl _))⟩⟩
  | _ => exact hz.elim
theorem sI_enum {a : Expr} {ca : E} {p pos tpos : Pos} {elts : List Expr} {kk : Nat} (hb : c.bis.contains "enumerate" = true) (hg : isGl sc "enumerate" = true) (hs : isStar a = false) (ha : PE X a (tE X.K g W xa ca)) :
    PI X (.Tuple elts kk tpos) (.Call (.Name "enumerate" p) [a] [] pos) (tI X.K g W xa (.enum ca)) := by
  refine PI.imp (pi_enum (ev.gl_of hg) (ev.bi _ hb) (pa_cons ha pa_nil (star_step hs _ _)) (star_step hs _ _)) fun σ H R h => ?_
  obtain ⟨F, ps, τ, r, h⟩ := h
  unfold evI at h
  refine one r h fun x v H1 pa r1 hz => ?_
  obtain ⟨d, L⟩ := x
  have hd := pa.den
  cases d with
  | list ds =>
    cases hd with
    | @lst a vs _ q1 q2 =>
      have e := ite_ok q1 q2
      exact ⟨a, vs, rfl, (Same.ls wo_all q1).sq, hz _ _ pa.same e (e.mono wo_all (Same.refl _))⟩
  | _ => exact hz.elim
theorem sI_zip {a b : Expr} {ca cb : E} {p pos tpos : Pos} {elts : List Expr} {kk : Nat} (hb : c.bis.contains "zip" = true) (hg : isGl sc "zip" = true) (hs : isStar a = false) (hs' : isStar b = false) (ha : PE X a (tE X.K g W xa ca)) (hb' : PE X b (tE X.K g W xa cb)) :
    PI X (.Tuple elts kk tpos) (.Call (.Name "zip" p) [a, b] [] pos) (tI X.K g W xa (.zip ca cb)) := by
  refine PI.imp (pi_zip (ev.gl_of hg) (ev.bi _ hb) (pa_cons ha (pa_cons hb' pa_nil (star_step hs' _ _)) (star_step hs _ _)) (star_step hs _ _) (star_all (es := [b]) (by simp [hs']))) fun σ H R h => ?_
  obtain ⟨F, ps, τ, r, h⟩ := h
  unfold evI at h
  refine two r h fun x y v u H1 H2 pa pb r2 hz => ?_
  obtain ⟨d, L⟩ := x
  obtain ⟨d', L'⟩ := y
  have hd := Dn.mono (wo_same pb.same) _ pa.den
  have hd' := pb.den
  cases d with
  | list ds =>
    cases d' with
    | list es =>
      have hd := hd.sub (PP_dr (L := L) (M := L ++ L') (P0 := F.P0) (ps := ps) fun i hi => List.mem_append_left _ hi)
      have hd' := hd'.sub (PP_dr (L := L') (M := L ++ L') (P0 := F.P0) (ps := ps) fun i hi => List.mem_append_right _ hi)
      cases hd with
      | @lst a vs _ q1 q2 =>
        cases hd' with
        | @lst b ws _ q3 q4 =>
          have e := itz_ok q1 q2 q3 q4
          exact ⟨a, b, vs, ws, rfl, (Same.ls wo_all q1).sq, (Same.ls wo_all q3).sq, hz _ _ (pa.same.trans pb.same) e (e.mono wo_all (Same.refl _))⟩
    | _ => exact hz.elim
  | _ => exact hz.elim
omit ev
/-! ### targets -/
def tSlots : T → List Nat
  | .n i => [i]
  | .tup is => is
/-- a target takes a datum that is not owned -/
def tG (K : PySem.W.Frag) (t : T) : TG := fun v σ H Q => ∃ F ps τ d, Rel K F ps H σ τ ∧ Dn K (wo (PP F.P0 ps) H) v d ∧ match asg F.iol false t d τ with
  | some τ' => ∀ σ' ps', Rel K F ps' H σ' τ' → (∀ j, j ∉ tSlots t → ps' j = ps j) → (∀ j, ps' j = none ∨ ps' j = ps j) → σ'.length = σ.length → (∀ j, j ∉ tSlots t → σ'[j]? = σ[j]?) → Q σ' H
  | none => False
/-- the names that may be stored here -/
def OwnN (X : Cx) (osc : Scope) : Prop := ∀ x, isOwn osc x = true → Loc X.env.scope x ∧ (X.fn x = true ∨ X.env.scope.names.lookup x = some .local)
theorem PG.imp {X : Cx} {e : Expr} {t t' : TG} (h : PG X e t) (i : ∀ v σ H Q, t' v σ H Q → t v σ H Q) : PG X e t' := ⟨fun pins s σ H v u Q I r q => h.run pins s σ H v u Q I r (i v σ H Q q)⟩
theorem Rel.set' {K : PySem.W.Frag} {F : Fx} {ps : Ps} {H : Hp} {σ : L2.St} {τ : Tau} (r : Rel K F ps H σ τ) {i : Nat} {v : V} {d : D} (h : Dn K (wo (PP F.P0 ps) H) v d) :
    ∃ ps', Rel K F ps' H (σ.set i (some v)) (τ.set i (some (false, d))) ∧ (∀ j, j ≠ i → ps' j = ps j) ∧ (∀ j, ps' j = none ∨ ps' j = ps j) :=
  ⟨_, r.set h, fun j hj => by simp [hj], fun j => by by_cases hj : j = i <;> simp [hj]⟩
theorem sG_n {x : Str} {i : Nat} {osc : Scope} {pos : Pos} (ho : OwnN X osc) (hN : X.N.Nodup) (hx : isOwn osc x = true) (hi : X.N[i]? = some x) : PG X (.Name x pos) (tG X.K (.n i)) := by
  obtain ⟨h1, h2⟩ := ho x hx
  refine PG.imp (pg_name hN hi h1 h2) fun v σ H Q h => ?_
  obtain ⟨F, ps, τ, d, r, hd, h⟩ := h
  unfold asg at h
  dsimp only at h
  split at h
  · rename_i τ' e
    split at e
    · cases e
    · cases e
      obtain ⟨ps', r', e1, e2⟩ := r.set' (i := i) hd
      exact h _ ps' r' (fun j hj => e1 j (by simpa [tSlots] using hj)) e2 (by simp) fun j hj => by
        rw [List.getElem?_set_ne (fun z => hj (by simp [tSlots, z]))]
  · exact h.elim
/-- several names -/
def tGs (K : PySem.W.Frag) (is : List Nat) : TGs := fun vs σ H Q => ∃ F ps τ ds, Rel K F ps H σ τ ∧ DnAll K (wo (PP F.P0 ps) H) vs ds ∧ match asgs F.iol is ds τ with
  | some τ' => ∀ σ' ps', Rel K F ps' H σ' τ' → (∀ j, j ∉ is → ps' j = ps j) → (∀ j, ps' j = none ∨ ps' j = ps j) → σ'.length = σ.length → (∀ j, j ∉ is → σ'[j]? = σ[j]?) → Q σ' H
  | none => False
theorem PP_le {P0 : Addr → Prop} {ps ps' : Ps} (e : ∀ j, ps' j = none ∨ ps' j = ps j) : ∀ a, PP P0 ps' a → PP P0 ps a := fun a z => by
  rcases z with z | ⟨j, z⟩
  · exact .inl z
  · rcases e j with q | q
    · rw [q] at z; cases z
    · exact .inr ⟨j, by rw [← q]; exact z⟩
theorem sGs {osc : Scope} (ho : OwnN X osc) (hN : X.N.Nodup) : ∀ {es : List Expr} {is : List Nat}, namesIx X.N osc es = some is → PGs X es (tGs X.K is) ∧ (assignEach es X.env).length = es.length ∧ (assignEach es X.env).findIdx? (·.1) = none ∧ is.length = es.length
  | [], is, h => by
    cases h
    refine ⟨⟨fun pins s σ H vs us Q I r h => pgs_nil.run pins s σ H vs us Q I r ?_⟩, rfl, rfl, rfl⟩
    obtain ⟨F, ps, τ, ds, rl, hd, h⟩ := h
    cases hd with
    | nil =>
      have h : ∀ σ' ps', Rel X.K F ps' H σ' τ → (∀ j, j ∉ ([] : List Nat) → ps' j = ps j) → (∀ j, ps' j = none ∨ ps' j = ps j) → σ'.length = σ.length → (∀ j, j ∉ ([] : List Nat) → σ'[j]? = σ[j]?) → Q σ' H := h
      exact ⟨rfl, h σ ps rl (fun _ _ => rfl) (fun _ => .inr rfl) rfl fun _ _ => rfl⟩
    | cons _ _ => exact h.elim
  | e :: es, is, h => by
    cases e with
    | Name x pos =>
      simp only [namesIx] at h
      split at h
      · rename_i hx
        split at h
        · rename_i i hi
          obtain ⟨js, h1, rfl⟩ := Option.map_eq_some_iff.mp h
          obtain ⟨p1, p2, p3, p4⟩ := sGs ho hN h1
          obtain ⟨l1, l2⟩ := ho x hx
          have base := pgs_cons (pg_name (pos := pos) hN (ixOf_get hi) l1 l2) p1 rfl
          refine ⟨⟨fun pins s σ H vs us Q I r h => base.run pins s σ H vs us Q I r ?_⟩, by show (assignEach es X.env).length + 1 = es.length + 1; rw [p2], ?_, by simp [p4]⟩
          · obtain ⟨F, ps, τ, ds, rl, hd, h⟩ := h
            cases hd with
            | nil => exact h.elim
            | cons d1 d2 =>
              rename_i v vs d ds
              have h : match (if i ∈ F.iol then none else asgs F.iol js ds (τ.set i (some (false, d)))) with
                | some τ' => ∀ σ' ps', Rel X.K F ps' H σ' τ' → (∀ j, j ∉ i :: js → ps' j = ps j) → (∀ j, ps' j = none ∨ ps' j = ps j) → σ'.length = σ.length → (∀ j, j ∉ i :: js → σ'[j]? = σ[j]?) → Q σ' H
                | none => False := h
              split at h
              · rename_i τ' e
                split at e
                · cases e
                · obtain ⟨ps1, r1, e1, e2⟩ := rl.set' (i := i) d1
                  refine ⟨v, vs, rfl, F, ps1, _, ds, r1, d2.sub (PP_le e2), ?_⟩
                  rw [e]
                  refine fun σ' ps' r' q1 q2 q3 q4 => h σ' ps' r' (fun j hj => ?_) (fun j => ?_) (by simpa using q3) fun j hj => ?_
                  · rw [q1 j (fun z => hj (List.mem_cons_of_mem _ z)), e1 j (fun z => hj (by simp [z]))]
                  · rcases q2 j with q | q
                    · exact .inl q
                    · rw [q]; exact e2 j
                  · rw [q4 j (fun z => hj (List.mem_cons_of_mem _ z)), List.getElem?_set_ne (fun z => hj (by simp [z]))]
              · exact h.elim
          · show List.findIdx? _ ((false, assign (.Name x pos) X.env) :: assignEach es X.env) = none
            rw [List.findIdx?_cons]
            simp [p3]
        · cases h
      · cases h
    | _ => simp [namesIx] at h
theorem sG_tup {es : List Expr} {is : List Nat} {osc : Scope} {n : Nat} {pos : Pos} (hc : X.calm = true) (ho : OwnN X osc) (hN : X.N.Nodup) (h : namesIx X.N osc es = some is) : PG X (.Tuple es n pos) (tG X.K (.tup is)) := by
  obtain ⟨p1, p2, p3, p4⟩ := sGs ho hN h
  refine PG.imp (pg_tup hc p1 p2 p3) fun v σ H Q h => ?_
  obtain ⟨F, ps, τ, d, r, hd, h⟩ := h
  cases d with
  | tuple ds =>
    obtain ⟨a, vs, rfl, h1, h2⟩ := dn_tup hd
    have h : match asgs F.iol is ds τ with
      | some τ' => ∀ σ' ps', Rel X.K F ps' H σ' τ' → (∀ j, j ∉ is → ps' j = ps j) → (∀ j, ps' j = none ∨ ps' j = ps j) → σ'.length = σ.length → (∀ j, j ∉ is → σ'[j]? = σ[j]?) → Q σ' H
      | none => False := h
    have hl : ∀ {is ds τ}, asgs F.iol is ds τ ≠ none → is.length = ds.length := by
      intro is
      induction is with
      | nil => intro ds τ q; cases ds with | nil => rfl | cons _ _ => exact absurd rfl q
      | cons i is ih =>
        intro ds τ q
        cases ds with
        | nil => exact absurd rfl q
        | cons d ds =>
          have q : (if i ∈ F.iol then none else asgs F.iol is ds (τ.set i (some (false, d)))) ≠ none := q
          by_cases hi : i ∈ F.iol
          · rw [if_pos hi] at q; exact absurd rfl q
          · rw [if_neg hi] at q; simp [ih q]
    refine ⟨a, vs, rfl, Same.seqT wo_all h1, ?_, F, ps, τ, ds, r, h2, h⟩
    rw [h2.length, ← p4]
    refine (hl (τ := τ) fun z => ?_).symm
    rw [z] at h
    exact h
  | _ => exact h.elim
theorem sG {tg : Expr} {t : T} {osc : Scope} (hc : X.calm = true) (ho : OwnN X osc) (hN : X.N.Nodup) (h : cT X.N osc tg = some t) : PG X tg (tG X.K t) := by
  cases tg with
  | Name x pos =>
    simp only [cT] at h
    split at h
    · rename_i hx
      obtain ⟨i, h1, rfl⟩ := Option.map_eq_some_iff.mp h
      exact sG_n ho hN hx (ixOf_get h1)
    · cases h
  | Tuple es n pos =>
    obtain ⟨is, h1, rfl⟩ := Option.map_eq_some_iff.mp (show (namesIx X.N osc es).map T.tup = some t from h)
    exact sG_tup hc ho hN h1
  | _ => simp [cT] at h
end
end Mp

/-! MiniPy, part I: comprehensions. -/
namespace Mp
open PySem PySem.Spec PyProof.Rows L2
theorem wipe_get {σ : L2.St} : ∀ {vs : List Nat} {j : Nat}, j ∉ vs → (wipe σ vs)[j]? = σ[j]?
  | [], _, _ => rfl
  | v :: vs, j, h => by
    have h1 : j ≠ v := fun z => h (by simp [z])
    show ((wipe σ vs).set v none)[j]? = σ[j]?
    rw [List.getElem?_set_ne (fun z => h1 z.symm)]
    exact wipe_get fun z => h (List.mem_cons_of_mem _ z)
theorem wipe_in {σ : L2.St} : ∀ {vs : List Nat} {j : Nat}, j ∈ vs → j < σ.length → (wipe σ vs)[j]? = some none
  | [], _, h, _ => nomatch h
  | v :: vs, j, h, hl => by
    show ((wipe σ vs).set v none)[j]? = some none
    by_cases e : v = j
    · subst e
      rw [List.getElem?_set_self (by rw [wipe_length]; exact hl)]
    · rw [List.getElem?_set_ne e]
      exact wipe_in ((List.mem_cons.mp h).resolve_left fun z => e z.symm) hl
theorem wipe_eq {σ σ' : L2.St} {vs : List Nat} (hl : σ'.length = σ.length) (h : ∀ j, j ∉ vs → σ'[j]? = σ[j]?) : wipe σ' vs = wipe σ vs := by
  apply List.ext_getElem?
  intro j
  by_cases hj : j ∈ vs
  · by_cases hlt : j < σ.length
    · rw [wipe_in hj hlt, wipe_in hj (by rw [hl]; exact hlt)]
    · rw [List.getElem?_eq_none (by rw [wipe_length, hl]; omega), List.getElem?_eq_none (by rw [wipe_length]; omega)]
  · rw [wipe_get hj, wipe_get hj, h j hj]
theorem wipeT_get {σ : Tau} : ∀ {vs : List Nat} {j : Nat}, j ∉ vs → (wipeT σ vs)[j]? = σ[j]?
  | [], _, _ => rfl
  | v :: vs, j, h => by
    have h1 : j ≠ v := fun z => h (by simp [z])
    show ((wipeT σ vs).set v none)[j]? = σ[j]?
    rw [List.getElem?_set_ne (fun z => h1 z.symm)]
    exact wipeT_get fun z => h (List.mem_cons_of_mem _ z)
theorem wipeT_in {σ : Tau} : ∀ {vs : List Nat} {j : Nat}, j ∈ vs → j < σ.length → (wipeT σ vs)[j]? = some none
  | [], _, h, _ => nomatch h
  | v :: vs, j, h, hl => by
    show ((wipeT σ vs).set v none)[j]? = some none
    by_cases e : v = j
    · subst e
      rw [List.getElem?_set_self (by rw [wipeT_length]; exact hl)]
    · rw [List.getElem?_set_ne e]
      exact wipeT_in ((List.mem_cons.mp h).resolve_left fun z => e z.symm) hl
theorem wipeT_some {τ : Tau} {vs : List Nat} {j : Nat} {x : Bool × D} (h : (wipeT τ vs)[j]? = some (some x)) : j ∉ vs ∧ τ[j]? = some (some x) := by
  by_cases hj : j ∈ vs
  · by_cases hlt : j < τ.length
    · rw [wipeT_in hj hlt] at h; cases h
    · rw [List.getElem?_eq_none (by rw [wipeT_length]; omega)] at h; cases h
  · rw [wipeT_get hj] at h; exact ⟨hj, h⟩
section
variable {K : PySem.W.Frag} {F : Fx} {ps : Ps} {H H' : Hp} {σ : L2.St} {τ : Tau}
/-- within a comprehension's block -/
def Fx.blk (F : Fx) (ps : Ps) (own : List Nat) (D0 : Addr) : Fx := ⟨F.H0, F.io, fun a => F.P0 a ∨ a = D0 ∨ ∃ j, j ∈ own ∧ ps j = some a, [], fun _ => none⟩
theorem blk_PP {own : List Nat} {D0 : Addr} {a : Addr} : PP (F.blk ps own D0).P0 (dr own ps) a ↔ (a = D0 ∨ PP F.P0 ps a) := by
  constructor
  · rintro ((h | h | ⟨j, _, h⟩) | ⟨j, h⟩)
    · exact .inr (.inl h)
    · exact .inl h
    · exact .inr (.inr ⟨j, h⟩)
    · exact .inr (.inr ⟨j, (dr_some.mp h).2⟩)
  · rintro (h | h | ⟨j, h⟩)
    · exact .inl (.inr (.inl h))
    · exact .inl (.inl h)
    · by_cases hj : j ∈ own
      · exact .inl (.inr (.inr ⟨j, hj, h⟩))
      · exact .inr ⟨j, dr_some.mpr ⟨hj, h⟩⟩
theorem Rel.blk (r : Rel K F ps H σ τ) {own : List Nat} {D0 : Addr} {vs : List V} (e : Same H H') (hD : H D0 = none) (hD' : H' D0 = some (.lst vs)) : Rel K (F.blk ps own D0) (dr own ps) H' (wipe σ own) (wipeT τ own) := by
  have key : Same (wo (PP F.P0 ps) H) (wo (PP (F.blk ps own D0).P0 (dr own ps)) H') := wo_gen fun a o h1 h2 => ⟨fun q => by
    rcases blk_PP.mp q with q | q
    · rw [q, hD] at h2; cases h2
    · exact h1 q, e _ _ h2⟩
  refine ⟨by rw [wipe_length, wipeT_length, r.ls], fun i d h => ?_, fun i d h => ?_, fun i p h => ?_, fun i j p h1 h2 => ?_, fun i p h => ?_, fun a o h1 h2 => e _ _ (r.keep a o h1 h2), fun i p h => ?_, fun a h => ?_, fun i p h => nomatch h⟩
  · obtain ⟨h1, h2⟩ := wipeT_some h
    obtain ⟨p, q1, q2, q3⟩ := r.own i d h2
    exact ⟨p, dr_some.mpr ⟨h1, q1⟩, by rw [wipe_get h1]; exact q2, q3.mono (fun o q => e _ _ q) key⟩
  · obtain ⟨h1, h2⟩ := wipeT_some h
    obtain ⟨v, q1, q2⟩ := r.cln i d h2
    exact ⟨v, by rw [wipe_get h1]; exact q1, Dn.mono key _ q2⟩
  · obtain ⟨h1, h2⟩ := dr_some.mp h
    obtain ⟨d, q⟩ := r.pown i p h2
    exact ⟨d, by rw [wipeT_get h1]; exact q⟩
  · exact r.inj i j p (dr_some.mp h1).2 (dr_some.mp h2).2
  · obtain ⟨h1, h2⟩ := dr_some.mp h
    rintro (q | q | ⟨j, q1, q2⟩)
    · exact r.out i p h2 q
    · obtain ⟨o, q3, _⟩ := r.there (.inr ⟨i, h2⟩)
      rw [q, hD] at q3; cases q3
    · exact h1 (by rw [r.inj i j p h2 q2]; exact q1)
  · exact r.new i p (dr_some.mp h).2
  · rcases h with q | q | ⟨j, _, q2⟩
    · obtain ⟨o, q1, q2⟩ := r.p0 a q
      exact ⟨o, e _ _ q1, q2⟩
    · exact ⟨.lst vs, by rw [q]; exact hD', trivial⟩
    · obtain ⟨o, q3, q4⟩ := r.there (.inr ⟨j, q2⟩)
      exact ⟨o, e _ _ q3, q4⟩
end
def W0 : WX := fun _ _ _ _ => False
def tC (K : PySem.W.Frag) (g : G) (xa : XA) : O → TT
  | .no => tYes
  | .yes e => tT K g W0 xa e
theorem compL_noex {elt : Tau → R (D × List Nat)} {cond : Tau → R Bool} {t : T} {own : List Nat} {τw : Tau} {x : Exc} : ∀ {ds : List D}, compL elt cond t own τw ds ≠ .ex x
  | [], h => by cases h
  | d :: ds, h => by
    unfold compL at h
    split at h
    · cases h
    · split at h
      · split at h
        · split at h
          · cases h
          · cases h
        · cases h
      · exact compL_noex h
      · cases h
section
variable {X : Cx} {c : Cfg} {sc : Scope} {g : G} {k : Nat} {W : WX} {xa : XA} (ev : Envr X c sc g k W xa)
theorem tIn_sub {t : T} {own : List Nat} (h : tIn t own = true) : ∀ j, j ∈ tSlots t → j ∈ own := fun j hj => by
  cases t with
  | n i => simp only [tSlots, List.mem_singleton] at hj; subst hj; simpa [tIn] using h
  | tup is =>
    simp only [tIn, List.all_eq_true] at h
    simpa using h j hj
structure CInv (K : PySem.W.Frag) (P : Addr → Prop) (H1 : Hp) (D0 : Addr) (cl : List D → R (List D × List Nat)) (ds : List D) (y : List D × List Nat) (i : Nat) (H2 : Hp) : Prop where
  le : i ≤ ds.length
  same : Same H1 H2
  ex : ∃ accv accd xs M, H2 D0 = some (.lst accv) ∧ DnAll K (wo (fun a => a = D0 ∨ P a) H2) accv accd ∧ accd.length ≤ i ∧ cl (ds.drop i) = .ok (xs, M) ∧ y.1 = accd ++ xs ∧ ∀ j, j ∈ M → j ∈ y.2
theorem rd_comp {ce : E} {t : T} {ci : I} {cc : O} {own : List Nat} (hin : tIn t own = true) {σ : L2.St} {H : Hp} {Q : VK} (h : tE X.K g W xa (.comp ce t ci cc own) σ H Q) :
    tLc (tI X.K g W xa ci) (tG X.K t) (tC X.K g xa cc) (tE X.K g W0 xa ce) own σ H Q := by
  obtain ⟨F, ps, τ, r, h⟩ := h
  unfold evE at h
  refine ⟨F, ps, τ, r, (Sat.bind.mp h).imp (fun x hx J H1 e1 _ ok D0 hD => ?_) fun _ z => z⟩
  split at hx
  case isFalse => exact hx.elim
  rename_i hlen
  cases hcl : compL (evE g ce) (evC g cc) t own (wipeT (frz (lkI ci x.2) τ) own) x.1 with
  | ex z => exact absurd hcl compL_noex
  | st => rw [hcl] at hx; exact hx.elim
  | ok y =>
  rw [hcl] at hx
  have hx : ∀ v H', EPost X.K F.P0 ps H H' (.comp ce t ci cc own) (.list y.1, lkI ci x.2 ++ y.2) v → Q v H' := hx
  have r1 : Rel X.K F (dr (lkI ci x.2) ps) H1 σ (frz (lkI ci x.2) τ) := (r.mono e1).frz _
  have there1 : ∀ a, PP F.P0 ps a → ∃ o, H1 a = some o ∧ IsCo o := fun a z => (r.mono e1).there z
  refine ⟨fun i m H2 => m = x.1.length - i ∧ CInv X.K (PP F.P0 (dr (lkI ci x.2 ++ y.2) ps)) H1 D0 (compL (evE g ce) (evC g cc) t own (wipeT (frz (lkI ci x.2) τ) own)) x.1 y i H2,
    ⟨x.1.length, by simp, Nat.zero_le _, same_upd hD, [], [], y.1, y.2, upd_same, .nil, Nat.le_refl _, hcl, rfl, fun _ q => q⟩, ?_⟩
  rintro i m H2 ⟨rfl, hi, s12, accv, accd, xs, M, hH2, hacc, hal, hc, hy, hM⟩
  by_cases hlt : i < x.1.length
  · -- one more turn
    obtain ⟨d, hd⟩ := get_lt hlt
    have hdrop : x.1.drop i = d :: x.1.drop (i + 1) := by
      have := List.drop_eq_getElem_cons hlt
      rw [this]
      have e : x.1[i] = d := by
        have := (List.getElem?_eq_some_iff.mp hd).2
        exact this
      rw [e]
    rw [hdrop] at hc
    unfold compL at hc
    refine .inr ⟨ok.go i H2 s12 hlt, CInv X.K (PP F.P0 (dr (lkI ci x.2 ++ y.2) ps)) H1 D0 (compL (evE g ce) (evC g cc) t own (wipeT (frz (lkI ci x.2) τ) own)) x.1 y (i + 1), fun H' h => ⟨x.1.length - (i + 1), by omega, rfl, h⟩, fun x0 H3 hyld => ?_⟩
    split at hc
    · cases hc
    rename_i τ' hasg
    have rb2 : Rel X.K (F.blk (dr (lkI ci x.2) ps) own D0) (dr own (dr (lkI ci x.2) ps)) H2 (wipe σ own) (wipeT (frz (lkI ci x.2) τ) own) := r1.blk s12 hD hH2
    have hG : Same (wo (PP F.P0 (dr (lkI ci x.2) ps)) H1) (wo (PP (F.blk (dr (lkI ci x.2) ps) own D0).P0 (dr own (dr (lkI ci x.2) ps))) H2) := wo_gen fun a o h1 h2 => ⟨fun q => by
      rcases blk_PP.mp q with q | q
      · rw [q, hD] at h2; cases h2
      · exact h1 q, s12 _ _ h2⟩
    obtain ⟨s23, hx0⟩ := ok.yld i H2 x0 H3 d _ s12 hG (fun a q => let ⟨o, q1, _⟩ := rb2.there q; ⟨o, q1⟩) hyld hd
    refine ⟨_, _, _, d, rb2.mono s23, hx0, ?_⟩
    have hasg' : asg (F.blk (dr (lkI ci x.2) ps) own D0).iol false t d (wipeT (frz (lkI ci x.2) τ) own) = some τ' := hasg
    rw [hasg']
    intro σ' ps'' r3 q1 q2 q3 q4
    refine ⟨?_, ?_⟩
    · have e1 : wipe σ' own = wipe (wipe σ own) own := wipe_eq q3 fun j hj => q4 j fun z => hj (tIn_sub hin j z)
      rw [e1]
      exact wipe_eq (wipe_length _ _) fun j hj => wipe_get hj
    -- the test
    have step : ∀ (b : Bool) (H4 : Hp), Same H3 H4 → evC g cc τ' = .ok b → (if b = true then tE X.K g W0 xa ce σ' H4 fun v H5 => ∃ acc, H5 D0 = some (.lst acc) ∧ acc.length < sizeLine ∧ CInv X.K (PP F.P0 (dr (lkI ci x.2 ++ y.2) ps)) H1 D0 (compL (evE g ce) (evC g cc) t own (wipeT (frz (lkI ci x.2) τ) own)) x.1 y (i + 1) (upd H5 D0 (.lst (acc ++ [v])))
      else CInv X.K (PP F.P0 (dr (lkI ci x.2 ++ y.2) ps)) H1 D0 (compL (evE g ce) (evC g cc) t own (wipeT (frz (lkI ci x.2) τ) own)) x.1 y (i + 1) H4) := fun b H4 s34 hb => by
      rw [hb] at hc
      cases b with
      | false =>
        rw [if_neg (by decide)]
        have s24 := s23.trans s34
        exact ⟨hlt, s12.trans s24, accv, accd, xs, M, s24 _ _ hH2, DnAll.mono (wo_same s24) _ hacc, Nat.le_succ_of_le hal, hc, hy, hM⟩
      | true =>
        rw [if_pos rfl]
        dsimp only at hc
        split at hc
        case h_2 => cases hc
        rename_i z L he
        split at hc
        case h_2 => cases hc
        rename_i zs N hcs
        cases hc
        refine ⟨_, _, _, r3.mono s34, ?_⟩
        rw [he]
        intro v H5 pe
        have s25 := (s23.trans s34).trans pe.same
        have hD5 : H5 D0 = some (.lst accv) := s25 _ _ hH2
        refine ⟨accv, hD5, by rw [hacc.length]; omega, hlt, fun a o q => ?_, accv ++ [v], accd ++ [z], zs, N, upd_same, ?_, by rw [List.length_append]; simp; omega, hcs, by rw [hy, List.append_assoc]; rfl, fun j hj => hM j (List.mem_append_right _ hj)⟩
        · rw [upd_ne (fun e => by rw [e, hD] at q; cases q)]
          exact (s12.trans s25) _ _ q
        · refine DnAll.append (DnAll.mono (wo_gen fun a o h1 h2 => ⟨h1, ?_⟩) _ hacc) (.cons (Dn.mono (wo_gen fun a o h1 h2 => ⟨?_, ?_⟩) _ pe.den) .nil)
          · rw [upd_ne fun e => h1 (.inl e)]; exact s25 _ _ h2
          · rintro (q | q)
            · exact h1 (.inl (.inr (.inl q)))
            · rcases q with q | ⟨j, q⟩
              · exact h1 (.inl (.inl q))
              · obtain ⟨n1, n2⟩ := dr_some.mp q
                have nl : j ∉ lkI ci x.2 := fun z => n1 (List.mem_append_left _ z)
                have p1 : dr (lkI ci x.2) ps j = some a := dr_some.mpr ⟨nl, n2⟩
                by_cases ho : j ∈ own
                · exact h1 (.inl (.inr (.inr ⟨j, ho, p1⟩)))
                · refine h1 (.inr ⟨j, dr_some.mpr ⟨fun z => n1 (List.mem_append_right _ (hM j (List.mem_append_left _ z))), ?_⟩⟩)
                  rw [q1 j (fun z => ho (tIn_sub hin j z))]
                  exact dr_some.mpr ⟨ho, p1⟩
          · have : a ≠ D0 := fun e => h1 (.inl (.inr (.inl e)))
            rw [upd_ne this]; exact h2
    cases cc with
    | no => exact step true H3 (Same.refl _) rfl
    | yes q =>
      refine ⟨_, _, _, r3, ?_⟩
      have hb : evC g (.yes q) τ' = evT g q τ' := rfl
      cases hq : evT g q τ' with
      | ok b => exact fun H4 s34 => step b H4 s34 (hb.trans hq)
      | ex z =>
        rw [hb, hq] at hc; cases hc
      | st =>
        rw [hb, hq] at hc; cases hc
  · -- the end
    have hie : i = x.1.length := by omega
    rw [hie, List.drop_length] at hc
    cases hc
    rw [List.append_nil] at hy
    refine .inl ⟨ok.stop i H2 s12 (by omega), hx _ _ ?_⟩
    have npD : ¬ PP F.P0 (dr (lkI ci x.2 ++ y.2) ps) D0 := fun q => by
      obtain ⟨o, q1, _⟩ := there1 D0 (PP_dr0 _ q)
      rw [hD] at q1; cases q1
    rw [hy]
    have den : Dn X.K (wo (PP F.P0 (dr (lkI ci x.2 ++ y.2) ps)) H2) (.ref D0) (.list accd) := .lst (.inl (.inl (wo_some.mpr ⟨npD, hH2⟩))) (hacc.sub fun a q => .inr q)
    rw [← hy]
    refine ⟨e1.trans s12, by rw [hy] at *; exact den, by rw [hy] at *; exact Dn.elcl wo_all den, fun _ _ => ⟨D0, rfl, e1.free hD, accv, hH2, by rw [hy]; exact hacc⟩⟩
end
end Mp

/-! MiniPy, part J: every expression of the text. -/
namespace Mp
open PySem PySem.Spec PyProof.Rows L2
section
variable {X : Cx} {c : Cfg} {sc : Scope} {g : G} {k : Nat} {W : WX} {xa : XA} (ev : Envr X c sc g k W xa)
theorem nstar {a : Expr} (h : (!isStar a) = true) : isStar a = false := by simpa using h
include ev
theorem s_mkI {f : Expr → E} {tg iter : Expr} (hf : ∀ e, PE X e (tE X.K g W xa (f e))) : PI X tg iter (tI X.K g W xa (mkI c sc f tg iter)) := by
  have dflt : PI X tg iter (tI X.K g W xa (.it (f iter))) := sI_it (hf iter)
  have bad : PI X tg iter (tI X.K g W xa (.it .bad)) := sI_it sE_bad
  unfold mkI
  split
  · rename_i x p a pos
    split
    · rename_i hc
      simp only [Bool.and_eq_true] at hc
      have hs := nstar hc.2
      split
      · rename_i hx; subst hx
        split
        · rename_i hb
          exact sI_r1 ev hb hc.1.1 hs (hf a)
        · exact bad
      · split
        · rename_i hx; subst hx
          split
          · rename_i hb
            exact sI_rev ev hb hc.1.1 hs (hf a)
          · exact bad
        · split
          · rename_i hx; subst hx
            split
            · rename_i hb
              simp only [Bool.and_eq_true] at hb
              cases tg with
              | Tuple elts kk tpos => exact sI_enum ev hb.1 hc.1.1 hs (hf a)
              | _ => simp [isTup] at hb
            · exact bad
          · exact dflt
    · exact dflt
  · rename_i x p a b pos
    split
    · rename_i hc
      simp only [Bool.and_eq_true] at hc
      have hs := nstar hc.1.2
      have hs' := nstar hc.2
      split
      · rename_i hx; subst hx
        split
        · rename_i hb
          exact sI_r2 ev hb hc.1.1.1 hs hs' (hf a) (hf b)
        · exact bad
      · split
        · rename_i hx; subst hx
          split
          · rename_i hb
            simp only [Bool.and_eq_true] at hb
            cases tg with
            | Tuple elts kk tpos => exact sI_zip ev hb.1 hc.1.1.1 hs hs' (hf a) (hf b)
            | _ => simp [isTup] at hb
          · exact bad
        · exact dflt
    · exact dflt
  · exact dflt
omit ev in
theorem sT_st {e : Expr} {ce : E} (h : ∀ τ, evT g ce τ = .st) : PT X e (tT X.K g W xa ce) := ⟨fun _ _ _ _ _ _ q => by
  obtain ⟨_, _, τ, _, q⟩ := q
  rw [h τ] at q; exact q.elim⟩
omit ev in
theorem sW_bad {e : Expr} : PW X e (tT X.K g W xa .bad) := ⟨fun _ _ _ _ _ _ _ h => by obtain ⟨_, _, _, _, h⟩ := h; exact h.elim⟩
omit ev in
/-- a value's truth -/
theorem sT_of {e : Expr} {ce : E} (h : PE X e (tE X.K g W xa ce)) (ht : ∀ τ, evT g ce τ = (evE g ce τ).bind fun x => R.of (truD x.1))
    (he : ∀ whole, isTrue e X.env whole = (do let v ← whole; standAt e.pos; holding [v] (truthy v))) : PT X e (tT X.K g W xa ce) := by
  refine PT.imp (pt_truthD h he) fun σ H Q q => ?_
  obtain ⟨F, ps, τ, r, q⟩ := q
  rw [ht τ] at q
  refine one r q fun x v H1 pa r1 hz => ?_
  cases e' : truD x.1 with
  | none => rw [e'] at hz; exact hz.elim
  | some z => rw [e'] at hz; exact ⟨x.1, z, pa.dn, e', hz _ pa.same⟩
omit ev in
theorem evT_bi {f : Bi} {es : Es} (τ : Tau) : evT g (.bi f es) τ = (evE g (.bi f es) τ).bind fun x => R.of (truD x.1) := by
  unfold evT evE
  cases evEs g es τ with
  | ok x =>
    simp only [R.bind_ok]
    cases biD f x.1 with
    | some z => rfl
    | none => rfl
  | ex x => rfl
  | st => rfl
omit ev in
theorem evT_st (τ : Tau) {ce : E} (h : evT g ce τ = .st) : evT g ce τ = .st := h
/-- the three readings of an expression -/
structure All (X : Cx) (g : G) (W : WX) (xa : XA) (e : Expr) (ce : E) : Prop where
  pe : PE X e (tE X.K g W xa ce)
  pt : PT X e (tT X.K g W xa ce)
  pw : (∃ op vs pos, e = .BoolOp op vs pos) → PW X e (tT X.K g W xa ce)
  pv : ∀ i, ce = .v i → PE X e (tVar i)
omit ev in
theorem All.bad {e : Expr} : All X g W xa e .bad := ⟨sE_bad, sT_bad, fun _ => sW_bad, fun _ z => by cases z⟩
omit ev in
theorem All.of {e : Expr} {ce : E} (h1 : PE X e (tE X.K g W xa ce)) (h2 : PT X e (tT X.K g W xa ce)) (h3 : ∀ op vs pos, e ≠ .BoolOp op vs pos) (h4 : ∀ i, ce = .v i → PE X e (tVar i) := by intro _ z; cases z) : All X g W xa e ce := ⟨h1, h2, fun ⟨_, _, _, z⟩ => (h3 _ _ _ z).elim, h4⟩
omit ev in
theorem toEs_one {f : Expr → E} {a : Expr} : toEs ([a].map f) = .cons (f a) .nil := rfl
theorem s_mkB {f : Expr → E} {x : Str} {args : List Expr} {p pos : Pos} (hf : ∀ e, PE X e (tE X.K g W xa (f e))) (hg : isGl sc x = true) (hs : args.any isStar = false) : All X g W xa (.Call (.Name x p) args [] pos) (mkB c sc f x args) := by
  have nb : ∀ op vs q, Expr.Call (.Name x p) args [] pos ≠ .BoolOp op vs q := fun _ _ _ z => by cases z
  unfold mkB
  split
  · rename_i hb
    have one : ∀ (a : Expr), [a].any isStar = false → All X g W xa (.Call (.Name x p) [a] [] pos) (match biOf1 x with | some k => .bi k (.cons (f a) .nil) | none => .bad) := fun a hs => by
      split
      · rename_i k hk
        exact .of (sE_bi1 ev hk hg hb hs (hf a)) (sT_bi1 ev hk hg hb hs (hf a)) (fun _ _ _ z => by cases z)
      · exact .bad
    split
    · rename_i a
      split
      · rename_i y p2 b pos2
        split
        · rename_i hc
          obtain ⟨rfl, rfl, h3, h4, h5⟩ := hc
          exact .of (sE_trev ev hb hg h4 h3 h5 (hf b)) (sT_st fun _ => by unfold evT; rfl) (fun _ _ _ z => by cases z)
        · exact one _ hs
      · exact one _ hs
    · rename_i a b
      split
      · rename_i hx; subst hx
        split
        · rename_i t p2
          split
          · rename_i hc
            simp only [Bool.and_eq_true] at hc
            split
            · rename_i n hn
              simp only [List.any_cons, Bool.or_eq_false_iff] at hs
              exact .of (sE_isi ev hb hg hn hc.1.1 hc.1.2 hs.1 (hf a)) (sT_isi ev hb hg hn hc.1.1 hc.1.2 hs.1 (hf a)) (fun _ _ _ z => by cases z)
            · exact .bad
          · exact .bad
        · exact .bad
      · split
        · rename_i k hk
          have he := sE_bi2 (pos := pos) (p := p) ev hk hg hb hs (hf a) (hf b)
          exact .of he (sT_of he evT_bi fun _ => rfl) (fun _ _ _ z => by cases z)
        · exact .bad
    · exact .bad
  · exact .bad
omit ev in
theorem isSet_no {iter : Expr} (h : isSet iter = false) (env : Env) (x : Value) : foldedSetIterable iter env x = pure x := by
  unfold foldedSetIterable
  cases iter <;> first | rfl | (simp [isSet] at h)
omit ev in
theorem behind_no {op : CmpOp} {b : Expr} (h : isSet b = false) : behindInMarks op b = false := by
  unfold behindInMarks
  cases b <;> first | (simp [isSet] at h; done) | (cases op <;> rfl)
end
section
variable {c : Cfg} {g : G} {k : Nat} {xa : XA}
/-- a block's context is one of those -/
theorem Envr.blk {X : Cx} {sc : Scope} {W : WX} (ev : Envr X c sc g k W xa) (s : Shared) (H : Hp) (scope : Scope) (C : Addr) (cl : List (Str × Addr)) (fp : List Addr) :
    Envr (X.blk s H scope (compEnvC scope cl C X.env) fp) c (relS scope sc) g k W0 xa :=
  ⟨ev.N, ev.nd, by rw [← ev.sc]; rfl, ev.calm, ev.room, takes0, ev.fn, ev.bi, ev.gl⟩
theorem isOwn_blk {X : Cx} {sc : Scope} (hsc : X.env.scope = sc) (s : Shared) (H : Hp) (scope : Scope) (C : Addr) (cl : List (Str × Addr)) (fp : List Addr) :
    OwnN (X.blk s H scope (compEnvC scope cl C X.env) fp) scope := fun x hx => by
  unfold isOwn at hx
  split at hx
  · rename_i e
    have e2 : (X.blk s H scope (compEnvC scope cl C X.env) fp).env.scope.names.lookup x = some .local := lookup_relS_keep (by decide) e
    exact ⟨.inl e2, .inr e2⟩
  · rename_i e
    have e2 : (X.blk s H scope (compEnvC scope cl C X.env) fp).env.scope.names.lookup x = some .cell := lookup_relS_keep (by decide) e
    exact ⟨.inr e2, .inl (by show (scope.names.lookup x == some .cell) = true; rw [e]; rfl)⟩
  · cases hx
theorem s_all : ∀ (n : Nat) {X : Cx} {sc : Scope} {W : WX} (ev : Envr X c sc g k W xa) (e : Expr), All X g W xa e (cE c n sc e)
  | 0, X, sc, W, ev, e => by unfold cE; exact .bad
  | n + 1, X, sc, W, ev, e => by
    have ih : ∀ e, All X g W xa e (cE c n sc e) := s_all n ev
    unfold cE
    split
    · -- a name
      rename_i x pos
      split
      · rename_i ho
        split
        · rename_i hv
          split
          · rename_i i hi
            obtain ⟨o1, o2, _⟩ := ok_names ho
            exact .of (sE_v ev ho hv hi) (sT_v ev ho hv hi) (fun _ _ _ z => by cases z) (fun j z => by cases z; exact pe_var (ev.at_ hi) (ev.vis_of hv) o1 o2)
          · exact .bad
        · split
          · rename_i hv
            split
            · rename_i i hi
              exact .of (sE_g ev ho hv hi) (sT_st fun _ => by unfold evT; rfl) (fun _ _ _ z => by cases z)
            · exact .bad
          · exact .bad
      · exact .bad
    · exact .of (sE_k pe_int (fun _ => .int _) rfl) (sT_st fun _ => by unfold evT; rfl) (fun _ _ _ z => by cases z)
    · exact .of (sE_k pe_bl (fun _ => .bl _) rfl) (sT_st fun _ => by unfold evT; rfl) (fun _ _ _ z => by cases z)
    · exact .of (sE_k pe_non (fun _ => .non) rfl) (sT_st fun _ => by unfold evT; rfl) (fun _ _ _ z => by cases z)
    · exact .of (sE_k pe_str (fun _ => .str _) rfl) (sT_st fun _ => by unfold evT; rfl) (fun _ _ _ z => by cases z)
    · exact .of (sE_bin ev (ih _).pe (ih _).pe) (sT_st fun _ => by unfold evT; rfl) (fun _ _ _ z => by cases z)
    · exact .of (sE_not (ih _).pe) (sT_not (ih _).pt) (fun _ _ _ z => by cases z)
    · exact .of (sE_neg (ih _).pe) (sT_st fun _ => by unfold evT; rfl) (fun _ _ _ z => by cases z)
    · -- and
      rename_i a b r p
      split
      · have w := sW_and (pos := p) (ih a).pt (pw_and1 (ih b).pt)
        exact ⟨sE_and (ih a).pe (pe_one (ih b).pe), w.pt, fun _ => w, fun _ z => by cases z⟩
      · have w := sW_and (ih a).pt ((ih (.BoolOp .And (b :: r) p)).pw ⟨_, _, _, rfl⟩)
        exact ⟨sE_and (ih a).pe (ih (.BoolOp .And (b :: r) p)).pe, w.pt, fun _ => w, fun _ z => by cases z⟩
    · -- or
      rename_i a b r p
      split
      · have w := sW_or (pos := p) (ih a).pt (pw_or1 (ih b).pt)
        exact ⟨sE_or (ih a).pe (pe_one (ih b).pe), w.pt, fun _ => w, fun _ z => by cases z⟩
      · have w := sW_or (ih a).pt ((ih (.BoolOp .Or (b :: r) p)).pw ⟨_, _, _, rfl⟩)
        exact ⟨sE_or (ih a).pe (ih (.BoolOp .Or (b :: r) p)).pe, w.pt, fun _ => w, fun _ z => by cases z⟩
    · -- one comparison
      split
      · exact .bad
      · rename_i h
        have h := fun op => behind_no (op := op) (Bool.eq_false_iff.mpr h)
        exact .of (sE_cmp ev (ih _).pe (ih _).pe (h _)) (sT_cmp ev (ih _).pe (ih _).pe (h _)) (fun _ _ _ z => by cases z)
    · -- two
      rename_i a op op' b b' pos
      split
      · exact .bad
      · rename_i h
        have h2 : behindInMarks op' b' = false := nobehind _ (fun z => h (.inr (.inr (.inl z)))) (fun z => h (.inr (.inr (.inr z))))
        exact .of (sE_chain ev (ih _).pe (ih _).pe (ih _).pe h2) (sT_chain ev (ih _).pe (ih _).pe (ih _).pe h2) (fun _ _ _ z => by cases z)
    · exact .of (sE_ite (ih _).pt (ih _).pe (ih _).pe) (sT_st fun _ => by unfold evT; rfl) (fun _ _ _ z => by cases z)
    · -- a tuple
      split
      · exact .bad
      · rename_i h
        exact .of (sE_tup (sEs (fun e _ => (ih e).pe) (Bool.eq_false_iff.mpr h))) (sT_st fun _ => by unfold evT; rfl) (fun _ _ _ z => by cases z)
    · split
      · exact .bad
      · rename_i h
        exact .of (sE_lst (sEs (fun e _ => (ih e).pe) (Bool.eq_false_iff.mpr h))) (sT_st fun _ => by unfold evT; rfl) (fun _ _ _ z => by cases z)
    · exact .of sE_dct0 (sT_st fun _ => by unfold evT; rfl) (fun _ _ _ z => by cases z)
    · -- a slice
      rename_i a lo hi p2 pos
      refine .of (sE_sli (ih _).pe ?_ ?_) (sT_st fun _ => by unfold evT; rfl) (fun _ _ _ z => by cases z)
      · cases lo with
        | none => exact sO_no
        | some e => exact sO_yes (ih e).pe
      · cases hi with
        | none => exact sO_no
        | some e => exact sO_yes (ih e).pe
    · exact .of (sE_rev (ih _).pe) (sT_st fun _ => by unfold evT; rfl) (fun _ _ _ z => by cases z)
    · -- an index
      rename_i a i pos _ _
      split
      · rename_i h
        have hs : PlainIx i := by
          cases i <;> first | (simp [plainIx] at h; done) | exact fun _ _ => rfl
        exact .of (sE_sub ev (ih _).pe (ih _).pe hs) (sT_sub ev (ih _).pe (ih _).pe hs) (fun _ _ _ z => by cases z)
      · exact .bad
    · -- a call
      rename_i x p args pos
      split
      · rename_i h
        simp only [Bool.and_eq_true, Bool.not_eq_true'] at h
        obtain ⟨⟨ho, hg⟩, hs⟩ := h
        split
        · rename_i f hf
          have ha := sEs (f := cE c n sc) (fun e _ => (ih e).pe) hs
          have hn : args = [] → toEs (args.map (cE c n sc)) = .nil := fun z => by rw [z]; rfl
          exact .of (sE_call ev ho hg hf hs hn ha) (sT_call ev ho hg hf hs hn ha) (fun _ _ _ z => by cases z)
        · exact s_mkB ev (fun e => (ih e).pe) hg hs
      · exact .bad
    · -- bit_length
      split
      · rename_i h
        simp only [Bool.and_eq_true] at h
        obtain ⟨⟨h1, h2⟩, h3⟩ := h
        have h1 := of_decide_eq_true h1
        subst h1
        have he := sE_bits h3 h2 (ih _).pe
        exact .of he (sT_of he evT_bi fun _ => rfl) (fun _ _ _ z => by cases z)
      · exact .bad
    · -- a list comprehension
      rename_i elt tg iter ifs scope pos
      split
      · rename_i h
        simp only [Bool.and_eq_true, Bool.not_eq_true'] at h
        split
        · rename_i t ht
          split
          · rename_i hin
            have okb : BlkOk X.N X.env.scope scope (ownOf c.N scope) := by rw [ev.N, ev.sc]; exact blkOk_by h.1
            have hG : ∀ (s : Shared) (H : Hp) (C : Addr) (cl : List (Str × Addr)) (fp : List Addr), PG (X.blk s H scope (compEnvC scope cl C X.env) fp) tg (tG X.K t) := fun s H C cl fp =>
              sG (X := X.blk s H scope (compEnvC scope cl C X.env) fp) (osc := scope) ev.calm (isOwn_blk ev.sc s H scope C cl fp) ev.nd (by show cT X.N scope tg = some t; rw [ev.N]; exact ht)
            have hI : PI X tg iter (tI X.K g W xa (mkI c sc (cE c n sc) tg iter)) := s_mkI ev fun e => (ih e).pe
            have hE : ∀ e (s : Shared) (H : Hp) (C : Addr) (cl : List (Str × Addr)) (fp : List Addr), All (X.blk s H scope (compEnvC scope cl C X.env) fp) g W0 xa e (cE c n (relS scope sc) e) := fun e s H C cl fp => s_all n (ev.blk s H scope C cl fp) e
            have fin : ∀ {qs : List Expr} {cc : O}, (∀ (s : Shared) (H : Hp) (C : Addr) (cl : List (Str × Addr)) (fp : List Addr), PTs (X.blk s H scope (compEnvC scope cl C X.env) fp) qs (tC X.K g xa cc)) →
                All X g W xa (.ListComp elt [⟨tg, iter, qs, 0⟩] scope pos) (.comp (cE c n (relS scope sc) elt) t (mkI c sc (cE c n sc) tg iter) cc ((ownOf c.N scope).map (·.2))) := fun hT =>
              .of (PE.imp (pe_lc ev.calm ev.nd hI okb hG hT (fun s H C cl fp => (hE elt s H C cl fp).pe) (isSet_no h.2 _)) fun σ H Q q => rd_comp hin q) (sT_st fun _ => by unfold evT; rfl) (fun _ _ _ z => by cases z)
            split
            · exact fin fun s H C cl fp => pts_nil
            · rename_i q
              exact fin fun s H C cl fp => pts_one (hE q s H C cl fp).pt
            · exact .bad
          · exact .bad
        · exact .bad
      · exact .bad
    · exact .bad
end
end Mp

/-! MiniPy, part K: statements. -/
namespace Mp
open PySem PySem.Spec PyProof.Rows L2
/-! ### from the text -/
def isComp : Expr → Bool
  | .ListComp .. => true
  | .SetComp .. => true
  | .DictComp .. => true
  | _ => false
def ssOf (f : Stmt → S) : List Stmt → Ss
  | [] => .nil
  | s :: ss => .cons (f s) (ssOf f ss)
def eF : Nat := 40
/-- a slot that is read -/
def visIx (c : Cfg) (sc : Scope) (x : Str) : Option Nat := if okName x && isVis sc x then ixOf x c.N else none
def ownIx (c : Cfg) (sc : Scope) (x : Str) : Option Nat := if isOwn sc x then ixOf x c.N else none
def isLoc (sc : Scope) (x : Str) : Bool := match sc.names.lookup x with
  | some .local => true
  | _ => false
/-- a call of the text's own -/
def fnIx (c : Cfg) (sc : Scope) (f : Str) (args : List Expr) : Option Nat := if okName f && isGl sc f && !(args.any isStar) then ixOf f c.fns else none
/-- name = e -/
def cSet (c : Cfg) (sc : Scope) (x : Str) (py : Pos) (i : Nat) (e : Expr) : S :=
  match e with
  | .ListComp elt gs scope p => .set (.n i) (cE c eF sc e)
  | .Call (.Attribute (.Name l pl) m apos) [] [] cpos => if m = "pop" then
      if apos.endLine == cpos.line then match visIx c sc l with
        | some j => .pop (some i) j
        | none => .bad
      else .bad
    else .set (.n i) (cE c eF sc e)
  | .Call (.Name f p) args [] cpos => match fnIx c sc f args with
    | some k => if (c.io k).isEmpty then .set (.n i) (cE c eF sc e) else .io (some i) k (toEs (args.map (cE c eF sc)))
    | none => .set (.n i) (cE c eF sc e)
  | _ => if isComp e then .bad else .set (.n i) (cE c eF sc e)
def parOk (sc : Scope) : List Expr → List Expr → Bool
  | [.Name x px, .Name y py], [a, b] => isLoc sc x && isLoc sc y && (py.line == px.line) && (x != y) && !([a, b].any isStar) && !([a, b].all (foldedForSure 8)) && !([a, b].all (constantsAlone 8))
  | [.Name x px, .Name y py, .Name z pz], [a, b, d] => isLoc sc x && isLoc sc y && isLoc sc z && (py.line == px.line) && (pz.line == px.line) && (x != y) && (x != z) && (y != z) && !([a, b, d].any isStar) && !([a, b, d].all (foldedForSure 8)) && !([a, b, d].all (constantsAlone 8))
  | _, _ => false
def cS (c : Cfg) : Nat → Scope → Stmt → S
  | 0, _, _ => .bad
  | n + 1, sc, st => match st with
    | .Assign [.Name x py] e _ => match ownIx c sc x with
      | some i => cSet c sc x py i e
      | none => .bad
    | .Assign [.Tuple ts k tp] e _ => match namesIx c.N sc ts with
      | some is => match e with
        | .Tuple es _ _ => if parOk sc ts es then .par is (toEs (es.map (cE c eF sc))) else .bad
        | _ => .set (.tup is) (cE c eF sc e)
      | none => .bad
    | .Assign [.Subscript (.Name l pl) i sp] e _ => if plainIx i then match visIx c sc l with
        | some j => .setIx j (cE c eF sc i) (cE c eF sc e)
        | none => .bad
      else .bad
    | .Expr (.Call (.Attribute (.Name l pl) m apos) args [] cpos) _ => if apos.endLine == cpos.line then match visIx c sc l with
        | some j => match args with
          | [] => if m = "pop" then .pop none j else .bad
          | [a] => if isStar a then .bad else if m = "append" then .app j (cE c eF sc a) else if m = "extend" then .ext j (cE c eF sc a) else .bad
          | [a, b] => if isStar a || isStar b then .bad else if m = "pop" then .dpop j (cE c eF sc a) (cE c eF sc b) else .bad
          | _ => .bad
        | none => .bad
      else .bad
    | .Expr (.Call (.Name f p) args [] cpos) _ => match fnIx c sc f args with
      | some k => if (c.io k).isEmpty then .ex (cE c eF sc (.Call (.Name f p) args [] cpos)) else .io none k (toEs (args.map (cE c eF sc)))
      | none => .bad
    | .If t a b _ => .ifS (cE c eF sc t) (ssOf (cS c n sc) a) (ssOf (cS c n sc) b)
    | .While t b [] _ => .wh (cE c eF sc t) (ssOf (cS c n sc) b)
    | .For tg iter b [] _ => if isSet iter then .bad else match cT c.N sc tg with
      | some t => .forS t (mkI c sc (cE c eF sc) tg iter) (ssOf (cS c n sc) b)
      | none => .bad
    | .Return (some e) _ => .ret (cE c eF sc e)
    | .Return none _ => .retN
    | .Break _ => .brk
    | .Continue _ => .ct
    | .Pass _ => .pass
    | _ => .bad

/-! ### the readings -/
def Post (K : PySem.W.Frag) (F : Fx) (W : WX) (xa : XA) (D : Ends) : Out → Prop
  | .nx τ => ∀ ps σ H, Rel K F ps H σ τ → D.nx σ H
  | .brk τ => ∀ ps σ H, Rel K F ps H σ τ → D.bk σ H
  | .ct τ => ∀ ps σ H, Rel K F ps H σ τ → D.ct σ H
  | .ret τ d => ∀ ps σ H v, Rel K F ps H σ τ → Dn K (wo (PP F.P0 ps) H) v d → D.rt v H
  | .ex x τ => ∀ ps σ H cls dd, Rel K F ps H σ τ → xa x cls dd H → W cls dd σ H
  | .st => False
def tS (K : PySem.W.Frag) (g : G) (W : WX) (xa : XA) (io : List Nat) (s : S) : TS := fun D σ H => ∃ F ps τ, Rel K F ps H σ τ ∧ F.iol = io ∧ Post K F W xa D (evS g io s τ)
def tSs (K : PySem.W.Frag) (g : G) (W : WX) (xa : XA) (io : List Nat) (s : Ss) : TS := fun D σ H => ∃ F ps τ, Rel K F ps H σ τ ∧ F.iol = io ∧ Post K F W xa D (evSs g io s τ)
theorem PS.imp {X : Cx} {e : Stmt} {t t' : TS} (h : PS X e t) (i : ∀ D σ H, t' D σ H → t D σ H) : PS X e t' := ⟨fun pins s σ H D I q => h.run pins s σ H D I (i D σ H q)⟩
theorem PSs.imp {X : Cx} {e : List Stmt} {t t' : TS} (h : PSs X e t) (i : ∀ D σ H, t' D σ H → t D σ H) : PSs X e t' := ⟨fun pins s σ H D I q => h.run pins s σ H D I (i D σ H q)⟩
theorem oneS {K : PySem.W.Frag} {F : Fx} {W : WX} {xa : XA} {D : Ends} {α : Type} {r : R α} {τ : Tau} {f : α → Out} {ps : Ps} {H : Hp} {σ : L2.St} (h : Post K F W xa D (.ofR r τ f)) (rl : Rel K F ps H σ τ) : Sat r (fun a => Post K F W xa D (f a)) (XO W xa σ H) := by
  cases r with
  | ok a => exact h
  | ex x => exact fun cls dd H' e q => h ps σ H' cls dd (rl.mono e) q
  | st => exact h
structure EnvS (X : Cx) (c : Cfg) (sco : Scope) (g : G) (k : Nat) (W : WX) (xa : XA) : Prop extends Envr X c sco g k W xa where
  own : OwnN X sco
  hp : PassesOwn (model X.prog X.w) X.A X.env X.xe
  kind : X.env.scope.kind = .function
  io : c.io = g.io
section
variable {K : PySem.W.Frag} {F : Fx} {ps : Ps} {H H1 : Hp} {σ : L2.St} {τ τ' : Tau} {i : Nat} {v : V} {d : D} {L : List Nat} {e : E}
/-- a slot takes what an expression has made -/
theorem asg_n (r : Rel K F ps H σ τ) (pa : EPost K F.P0 ps H H1 e (d, L) v) (h : asg F.iol e.fresh (.n i) d (frz L τ) = some τ') : ∃ ps', Rel K F ps' H1 (σ.set i (some v)) τ' := by
  unfold asg at h
  dsimp only at h
  split at h
  · cases h
  rename_i hi
  cases h
  have r1 := (r.mono pa.same).frz L
  by_cases hf : (e.fresh && isC d) = true
  · rw [hf]
    simp only [Bool.and_eq_true] at hf
    obtain ⟨p, rfl, h1, h2⟩ := pa.fr hf.1 hf.2
    by_cases hlt : i < τ.length
    · exact ⟨_, (r.frz L).setNew pa.same hi (by rw [frz_length]; exact hlt) h1 h2⟩
    · rw [List.set_eq_of_length_le (show σ.length ≤ i by rw [r.ls]; omega), List.set_eq_of_length_le (show (frz L τ).length ≤ i by rw [frz_length]; omega)]
      exact ⟨_, r1⟩
  · rw [Bool.eq_false_iff.mpr hf]
    exact ⟨_, r1.set pa.den⟩
end
section
variable {X : Cx} {c : Cfg} {sc : Scope} {g : G} {k : Nat} {W : WX} {xa : XA} (ev : EnvS X c sc g k W xa) {io : List Nat}
theorem s_bad {st : Stmt} : PS X st (tS X.K g W xa io .bad) := ⟨fun _ _ _ _ _ _ h => by obtain ⟨_, _, _, _, _, h⟩ := h; exact h.elim⟩
theorem s_nil : PSs X [] (tSs X.K g W xa io .nil) := PSs.imp pss_nil fun D σ H h => by
  obtain ⟨F, ps, τ, r, _, h⟩ := h
  exact h ps σ H r
theorem s_cons {st : Stmt} {rest : List Stmt} {s : S} {ss : Ss} (h1 : PS X st (tS X.K g W xa io s)) (h2 : PSs X rest (tSs X.K g W xa io ss)) : PSs X (st :: rest) (tSs X.K g W xa io (.cons s ss)) := by
  refine PSs.imp (pss_cons h1 h2) fun D σ H h => ?_
  obtain ⟨F, ps, τ, r, hio, h⟩ := h
  refine ⟨F, ps, τ, r, hio, ?_⟩
  unfold evSs at h
  cases hs : evS g io s τ with
  | nx τ2 => rw [hs] at h; exact fun ps' σ' H' r' => ⟨F, ps', τ2, r', hio, h⟩
  | ret τ2 d => rw [hs] at h; exact h
  | brk τ2 => rw [hs] at h; exact h
  | ct τ2 => rw [hs] at h; exact h
  | ex x τ2 => rw [hs] at h; exact h
  | st => rw [hs] at h; exact h
theorem s_ssOf {f : Stmt → S} : ∀ {ss : List Stmt}, (∀ s, PS X s (tS X.K g W xa io (f s))) → PSs X ss (tSs X.K g W xa io (ssOf f ss))
  | [], _ => s_nil
  | _ :: _, h => s_cons (h _) (s_ssOf h)
theorem s_if {t : Expr} {a b : List Stmt} {pos : Pos} {ct : E} {ca cb : Ss} (ht : PT X t (tT X.K g W xa ct)) (ha : PSs X a (tSs X.K g W xa io ca)) (hb : PSs X b (tSs X.K g W xa io cb)) : PS X (.If t a b pos) (tS X.K g W xa io (.ifS ct ca cb)) := by
  refine PS.imp (ps_if ht ha hb) fun D σ H h => ?_
  obtain ⟨F, ps, τ, r, hio, h⟩ := h
  unfold evS at h
  refine ⟨F, ps, τ, r, (oneS h r).imp (fun b hb H' e => ?_) fun _ z => z⟩
  cases b with
  | true => rw [if_pos rfl]; exact ⟨F, ps, τ, r.mono e, hio, hb⟩
  | false => rw [if_neg (by decide)]; exact ⟨F, ps, τ, r.mono e, hio, hb⟩
theorem s_ret {e : Expr} {ce : E} {pos : Pos} (he : PE X e (tE X.K g W xa ce)) : PS X (.Return (some e) pos) (tS X.K g W xa io (.ret ce)) := by
  refine PS.imp (ps_ret he) fun D σ H h => ?_
  obtain ⟨F, ps, τ, r, hio, h⟩ := h
  unfold evS at h
  refine ⟨F, ps, τ, r, (oneS h r).imp (fun x hx v H1 pa => ?_) fun _ z => z⟩
  exact hx (dr x.2 ps) σ H1 v ((r.mono pa.same).frz x.2) pa.den
theorem s_retN {pos : Pos} : PS X (.Return none pos) (tS X.K g W xa io .retN) := PS.imp ps_retN fun D σ H h => by
  obtain ⟨F, ps, τ, r, hio, h⟩ := h
  exact h ps σ H .non r .non
theorem s_brk {pos : Pos} : PS X (.Break pos) (tS X.K g W xa io .brk) := PS.imp ps_break fun D σ H h => by
  obtain ⟨F, ps, τ, r, hio, h⟩ := h
  exact h ps σ H r
theorem s_ct {pos : Pos} : PS X (.Continue pos) (tS X.K g W xa io .ct) := PS.imp ps_continue fun D σ H h => by
  obtain ⟨F, ps, τ, r, hio, h⟩ := h
  exact h ps σ H r
theorem s_pass {pos : Pos} : PS X (.Pass pos) (tS X.K g W xa io .pass) := PS.imp ps_pass fun D σ H h => by
  obtain ⟨F, ps, τ, r, hio, h⟩ := h
  exact h ps σ H r
theorem rd_set {i : Nat} {ce : E} {D : Ends} {σ : L2.St} {H : Hp} (h : tS X.K g W xa io (.set (.n i) ce) D σ H) : tAsg (tE X.K g W xa ce) (gName i) D σ H := by
  obtain ⟨F, ps, τ, r, hio, h⟩ := h
  unfold evS at h
  refine ⟨F, ps, τ, r, (oneS h r).imp (fun x hx v H1 pa => ?_) fun _ z => z⟩
  show D.nx (σ.set i (some v)) H1
  cases ha : asg io ce.fresh (.n i) x.1 (frz x.2 τ) with
  | none => rw [ha] at hx; exact hx.elim
  | some τ' =>
    rw [ha] at hx
    obtain ⟨ps', r'⟩ := asg_n (L := x.2) r pa (by rw [hio]; exact ha)
    exact hx ps' _ _ r'
theorem sw_no {e : Expr} (h : isComp e = false) (t : Option Expr) (l : Nat) (env : Env) : swapsWith e t l env = pure false := by
  unfold swapsWith
  cases e <;> first | rfl | (simp [isComp] at h)
theorem sw_tg {e tg : Expr} (h : ∀ x p, tg ≠ .Name x p) (h2 : isComp e = true → True) (l : Nat) (env : Env) : swapsWith e (some tg) l env = pure false := by
  unfold swapsWith
  cases e <;> first | rfl | (cases tg <;> first | rfl | exact absurd rfl (h _ _))
include ev
theorem ownIx_ok {x : Str} {i : Nat} (h : ownIx c sc x = some i) : X.N[i]? = some x ∧ Loc X.env.scope x ∧ (X.fn x = true ∨ X.env.scope.names.lookup x = some .local) := by
  unfold ownIx at h
  split at h
  · rename_i ho
    exact ⟨ev.at_ h, ev.own x ho⟩
  · cases h
theorem visIx_ok {x : Str} {i : Nat} {pos : Pos} (h : visIx c sc x = some i) : PE X (.Name x pos) (tVar i) ∧ PE X (.Name x pos) (tE X.K g W xa (.v i)) := by
  unfold visIx at h
  split at h
  · rename_i ho
    simp only [Bool.and_eq_true] at ho
    obtain ⟨o1, o2, _⟩ := ok_names ho.1
    exact ⟨pe_var (ev.at_ h) (ev.vis_of ho.2) o1 o2, sE_v ev.toEnvr ho.1 ho.2 h⟩
  · cases h
theorem s_set {x : Str} {py pos : Pos} {i : Nat} {e : Expr} {ce : E} (hx : ownIx c sc x = some i) (hc : isComp e = false) (he : PE X e (tE X.K g W xa ce)) : PS X (.Assign [.Name x py] e pos) (tS X.K g W xa io (.set (.n i) ce)) := by
  obtain ⟨h1, h2, h3⟩ := ownIx_ok ev hx
  exact PS.imp (ps_set ev.nd h1 h2 he (sw_no hc _ _ _) h3) fun D σ H h => rd_set h

end
end Mp

/-! MiniPy, part K2: the statements that change lists and dicts. -/
namespace Mp
open PySem PySem.Spec PyProof.Rows L2
theorem wo_upd {P : Addr → Prop} {H : Hp} {p : Addr} {o : HO} (h : P p) : Same (wo P H) (wo P (upd H p o)) := wo_gen fun a u h1 h2 => ⟨h1, by
  rw [upd_ne (fun z => h1 (by rw [z]; exact h))]; exact h2⟩
theorem own?_some {τ : Tau} {i : Nat} {d : D} (h : own? τ i = some d) : τ[i]? = some (some (true, d)) := by
  unfold own? at h
  split at h
  · rename_i d' e
    cases h; exact e
  · cases h
/-- keys that are put, dropped -/
theorem DnKV.append {K : PySem.W.Frag} {H : Hp} {kvs kws : List (Key × V)} {kds kes : List (D × D)} (h : DnKV K H kvs kds) (h' : DnKV K H kws kes) : DnKV K H (kvs ++ kws) (kds ++ kes) := by
  induction kds generalizing kvs with
  | nil => cases h; exact h'
  | cons x kds ih =>
    cases h with
    | int h1 h2 => exact .int h1 (ih h2)
    | str h1 h2 => exact .str h1 (ih h2)
theorem DnKV.anyK {K : PySem.W.Frag} {H : Hp} {k : D} (f : isKey k = true) : ∀ {kds : List (D × D)} {kvs : List (Key × V)}, DnKV K H kvs kds → (kvs.any fun kv => decide (kv.1 = keyOf k)) = kds.any fun p => keyEq p.1 k
  | [], _, h => by cases h; rfl
  | (x, d) :: kds, _, h => by
    cases h with
    | int h1 h2 =>
      rw [List.any_cons, List.any_cons, DnKV.anyK f h2, keyEq_iff f rfl]; rfl
    | str h1 h2 =>
      rw [List.any_cons, List.any_cons, DnKV.anyK f h2, keyEq_iff f rfl]; rfl
theorem DnKV.mapK {K : PySem.W.Frag} {H : Hp} {k : D} {v : V} {d : D} (f : isKey k = true) (hv : Dn K H v d) : ∀ {kds : List (D × D)} {kvs : List (Key × V)}, DnKV K H kvs kds → DnKV K H (kvs.map fun kv => if kv.1 = keyOf k then (kv.1, v) else kv) (kds.map fun p => if keyEq p.1 k then (p.1, d) else p)
  | [], _, h => by cases h; exact .nil
  | (x, d') :: kds, _, h => by
    cases h with
    | int h1 h2 =>
      rename_i i w kvs
      have ih := DnKV.mapK f hv h2
      have e := keyEq_iff f (x := .int i) rfl
      rw [List.map_cons, List.map_cons]
      by_cases q : (Sum.inl i : Key) = keyOf k
      · rw [if_pos q, if_pos (by rw [e]; exact decide_eq_true q)]; exact .int hv ih
      · rw [if_neg q, if_neg (by rw [e]; exact fun z => q (of_decide_eq_true z))]; exact .int h1 ih
    | str h1 h2 =>
      rename_i i w kvs
      have ih := DnKV.mapK f hv h2
      have e := keyEq_iff f (x := .str i) rfl
      rw [List.map_cons, List.map_cons]
      by_cases q : (Sum.inr i : Key) = keyOf k
      · rw [if_pos q, if_pos (by rw [e]; exact decide_eq_true q)]; exact .str hv ih
      · rw [if_neg q, if_neg (by rw [e]; exact fun z => q (of_decide_eq_true z))]; exact .str h1 ih
theorem DnKV.one {K : PySem.W.Frag} {H : Hp} {k : D} {v : V} {d : D} (f : isKey k = true) (hv : Dn K H v d) : DnKV K H [(keyOf k, v)] [(k, d)] := by
  cases k <;> first | exact .int hv .nil | exact .str hv .nil | (simp [isKey] at f)
theorem DnKV.put {K : PySem.W.Frag} {H : Hp} {k : D} {v : V} {d : D} (f : isKey k = true) (hv : Dn K H v d) {kds : List (D × D)} {kvs : List (Key × V)} (h : DnKV K H kvs kds) : DnKV K H (putK kvs (keyOf k) v) (dPut k d kds) := by
  unfold putK dPut
  rw [DnKV.anyK f h]
  split
  · exact DnKV.mapK f hv h
  · exact h.append (DnKV.one f hv)
theorem DnKV.drop {K : PySem.W.Frag} {H : Hp} {k : D} (f : isKey k = true) : ∀ {kds : List (D × D)} {kvs : List (Key × V)}, DnKV K H kvs kds → DnKV K H (dropK kvs (keyOf k)) (dDrop k kds)
  | [], _, h => by cases h; exact .nil
  | (x, d') :: kds, _, h => by
    unfold dropK dDrop
    cases h with
    | int h1 h2 =>
      rename_i i w kvs
      have ih : DnKV K H (kvs.filter fun kv => decide (kv.1 ≠ keyOf k)) (kds.filter fun p => !keyEq p.1 k) := DnKV.drop f h2
      have e := keyEq_iff f (x := .int i) rfl
      rw [List.filter_cons, List.filter_cons, e]
      by_cases q : (Sum.inl i : Key) = keyOf k
      · rw [if_neg (by simpa using q), if_neg (by rw [Bool.not_eq_true', decide_eq_false_iff_not]; exact fun z => z q)]; exact ih
      · rw [if_pos (by simpa using q), if_pos (by rw [Bool.not_eq_true', decide_eq_false_iff_not]; exact q)]; exact .int h1 ih
    | str h1 h2 =>
      rename_i i w kvs
      have ih : DnKV K H (kvs.filter fun kv => decide (kv.1 ≠ keyOf k)) (kds.filter fun p => !keyEq p.1 k) := DnKV.drop f h2
      have e := keyEq_iff f (x := .str i) rfl
      rw [List.filter_cons, List.filter_cons, e]
      by_cases q : (Sum.inr i : Key) = keyOf k
      · rw [if_neg (by simpa using q), if_neg (by rw [Bool.not_eq_true', decide_eq_false_iff_not]; exact fun z => z q)]; exact ih
      · rw [if_pos (by simpa using q), if_pos (by rw [Bool.not_eq_true', decide_eq_false_iff_not]; exact q)]; exact .str h1 ih
theorem key_dn' {K : PySem.W.Frag} {G : Hp} {x : V} {d : D} (h : Dn K G x d) (f : isKey d = true) : x = kV (keyOf d) := by
  cases h with
  | int i => rfl
  | str s => rfl
  | _ => simp [isKey] at f
theorem drop_none {k : D} : ∀ {kds : List (D × D)}, dGet k kds = none → dDrop k kds = kds
  | [], _ => rfl
  | (x, d) :: kds, h => by
    unfold dGet at h
    split at h
    · cases h
    · rename_i e
      unfold dDrop
      rw [List.filter_cons, if_pos (by simpa using e)]
      have := drop_none h
      unfold dDrop at this
      rw [this]

theorem set_own_self {τ : Tau} {i : Nat} {d : D} (h : own? τ i = some d) : τ.set i (some (true, d)) = τ := by
  have h := own?_some h
  apply List.ext_getElem?
  intro j
  by_cases e : i = j
  · subst e
    rw [List.getElem?_set_self (List.getElem?_eq_some_iff.mp h).1, h]
  · rw [List.getElem?_set_ne e]
theorem Rel.get {K : PySem.W.Frag} {F : Fx} {ps : Ps} {H : Hp} {σ : L2.St} {τ : Tau} (r : Rel K F ps H σ τ) {i : Nat} {d : D} (h : own? τ i = some d) : ∃ p, ps i = some p ∧ σ[i]? = some (some (.ref p)) ∧ OwnAt K H (PP F.P0 ps) p d := r.own i d (own?_some h)
/-- an owned list, written -/
theorem Rel.putL {K : PySem.W.Frag} {F : Fx} {ps : Ps} {H : Hp} {σ : L2.St} {τ : Tau} (r : Rel K F ps H σ τ) {i : Nat} {p : Addr} {vs : List V} {ds : List D} (hp : ps i = some p) (h : DnAll K (wo (PP F.P0 ps) H) vs ds) : Rel K F ps (upd H p (.lst vs)) σ (τ.set i (some (true, .list ds))) :=
  r.write hp ⟨vs, upd_same, DnAll.mono (wo_upd (.inr ⟨i, hp⟩)) _ h⟩ trivial
theorem Rel.putD {K : PySem.W.Frag} {F : Fx} {ps : Ps} {H : Hp} {σ : L2.St} {τ : Tau} (r : Rel K F ps H σ τ) {i : Nat} {p : Addr} {vs : List (Key × V)} {ds : List (D × D)} (hp : ps i = some p) (h : DnKV K (wo (PP F.P0 ps) H) vs ds) : Rel K F ps (upd H p (.dK vs)) σ (τ.set i (some (true, .dict ds))) :=
  r.write hp ⟨vs, upd_same, DnKV.mono (wo_upd (.inr ⟨i, hp⟩)) _ h⟩ trivial
section
variable {X : Cx} {c : Cfg} {sc : Scope} {g : G} {k : Nat} {W : WX} {xa : XA} {io : List Nat}
/-! ### o[i] = v -/
def rSetDk : TSet := fun o i v H Q => ∃ a H', o = .ref a ∧ DPut H a i v H' ∧ Q H'
def rSetA : TSet := fun o i v H Q => rSetL o i v H Q ∨ rSetDk o i v H Q
theorem set_any (hu : X.A.units + 1 < cLine) : PSet X rSetA := by
  intro pins s σ H o i v ov iv u Q I ro ri rv h
  rcases h with h | h
  · exact set_list pins s σ H o i v ov iv u Q I ro ri rv h
  · obtain ⟨a, H', eo, g, q⟩ := h
    subst eo
    cases (show ov = Value.ref a from ro)
    exact d_setItem hu I g ri rv fun s' I' => ⟨H', I', q⟩
theorem s_setIx {l : Str} {pl sp pos : Pos} {j : Nat} {i e : Expr} {ci ce : E} (hv : PE X (.Name l pl) (tVar j)) (hr : Room k X.A) (hi : PE X i (tE X.K g W xa ci)) (hp : plainIx i = true) (he : PE X e (tE X.K g W xa ce)) :
    PS X (.Assign [.Subscript (.Name l pl) i sp] e pos) (tS X.K g W xa io (.setIx j ci ce)) := by
  have ha : ∀ v, assign (.Subscript (.Name l pl) i sp) X.env v = (do
      let ov ← holding [v] (eval (.Name l pl) X.env)
      let iv ← holding [v, ov] (eval i X.env)
      standAt sp
      holding [v, ov, iv] (setItem ov iv v)
      release [v, ov, iv] []) := by
    cases i <;> first | (simp [plainIx] at hp; done) | exact fun _ => rfl
  refine PS.imp (ps_asg he (pg_sub hv hi (set_any (hu_of hr)) ha) (sw_tg (tg := .Subscript (.Name l pl) i sp) (fun _ _ z => by cases z) (fun _ => trivial) pos.line X.env) rfl rfl) fun D σ H h => ?_
  obtain ⟨F, ps, τ, r, hio, h⟩ := h
  unfold evS at h
  split at h
  · exact h.elim
  rename_i c0 hc0
  obtain ⟨p, hp1, hp2, _⟩ := r.get hc0
  refine ⟨F, ps, τ, r, (oneS h r).imp (fun x hx v H1 pa => ?_) fun _ z => z⟩
  have r1 := r.mono pa.same
  refine ⟨_, hp2, F, ps, τ, r1, (oneS hx r1).imp (fun y hy u H2 pb => ?_) fun _ z => z⟩
  have r2 := (r1.mono pb.same).frz x.2
  have hd := Dn.mono (wo_same pb.same) _ pa.den
  split at hy
  case h_2 => exact hy.elim
  rename_i cd hc
  split at hy
  case h_2 => exact hy.elim
  rename_i c' hs
  obtain ⟨p', q1, q2, q3⟩ := r2.get hc
  rw [hp2] at q2; cases q2
  have hk := pb.dn
  unfold setIxD at hs
  split at hs
  · rename_i ds i' heq
    obtain ⟨m, hm, rfl⟩ := Option.map_eq_some_iff.mp hs
    rw [heq] at hk
    cases dn_int hk
    obtain ⟨vs, z1, z2⟩ := q3
    refine .inl ⟨p, vs, i', m, rfl, rfl, z1, by rw [z2.length]; exact hm, ?_⟩
    exact hy _ _ _ (r2.putL q1 (z2.set hd m))
  · rename_i kds dk heq
    split at hs
    · rename_i hkk
      simp only [Bool.and_eq_true, decide_eq_true_eq] at hkk
      cases hs
      obtain ⟨kvs, z1, z2⟩ := q3
      have e := key_dn' hk hkk.1
      rw [e]
      refine .inr ⟨p, _, rfl, DPut.k z1 (by rw [z2.length]; exact hkk.2), ?_⟩
      exact hy _ _ _ (r2.putD q1 (DnKV.put hkk.1 hd z2))
    · cases hs
  · cases hs
/-! ### methods of lists -/
theorem few_of {e : Expr} {es : List Expr} {cpos : Pos} (h : (e :: es).any isStar = false) (hl : (e :: es).length < 30) : ((backTo cpos (starEach (e :: es) X.env)).all (fun x => !x.1) && (backToKw cpos (keywordEach [] X.env)).all (fun x => x.1.isSome)
      && decide ((e :: es).length + ([] : List Keyword).length + (if ([] : List Keyword).isEmpty then 0 else 1) < 30)) = true := by
  have h1 : (backTo cpos (starEach (e :: es) X.env)).all (fun x => !x.1) = true := by
    have := star_all (pos := cpos) (env := X.env) h
    rw [List.all_eq_true]
    rw [List.any_eq_false] at this
    exact fun x hx => by simpa using this x hx
  have h2 : (backToKw cpos (keywordEach [] X.env)).all (fun x => x.1.isSome) = true := rfl
  rw [h1, h2]
  simpa using hl
theorem tyL {K : PySem.W.Frag} {H : Hp} {p : Addr} {vs : List V} (h : H p = some (.lst vs)) : tyV K "list" (.ref p) H := .inl ⟨rfl, vs, SqL.of h⟩
theorem s_app {l m : Str} {pl apos cpos pos : Pos} {j : Nat} {e : Expr} {ce : E} (hm : m = "append") (hv : PE X (.Name l pl) (tVar j)) (hs : isStar e = false) (hl : (apos.endLine == cpos.line) = true) (he : PE X e (tE X.K g W xa ce)) :
    PS X (.Expr (.Call (.Attribute (.Name l pl) m apos) [e] [] cpos) pos) (tS X.K g W xa io (.app j ce)) := by
  subst hm
  have hs' : [e].any isStar = false := by simp [hs]
  refine PS.imp (ps_expr (pe_bm PySem.F.plainAttrs_list F.slot_list_append F.type_list_append mt_append hv (pa_cons he pa_nil (star_step hs _ _)) rfl (few_of hs' (by simp)) hl (star_step hs _ _) rfl)) fun D σ H h => ?_
  obtain ⟨F, ps, τ, r, hio, h⟩ := h
  unfold evS at h
  split at h
  case h_2 => exact h.elim
  rename_i c0 hc0
  obtain ⟨p, hp1, hp2, vs0, hp3, _⟩ := r.get hc0
  refine ⟨.ref p, hp2, tyL hp3, F, ps, τ, r, (oneS h r).imp (fun x hx v H1 pa => ?_) fun _ z => z⟩
  split at hx
  · rename_i ds hc
    split at hx
    · rename_i hlen
      obtain ⟨p', q1, q2, vs, z1, z2⟩ := ((r.mono pa.same).frz x.2).get hc
      rw [hp2] at q2; cases q2
      exact ⟨p, vs, v, rfl, rfl, z1, by rw [z2.length]; exact hlen, hx _ _ _ (((r.mono pa.same).frz x.2).putL q1 (z2.append (.cons pa.den .nil)))⟩
    · exact hx.elim
  · exact hx.elim
/-- extend by a list that is read -/
def rExtR (K : PySem.W.Frag) : V → List V → Hp → VK → Prop := fun x vs H Q => ∃ l b xs zs, x = .ref l ∧ vs = [.ref b] ∧ H l = some (.lst xs) ∧ LsR K H b zs ∧ xs.length + zs.length ≤ sizeLine ∧ Q .non (upd H l (.lst (xs ++ zs)))
theorem mt_extR : MtM X "list.extend" (rExtR X.K) := by
  intro pins s σ H x vs v us Q I rx rv h
  obtain ⟨l, b, xs, zs, rfl, rfl, hH, hB, hz, q⟩ := h
  cases rx
  obtain ⟨u, rfl, ru⟩ := rv.one
  cases ru
  obtain ⟨z, its, n, r, hl, e⟩ := I.lstM hH
  obtain ⟨z2, its2, n2, r2, hl2, e2⟩ := lstR I hB
  have hsz : its.toArray.size + its2.toArray.size ≤ sizeLine := by rw [List.size_toArray, List.size_toArray]; omega
  have hlong : ¬ (!its.toArray.isEmpty && Builtin.List.listTooLong (its.toArray.size + its2.toArray.size)) = true := by
    rw [notLongL hsz, Bool.and_false]
    exact Bool.false_ne_true
  refine call_meets F.slot_list_extend ⟨_, e, rfl⟩ F.entry_list_extend (F.args_list_extend_2 _ _)
    (AutoSeq1.list_extend_list_list_0 l its.toArray n b its2.toArray n2 hlong (by rw [List.size_toArray]; omega) (by omega)) ⟨e, e2, ?_⟩
  refine ⟨.non, _, I.lset (its' := its ++ its2) hH e (by simp) (r.append r2) ?_, rfl, q⟩
  rw [List.length_append]
  omega
theorem s_ext {l m : Str} {pl apos cpos pos : Pos} {j : Nat} {e : Expr} {ce : E} (hm : m = "extend") (hv : PE X (.Name l pl) (tVar j)) (hs : isStar e = false) (hl : (apos.endLine == cpos.line) = true) (he : PE X e (tE X.K g W xa ce)) :
    PS X (.Expr (.Call (.Attribute (.Name l pl) m apos) [e] [] cpos) pos) (tS X.K g W xa io (.ext j ce)) := by
  subst hm
  have hs' : [e].any isStar = false := by simp [hs]
  refine PS.imp (ps_expr (pe_bm PySem.F.plainAttrs_list F.slot_list_extend F.type_list_extend mt_extR hv (pa_cons he pa_nil (star_step hs _ _)) rfl (few_of hs' (by simp)) hl (star_step hs _ _) rfl)) fun D σ H h => ?_
  obtain ⟨F, ps, τ, r, hio, h⟩ := h
  unfold evS at h
  split at h
  case h_2 => exact h.elim
  rename_i c0 hc0
  obtain ⟨p, hp1, hp2, vs0, hp3, _⟩ := r.get hc0
  refine ⟨.ref p, hp2, tyL hp3, F, ps, τ, r, (oneS h r).imp (fun x hx v H1 pa => ?_) fun _ z => z⟩
  obtain ⟨d, L⟩ := x
  cases d with
  | list es =>
    obtain ⟨b, ws, rfl, w1, w2⟩ := pa.el
    dsimp only at hx
    split at hx
    · rename_i ds hc
      split at hx
      · rename_i hlen
        have r1 := (r.mono pa.same).frz (lkE ce L)
        obtain ⟨p', q1, q2, vs, z1, z2⟩ := r1.get hc
        rw [hp2] at q2; cases q2
        exact ⟨p, b, vs, ws, rfl, rfl, z1, w1, by rw [z2.length, w2.length]; exact hlen, hx _ _ _ (r1.putL q1 (z2.append w2))⟩
      · exact hx.elim
    · exact hx.elim
  | _ => exact hx.elim
theorem s_pop0 {l m : Str} {pl apos cpos pos : Pos} {j : Nat} (hm : m = "pop") (hv : PE X (.Name l pl) (tVar j)) (hl : (apos.endLine == cpos.line) = true) :
    PS X (.Expr (.Call (.Attribute (.Name l pl) m apos) [] [] cpos) pos) (tS X.K g W xa io (.pop none j)) := by
  subst hm
  refine PS.imp (ps_expr (pe_bm0 PySem.F.plainAttrs_list F.slot_list_pop F.type_list_pop mt_pop hv rfl hl)) fun D σ H h => ?_
  obtain ⟨F, ps, τ, r, hio, h⟩ := h
  unfold evS at h
  split at h
  case h_2 => exact h.elim
  rename_i ds hc
  obtain ⟨p, q1, q2, vs, z1, z2⟩ := r.get hc
  split at h
  case h_2 => exact h.elim
  rename_i d hd
  obtain ⟨v, hv1, hv2⟩ := z2.get hd
  exact ⟨.ref p, q2, tyL z1, p, vs, v, rfl, rfl, z1, by rw [z2.length]; exact hv1, h _ _ _ (r.putL q1 z2.dropLast)⟩
theorem s_pop1 {x l m : Str} {py pl apos cpos pos : Pos} {i j : Nat} (hN : X.N.Nodup) (hi : X.N[i]? = some x) (hx : Loc X.env.scope x) (hf : X.fn x = true ∨ X.env.scope.names.lookup x = some .local) (hm : m = "pop") (hv : PE X (.Name l pl) (tVar j)) (hl : (apos.endLine == cpos.line) = true) :
    PS X (.Assign [.Name x py] (.Call (.Attribute (.Name l pl) m apos) [] [] cpos) pos) (tS X.K g W xa io (.pop (some i) j)) := by
  subst hm
  refine PS.imp (ps_set hN hi hx (pe_bm0 PySem.F.plainAttrs_list F.slot_list_pop F.type_list_pop mt_pop hv rfl hl) (sw_no rfl _ _ _) hf) fun D σ H h => ?_
  obtain ⟨F, ps, τ, r, hio, h⟩ := h
  unfold evS at h
  split at h
  case h_2 => exact h.elim
  rename_i ds hc
  obtain ⟨p, q1, q2, vs, z1, z2⟩ := r.get hc
  split at h
  case h_2 => exact h.elim
  rename_i d hd
  obtain ⟨v, hv1, hv2⟩ := z2.get hd
  dsimp only at h
  split at h
  · exact h.elim
  · have r1 := r.putL q1 z2.dropLast
    exact ⟨.ref p, q2, tyL z1, p, vs, v, rfl, rfl, z1, by rw [z2.length]; exact hv1, h _ _ _ (r1.set (Dn.mono (wo_upd (.inr ⟨j, q1⟩)) _ hv2))⟩
theorem s_dpop {l m : Str} {pl apos cpos pos : Pos} {j : Nat} {a b : Expr} {ca cb : E} (hm : m = "pop") (hv : PE X (.Name l pl) (tVar j)) (hs : isStar a = false) (hs' : isStar b = false) (hl : (apos.endLine == cpos.line) = true) (ha : PE X a (tE X.K g W xa ca)) (hb : PE X b (tE X.K g W xa cb)) :
    PS X (.Expr (.Call (.Attribute (.Name l pl) m apos) [a, b] [] cpos) pos) (tS X.K g W xa io (.dpop j ca cb)) := by
  subst hm
  have hst : [a, b].any isStar = false := by simp [hs, hs']
  have m2 : M2 X (.Name l pl) "pop" apos a b cpos := ⟨rfl, few_of hst (by simp), hl, by rw [star_step hs, star_step hs']; rfl⟩
  refine PS.imp (ps_expr (pe_dpop2 hv ha hb m2)) fun D σ H h => ?_
  obtain ⟨F, ps, τ, r, hio, h⟩ := h
  unfold evS at h
  split at h
  case h_2 => exact h.elim
  rename_i kds hc
  obtain ⟨p, q1, q2, kvs0, z0, z0'⟩ := r.get hc
  refine ⟨.ref p, q2, p, rfl, .inl ⟨kvs0, .inl z0⟩, F, ps, τ, r, (oneS h r).imp (fun x hx v H1 pa => ?_) fun _ z => z⟩
  have r1 := r.mono pa.same
  refine ⟨F, ps, τ, r1, (oneS hx r1).imp (fun y hy u H2 pb => ?_) fun _ z => z⟩
  have r2 := r1.mono pb.same
  split at hy
  case isFalse => exact hy.elim
  rename_i hk
  obtain ⟨p', w1, w2, kvs, z1, z2⟩ := r2.get hc
  rw [q1] at w1; cases w1
  refine ⟨kvs, keyOf x.1, z1, key_dn' pa.dn hk, fun w hw => hy _ _ _ (r2.putD q1 (z2.drop hk)), fun hw => ?_⟩
  have hn : dGet x.1 kds = none := by
    have := valV_dn hk z2
    split at this
    · obtain ⟨w, w1, _⟩ := this
      rw [hw] at w1; cases w1
    · assumption
  rw [drop_none hn, set_own_self hc] at hy
  exact hy _ _ _ r2
/-! ### a value that is dropped; several names -/
theorem s_ex {x : Str} {p cpos pos : Pos} {args : List Expr} {ce : E} (he : PE X (.Call (.Name x p) args [] cpos) (tE X.K g W xa ce)) : PS X (.Expr (.Call (.Name x p) args [] cpos) pos) (tS X.K g W xa io (.ex ce)) := by
  refine PS.imp (ps_expr he) fun D σ H h => ?_
  obtain ⟨F, ps, τ, r, hio, h⟩ := h
  unfold evS at h
  exact ⟨F, ps, τ, r, (oneS h r).imp (fun x hx v H1 pa => hx _ _ _ (r.mono pa.same)) fun _ z => z⟩
theorem s_setT {es : List Expr} {n : Nat} {tp pos : Pos} {is : List Nat} {e : Expr} {ce : E} {osc : Scope} (hc : X.calm = true) (ho : OwnN X osc) (hN : X.N.Nodup) (hi : namesIx X.N osc es = some is) (ht : ∀ us k q, e ≠ .Tuple us k q) (he : PE X e (tE X.K g W xa ce)) :
    PS X (.Assign [.Tuple es n tp] e pos) (tS X.K g W xa io (.set (.tup is) ce)) := by
  have hw : swappedStores [.Tuple es n tp] e X.env = pure none := by
    unfold swappedStores
    cases e <;> first | rfl | exact absurd rfl (ht _ _ _)
  refine PS.imp (ps_asg he (sG_tup hc ho hN hi) (sw_tg (tg := .Tuple es n tp) (fun _ _ z => by cases z) (fun _ => trivial) pos.line X.env) hw rfl) fun D σ H h => ?_
  obtain ⟨F, ps, τ, r, hio, h⟩ := h
  unfold evS at h
  refine ⟨F, ps, τ, r, (oneS h r).imp (fun x hx v H1 pa => ?_) fun _ z => z⟩
  refine ⟨F, _, _, x.1, (r.mono pa.same).frz x.2, pa.den, ?_⟩
  cases hq : asg io ce.fresh (.tup is) x.1 (frz x.2 τ) with
  | none => rw [hq] at hx; exact hx.elim
  | some τ' =>
    rw [hq] at hx
    rw [hio]
    have : asg io false (.tup is) x.1 (frz x.2 τ) = some τ' := hq
    rw [this]
    exact fun σ' ps' r' _ _ _ _ => hx _ _ _ r'
end
end Mp

/-! MiniPy, part K3: pairs, calls that change an argument, loops. -/
namespace Mp
open PySem PySem.Spec PyProof.Rows L2
section
variable {X : Cx} {c : Cfg} {sc : Scope} {g : G} {k : Nat} {W : WX} {xa : XA} {io : List Nat}
/-! ### a, b = x, y -/
theorem isLoc_of {sc : Scope} {x : Str} (h : isLoc sc x = true) : sc.names.lookup x = some .local := by
  unfold isLoc at h
  split at h
  · assumption
  · cases h
theorem nst : ∀ {e : Expr}, isStar e = false → ¬ (match e with | .Starred .. => true | _ => false) = true := by
  intro e h
  cases e <;> first | (simp [isStar] at h; done) | simp
theorem sw_par2 {env : Env} {x y : Str} {px py pt p2 : Pos} {kt k2 : Nat} {a b : Expr} (hk : env.scope.kind = .function) (hx : env.scope.names.lookup x = some .local) (hy : env.scope.names.lookup y = some .local) (hl : (py.line == px.line) = true) (hxy : (x != y) = true)
    (hs : [a, b].any isStar = false) (h1 : [a, b].all (foldedForSure 8) = false) (h2 : [a, b].all (constantsAlone 8) = false) :
    swappedStores [.Tuple [.Name x px, .Name y py] kt pt] (.Tuple [a, b] k2 p2) env = pure (some [x, y]) := by
  have hb : env.blockKind = .function := by unfold Env.blockKind; rw [hk]; rfl
  have kx : env.kindOf x = some .local := hx
  have ky : env.kindOf y = some .local := hy
  simp only [List.any_cons, List.any_nil, Bool.or_false, Bool.or_eq_false_iff] at hs
  have sa := nst hs.1
  have sb := nst hs.2
  have hxy' : ¬ y = x := fun z => by simp [z] at hxy
  unfold swappedStores
  simp only [hb, h1, h2, kx, ky, Expr.pos, List.length_cons, List.length_nil, List.filterMap_cons, List.filterMap_nil, List.head?_cons, Option.map_some, Option.getD_some, hl, beq_self_eq_true, Bool.and_true, Bool.true_and, if_true]
  simp [List.eraseDups_cons, hxy', Ne.symm hxy']
  exact fun z => (z.elim sa sb).elim
theorem sw_par3 {env : Env} {x y z : Str} {px py pz pt p2 : Pos} {kt k2 : Nat} {a b d : Expr} (hk : env.scope.kind = .function) (hx : env.scope.names.lookup x = some .local) (hy : env.scope.names.lookup y = some .local) (hz : env.scope.names.lookup z = some .local) (hl : (py.line == px.line) = true) (hl' : (pz.line == px.line) = true)
    (hxy : (x != y) = true) (hxz : (x != z) = true) (hyz : (y != z) = true)
    (hs : [a, b, d].any isStar = false) (h1 : [a, b, d].all (foldedForSure 8) = false) (h2 : [a, b, d].all (constantsAlone 8) = false) :
    swappedStores [.Tuple [.Name x px, .Name y py, .Name z pz] kt pt] (.Tuple [a, b, d] k2 p2) env = pure (some [x, y, z]) := by
  have hb : env.blockKind = .function := by unfold Env.blockKind; rw [hk]; rfl
  have kx : env.kindOf x = some .local := hx
  have ky : env.kindOf y = some .local := hy
  have kz : env.kindOf z = some .local := hz
  simp only [List.any_cons, List.any_nil, Bool.or_false, Bool.or_eq_false_iff] at hs
  have sa := nst hs.1
  have sb := nst hs.2.1
  have sd := nst hs.2.2
  have hxy' : ¬ y = x := fun z => by simp [z] at hxy
  have hxz' : ¬ z = x := fun q => by simp [q] at hxz
  have hyz' : ¬ z = y := fun q => by simp [q] at hyz
  unfold swappedStores
  simp only [hb, h1, h2, kx, ky, kz, Expr.pos, List.length_cons, List.length_nil, List.filterMap_cons, List.filterMap_nil, List.head?_cons, Option.map_some, Option.getD_some, hl, hl', beq_self_eq_true, Bool.and_true, Bool.true_and, if_true]
  simp [List.eraseDups_cons, hxy', Ne.symm hxy', hxz', Ne.symm hxz', hyz', Ne.symm hyz']
  exact fun z => (z.elim sa fun q => q.elim sb sd).elim
theorem ix_ne {N : List Str} {i j : Nat} {x y : Str} (hi : N[i]? = some x) (hj : N[j]? = some y) (h : (x != y) = true) : i ≠ j := fun e => by
  subst e
  rw [hi] at hj
  have := Option.some.inj hj
  simp [this] at h
/-- what a list of expressions has made, put into names -/
theorem asgs_rel {K : PySem.W.Frag} {F : Fx} {H : Hp} : ∀ {is : List Nat} {vs : List V} {ds : List D} {σ : L2.St} {τ τ' : Tau} {ps : Ps}, Rel K F ps H σ τ → DnAll K (wo (PP F.P0 ps) H) vs ds → asgs F.iol is ds τ = some τ' → ∃ ps', Rel K F ps' H ((is.zip vs).foldl (fun σ p => σ.set p.1 (some p.2)) σ) τ' ∧ is.length = vs.length
  | [], _, _, _, _, _, ps, r, h, e => by
    cases h with
    | nil => cases e; exact ⟨ps, r, rfl⟩
    | cons _ _ => cases e
  | i :: is, _, _, σ, τ, τ', ps, r, h, e => by
    cases h with
    | nil => cases e
    | cons h1 h2 =>
      rename_i v vs d ds
      have e : (if i ∈ F.iol then none else asgs F.iol is ds (τ.set i (some (false, d)))) = some τ' := e
      split at e
      · cases e
      · obtain ⟨ps1, r1, _, e2⟩ := r.set' (i := i) h1
        obtain ⟨ps', r', hl⟩ := asgs_rel r1 (h2.sub (PP_le e2)) e
        exact ⟨ps', r', by simp [hl]⟩
theorem s_par {ts es : List Expr} {kt k2 : Nat} {pt p2 pos : Pos} {is : List Nat} {f : Expr → E} (hc : X.calm = true) (hN : X.N.Nodup) (hk : X.env.scope.kind = .function) (hsc : X.env.scope = sc) (hi : namesIx X.N sc ts = some is) (hp : parOk sc ts es = true) (he : ∀ e ∈ es, PE X e (tE X.K g W xa (f e))) :
    PS X (.Assign [.Tuple ts kt pt] (.Tuple es k2 p2) pos) (tS X.K g W xa io (.par is (toEs (es.map f)))) := by
  subst hsc
  -- what is read
  have rd : ∀ {Q : List V → Hp → Prop} {D : Ends} {σ : L2.St} {H : Hp}, tS X.K g W xa io (.par is (toEs (es.map f))) D σ H →
      (∀ vs H1, is.length = vs.length → D.nx ((is.zip vs).foldl (fun σ p => σ.set p.1 (some p.2)) σ) H1 → Q vs H1) → tA X.K g W xa (toEs (es.map f)) σ H Q := fun {Q D σ H} h q => by
    obtain ⟨F, ps, τ, r, hio, h⟩ := h
    unfold evS at h
    refine ⟨F, ps, τ, r, (oneS h r).imp (fun x hx vs H1 pa => ?_) fun _ z => z⟩
    cases hq : asgs io is x.1 (frz x.2 τ) with
    | none => rw [hq] at hx; exact hx.elim
    | some τ' =>
      rw [hq] at hx
      obtain ⟨ps', r', hl⟩ := asgs_rel ((r.mono pa.same).frz x.2) pa.den (by rw [hio]; exact hq)
      exact q vs H1 hl (hx _ _ _ r')
  unfold parOk at hp
  split at hp
  · rename_i x px y py a b
    simp only [Bool.and_eq_true, Bool.not_eq_true'] at hp
    obtain ⟨⟨⟨⟨⟨⟨h1, h2⟩, h3⟩, h4⟩, h5⟩, h6⟩, h7⟩ := hp
    have l1 := isLoc_of h1
    have l2 := isLoc_of h2
    simp only [namesIx] at hi
    have o1 : isOwn X.env.scope x = true := by unfold isOwn; rw [l1]
    have o2 : isOwn X.env.scope y = true := by unfold isOwn; rw [l2]
    rw [if_pos o1, if_pos o2] at hi
    cases hx : ixOf x X.N with
    | none => rw [hx] at hi; cases hi
    | some i =>
      cases hy : ixOf y X.N with
      | none => rw [hx, hy] at hi; cases hi
      | some j =>
        rw [hx, hy] at hi; cases hi
        refine PS.imp (ps_par hc hN (ixOf_get hx) (ixOf_get hy) (ix_ne (ixOf_get hx) (ixOf_get hy) h4) l1 l2 (sEs he h5) (sw_par2 hk l1 l2 h3 h4 h5 h6 h7)) fun D σ H h => ?_
        refine rd h fun vs H1 hl q => ?_
        match vs, hl, q with
        | [v, w], _, q => exact ⟨v, w, rfl, q⟩
  · rename_i x px y py z pz a b d
    simp only [Bool.and_eq_true, Bool.not_eq_true'] at hp
    obtain ⟨⟨⟨⟨⟨⟨⟨⟨⟨⟨h1, h2⟩, h3⟩, h4⟩, h5⟩, h6⟩, h7⟩, h8⟩, h9⟩, h10⟩, h11⟩ := hp
    have l1 := isLoc_of h1
    have l2 := isLoc_of h2
    have l3 := isLoc_of h3
    simp only [namesIx] at hi
    have o1 : isOwn X.env.scope x = true := by unfold isOwn; rw [l1]
    have o2 : isOwn X.env.scope y = true := by unfold isOwn; rw [l2]
    have o3 : isOwn X.env.scope z = true := by unfold isOwn; rw [l3]
    rw [if_pos o1, if_pos o2, if_pos o3] at hi
    cases hx : ixOf x X.N with
    | none => rw [hx] at hi; cases hi
    | some i =>
      cases hy : ixOf y X.N with
      | none => rw [hx, hy] at hi; cases hi
      | some j =>
        cases hz : ixOf z X.N with
        | none => rw [hx, hy, hz] at hi; cases hi
        | some m =>
          rw [hx, hy, hz] at hi; cases hi
          refine PS.imp (ps_par3 hc hN (ixOf_get hx) (ixOf_get hy) (ixOf_get hz) (ix_ne (ixOf_get hx) (ixOf_get hy) h6) (ix_ne (ixOf_get hx) (ixOf_get hz) h7) (ix_ne (ixOf_get hy) (ixOf_get hz) h8) l1 l2 l3 (sEs he h9) (sw_par3 hk l1 l2 l3 h4 h5 h6 h7 h8 h9 h10 h11)) fun D σ H h => ?_
          refine rd h fun vs H1 hl q => ?_
          match vs, hl, q with
          | [u, v, w], _, q => exact ⟨u, v, w, rfl, q⟩
  · cases hp
/-! ### a call that changes an argument -/
theorem Rel.writeG {K : PySem.W.Frag} {F : Fx} {ps : Ps} {H H' : Hp} {σ : L2.St} {τ : Tau} (r : Rel K F ps H σ τ) {i : Nat} {p : Addr} {d : D} (hp : ps i = some p) (kp : ∀ b o, H b = some o → b ≠ p → H' b = some o) (hd : OwnAt K H' (PP F.P0 ps) p d) :
    Rel K F ps H' σ (τ.set i (some (true, d))) := by
  have hl := r.ls
  obtain ⟨d0, hi⟩ := r.pown i p hp
  have hlt := (List.getElem?_eq_some_iff.mp hi).1
  have hpp : PP F.P0 ps p := .inr ⟨i, hp⟩
  have key : Same (wo (PP F.P0 ps) H) (wo (PP F.P0 ps) H') := wo_gen fun a u h1 h2 => ⟨h1, kp _ _ h2 (fun z => h1 (by rw [z]; exact hpp))⟩
  refine ⟨by simp [hl], fun j x he => ?_, fun j x he => ?_, fun j q hq => ?_, r.inj, r.out, fun a u h1 h2 => ?_, r.new, fun a h1 => ?_, r.pin⟩
  · by_cases hj : j = i
    · subst hj
      rw [List.getElem?_set_self hlt] at he; cases he
      obtain ⟨q, z1, z2, _⟩ := r.own j _ hi
      rw [hp] at z1; cases z1
      exact ⟨p, hp, z2, hd⟩
    · rw [List.getElem?_set_ne (fun z => hj z.symm)] at he
      obtain ⟨q, h1, h2, h3⟩ := r.own j x he
      exact ⟨q, h1, h2, h3.mono (fun u z => kp _ _ z (fun y => hj (r.inj j i p (by rw [h1, y]) hp))) key⟩
  · by_cases hj : j = i
    · subst hj
      rw [List.getElem?_set_self hlt] at he; cases he
    · rw [List.getElem?_set_ne (fun z => hj z.symm)] at he
      obtain ⟨w, h1, h2⟩ := r.cln j x he
      exact ⟨w, h1, Dn.mono key _ h2⟩
  · by_cases hj : j = i
    · subst hj
      exact ⟨d, by rw [List.getElem?_set_self hlt]⟩
    · obtain ⟨x, he⟩ := r.pown j q hq
      exact ⟨x, by rw [List.getElem?_set_ne (fun z => hj z.symm)]; exact he⟩
  · have := r.keep a u h1 h2
    have hne : a ≠ p := fun z => by
      rcases r.new i p hp with n | n
      · exact h2 (by rw [z]; exact n)
      · rw [z, n] at h1; cases h1
    exact kp _ _ this hne
  · obtain ⟨u, h2, h3⟩ := r.p0 a h1
    have hne : a ≠ p := fun z => r.out i p hp (by rw [← z]; exact h1)
    exact ⟨u, kp _ _ h2 hne, h3⟩
theorem mark_get {io : List Nat} : ∀ {ds : List D} {p m : Nat}, (mark io p ds)[m]? = (ds[m]?).map fun d => some (io.contains (p + m) && isC d, d)
  | [], _, _ => by simp [mark]
  | d :: ds, p, 0 => by simp [mark]
  | d :: ds, p, m + 1 => by
    have := mark_get (io := io) (ds := ds) (p := p + 1) (m := m)
    have e : p + 1 + m = p + (m + 1) := by omega
    rw [e] at this
    simpa [mark] using this
theorem mark_length {io : List Nat} : ∀ {ds : List D} {p : Nat}, (mark io p ds).length = ds.length
  | [], _ => rfl
  | d :: ds, p => by simp [mark, mark_length (ds := ds)]
structure IoPost (K : PySem.W.Frag) (P0 : Addr → Prop) (ps : Ps) (τ : Tau) (j : Nat) (H H' : Hp) (x : List D × List Nat × Nat) (vs : List V) : Prop where
  same : Same H H'
  own : ∃ a d, ps x.2.2 = some a ∧ vs[j]? = some (.ref a) ∧ x.1[j]? = some d ∧ own? τ x.2.2 = some d
  len : vs.length = x.1.length
  cln : ∀ (m : Nat) (v : V) (d : D), m ≠ j → vs[m]? = some v → x.1[m]? = some d → Dn K (wo (PP P0 (dr x.2.1 ps)) H') v d
def tAio (K : PySem.W.Frag) (g : G) (W : WX) (xa : XA) (j : Nat) (cs : Es) : TA := fun σ H Q => ∃ F ps τ, Rel K F ps H σ τ ∧ Sat (evIo g j cs τ) (fun x => ∀ vs H', IoPost K F.P0 ps τ j H H' x vs → Q vs H') (XO W xa σ H)
theorem sEsIo {f : Expr → E} : ∀ {es : List Expr} {j : Nat}, (∀ e ∈ es, PE X e (tE X.K g W xa (f e))) → (∀ e ∈ es, ∀ i, f e = .v i → PE X e (tVar i)) → es.any isStar = false → PA X es (tAio X.K g W xa j (toEs (es.map f)))
  | [], j, _, _, _ => PA.imp pa_nil fun σ H Q h => by
    obtain ⟨F, ps, τ, r, h⟩ := h
    have e : evIo g j .nil τ = .st := by cases j <;> (unfold evIo; rfl)
    have h : Sat (evIo g j .nil τ) _ _ := h
    rw [e] at h; exact h.elim
  | e :: es, 0, he, hv, hs => by
    simp only [List.any_cons, Bool.or_eq_false_iff] at hs
    have rest := sEs (X := X) (g := g) (W := W) (xa := xa) (f := f) (es := es) (fun e' q => he e' (List.mem_cons_of_mem _ q)) hs.2
    cases hf : f e with
    | v i =>
      refine PA.imp (pa_cons (hv e (by simp) i hf) rest (star_step hs.1 _ _)) fun σ H Q h => ?_
      obtain ⟨F, ps, τ, r, h⟩ := h
      have h : Sat (evIo g 0 (.cons (f e) (toEs (es.map f))) τ) _ _ := h
      rw [hf] at h
      unfold evIo at h
      dsimp only at h
      split at h
      case h_2 => exact h.elim
      rename_i d hd
      obtain ⟨a, q1, q2, q3⟩ := r.get hd
      refine ⟨.ref a, q2, F, ps, τ, r, (Sat.bind.mp h).imp (fun y hy vs H2 pb => ?_) fun _ z => z⟩
      refine hy (.ref a :: vs) H2 ⟨pb.same, ⟨a, d, q1, rfl, rfl, hd⟩, by simp [pb.den.length], fun m v d' hm h1 h2 => ?_⟩
      cases m with
      | zero => exact absurd rfl hm
      | succ m =>
        obtain ⟨d2, z1, z2⟩ := pb.den.get' (i := m) (v := v) h1
        have h2 : y.1[m]? = some d' := h2
        rw [h2] at z1; cases z1
        exact z2
    | _ =>
      refine PA.imp (pa_cons (he e (by simp)) rest (star_step hs.1 _ _)) fun σ H Q h => ?_
      obtain ⟨F, ps, τ, r, h⟩ := h
      have h : Sat (evIo g 0 (.cons (f e) (toEs (es.map f))) τ) _ _ := h
      rw [hf] at h
      unfold evIo at h
      exact h.elim
  | e :: es, j + 1, he, hv, hs => by
    simp only [List.any_cons, Bool.or_eq_false_iff] at hs
    refine PA.imp (pa_cons (he e (by simp)) (sEsIo (es := es) (j := j) (fun e' q => he e' (List.mem_cons_of_mem _ q)) (fun e' q => hv e' (List.mem_cons_of_mem _ q)) hs.2) (star_step hs.1 _ _)) fun σ H Q h => ?_
    obtain ⟨F, ps, τ, r, h⟩ := h
    have h : Sat (evIo g (j + 1) (.cons (f e) (toEs (es.map f))) τ) _ _ := h
    unfold evIo at h
    refine one r h fun x v H1 pa r1 hz => ⟨F, ps, τ, r1, (Sat.bind.mp hz).imp (fun y hy vs H2 pb => ?_) fun _ z => XO.mono z pa.same⟩
    obtain ⟨a, d, q1, q2, q3, q4⟩ := pb.own
    refine hy (v :: vs) H2 ⟨pa.same.trans pb.same, ⟨a, d, q1, q2, q3, q4⟩, by simp [pb.len], fun m w d' hm h1 h2 => ?_⟩
    cases m with
    | zero =>
      cases h1
      have h2 : some x.1 = some d' := h2
      cases h2
      exact Dn.mono (wo_same pb.same) _ (pa.den.sub (PP_dr fun i hi => List.mem_append_left _ hi))
    | succ m => exact (pb.cln m w d' (fun z => hm (by rw [z])) h1 h2).sub (PP_dr fun i hi => List.mem_append_right _ hi)
/-- the reading of a call that changes its argument j -/
theorem io_rd {f j : Nat} {cs : Es} (hio : g.io f = [j]) {F : Fx} {ps : Ps} {H : Hp} {σ : L2.St} {τ : Tau} (r : Rel X.K F ps H σ τ) {x : List D × List Nat × Nat} {rd d : D} {Q : VK}
    (h1 : evIo g j cs τ = .ok x) (h2 : x.2.2 ∉ x.2.1) (h3 : g.cf f x.1 = .ok (rd, [d]))
    (hq : ∀ v H', Dn X.K (wo (PP F.P0 (dr x.2.1 ps)) H') v rd → Rel X.K F (dr x.2.1 ps) H' σ ((frz x.2.1 τ).set x.2.2 (some (true, d))) → Q v H') : tCallS (spD X.K (g.cf f) (g.io f) xa) (WE W) (tAio X.K g W xa j cs) σ H Q := by
  refine ⟨F, ps, τ, r, ?_⟩
  rw [h1, hio]
  intro vs H1 ip
  obtain ⟨a, d0, q1, q2, q3, q4⟩ := ip.own
  have r0 := r.mono ip.same
  have r1 := r0.frz x.2.1
  obtain ⟨a', w1, w2, w3⟩ := r0.get q4
  rw [q1] at w1; cases w1
  have hpa : dr x.2.1 ps x.2.2 = some a := dr_some.mpr ⟨h2, q1⟩
  -- the callee's heap
  let psc : Ps := fun m => if m = j then some a else none
  let P0c : Addr → Prop := fun b => PP F.P0 (dr x.2.1 ps) b ∧ b ≠ a
  have psc_some : ∀ {m p}, psc m = some p → m = j ∧ p = a := fun {m p} z => by
    by_cases hm : m = j
    · simp only [psc, hm, if_true] at z; exact ⟨hm, (Option.some.inj z).symm⟩
    · simp only [psc, hm, if_false] at z; cases z
  have psc_j : psc j = some a := by simp [psc]
  have hPP : ∀ b, PP P0c psc b ↔ PP F.P0 (dr x.2.1 ps) b := fun b => by
    constructor
    · rintro (z | ⟨m, z⟩)
      · exact z.1
      · rw [(psc_some z).2]; exact .inr ⟨_, hpa⟩
    · intro z
      by_cases e : b = a
      · exact .inr ⟨j, by rw [e]; exact psc_j⟩
      · exact .inl ⟨z, e⟩
  have hC : isC d0 = true := w3.isC
  refine ⟨⟨H1, fun b => ∃ i, psc i = some b, P0c, [j], psc⟩, psc, x.1, ⟨?_, fun m e he => ?_, fun m e he => ?_, fun m p hp => ?_, fun m n p z1 z2 => ?_, fun m p hp z => ?_, fun _ _ z _ => z, fun m p hp => .inl ⟨m, hp⟩, fun b z => ?_, fun _ _ _ z => z⟩, rfl, rfl, rfl, rfl, ?_⟩
  · rw [mark_length, List.length_map, ip.len]
  · rw [mark_get] at he
    obtain ⟨d', e1, e2⟩ := Option.map_eq_some_iff.mp he
    simp only [Nat.zero_add, Option.some.injEq, Prod.mk.injEq, Bool.and_eq_true] at e2
    obtain ⟨⟨e3, e4⟩, rfl⟩ := e2
    have hm : m = j := by simpa using e3
    subst hm
    rw [q3] at e1; cases e1
    exact ⟨a, psc_j, by rw [List.getElem?_map, q2]; rfl, w3.mono (fun _ z => z) (wo_sub fun b z => PP_dr0 b ((hPP b).mp z))⟩
  · rw [mark_get] at he
    obtain ⟨d', e1, e2⟩ := Option.map_eq_some_iff.mp he
    simp only [Nat.zero_add, Option.some.injEq, Prod.mk.injEq] at e2
    obtain ⟨e3, rfl⟩ := e2
    have hm : m ≠ j := fun z => by
      subst z
      rw [q3] at e1; cases e1
      rw [hC] at e3
      simp at e3
    obtain ⟨v, hv⟩ := get_lt (l := vs) (i := m) (by rw [ip.len]; exact (List.getElem?_eq_some_iff.mp e1).1)
    exact ⟨v, by rw [List.getElem?_map, hv]; rfl, (ip.cln m v _ hm hv e1).sub fun b z => (hPP b).mp z⟩
  · obtain ⟨rfl, rfl⟩ := psc_some hp
    exact ⟨d0, by rw [mark_get, q3]; simp [hC]⟩
  · rw [(psc_some z1).1, (psc_some z2).1]
  · exact z.2 (psc_some hp).2
  · obtain ⟨o, z1, z2⟩ := r1.there z.1
    exact ⟨o, z1, z2⟩
  · rw [h3]
    intro v H2 cp
    obtain ⟨p, d', z1, z2, z3⟩ := cp.outs 0 j rfl
    obtain ⟨_, rfl⟩ := psc_some z1
    have z2 : some d = some d' := z2
    cases z2
    refine hq v H2 (cp.den.sub fun b z => (hPP b).mpr z) (r1.writeG hpa (fun b o hb ne => cp.keep b o hb fun ⟨m, hm⟩ => ne (psc_some hm).2) (z3.mono (fun _ z => z) (wo_sub fun b z => (hPP b).mpr z)))
theorem sE_callIo (ev : Envr X c sc g k W xa) {x : Str} {args : List Expr} {f j : Nat} {fe : Expr → E} {p pos : Pos} (hf : fnIx c sc x args = some f) (he : ∀ e ∈ args, PE X e (tE X.K g W xa (fe e))) (hv : ∀ e ∈ args, ∀ i, fe e = .v i → PE X e (tVar i)) :
    PE X (.Call (.Name x p) args [] pos) (tCallS (spD X.K (g.cf f) (g.io f) xa) (WE W) (tAio X.K g W xa j (toEs (args.map fe)))) := by
  unfold fnIx at hf
  split at hf
  case isFalse => cases hf
  rename_i hc
  simp only [Bool.and_eq_true, Bool.not_eq_true'] at hc
  obtain ⟨⟨ho, hg⟩, hs⟩ := hc
  obtain ⟨a, fd, qs, h1, h2, h3, h4⟩ := ev.fn f x (ixOf_get hf)
  obtain ⟨o1, _, _⟩ := ok_names ho
  have ha := sEsIo (X := X) (g := g) (W := W) (xa := xa) (f := fe) (es := args) (j := j) he hv hs
  cases args with
  | nil =>
    refine ⟨fun pins s σ H Q I h => ?_⟩
    obtain ⟨F, ps, τ, r, h⟩ := h
    have e : evIo g j .nil τ = .st := by cases j <;> (unfold evIo; rfl)
    have h : Sat (evIo g j .nil τ) _ _ := h
    rw [e] at h; exact h.elim
  | cons e es =>
    simp only [List.any_cons, Bool.or_eq_false_iff] at hs
    exact pe_callS h4 ev.room (ev.gl_of hg) h1 h2 h3 (fun σ => passAt ev.tk σ) ha o1 (star_step hs.1 _ _) (star_all hs.2)
theorem s_io0 (ev : Envr X c sc g k W xa) {x : Str} {args : List Expr} {f : Nat} {fe : Expr → E} {p cpos pos : Pos} (hf : fnIx c sc x args = some f) (he : ∀ e ∈ args, PE X e (tE X.K g W xa (fe e))) (hv : ∀ e ∈ args, ∀ i, fe e = .v i → PE X e (tVar i)) :
    PS X (.Expr (.Call (.Name x p) args [] cpos) pos) (tS X.K g W xa io (.io none f (toEs (args.map fe)))) := by
  cases hio : g.io f with
  | nil => exact ⟨fun _ _ _ _ _ _ h => by obtain ⟨_, _, _, _, _, h⟩ := h; unfold evS at h; rw [hio] at h; exact h.elim⟩
  | cons j js =>
    cases js with
    | cons _ _ => exact ⟨fun _ _ _ _ _ _ h => by obtain ⟨_, _, _, _, _, h⟩ := h; unfold evS at h; rw [hio] at h; exact h.elim⟩
    | nil =>
      refine PS.imp (ps_expr (sE_callIo (j := j) ev hf he hv)) fun D σ H h => ?_
      obtain ⟨F, ps, τ, r, hiol, h⟩ := h
      unfold evS at h
      rw [hio] at h
      dsimp only at h
      split at h
      case h_2 => exact h.elim
      rename_i y hy
      split at h
      · exact h.elim
      rename_i hn
      split at h
      case h_2 => exact h.elim
      rename_i rd d hcf
      split at h
      case isFalse => exact h.elim
      exact io_rd hio r hy (by simpa using hn) hcf fun v H' _ r' => h _ _ _ r'
theorem s_io1 (ev : EnvS X c sc g k W xa) {x z : Str} {args : List Expr} {f i : Nat} {fe : Expr → E} {py p cpos pos : Pos} (hx : ownIx c sc z = some i) (hf : fnIx c sc x args = some f) (he : ∀ e ∈ args, PE X e (tE X.K g W xa (fe e))) (hv : ∀ e ∈ args, ∀ i, fe e = .v i → PE X e (tVar i)) :
    PS X (.Assign [.Name z py] (.Call (.Name x p) args [] cpos) pos) (tS X.K g W xa io (.io (some i) f (toEs (args.map fe)))) := by
  obtain ⟨l1, l2, l3⟩ := ownIx_ok ev hx
  cases hio : g.io f with
  | nil => exact ⟨fun _ _ _ _ _ _ h => by obtain ⟨_, _, _, _, _, h⟩ := h; unfold evS at h; rw [hio] at h; exact h.elim⟩
  | cons j js =>
    cases js with
    | cons _ _ => exact ⟨fun _ _ _ _ _ _ h => by obtain ⟨_, _, _, _, _, h⟩ := h; unfold evS at h; rw [hio] at h; exact h.elim⟩
    | nil =>
      refine PS.imp (ps_set ev.nd l1 l2 (sE_callIo (j := j) ev.toEnvr hf he hv) (sw_no rfl _ _ _) l3) fun D σ H h => ?_
      obtain ⟨F, ps, τ, r, hiol, h⟩ := h
      unfold evS at h
      rw [hio] at h
      dsimp only at h
      split at h
      case h_2 => exact h.elim
      rename_i y hy
      split at h
      · exact h.elim
      rename_i hn
      split at h
      case h_2 => exact h.elim
      rename_i rd d hcf
      split at h
      case isFalse => exact h.elim
      split at h
      · exact h.elim
      exact io_rd hio r hy (by simpa using hn) hcf fun v H' dn r' => h _ _ _ (r'.set dn)
end
end Mp

/-! MiniPy, part K4: loops; every statement. -/
namespace Mp
open PySem PySem.Spec PyProof.Rows L2
section
variable {X : Cx} {c : Cfg} {sc : Scope} {g : G} {k : Nat} {W : WX} {xa : XA} {io : List Nat}
theorem s_wh {t : Expr} {b : List Stmt} {pos : Pos} {ct : E} {cb : Ss} (hp : PassesOwn (model X.prog X.w) X.A X.env X.xe) (ht : PT X t (tT X.K g W xa ct)) (hb : PSs X b (tSs X.K g W xa io cb)) : PS X (.While t b [] pos) (tS X.K g W xa io (.wh ct cb)) := by
  refine PS.imp (ps_while hp ht hb) fun D σ H h => ?_
  obtain ⟨F, ps, τ, r, hio, h⟩ := h
  unfold evS at h
  refine ⟨fun m σ H => ∃ ps τ, Rel X.K F ps H σ τ ∧ Post X.K F W xa D (whL (evT g ct) (evSs g io cb) m τ), ⟨g.wN, ps, τ, r, h⟩, ?_⟩
  rintro m σ H ⟨ps, τ, r, h⟩
  cases m with
  | zero => exact h.elim
  | succ n =>
    unfold whL at h
    refine ⟨F, ps, τ, r, ?_⟩
    cases hev : evT g ct τ with
    | st => rw [hev] at h; exact h.elim
    | ex x => rw [hev] at h; exact fun cls dd H' e q => h ps σ H' cls dd (r.mono e) q
    | ok b =>
      rw [hev] at h
      intro H1 e
      cases b with
      | false => rw [if_neg (by decide)]; exact h _ _ _ (r.mono e)
      | true =>
        rw [if_pos rfl]
        refine ⟨fun σ H => ∃ ps τ, Rel X.K F ps H σ τ ∧ Post X.K F W xa D (whL (evT g ct) (evSs g io cb) n τ), fun σ' H' q => ⟨n, Nat.lt_succ_self _, q⟩, F, ps, τ, r.mono e, hio, ?_⟩
        dsimp only at h
        cases hs : evSs g io cb τ with
        | nx τ2 => rw [hs] at h; exact fun ps' σ' H' r' => ⟨ps', τ2, r', h⟩
        | ct τ2 => rw [hs] at h; exact fun ps' σ' H' r' => ⟨ps', τ2, r', h⟩
        | brk τ2 => rw [hs] at h; exact h
        | ret τ2 d => rw [hs] at h; exact h
        | ex x τ2 => rw [hs] at h; exact h
        | st => rw [hs] at h; exact h
/-- a loop's own ground -/
def Fx.loop (F : Fx) (ps : Ps) (H : Hp) : Fx := ⟨H, fun a => ∃ i, ps i = some a, F.P0, F.iol, ps⟩
theorem Rel.toLoop {K : PySem.W.Frag} {F : Fx} {ps : Ps} {H : Hp} {σ : L2.St} {τ : Tau} (r : Rel K F ps H σ τ) : Rel K (F.loop ps H) ps H σ τ :=
  ⟨r.ls, r.own, r.cln, r.pown, r.inj, r.out, fun _ _ z _ => z, fun i p h => .inl ⟨i, h⟩, r.p0, fun _ _ _ z => z⟩
theorem Rel.ofLoop {K : PySem.W.Frag} {F : Fx} {ps ps' : Ps} {H H' : Hp} {σ σ' : L2.St} {τ τ' : Tau} (r : Rel K F ps H σ τ) (r' : Rel K (F.loop ps H) ps' H' σ' τ') : Rel K F ps' H' σ' τ' := by
  have hio : ∀ {j : Nat} {p : Addr}, ps j = some p → F.io p ∨ F.H0 p = none := fun {j p} z => r.new j p z
  refine ⟨r'.ls, r'.own, r'.cln, r'.pown, r'.inj, r'.out, fun a o h1 h2 => ?_, fun i p h => ?_, r'.p0, fun i p hi h => r.pin i p hi (r'.pin i p hi h)⟩
  · refine r'.keep a o (r.keep a o h1 h2) fun ⟨j, z⟩ => ?_
    rcases hio z with q | q
    · exact h2 q
    · rw [q] at h1; cases h1
  · rcases r'.new i p h with ⟨j, z⟩ | z
    · exact hio z
    · by_cases q : F.io p
      · exact .inl q
      · right
        cases h0 : F.H0 p with
        | none => rfl
        | some o =>
          have z : H p = none := z
          have := r.keep p o h0 q
          rw [z] at this; cases this
theorem Post.loop {K : PySem.W.Frag} {F : Fx} {ps : Ps} {H : Hp} {σ : L2.St} {τ : Tau} {D : Ends} {o : Out} (r : Rel K F ps H σ τ) (h : Post K F W xa D o) : Post K (F.loop ps H) W xa D o := by
  cases o with
  | nx τ' => exact fun ps' σ' H' r' => h ps' σ' H' (r.ofLoop r')
  | brk τ' => exact fun ps' σ' H' r' => h ps' σ' H' (r.ofLoop r')
  | ct τ' => exact fun ps' σ' H' r' => h ps' σ' H' (r.ofLoop r')
  | ret τ' d => exact fun ps' σ' H' v r' hd => h ps' σ' H' v (r.ofLoop r') hd
  | ex x τ' => exact fun ps' σ' H' cls dd r' q => h ps' σ' H' cls dd (r.ofLoop r') q
  | st => exact h
theorem s_for {tg iter : Expr} {b : List Stmt} {pos : Pos} {t : T} {ci : I} {cb : Ss} (hp : PassesOwn (model X.prog X.w) X.A X.env X.xe) (hc : X.calm = true) (hi : PI X tg iter (tI X.K g W xa ci)) (hg : PG X tg (tG X.K t)) (hb : PSs X b (tSs X.K g W xa io cb)) (hs : isSet iter = false) :
    PS X (.For tg iter b [] pos) (tS X.K g W xa io (.forS t ci cb)) := by
  refine PS.imp (ps_for hp hc hi hg hb (isSet_no hs _)) fun D σ H h => ?_
  obtain ⟨F, ps, τ, r, hio, h⟩ := h
  unfold evS at h
  refine ⟨F, ps, τ, r, (oneS h r).imp (fun x hx J H1 e1 ok _ => ?_) fun _ z => z⟩
  have r1 := (r.mono e1).frz x.2
  refine ⟨fun i m σ H => m = x.1.length - i ∧ i ≤ x.1.length ∧ ∃ ps' τ', Rel X.K (F.loop (dr x.2 ps) H1) ps' H σ τ' ∧ Post X.K (F.loop (dr x.2 ps) H1) W xa D (forL io t (evSs g io cb) (x.1.drop i) τ'),
    ⟨x.1.length, by simp, Nat.zero_le _, dr x.2 ps, _, r1.toLoop, Post.loop r1 hx⟩, ?_⟩
  rintro i m σ' H2 ⟨rfl, hi, ps', τ', r', h'⟩
  have hC : Same (wo (PP F.P0 (dr x.2 ps)) H1) H2 := fun a o z => by
    obtain ⟨z1, z2⟩ := wo_some.mp z
    exact r'.keep a o z2 fun ⟨j, q⟩ => z1 (.inr ⟨j, q⟩)
  have hC' : ∀ a o, ¬ PP F.P0 (dr x.2 ps) a → H1 a = some o → H2 a = some o := fun a o z1 z2 => r'.keep a o z2 fun ⟨j, q⟩ => z1 (.inr ⟨j, q⟩)
  have hG : Same (wo (PP F.P0 (dr x.2 ps)) H1) (wo (PP (F.loop (dr x.2 ps) H1).P0 ps') H2) := wo_gen fun a o z1 z2 => ⟨fun q => (by
    rcases q with q | ⟨j, q⟩
    · exact z1 (.inl q)
    · rcases r'.new j a q with ⟨j', w⟩ | w
      · exact z1 (.inr ⟨j', w⟩)
      · have w : H1 a = none := w
        rw [w] at z2; cases z2), hC' a o z1 z2⟩
  by_cases hlt : i < x.1.length
  · obtain ⟨d, hd⟩ := get_lt hlt
    have hdrop : x.1.drop i = d :: x.1.drop (i + 1) := by
      rw [List.drop_eq_getElem_cons hlt, (List.getElem?_eq_some_iff.mp hd).2]
    rw [hdrop] at h'
    unfold forL at h'
    refine .inr ⟨ok.go i H2 hC hlt, fun σ H => ∃ ps' τ', Rel X.K (F.loop (dr x.2 ps) H1) ps' H σ τ' ∧ Post X.K (F.loop (dr x.2 ps) H1) W xa D (forL io t (evSs g io cb) (x.1.drop (i + 1)) τ'), fun σ3 H3 q => ⟨x.1.length - (i + 1), by omega, rfl, by omega, q⟩, fun v H3 hy => ?_⟩
    obtain ⟨s23, hv⟩ := ok.yld i H2 v H3 d _ hC hG (fun a q => let ⟨o, q1, _⟩ := r'.there q; ⟨o, q1⟩) hy hd
    refine ⟨F.loop (dr x.2 ps) H1, ps', τ', d, r'.mono s23, hv, ?_⟩
    have hil : (F.loop (dr x.2 ps) H1).iol = io := hio
    rw [hil]
    split at h'
    · exact h'.elim
    rename_i τ1 ha
    rw [ha]
    intro σ4 ps4 r4 _ _ _ _
    refine ⟨F.loop (dr x.2 ps) H1, ps4, τ1, r4, hio, ?_⟩
    cases hs : evSs g io cb τ1 with
    | nx τ2 => rw [hs] at h'; exact fun ps' σ' H' r' => ⟨ps', τ2, r', h'⟩
    | ct τ2 => rw [hs] at h'; exact fun ps' σ' H' r' => ⟨ps', τ2, r', h'⟩
    | brk τ2 => rw [hs] at h'; exact h'
    | ret τ2 d => rw [hs] at h'; exact h'
    | ex x τ2 => rw [hs] at h'; exact h'
    | st => rw [hs] at h'; exact h'
  · have hie : i = x.1.length := by omega
    rw [hie, List.drop_length] at h'
    exact .inl ⟨ok.stop i H2 hC (by omega), h' ps' σ' H2 r'⟩
/-! ### a comprehension put into a name -/
theorem s_setLc (ev : EnvS X c sc g k W xa) {n : Nat} {x : Str} {py p pos : Pos} {i : Nat} {elt : Expr} {gs : List Comprehension} {scope : Scope} (hx : ownIx c sc x = some i) (hl : isLoc sc x = true) (hp : (py.line == p.line) = true)
    (ha : (scope.names.any fun (n, k) => n == x && (k == .local || k == .cell)) = false) : PS X (.Assign [.Name x py] (.ListComp elt gs scope p) pos) (tS X.K g W xa io (.set (.n i) (cE c (n + 1) sc (.ListComp elt gs scope p)))) := by
  obtain ⟨h1, _, _⟩ := ownIx_ok ev hx
  have hloc : X.env.scope.names.lookup x = some .local := by rw [ev.sc]; exact isLoc_of hl
  have hsw := fun l => sw_true (elt := elt) (gs := gs) (pos := p) (l := l) ev.kind hloc hp ha
  have bad : PS X (.Assign [.Name x py] (.ListComp elt gs scope p) pos) (tS X.K g W xa io (.set (.n i) .bad)) := ⟨fun _ _ _ _ _ _ h => by obtain ⟨_, _, _, _, _, h⟩ := h; exact h.elim⟩
  unfold cE
  split <;> first
    | exact bad
    | (rename_i z; cases z; done)
    | skip
  rename_i elt' tg iter ifs scope' p' z
  cases z
  split
  case isFalse => exact bad
  rename_i h
  simp only [Bool.and_eq_true, Bool.not_eq_true'] at h
  split
  case h_2 => exact bad
  rename_i t ht
  split
  case isFalse => exact bad
  rename_i hin
  have okb : BlkOk X.N X.env.scope scope (ownOf c.N scope) := by rw [ev.N, ev.sc]; exact blkOk_by h.1
  have hG : ∀ (s : Shared) (H : Hp) (C : Addr) (cl : List (Str × Addr)) (fp : List Addr), PG (X.blk s H scope (compEnvC scope cl C X.env) fp) tg (tG X.K t) := fun s H C cl fp =>
    sG (X := X.blk s H scope (compEnvC scope cl C X.env) fp) (osc := scope) ev.calm (isOwn_blk ev.sc s H scope C cl fp) ev.nd (by show cT X.N scope tg = some t; rw [ev.N]; exact ht)
  have hI : PI X tg iter (tI X.K g W xa (mkI c sc (cE c n sc) tg iter)) := s_mkI ev.toEnvr fun e => (s_all n ev.toEnvr e).pe
  have hE : ∀ e (s : Shared) (H : Hp) (C : Addr) (cl : List (Str × Addr)) (fp : List Addr), All (X.blk s H scope (compEnvC scope cl C X.env) fp) g W0 xa e (cE c n (relS scope sc) e) := fun e s H C cl fp => s_all n (ev.toEnvr.blk s H scope C cl fp) e
  have fin : ∀ {qs : List Expr} {cc : O}, (∀ (s : Shared) (H : Hp) (C : Addr) (cl : List (Str × Addr)) (fp : List Addr), PTs (X.blk s H scope (compEnvC scope cl C X.env) fp) qs (tC X.K g xa cc)) →
      (swapsWith (.ListComp elt [⟨tg, iter, qs, 0⟩] scope p) (some (.Name x py)) pos.line X.env = pure true) →
      PS X (.Assign [.Name x py] (.ListComp elt [⟨tg, iter, qs, 0⟩] scope p) pos) (tS X.K g W xa io (.set (.n i) (.comp (cE c n (relS scope sc) elt) t (mkI c sc (cE c n sc) tg iter) cc ((ownOf c.N scope).map (·.2))))) := fun hT hw =>
    PS.imp (ps_setLc ev.calm ev.nd h1 hloc hw hI okb hG hT (fun s H C cl fp => (hE elt s H C cl fp).pe) (isSet_no h.2 _)) fun D σ H q => rd_comp hin (rd_set q)
  split
  · exact fin (fun s H C cl fp => pts_nil) (hsw _)
  · rename_i q
    exact fin (fun s H C cl fp => pts_one (hE q s H C cl fp).pt) (hsw _)
  · exact bad
end
end Mp

/-! MiniPy, part K5: every statement. -/
namespace Mp
open PySem PySem.Spec PyProof.Rows L2
section
variable {X : Cx} {c : Cfg} {sc : Scope} {g : G} {k : Nat} {W : WX} {xa : XA} {io : List Nat}
theorem sw_off {elt : Expr} {gs : List Comprehension} {scope : Scope} {pos py : Pos} {y : Str} {l : Nat} {env : Env} (hk : env.scope.kind = .function)
    (h : (isLoc env.scope y && (py.line == pos.line) && !(scope.names.any fun (n, k) => n == y && (k == .local || k == .cell))) = false) : swapsWith (.ListComp elt gs scope pos) (some (.Name y py)) l env = pure false := by
  have hb : env.blockKind = .function := by unfold Env.blockKind; rw [hk]; rfl
  have hl : (env.kindOf y == some NameKind.local) = isLoc env.scope y := by
    show (env.scope.names.lookup y == some NameKind.local) = _
    unfold isLoc
    cases env.scope.names.lookup y with
    | none => rfl
    | some k => cases k <;> rfl
  unfold swapsWith
  simp only [hb, hl, Expr.pos]
  show pure ((ScopeKind.function == ScopeKind.function) && isLoc env.scope y && (py.line == pos.line) && !(scope.names.any fun (n, k) => n == y && (k == .local || k == .cell))) = pure false
  have e : (ScopeKind.function == ScopeKind.function) = true := rfl
  rw [e, Bool.true_and, h]
theorem s_cSet (ev : EnvS X c sc g k W xa) {x : Str} {py pos : Pos} {i : Nat} {e : Expr} (hx : ownIx c sc x = some i) : PS X (.Assign [.Name x py] e pos) (tS X.K g W xa io (cSet c sc x py i e)) := by
  have ih := fun e => s_all (c := c) (g := g) (k := k) (xa := xa) eF ev.toEnvr e
  obtain ⟨l1, l2, l3⟩ := ownIx_ok ev hx
  unfold cSet
  split
  · rename_i elt gs scope p
    by_cases h : (isLoc sc x && (py.line == p.line) && !(scope.names.any fun (n, k) => n == x && (k == .local || k == .cell))) = true
    · simp only [Bool.and_eq_true, Bool.not_eq_true'] at h
      exact s_setLc ev (n := 39) hx h.1.1 h.1.2 h.2
    · refine PS.imp (ps_set ev.nd l1 l2 (ih _).pe (sw_off ev.kind ?_) l3) fun D σ H h => rd_set h
      rw [ev.sc]
      exact Bool.eq_false_iff.mpr h
  · rename_i l pl m apos cpos
    split
    · rename_i hm
      split
      · rename_i hl
        split
        · rename_i j hj
          exact s_pop1 ev.nd l1 l2 l3 hm (visIx_ok ev hj).1 hl
        · exact s_bad
      · exact s_bad
    · exact s_set ev hx rfl (ih _).pe
  · rename_i f p args cpos _
    split
    · rename_i q hq
      split
      · exact s_set ev hx rfl (ih _).pe
      · exact s_io1 ev hx hq (fun e _ => (ih e).pe) (fun e _ => (ih e).pv)
    · exact s_set ev hx rfl (ih _).pe
  · split
    · exact s_bad
    · rename_i h
      exact s_set ev hx (Bool.eq_false_iff.mpr h) (ih _).pe
theorem s_stmt (ev : EnvS X c sc g k W xa) : ∀ (n : Nat) (st : Stmt), PS X st (tS X.K g W xa io (cS c n sc st))
  | 0, st => by unfold cS; exact s_bad
  | n + 1, st => by
    have ih := fun e => s_all (c := c) (g := g) (k := k) (xa := xa) eF ev.toEnvr e
    have is : ∀ ss, PSs X ss (tSs X.K g W xa io (ssOf (cS c n sc) ss)) := fun ss => s_ssOf fun s => s_stmt ev n s
    unfold cS
    split
    · rename_i x py e pos
      split
      · rename_i i hi
        exact s_cSet ev hi
      · exact s_bad
    · rename_i ts k2 tp e pos
      split
      · rename_i is' hi
        have hi' : namesIx X.N sc ts = some is' := by rw [ev.N]; exact hi
        split
        · rename_i es k3 p3
          split
          · rename_i hp
            exact s_par ev.calm ev.nd ev.kind ev.sc hi' hp fun e _ => (ih e).pe
          · exact s_bad
        · rename_i hn
          exact s_setT ev.calm ev.own ev.nd hi' (fun us q p z => hn us q p z) (ih _).pe
      · exact s_bad
    · rename_i l pl i sp e pos
      split
      · rename_i hp
        split
        · rename_i j hj
          exact s_setIx (visIx_ok ev hj).1 ev.room (ih _).pe hp (ih _).pe
        · exact s_bad
      · exact s_bad
    · rename_i l pl m apos args cpos pos
      split
      · rename_i hl
        split
        · rename_i j hj
          have hv := fun p => (visIx_ok (pos := p) ev hj).1
          split
          · split
            · rename_i hm; exact s_pop0 hm (hv _) hl
            · exact s_bad
          · rename_i a
            split
            · exact s_bad
            · rename_i hs
              have hs := Bool.eq_false_iff.mpr hs
              split
              · rename_i hm; exact s_app hm (hv _) hs hl (ih _).pe
              · split
                · rename_i hm; exact s_ext hm (hv _) hs hl (ih _).pe
                · exact s_bad
          · rename_i a b
            split
            · exact s_bad
            · rename_i hs
              have hs := Bool.eq_false_iff.mpr hs
              simp only [Bool.or_eq_false_iff] at hs
              split
              · rename_i hm; exact s_dpop hm (hv _) hs.1 hs.2 hl (ih _).pe (ih _).pe
              · exact s_bad
          · exact s_bad
        · exact s_bad
      · exact s_bad
    · rename_i f p args cpos pos
      split
      · rename_i q hq
        split
        · exact s_ex (ih _).pe
        · exact s_io0 ev.toEnvr hq (fun e _ => (ih e).pe) (fun e _ => (ih e).pv)
      · exact s_bad
    · exact s_if (ih _).pt (is _) (is _)
    · exact s_wh ev.hp (ih _).pt (is _)
    · rename_i tg iter b pos
      split
      · exact s_bad
      · rename_i hs
        split
        · rename_i t ht
          exact s_for ev.hp ev.calm (s_mkI ev.toEnvr fun e => (ih e).pe) (sG ev.calm ev.own ev.nd (by rw [ev.N]; exact ht)) (is _) (Bool.eq_false_iff.mpr hs)
        · exact s_bad
    · exact s_ret (ih _).pe
    · exact s_retN
    · exact s_brk
    · exact s_ct
    · exact s_pass
    · exact s_bad
theorem s_body (ev : EnvS X c sc g k W xa) (n : Nat) (ss : List Stmt) : PSs X ss (tSs X.K g W xa io (ssOf (cS c n sc) ss)) := s_ssOf fun s => s_stmt ev n s
end
end Mp

/-! MiniPy, part L: defs, a program's defs all together, the law's end. -/
namespace Mp
open PySem PySem.Spec PyProof.Rows L2
section
variable {K : PySem.W.Frag} {F : Fx} {ps : Ps} {H : Hp} {σ : L2.St} {τ : Tau}
/-- further slots, empty -/
theorem Rel.pad (r : Rel K F ps H σ τ) (n : Nat) : Rel K F ps H (σ ++ List.replicate n none) (τ ++ List.replicate n none) := by
  have key : ∀ {i : Nat} {x : Bool × D}, (τ ++ List.replicate n none)[i]? = some (some x) → τ[i]? = some (some x) ∧ i < σ.length := fun {i x} h => by
    by_cases hi : i < τ.length
    · rw [List.getElem?_append_left hi] at h
      exact ⟨h, by rw [r.ls]; exact hi⟩
    · rw [List.getElem?_append_right (by omega), List.getElem?_replicate] at h
      split at h <;> cases h
  refine ⟨by simp [r.ls], fun i d h => ?_, fun i d h => ?_, fun i p h => ?_, r.inj, r.out, r.keep, r.new, r.p0, r.pin⟩
  · obtain ⟨h, hi⟩ := key h
    obtain ⟨p, h1, h2, h3⟩ := r.own i d h
    exact ⟨p, h1, by rw [List.getElem?_append_left hi]; exact h2, h3⟩
  · obtain ⟨h, hi⟩ := key h
    obtain ⟨v, h1, h2⟩ := r.cln i d h
    exact ⟨v, by rw [List.getElem?_append_left hi]; exact h1, h2⟩
  · obtain ⟨d, h1⟩ := r.pown i p h
    exact ⟨d, by rw [List.getElem?_append_left (List.getElem?_eq_some_iff.mp h1).1]; exact h1⟩
theorem outs_get : ∀ {is : List Nat} {os : List D}, outs τ is = some os → os.length = is.length ∧ ∀ (m i : Nat), is[m]? = some i → ∃ d, os[m]? = some d ∧ τ[i]? = some (some (true, d))
  | [], os, h => by cases h; exact ⟨rfl, fun m i h => by simp at h⟩
  | i :: is, os, h => by
    unfold outs at h
    split at h
    · rename_i d hd
      obtain ⟨os', h1, rfl⟩ := Option.map_eq_some_iff.mp h
      obtain ⟨q1, q2⟩ := outs_get h1
      refine ⟨by simp [q1], fun m j hm => ?_⟩
      cases m with
      | zero => cases hm; exact ⟨d, rfl, hd⟩
      | succ m => exact q2 m j hm
    · cases h
end
/-- a def's body at its entry -/
theorem body_of {K : PySem.W.Frag} {g : G} {xa : XA} {Fn' : Fn} {N : List Str} {np : Nat} {cf : List D → R (D × List D)} (hcf : cf = runF g Fn') (hp : Fn'.nps = np) (hN : Fn'.nsl = N.length) {vs : List V} {H : Hp} {Q : VK} {E : XK}
    (h : spD K cf Fn'.io xa vs H Q E) : vs.length = np ∧ tSs K g (fun cls d _ H => E cls d H) xa Fn'.io Fn'.body { nx := fun _ H' => Q .non H', rt := Q } (L2.start N vs) H := by
  subst hcf
  obtain ⟨F, ps, ds, r, h0, hio, hil, hq, h⟩ := h
  unfold runF at h
  split at h
  case isFalse => exact h.elim
  rename_i hl
  have hlen : vs.length = np := by
    have := r.ls
    rw [List.length_map, mark_length] at this
    rw [this, hl, hp]
  refine ⟨hlen, F, ps, startT Fn' ds, ?_, hil, ?_⟩
  · have := r.pad (Fn'.nsl - Fn'.nps)
    unfold startT L2.start
    rw [hlen, ← hN, ← hp]
    exact this
  -- at the end every handed slot is where it was
  have hand : ∀ {ps' : Ps} {H' : Hp} {σ' : L2.St} {τ' : Tau} {os : List D} {v : V} {d : D}, Rel K F ps' H' σ' τ' → outs τ' Fn'.io = some os → Dn K (wo (PP F.P0 ps') H') v d → CPost K F.P0 ps Fn'.io H H' (d, os) v := fun {ps' H' σ' τ' os v d} r' ho hd => by
    obtain ⟨q1, q2⟩ := outs_get ho
    have stay : ∀ (i : Nat) (p : Addr), ps i = some p → ps' i = some p := fun i p hi => by
      obtain ⟨d0, h1⟩ := r.pown i p hi
      rw [mark_get] at h1
      obtain ⟨d1, h2, h3⟩ := Option.map_eq_some_iff.mp h1
      simp only [Nat.zero_add, Option.some.injEq, Prod.mk.injEq, Bool.and_eq_true] at h3
      have hm : i ∈ Fn'.io := by simpa using h3.1.1
      obtain ⟨m, hm2⟩ := List.getElem?_of_mem hm
      obtain ⟨d2, _, h5⟩ := q2 m i hm2
      obtain ⟨p2, h6, _, _⟩ := r'.own i d2 h5
      have := r'.pin i p2 (by rw [hil]; exact hm) h6
      rw [hq, hi] at this
      cases this
      exact h6
    have sub : ∀ a, PP F.P0 ps a → PP F.P0 ps' a := fun a z => by
      rcases z with z | ⟨i, z⟩
      · exact .inl z
      · exact .inr ⟨i, stay i a z⟩
    refine ⟨fun a o z1 z2 => r'.keep a o (by rw [h0]; exact z1) (by rw [hio]; exact z2), hd.sub sub, fun m i hm => ?_, q1⟩
    obtain ⟨d2, h4, h5⟩ := q2 m i hm
    obtain ⟨p2, h6, _, h7⟩ := r'.own i d2 h5
    have hq2 := r'.pin i p2 (by rw [hil]; exact List.mem_of_getElem? hm) h6
    rw [hq] at hq2
    exact ⟨p2, d2, hq2, h4, h7.mono (fun _ z => z) (wo_sub sub)⟩
  cases hs : evSs g Fn'.io Fn'.body (startT Fn' ds) with
  | nx τ =>
    rw [hs] at h
    dsimp only at h
    cases ho : outs τ Fn'.io with
    | none => rw [ho] at h; exact h.elim
    | some os =>
      rw [ho] at h
      exact fun ps' σ' H' r' => h .non H' (hand r' ho .non)
  | ret τ d =>
    rw [hs] at h
    dsimp only at h
    cases ho : outs τ Fn'.io with
    | none => rw [ho] at h; exact h.elim
    | some os =>
      rw [ho] at h
      exact fun ps' σ' H' v r' hd => h v H' (hand r' ho hd)
  | ex x τ =>
    rw [hs] at h
    exact fun ps' σ' H' cls dd r' q => h cls dd H' (fun a o z1 z2 => r'.keep a o (by rw [h0]; exact z1) (by rw [hio]; exact z2)) q
  | brk τ => rw [hs] at h; exact h.elim
  | ct τ => rw [hs] at h; exact h.elim
  | st => rw [hs] at h; exact h
/-- a def as it stands behind the top -/
structure DefAt (K : PySem.W.Frag) (x : Str) (st : Stmt) : Prop where
  ex : ∃ (f : Addr) (oc : Value) (od : Option Addr) (kV doc pm : Value) (an : Option Addr) (cdv ct : Value) (osl : Array (Option Value)),
    PySem.W.nsIn K mainGlobals x = some (some (.ref f)) ∧ K.lookup f = some ⟨oc, od, .func (PySem.W.fnOf x x (defArgs st) (defBody st) (defScope st) .none kV doc pm an cdv ct), osl⟩ ∧ PySem.W.codeIn K cdv x = true ∧ PySem.W.keepIn K (.ref f) = true
theorem mkDef {K : PySem.W.Frag} {x : Str} {st : Stmt} {f : Addr} {oc : Value} {od : Option Addr} {kV doc pm : Value} {an : Option Addr} {cdv ct : Value} {osl : Array (Option Value)}
    (a : PySem.W.nsIn K mainGlobals x = some (some (.ref f))) (l : K.lookup f = some ⟨oc, od, .func (PySem.W.fnOf x x (defArgs st) (defBody st) (defScope st) .none kV doc pm an cdv ct), osl⟩) (c : PySem.W.codeIn K cdv x = true) (k : PySem.W.keepIn K (.ref f) = true) : DefAt K x st :=
  ⟨⟨f, oc, od, kV, doc, pm, an, cdv, ct, osl, a, l, c, k⟩⟩
/-- a def of the text: its name, its statement, its slots, its parameters -/
structure DefT where
  x : Str
  st : Stmt
  N : List Str
  ps : List Str
def cfgOf (ds : List DefT) (gls bis : List Str) (p : Pr) (d : DefT) : Cfg := ⟨d.N, ds.map (·.x), gls, bis, p.io⟩
structure DefOk (ds : List DefT) (gls bis : List Str) (p : Pr) (i : Nat) (d : DefT) : Prop where
  sc : FnScope d.N d.ps (defScope d.st)
  bind : ∀ (kV doc pm : Value) (an : Option Addr) (cdv ct : Value) (us : List Value), us.length = d.ps.length → bindArgs (PySem.W.fnOf d.x d.x (defArgs d.st) (defBody d.st) (defScope d.st) .none kV doc pm an cdv ct) ⟨us, []⟩ = pure (d.ps.zip us)
  fn : ∃ F, p.fs[i]? = some F ∧ F.nps = d.ps.length ∧ F.nsl = d.N.length ∧ F.body = ssOf (cS (cfgOf ds gls bis p d) eF (defScope d.st)) (defBody d.st)
theorem isOwn_loc {sc : Scope} {x : Str} (h : isOwn sc x = true) : sc.names.lookup x = some .local ∨ sc.names.lookup x = some .cell := by
  unfold isOwn at h
  split at h
  · exact .inl (by assumption)
  · exact .inr (by assumption)
  · cases h
section
variable {P : Program} {w : World} {K : PySem.W.Frag} {mg : Str → Option Value} {base : Heap}
theorem fns_ok {ds : List DefT} {gls bis : List Str} {p : Pr} {xa : XA} (ok : ∀ i d, ds[i]? = some d → DefOk ds gls bis p i d) (hat : ∀ d ∈ ds, DefAt K d.x d.st) (hmg : ∀ x v, PySem.W.nsIn K mainGlobals x = some (some v) → mg x = some v)
    (hbi : ∀ x : Str, bis.contains x = true → mg x = none) (hgl : ∀ (i : Nat) (x : Str), gls[i]? = some x → ∃ u v, mg x = some u ∧ RelV v u ∧ ∀ d, p.gl i = some d → ∀ H, Dn K H v d) :
    ∀ (n i : Nat) (d : DefT), ds[i]? = some d → ∀ (f : Addr) (oc : Value) (od : Option Addr) (kV doc pm : Value) (an : Option Addr) (cdv ct : Value) (osl : Array (Option Value)),
      K.lookup f = some ⟨oc, od, .func (PySem.W.fnOf d.x d.x (defArgs d.st) (defBody d.st) (defScope d.st) .none kV doc pm an cdv ct), osl⟩ → PySem.W.codeIn K cdv d.x = true → PySem.W.keepIn K (.ref f) = true →
      FnOk P w K mg base (L2.CX P w) n f (PySem.W.fnOf d.x d.x (defArgs d.st) (defBody d.st) (defScope d.st) .none kV doc pm an cdv ct) d.ps (spD K (callN p n i) (p.io i) xa)
  | 0, i, d, hi, f, oc, od, kV, doc, pm, an, cdv, ct, osl, h2, h3, h4 => by
    have no : ∀ vs H Q E, ¬ spD K (callN p 0 i) (p.io i) xa vs H Q E := fun vs H Q E h => by
      obtain ⟨F, ps, ds, r, _, _, _, _, h⟩ := h
      exact h.elim
    exact ⟨fun vs H Q E h => (no _ _ _ _ h).elim, fun A outer s H args us vs Q E _ _ _ _ h => (no _ _ _ _ h).elim⟩
  | n + 1, i, d, hi, f, oc, od, kV, doc, pm, an, cdv, ct, osl, h2, h3, h4 => by
    have o := ok i d hi
    have Fu := fun_mk (st := d.st) h2 h3 h4
    obtain ⟨F, hF, hp, hN, hb⟩ := o.fn
    have hio : p.io i = F.io := by unfold Pr.io; rw [hF]
    have hcf : callN p (n + 1) i = runF ⟨callN p n, p.io, p.gl, p.wN⟩ F := by
      funext ds
      show (match p.fs[i]? with | some F => runF _ F ds | none => .st) = _
      rw [hF]
    refine Fu.okX o.sc (fun vs H Q E h => ?_) (fun cdv' A outer s H vs Q E hr h => ?_)
    · rw [hio] at h
      exact (body_of (N := d.N) hcf hp hN h).1
    · rw [hio] at h
      obtain ⟨_, h⟩ := body_of (N := d.N) hcf hp hN h
      refine ⟨_, ?_, h⟩
      rw [hb]
      have ev : EnvS (cxOf (L2.CX P w) P w K mg base d.N d.x (defScope d.st) f cdv' A outer s H E) (cfgOf ds gls bis p d) (defScope d.st) ⟨callN p n, p.io, p.gl, p.wN⟩ n (fun cls d _ H => E cls d H) xa := by
        refine ⟨⟨rfl, o.sc.nd, rfl, rfl, hr, takes_of rfl rfl rfl rfl, fun f' x hx => ?_, hbi, hgl⟩, fun x hx => ⟨isOwn_loc hx, .inl rfl⟩, passes_of rfl, o.sc.kind, rfl⟩
        have hx : (ds.map (·.x))[f']? = some x := hx
        rw [List.getElem?_map] at hx
        obtain ⟨d', hd', rfl⟩ := Option.map_eq_some_iff.mp hx
        obtain ⟨f2, oc2, od2, kV2, doc2, pm2, an2, cdv2, ct2, osl2, g1, g2, g3, g4⟩ := (hat d' (List.mem_of_getElem? hd')).ex
        exact ⟨f2, _, d'.ps, hmg _ _ g1, g4, (fun_mk (st := d'.st) g2 g3 g4).binds (ok f' d' hd').bind, fns_ok ok hat hmg hbi hgl n f' d' hd' f2 oc2 od2 kV2 doc2 pm2 an2 cdv2 ct2 osl2 g2 g3 g4⟩
      exact s_body ev eF _
end
/-- THE END of a law: its meaning answers True at every script -/
theorem walk_mp {l : PySem.W.OpenLaw} {n m iL : Nat} {q : Program} {loose : List Str} {XP : (Str → Option Value) → Heap → Prop} {YP : World → Heap → Prop} {d : DefRec} {K : Params → PySem.W.Frag} {ds : List DefT} {gls bis : List Str} {p : Pr} {dL : DefT} {xa : XA}
    (hn : l.most = some n) (hn2 : n ≤ sizeLine) (hdf : d.params.defaults = []) (hr : Room m callerA) (hY : ∀ (w : World) (h : Heap), YP w h → (K w.params).In h)
    (ok : ∀ i d, ds[i]? = some d → DefOk ds gls bis p i d) (hL : ds[iL]? = some dL) (hx : dL.x = d.name) (hps : dL.ps = [("script" : Str)]) (hio : p.io iL = [])
    (hat : ∀ (w : World) (d : DefT), d ∈ ds → DefAt (K w.params) d.x d.st) (hbi : ∀ (w : World) (x : Str), bis.contains x = true → PySem.W.nsIn (K w.params) mainGlobals x = some none)
    (hgl : ∀ (w : World) (i : Nat) (x : Str), gls[i]? = some x → ∃ u v, PySem.W.nsIn (K w.params) mainGlobals x = some (some u) ∧ RelV v u ∧ ∀ d, p.gl i = some d → ∀ H, Dn (K w.params) H v d)
    (law : ∀ ns : List Int, ns.length ≤ n → (∀ z ∈ ns, Builtin.Int.intBits z ≤ 1048576) → callN p m iL [.list (ns.map .int)] = .ok (.bool true, [])) :
    PySem.W.WalkO q loose XP YP l.row.toRowW d [] (fun f vs => PySem.call f vs) := by
  refine Att.attach_callB hn hdf fun w s₀ s₁ mg mb fa o pm cd doc a vs ns G Y ho hd hcd hmg hobj hints hlen hbits hg => ?_
  have KX := hY w _ Y
  have hdm := hat w dL (List.mem_of_getElem? hL)
  obtain ⟨f, oc, od, kV, doc', pm', an, cdv, ct, osl, h1, h2, h3, h4⟩ := hdm.ex
  have hmg' := PySem.W.mg_of KX G.T.g h1
  rw [hx] at hmg'
  have e := Option.some.inj (hmg.symm.trans hmg')
  cases e
  have hb : Binds (K w.params) _ dL.ps [] := (fun_mk (st := dL.st) h2 h3 h4).binds (ok iL dL hL).bind
  refine law_call (x := ("script" : Str)) (CX := L2.CX l.prog w) KX G.T.g G.T.b G.T.builtins G.T.nolimit hg hobj hints (Nat.le_trans hlen hn2) hr (sp := spD (K w.params) (callN p m iL) (p.io iL) xa) (fun base kb gb => by
    have := fns_ok (P := l.prog) (w := w) (base := base) (xa := xa) ok (hat w) (fun x v hz => PySem.W.mg_of KX G.T.g hz) (fun x hz => PySem.W.mg_none_of KX G.T.g (hbi w x hz)) (fun i x hz => let ⟨u, v, z1, z2⟩ := hgl w i x hz; ⟨u, v, PySem.W.mg_of KX G.T.g z1, z2⟩) m iL dL hL fa oc od kV doc' pm' an cdv ct osl h2 h3 h4
    rw [hps] at this
    exact this) (fun s u => ?_) (fun H hO hS => ?_) (fun H e s' hc => ?_)
  · have hq := (ok iL dL hL).bind kV doc' pm' an cdv ct [u] (by rw [hps]; rfl)
    rw [hps] at hq
    exact .of_eq hq
  · have hdn : Dn (K w.params) H (.ref a) (.list (ns.map .int)) := by
      refine .lst ?_ (DnAll.of_ints ns)
      rcases hS with hS | ⟨o', its, k, hk, _, _, hdt, hz, hv⟩
      · exact .inl hS
      · have := KX _ _ hk
        rw [hobj] at this
        cases this
        cases hdt
        exact .inr ⟨vs, _, hk, by simpa using hz, by simpa using hv⟩
    rw [hio]
    refine spD_pure (P := fun _ => False) (ds := [.list (ns.map .int)]) (.cons (Dn.mono (fun b o z => wo_some.mpr ⟨fun z => z, z⟩) _ hdn) .nil) (fun _ z => z.elim) ?_
    rw [law ns hlen hbits]
    intro _ v H' _ hv
    cases hv
    rfl
  · obtain ⟨_, _, _, _, _, _, _, _, _, _, _, _, z⟩ := hc
    exact z.elim
end Mp

/-! ### the core text, printed by mp.py -/
namespace Mp
open PySem PySem.Spec PyProof.Rows L2
def topS (i : Nat) : Stmt := PySem.Challenge.pw_swornspire_k13_lean_code.main.body.getD i (.Pass ⟨0, 0, 0, 0⟩)
def b_written_cells : Ss := (.cons (.ifS (.cmp .In (.sub (.v 0) (.k (.int 0))) (.tup (.cons (.k (.str "add")) (.cons (.k (.str "sub")) (.cons (.k (.str "mul")) .nil))))) (.cons (.ret (.lst (.cons (.sub (.v 0) (.k (.int 1))) (.cons (.sub (.v 0) (.k (.int 2))) .nil)))) .nil) .nil) (.cons (.ret (.lst (.cons (.sub (.v 0) (.k (.int 1))) .nil))) .nil))
def F_written_cells : Fn := ⟨1, 1, [], b_written_cells⟩
def b_read_cells : Ss := (.cons (.ifS (.cmp .Eq (.sub (.v 0) (.k (.int 0))) (.k (.str "put"))) (.cons (.ret (.lst .nil)) .nil) .nil) (.cons (.ret (.bi .list (.cons (.sli (.v 0) (.yes (.k (.int 2))) .no) .nil))) .nil))
def F_read_cells : Fn := ⟨1, 1, [], b_read_cells⟩
def b_lean_1 : Ss := (.cons (.setIx 2 (.v 3) (.k (.bool true))) .nil)
def b_lean_2 : Ss := (.cons (.dpop 2 (.v 3) (.k .none)) .nil)
def b_lean_0 : Ss := (.cons (.set (.n 6) (.call 0 (.cons (.v 5) .nil))) (.cons (.ifS (.not (.bi .any (.cons (.comp (.cmp .In (.v 3) (.v 2)) (.n 3) (.it (.v 6)) .no [3]) .nil))) (.cons .ct .nil) .nil) (.cons (.app 4 (.v 5)) (.cons (.forS (.n 3) (.it (.v 6)) b_lean_2) (.cons (.forS (.n 3) (.it (.call 1 (.cons (.v 5) .nil))) b_lean_1) .nil)))))
def b_lean_3 : Ss := (.cons (.setIx 2 (.v 3) (.k (.bool true))) .nil)
def b_lean : Ss := (.cons (.set (.n 2) .dct0) (.cons (.forS (.n 3) (.it (.v 1)) b_lean_3) (.cons (.set (.n 4) (.lst .nil)) (.cons (.forS (.n 5) (.rev (.bi .list (.cons (.v 0) .nil))) b_lean_0) (.cons (.ret (.trev (.bi .list (.cons (.v 4) .nil)))) .nil)))))
def F_lean : Fn := ⟨2, 7, [], b_lean⟩
def b_run_add : Ss := (.cons (.set (.n 3) (.ite (.cmp .NotEq (.sub (.v 0) (.sub (.v 1) (.k (.int 2)))) (.k (.int 0))) (.k (.int 1)) (.k (.int 0)))) (.cons (.set (.n 4) (.sub (.v 0) (.sub (.v 1) (.k (.int 3))))) (.cons (.set (.n 5) (.sub (.v 0) (.sub (.v 1) (.k (.int 4))))) (.cons (.ifS (.cmp .Eq (.sub (.v 1) (.k (.int 0))) (.k (.str "add"))) (.cons (.set (.n 6) (.bin .Add (.bin .Add (.v 4) (.v 5)) (.v 3))) (.cons (.set (.n 7) (.ite (.cmp .GtE (.v 6) (.v 2)) (.k (.int 1)) (.k (.int 0)))) .nil)) (.cons (.set (.n 6) (.bin .Sub (.bin .Sub (.v 4) (.v 5)) (.v 3))) (.cons (.set (.n 7) (.ite (.cmp .Lt (.v 6) (.k (.int 0))) (.k (.int 1)) (.k (.int 0)))) .nil))) (.cons (.setIx 0 (.sub (.v 1) (.k (.int 1))) (.bin .Mod (.v 6) (.v 2))) (.cons (.setIx 0 (.sub (.v 1) (.k (.int 2))) (.v 7)) .nil))))))
def F_run_add : Fn := ⟨3, 8, [0], b_run_add⟩
def b_run_mul : Ss := (.cons (.set (.n 3) (.bin .Add (.bin .Add (.bin .Mult (.sub (.v 0) (.sub (.v 1) (.k (.int 3)))) (.sub (.v 0) (.sub (.v 1) (.k (.int 4))))) (.sub (.v 0) (.sub (.v 1) (.k (.int 5))))) (.sub (.v 0) (.sub (.v 1) (.k (.int 2)))))) (.cons (.setIx 0 (.sub (.v 1) (.k (.int 1))) (.bin .Mod (.v 3) (.v 2))) (.cons (.setIx 0 (.sub (.v 1) (.k (.int 2))) (.bin .FloorDiv (.v 3) (.v 2))) .nil)))
def F_run_mul : Fn := ⟨3, 4, [0], b_run_mul⟩
def b_run_other : Ss := (.cons (.set (.n 3) (.sub (.v 1) (.k (.int 0)))) (.cons (.ifS (.cmp .Eq (.v 3) (.k (.str "put"))) (.cons (.set (.n 4) (.sub (.v 1) (.k (.int 2)))) .nil) (.cons (.ifS (.cmp .Eq (.v 3) (.k (.str "copy"))) (.cons (.set (.n 4) (.sub (.v 0) (.sub (.v 1) (.k (.int 2))))) .nil) (.cons (.ifS (.cmp .Eq (.v 3) (.k (.str "xor"))) (.cons (.set (.n 4) (.bin .BitXor (.sub (.v 0) (.sub (.v 1) (.k (.int 2)))) (.sub (.v 0) (.sub (.v 1) (.k (.int 3)))))) .nil) (.cons (.ifS (.cmp .Eq (.v 3) (.k (.str "and"))) (.cons (.set (.n 4) (.bin .BitAnd (.sub (.v 0) (.sub (.v 1) (.k (.int 2)))) (.sub (.v 0) (.sub (.v 1) (.k (.int 3)))))) .nil) (.cons (.ifS (.cmp .Eq (.v 3) (.k (.str "sign"))) (.cons (.set (.n 4) (.ite (.cmp .GtE (.sub (.v 0) (.sub (.v 1) (.k (.int 2)))) (.bin .FloorDiv (.v 2) (.k (.int 2)))) (.bin .Sub (.v 2) (.k (.int 1))) (.k (.int 0)))) .nil) (.cons (.ifS (.cmp .Eq (.v 3) (.k (.str "top"))) (.cons (.set (.n 4) (.ite (.cmp .GtE (.sub (.v 0) (.sub (.v 1) (.k (.int 2)))) (.bin .FloorDiv (.v 2) (.k (.int 2)))) (.k (.int 1)) (.k (.int 0)))) .nil) (.cons (.ifS (.cmp .NotEq (.sub (.v 0) (.sub (.v 1) (.k (.int 2)))) (.k (.int 0))) (.cons (.set (.n 4) (.sub (.v 0) (.sub (.v 1) (.k (.int 3))))) .nil) (.cons (.set (.n 4) (.sub (.v 0) (.sub (.v 1) (.k (.int 4))))) .nil)) .nil)) .nil)) .nil)) .nil)) .nil)) .nil)) (.cons (.setIx 0 (.sub (.v 1) (.k (.int 1))) (.v 4)) .nil)))
def F_run_other : Fn := ⟨3, 5, [0], b_run_other⟩
def b_run_steps_0 : Ss := (.cons (.set (.n 5) (.sub (.v 4) (.k (.int 0)))) (.cons (.ifS (.or (.cmp .Eq (.v 5) (.k (.str "add"))) (.cmp .Eq (.v 5) (.k (.str "sub")))) (.cons (.io none 3 (.cons (.v 1) (.cons (.v 4) (.cons (.v 3) .nil)))) .nil) (.cons (.ifS (.cmp .Eq (.v 5) (.k (.str "mul"))) (.cons (.io none 4 (.cons (.v 1) (.cons (.v 4) (.cons (.v 3) .nil)))) .nil) (.cons (.io none 5 (.cons (.v 1) (.cons (.v 4) (.cons (.v 3) .nil)))) .nil)) .nil)) .nil))
def b_run_steps : Ss := (.cons (.set (.n 3) (.bin .LShift (.k (.int 1)) (.v 2))) (.cons (.forS (.n 4) (.it (.v 0)) b_run_steps_0) .nil))
def F_run_steps : Fn := ⟨3, 6, [1], b_run_steps⟩
def b_run_code : Ss := (.cons (.set (.n 3) (.bi .list (.cons (.v 1) .nil))) (.cons (.io none 6 (.cons (.v 0) (.cons (.v 3) (.cons (.v 2) .nil)))) (.cons (.ret (.bi .tuple (.cons (.v 3) .nil))) .nil)))
def F_run_code : Fn := ⟨3, 4, [], b_run_code⟩
def b__law_cell : Ss := (.cons (.ifS (.cmp .Eq (.bi .len (.cons (.v 0) .nil)) (.k (.int 0))) (.cons (.ret (.k (.int 0))) .nil) .nil) (.cons (.set (.n 2) (.sub (.v 0) (.bin .Mod (.v 1) (.bi .len (.cons (.v 0) .nil))))) (.cons (.ifS (.cmp .Lt (.v 2) (.k (.int 0))) (.cons (.ret (.bin .Add (.bin .Mult (.neg (.k (.int 2))) (.v 2)) (.k (.int 1)))) .nil) .nil) (.cons (.ret (.bin .Mult (.k (.int 2)) (.v 2))) .nil))))
def F__law_cell : Fn := ⟨2, 3, [], b__law_cell⟩
def b__law_row_0 : Ss := (.cons (.set (.n 8) (.bin .Mod (.bi .int (.cons (.bin .Add (.bin .Add (.bin .Add (.bin .Mult (.bin .Add (.v 4) (.k (.int 7))) (.k (.int 48271))) (.bin .Mult (.bin .Add (.v 1) (.k (.int 1))) (.k (.int 69621)))) (.bin .Mult (.v 7) (.k (.int 16807)))) (.k (.int 12345))) .nil)) (.k (.int 2147483647)))) (.cons (.set (.n 8) (.bin .Mod (.bi .int (.cons (.bin .Add (.bin .Add (.bin .Mult (.v 8) (.v 8)) (.bin .Mult (.k (.int 40692)) (.bin .Add (.v 7) (.v 1)))) (.k (.int 11))) .nil)) (.k (.int 2147483399)))) (.cons (.app 5 (.bin .Mod (.bi .int (.cons (.bin .FloorDiv (.v 8) (.k (.int 5))) .nil)) (.v 3))) .nil)))
def b__law_row_1 : Ss := (.cons (.ifS (.cmp .Eq (.v 6) (.k (.int 0))) (.cons (.set (.n 6) (.bin .Add (.bin .FloorDiv (.v 4) (.k (.int 3))) (.v 7))) .nil) .nil) (.cons (.app 5 (.bin .Mod (.bi .int (.cons (.v 6) .nil)) (.v 3))) (.cons (.set (.n 6) (.bin .FloorDiv (.v 6) (.v 3))) .nil)))
def b__law_row : Ss := (.cons (.set (.n 4) (.call 8 (.cons (.v 0) (.cons (.v 1) .nil)))) (.cons (.set (.n 5) (.lst .nil)) (.cons (.ifS (.cmp .GtE (.v 4) (.bin .Pow (.k (.int 10)) (.k (.int 18)))) (.cons (.set (.n 6) (.bin .Add (.bin .FloorDiv (.v 4) (.k (.int 2))) (.v 1))) (.cons (.forS (.n 7) (.r1 (.v 2)) b__law_row_1) (.cons (.ret (.v 5)) .nil))) .nil) (.cons (.forS (.n 7) (.r1 (.v 2)) b__law_row_0) (.cons (.ret (.v 5)) .nil)))))
def F__law_row : Fn := ⟨4, 9, [], b__law_row⟩
def b__law_one : Ss := (.cons (.ret (.sub (.call 9 (.cons (.v 0) (.cons (.v 1) (.cons (.k (.int 1)) (.cons (.v 2) .nil))))) (.k (.int 0)))) .nil)
def F__law_one : Fn := ⟨3, 3, [], b__law_one⟩
def b__law_words : Ss := (.cons (.set (.n 4) (.call 9 (.cons (.v 0) (.cons (.v 1) (.cons (.v 2) (.cons (.v 3) .nil)))))) (.cons (.set (.n 5) (.call 9 (.cons (.v 0) (.cons (.bin .Add (.v 1) (.k (.int 31))) (.cons (.v 2) (.cons (.k (.int 10)) .nil)))))) (.cons (.set (.n 6) (.lst (.cons (.k (.int 0)) (.cons (.k (.int 1)) (.cons (.bin .Sub (.bin .FloorDiv (.v 3) (.k (.int 2))) (.k (.int 1))) (.cons (.bin .FloorDiv (.v 3) (.k (.int 2))) (.cons (.bin .Sub (.v 3) (.k (.int 1))) .nil))))))) (.cons (.ret (.comp (.ite (.cmp .Lt (.sub (.v 5) (.v 7)) (.k (.int 5))) (.sub (.v 6) (.sub (.v 5) (.v 7))) (.sub (.v 4) (.v 7))) (.n 7) (.r1 (.v 2)) .no [7])) .nil))))
def F__law_words : Fn := ⟨4, 8, [], b__law_words⟩
def b__law_step : Ss := (.cons (.set (.n 3) (.comp (.bin .Mod (.bi .int (.cons (.v 4) .nil)) (.v 2)) (.n 4) (.it (.v 0)) .no [4])) (.cons (.set (.n 5) (.lst (.cons (.k (.str "put")) (.cons (.k (.str "copy")) (.cons (.k (.str "xor")) (.cons (.k (.str "and")) (.cons (.k (.str "sign")) (.cons (.k (.str "top")) (.cons (.k (.str "pick")) (.cons (.k (.str "add")) (.cons (.k (.str "sub")) (.cons (.k (.str "mul")) .nil)))))))))))) (.cons (.set (.n 6) (.sub (.v 5) (.bin .Mod (.bi .int (.cons (.sub (.v 0) (.k (.int 0))) .nil)) (.k (.int 10))))) (.cons (.set (.n 7) (.sub (.v 3) (.k (.int 1)))) (.cons (.ifS (.cmp .Eq (.v 6) (.k (.str "put"))) (.cons (.ret (.tup (.cons (.v 6) (.cons (.v 7) (.cons (.v 1) .nil))))) .nil) .nil) (.cons (.ifS (.cmp .In (.v 6) (.lst (.cons (.k (.str "copy")) (.cons (.k (.str "sign")) (.cons (.k (.str "top")) .nil))))) (.cons (.ret (.tup (.cons (.v 6) (.cons (.v 7) (.cons (.sub (.v 3) (.k (.int 3))) .nil))))) .nil) .nil) (.cons (.ifS (.cmp .In (.v 6) (.lst (.cons (.k (.str "xor")) (.cons (.k (.str "and")) .nil)))) (.cons (.ret (.tup (.cons (.v 6) (.cons (.v 7) (.cons (.sub (.v 3) (.k (.int 3))) (.cons (.sub (.v 3) (.k (.int 4))) .nil)))))) .nil) .nil) (.cons (.ifS (.cmp .Eq (.v 6) (.k (.str "pick"))) (.cons (.ret (.tup (.cons (.v 6) (.cons (.v 7) (.cons (.sub (.v 3) (.k (.int 2))) (.cons (.sub (.v 3) (.k (.int 3))) (.cons (.sub (.v 3) (.k (.int 4))) .nil))))))) .nil) .nil) (.cons (.set (.n 8) (.bin .Mod (.bi .int (.cons (.bin .Add (.bin .Add (.v 7) (.k (.int 1))) (.bin .Mod (.bi .int (.cons (.sub (.v 0) (.k (.int 2))) .nil)) (.bin .Sub (.v 2) (.k (.int 1))))) .nil)) (.v 2))) (.cons (.ifS (.cmp .Eq (.v 6) (.k (.str "mul"))) (.cons (.ret (.tup (.cons (.v 6) (.cons (.v 7) (.cons (.v 8) (.cons (.sub (.v 3) (.k (.int 3))) (.cons (.sub (.v 3) (.k (.int 4))) (.cons (.sub (.v 3) (.k (.int 5))) .nil)))))))) .nil) .nil) (.cons (.ret (.tup (.cons (.v 6) (.cons (.v 7) (.cons (.v 8) (.cons (.sub (.v 3) (.k (.int 3))) (.cons (.sub (.v 3) (.k (.int 4))) .nil))))))) .nil)))))))))))
def F__law_step : Fn := ⟨3, 9, [], b__law_step⟩
def b__law_code : Ss := (.cons (.set (.n 5) (.call 9 (.cons (.v 0) (.cons (.v 1) (.cons (.bin .Mult (.k (.int 6)) (.v 2)) (.cons (.k (.int 240)) .nil)))))) (.cons (.set (.n 6) (.call 11 (.cons (.v 0) (.cons (.bin .Add (.v 1) (.k (.int 3))) (.cons (.v 2) (.cons (.v 4) .nil)))))) (.cons (.ret (.comp (.call 12 (.cons (.sli (.v 5) (.yes (.bin .Mult (.k (.int 6)) (.v 7))) (.yes (.bin .Add (.bin .Mult (.k (.int 6)) (.v 7)) (.k (.int 6))))) (.cons (.sub (.v 6) (.v 7)) (.cons (.v 3) .nil)))) (.n 7) (.r1 (.v 2)) .no [7])) .nil)))
def F__law_code : Fn := ⟨5, 8, [], b__law_code⟩
def b__law_kept : Ss := (.cons (.set (.n 2) (.call 9 (.cons (.v 0) (.cons (.k (.int 6)) (.cons (.v 1) (.cons (.k (.int 4)) .nil)))))) (.cons (.set (.n 3) (.bi .tuple (.cons (.comp (.v 4) (.n 4) (.r1 (.v 1)) (.yes (.cmp .Eq (.sub (.v 2) (.v 4)) (.k (.int 0)))) [4]) .nil))) (.cons (.set (.n 5) (.call 10 (.cons (.v 0) (.cons (.k (.int 8)) (.cons (.k (.int 10)) .nil))))) (.cons (.ifS (.cmp .Eq (.v 5) (.k (.int 0))) (.cons (.set (.n 3) (.tup .nil)) .nil) .nil) (.cons (.ifS (.cmp .Eq (.v 5) (.k (.int 1))) (.cons (.set (.n 3) (.bi .tuple (.cons (.comp (.bin .Sub (.bin .Sub (.v 1) (.k (.int 1))) (.v 4)) (.n 4) (.r1 (.v 1)) .no [4]) .nil))) .nil) .nil) (.cons (.ifS (.cmp .Eq (.v 5) (.k (.int 2))) (.cons (.set (.n 3) (.bin .Add (.rev (.v 3)) (.v 3))) .nil) .nil) (.cons (.ret (.tup (.cons (.v 3) (.cons (.bin .Add (.v 3) (.bi .tuple (.cons (.comp (.v 4) (.n 4) (.r1 (.v 1)) (.yes (.cmp .Eq (.sub (.v 2) (.v 4)) (.k (.int 1)))) [4]) .nil))) .nil)))) .nil)))))))
def F__law_kept : Fn := ⟨2, 6, [], b__law_kept⟩
def b__law_written : Ss := (.cons (.ifS (.cmp .In (.sub (.v 0) (.k (.int 0))) (.lst (.cons (.k (.str "add")) (.cons (.k (.str "sub")) (.cons (.k (.str "mul")) .nil))))) (.cons (.ret (.lst (.cons (.sub (.v 0) (.k (.int 1))) (.cons (.sub (.v 0) (.k (.int 2))) .nil)))) .nil) .nil) (.cons (.ret (.lst (.cons (.sub (.v 0) (.k (.int 1))) .nil))) .nil))
def F__law_written : Fn := ⟨1, 1, [], b__law_written⟩
def b__law_reads : Ss := (.cons (.ret (.and (.cmp .NotEq (.sub (.v 0) (.k (.int 0))) (.k (.str "put"))) (.cmp .In (.v 1) (.sli (.v 0) (.yes (.k (.int 2))) .no)))) .nil)
def F__law_reads : Fn := ⟨2, 2, [], b__law_reads⟩
def b__law_matters_0 : Ss := (.cons (.ifS (.and (.sub (.v 1) (.v 5)) (.call 16 (.cons (.sub (.v 0) (.v 5)) (.cons (.v 3) .nil)))) (.cons (.ret (.k (.bool true))) .nil) .nil) (.cons (.ifS (.and (.sub (.v 1) (.v 5)) (.cmp .In (.v 3) (.call 15 (.cons (.sub (.v 0) (.v 5)) .nil)))) (.cons (.ret (.k (.bool false))) .nil) .nil) .nil))
def b__law_matters : Ss := (.cons (.forS (.n 5) (.r2 (.bin .Add (.v 2) (.k (.int 1))) (.bi .len (.cons (.v 0) .nil))) b__law_matters_0) (.cons (.ret (.cmp .In (.v 3) (.v 4))) .nil))
def F__law_matters : Fn := ⟨5, 6, [], b__law_matters⟩
def b__law_lean_1 : Ss := (.cons (.ifS (.call 17 (.cons (.v 0) (.cons (.v 2) (.cons (.v 5) (.cons (.v 6) (.cons (.v 1) .nil)))))) (.cons (.setIx 2 (.v 5) (.k (.bool true))) .nil) .nil) .nil)
def b__law_lean_0 : Ss := (.cons (.set (.n 5) (.bin .Sub (.bin .Sub (.bi .len (.cons (.v 0) .nil)) (.k (.int 1))) (.v 4))) (.cons (.forS (.n 6) (.it (.call 15 (.cons (.sub (.v 0) (.v 5)) .nil))) b__law_lean_1) .nil))
def b__law_lean : Ss := (.cons (.set (.n 2) (.comp (.k (.bool false)) (.n 3) (.it (.v 0)) .no [3])) (.cons (.forS (.n 4) (.r1 (.bi .len (.cons (.v 0) .nil))) b__law_lean_0) (.cons (.ret (.bi .tuple (.cons (.comp (.sub (.v 0) (.v 7)) (.n 7) (.r1 (.bi .len (.cons (.v 0) .nil))) (.yes (.sub (.v 2) (.v 7))) [7]) .nil))) .nil)))
def F__law_lean : Fn := ⟨2, 8, [], b__law_lean⟩
def b__law_word : Ss := (.cons (.ifS (.cmp .Eq (.v 0) (.k (.str "xor"))) (.cons (.ret (.bin .BitXor (.sub (.v 1) (.k (.int 0))) (.sub (.v 1) (.k (.int 1))))) .nil) .nil) (.cons (.ifS (.cmp .Eq (.v 0) (.k (.str "and"))) (.cons (.ret (.bin .BitAnd (.sub (.v 1) (.k (.int 0))) (.sub (.v 1) (.k (.int 1))))) .nil) .nil) (.cons (.ifS (.cmp .Eq (.v 0) (.k (.str "sign"))) (.cons (.ret (.ite (.cmp .GtE (.sub (.v 1) (.k (.int 0))) (.bin .FloorDiv (.v 2) (.k (.int 2)))) (.bin .Sub (.v 2) (.k (.int 1))) (.k (.int 0)))) .nil) .nil) (.cons (.ifS (.cmp .Eq (.v 0) (.k (.str "top"))) (.cons (.ret (.ite (.cmp .GtE (.sub (.v 1) (.k (.int 0))) (.bin .FloorDiv (.v 2) (.k (.int 2)))) (.k (.int 1)) (.k (.int 0)))) .nil) .nil) (.cons (.ifS (.cmp .Eq (.v 0) (.k (.str "pick"))) (.cons (.ret (.ite (.cmp .NotEq (.sub (.v 1) (.k (.int 0))) (.k (.int 0))) (.sub (.v 1) (.k (.int 1))) (.sub (.v 1) (.k (.int 2))))) .nil) .nil) (.cons (.ret (.sub (.v 1) (.k (.int 0)))) .nil))))))
def F__law_word : Fn := ⟨3, 3, [], b__law_word⟩
def b__law_run_0 : Ss := (.cons (.set (.n 5) (.sub (.v 4) (.k (.int 0)))) (.cons (.ifS (.cmp .Eq (.v 5) (.k (.str "put"))) (.cons (.setIx 3 (.sub (.v 4) (.k (.int 1))) (.sub (.v 4) (.k (.int 2)))) (.cons .ct .nil)) .nil) (.cons (.set (.n 6) (.comp (.sub (.v 3) (.v 7)) (.n 7) (.it (.sli (.v 4) (.yes (.k (.int 2))) .no)) .no [7])) (.cons (.ifS (.cmp .NotIn (.v 5) (.lst (.cons (.k (.str "add")) (.cons (.k (.str "sub")) (.cons (.k (.str "mul")) .nil))))) (.cons (.setIx 3 (.sub (.v 4) (.k (.int 1))) (.call 19 (.cons (.v 5) (.cons (.v 6) (.cons (.v 2) .nil))))) (.cons .ct .nil)) .nil) (.cons (.set (.n 8) (.ite (.cmp .NotEq (.sub (.v 6) (.k (.int 0))) (.k (.int 0))) (.k (.int 1)) (.k (.int 0)))) (.cons (.ifS (.cmp .Eq (.v 5) (.k (.str "mul"))) (.cons (.set (.n 9) (.bin .Add (.bin .Add (.bin .Mult (.sub (.v 6) (.k (.int 1))) (.sub (.v 6) (.k (.int 2)))) (.sub (.v 6) (.k (.int 3)))) (.sub (.v 6) (.k (.int 0))))) (.cons (.set (.n 8) (.bin .FloorDiv (.v 9) (.v 2))) .nil)) (.cons (.ifS (.cmp .Eq (.v 5) (.k (.str "add"))) (.cons (.set (.n 9) (.bin .Add (.bin .Add (.sub (.v 6) (.k (.int 1))) (.sub (.v 6) (.k (.int 2)))) (.v 8))) (.cons (.set (.n 8) (.ite (.cmp .GtE (.v 9) (.v 2)) (.k (.int 1)) (.k (.int 0)))) .nil)) (.cons (.set (.n 9) (.bin .Sub (.bin .Sub (.sub (.v 6) (.k (.int 1))) (.sub (.v 6) (.k (.int 2)))) (.v 8))) (.cons (.set (.n 8) (.ite (.cmp .Lt (.v 9) (.k (.int 0))) (.k (.int 1)) (.k (.int 0)))) .nil))) .nil)) (.cons (.setIx 3 (.sub (.v 4) (.k (.int 1))) (.bin .Mod (.bi .int (.cons (.v 9) .nil)) (.v 2))) (.cons (.setIx 3 (.sub (.v 4) (.k (.int 2))) (.v 8)) .nil))))))))
def b__law_run : Ss := (.cons (.set (.n 3) (.bi .list (.cons (.v 1) .nil))) (.cons (.forS (.n 4) (.it (.v 0)) b__law_run_0) (.cons (.ret (.v 3)) .nil)))
def F__law_run : Fn := ⟨3, 10, [], b__law_run⟩
def b_law_0 : Ss := (.cons (.set (.n 10) (.call 11 (.cons (.v 0) (.cons (.v 9) (.cons (.v 3) (.cons (.v 2) .nil)))))) (.cons (.set (.n 11) (.call 7 (.cons (.bi .tuple (.cons (.v 4) .nil)) (.cons (.bi .tuple (.cons (.v 10) .nil)) (.cons (.v 1) .nil))))) (.cons (.set (.n 12) (.call 7 (.cons (.v 8) (.cons (.bi .tuple (.cons (.v 10) .nil)) (.cons (.v 1) .nil))))) (.cons (.ifS (.or (.cmp .NotEq (.v 11) (.bi .tuple (.cons (.call 20 (.cons (.v 4) (.cons (.v 10) (.cons (.v 2) .nil)))) .nil))) (.cmp .NotEq (.v 12) (.bi .tuple (.cons (.call 20 (.cons (.v 7) (.cons (.v 10) (.cons (.v 2) .nil)))) .nil)))) (.cons (.ret (.k (.bool false))) .nil) .nil) (.cons (.ifS (.cmp .NotEq (.comp (.sub (.v 11) (.v 13)) (.n 13) (.it (.v 5)) .no [13]) (.comp (.sub (.v 12) (.v 13)) (.n 13) (.it (.v 5)) .no [13])) (.cons (.ret (.k (.bool false))) .nil) .nil) .nil)))))
def b_law : Ss := (.cons (.set (.n 1) (.bin .Add (.k (.int 8)) (.call 10 (.cons (.v 0) (.cons (.k (.int 0)) (.cons (.k (.int 9)) .nil)))))) (.cons (.set (.n 2) (.bin .LShift (.k (.int 1)) (.v 1))) (.cons (.set (.n 3) (.bin .Add (.k (.int 2)) (.call 10 (.cons (.v 0) (.cons (.k (.int 1)) (.cons (.k (.int 11)) .nil)))))) (.cons (.set (.n 4) (.call 13 (.cons (.v 0) (.cons (.k (.int 9)) (.cons (.call 10 (.cons (.v 0) (.cons (.k (.int 4)) (.cons (.k (.int 30)) .nil)))) (.cons (.v 3) (.cons (.v 2) .nil))))))) (.cons (.ifS (.cmp .Eq (.call 10 (.cons (.v 0) (.cons (.k (.int 5)) (.cons (.k (.int 16)) .nil)))) (.k (.int 0))) (.cons (.set (.n 4) (.bin .Mult (.v 4) (.k (.int 4)))) .nil) .nil) (.cons (.set (.tup [5, 6]) (.call 14 (.cons (.v 0) (.cons (.v 3) .nil)))) (.cons (.set (.n 7) (.call 18 (.cons (.v 4) (.cons (.v 5) .nil)))) (.cons (.set (.n 8) (.call 2 (.cons (.bi .tuple (.cons (.v 4) .nil)) (.cons (.v 5) .nil)))) (.cons (.ifS (.or (.not (.isi (.v 8) [.b "tuple"])) (.cmp .NotEq (.v 8) (.v 7))) (.cons (.ret (.k (.bool false))) .nil) .nil) (.cons (.ifS (.or (.cmp .NotEq (.call 2 (.cons (.v 8) (.cons (.v 5) .nil))) (.v 7)) (.cmp .NotEq (.call 2 (.cons (.call 2 (.cons (.bi .tuple (.cons (.v 4) .nil)) (.cons (.v 6) .nil))) (.cons (.v 5) .nil))) (.v 7))) (.cons (.ret (.k (.bool false))) .nil) .nil) (.cons (.forS (.n 9) (.it (.lst (.cons (.k (.int 3)) (.cons (.k (.int 17)) .nil)))) b_law_0) (.cons (.ret (.k (.bool true))) .nil))))))))))))
def F_law : Fn := ⟨1, 14, [], b_law⟩
def glD : Nat → Option D
  | _ => none
def prog : Pr := ⟨[F_written_cells, F_read_cells, F_lean, F_run_add, F_run_mul, F_run_other, F_run_steps, F_run_code, F__law_cell, F__law_row, F__law_one, F__law_words, F__law_step, F__law_code, F__law_kept, F__law_written, F__law_reads, F__law_matters, F__law_lean, F__law_word, F__law_run, F_law], glD, 2 ^ 64⟩
def d_written_cells : DefT := ⟨"written_cells", topS 1, ["instruction"], ["instruction"]⟩
def d_read_cells : DefT := ⟨"read_cells", topS 2, ["instruction"], ["instruction"]⟩
def d_lean : DefT := ⟨"lean", topS 4, ["code", "kept", "needed", "cell", "chosen", "instruction", "written"], ["code", "kept"]⟩
def d_run_add : DefT := ⟨"run_add", topS 6, ["memory", "instruction", "base", "carry", "left", "right", "total", "flag"], ["memory", "instruction", "base"]⟩
def d_run_mul : DefT := ⟨"run_mul", topS 7, ["memory", "instruction", "base", "total"], ["memory", "instruction", "base"]⟩
def d_run_other : DefT := ⟨"run_other", topS 8, ["memory", "instruction", "base", "op", "value"], ["memory", "instruction", "base"]⟩
def d_run_steps : DefT := ⟨"run_steps", topS 9, ["code", "memory", "bits", "base", "instruction", "op"], ["code", "memory", "bits"]⟩
def d_run_code : DefT := ⟨"run_code", topS 10, ["code", "memory", "bits", "words"], ["code", "memory", "bits"]⟩
def d__law_cell : DefT := ⟨"_law_cell", topS 12, ["script", "place", "cell"], ["script", "place"]⟩
def d__law_row : DefT := ⟨"_law_row", topS 13, ["script", "place", "many", "limit", "number", "row", "rest", "k", "mixed"], ["script", "place", "many", "limit"]⟩
def d__law_one : DefT := ⟨"_law_one", topS 14, ["script", "place", "limit"], ["script", "place", "limit"]⟩
def d__law_words : DefT := ⟨"_law_words", topS 15, ["script", "place", "many", "base", "picks", "ways", "edges", "k"], ["script", "place", "many", "base"]⟩
def d__law_step : DefT := ⟨"_law_step", topS 16, ["digits", "word", "cells", "picked", "digit", "ops", "op", "first", "second"], ["digits", "word", "cells"]⟩
def d__law_code : DefT := ⟨"_law_code", topS 17, ["script", "place", "many", "cells", "base", "digits", "words", "k"], ["script", "place", "many", "cells", "base"]⟩
def d__law_kept : DefT := ⟨"_law_kept", topS 18, ["script", "cells", "marks", "kept", "cell", "way"], ["script", "cells"]⟩
def d__law_written : DefT := ⟨"_law_written", topS 19, ["step"], ["step"]⟩
def d__law_reads : DefT := ⟨"_law_reads", topS 20, ["step", "cell"], ["step", "cell"]⟩
def d__law_matters : DefT := ⟨"_law_matters", topS 21, ["code", "stays", "at", "cell", "kept", "later"], ["code", "stays", "at", "cell", "kept"]⟩
def d__law_lean : DefT := ⟨"_law_lean", topS 22, ["code", "kept", "stays", "step", "back", "at", "cell", "k"], ["code", "kept"]⟩
def d__law_word : DefT := ⟨"_law_word", topS 23, ["op", "words", "base"], ["op", "words", "base"]⟩
def d__law_run : DefT := ⟨"_law_run", topS 24, ["code", "memory", "base", "after", "step", "op", "words", "cell", "carry", "total"], ["code", "memory", "base"]⟩
def d_law : DefT := ⟨"law", topS 25, ["script", "bits", "base", "cells", "code", "kept", "more", "due", "told", "place", "memory", "first", "second", "cell"], ["script"]⟩
def defs : List DefT := [d_written_cells, d_read_cells, d_lean, d_run_add, d_run_mul, d_run_other, d_run_steps, d_run_code, d__law_cell, d__law_row, d__law_one, d__law_words, d__law_step, d__law_code, d__law_kept, d__law_written, d__law_reads, d__law_matters, d__law_lean, d__law_word, d__law_run, d_law]
def gls : List Str := []
def bis : List Str := ["any", "int", "isinstance", "len", "list", "range", "reversed", "tuple"]
theorem sc_written_cells : FnScope d_written_cells.N d_written_cells.ps (defScope d_written_cells.st) := ⟨by kernel_rfl, by kernel_rfl, by kernel_rfl, by decide +kernel, by decide +kernel, by decide +kernel, by decide +kernel⟩
theorem bind_written_cells : ∀ (kV doc pm : Value) (an : Option Addr) (cdv ct : Value) (us : List Value), us.length = d_written_cells.ps.length → bindArgs (PySem.W.fnOf d_written_cells.x d_written_cells.x (defArgs d_written_cells.st) (defBody d_written_cells.st) (defScope d_written_cells.st) .none kV doc pm an cdv ct) ⟨us, []⟩ = pure (d_written_cells.ps.zip us) := fun _ _ _ _ _ _ us hl => match us, hl with | [_], _ => rfl
theorem code_written_cells : b_written_cells = ssOf (cS (cfgOf defs gls bis prog d_written_cells) eF (defScope d_written_cells.st)) (defBody d_written_cells.st) := by kernel_rfl
theorem ok_written_cells : DefOk defs gls bis prog 0 d_written_cells := ⟨sc_written_cells, bind_written_cells, F_written_cells, rfl, rfl, rfl, code_written_cells⟩
theorem sc_read_cells : FnScope d_read_cells.N d_read_cells.ps (defScope d_read_cells.st) := ⟨by kernel_rfl, by kernel_rfl, by kernel_rfl, by decide +kernel, by decide +kernel, by decide +kernel, by decide +kernel⟩
theorem bind_read_cells : ∀ (kV doc pm : Value) (an : Option Addr) (cdv ct : Value) (us : List Value), us.length = d_read_cells.ps.length → bindArgs (PySem.W.fnOf d_read_cells.x d_read_cells.x (defArgs d_read_cells.st) (defBody d_read_cells.st) (defScope d_read_cells.st) .none kV doc pm an cdv ct) ⟨us, []⟩ = pure (d_read_cells.ps.zip us) := fun _ _ _ _ _ _ us hl => match us, hl with | [_], _ => rfl
theorem code_read_cells : b_read_cells = ssOf (cS (cfgOf defs gls bis prog d_read_cells) eF (defScope d_read_cells.st)) (defBody d_read_cells.st) := by kernel_rfl
theorem ok_read_cells : DefOk defs gls bis prog 1 d_read_cells := ⟨sc_read_cells, bind_read_cells, F_read_cells, rfl, rfl, rfl, code_read_cells⟩
theorem sc_lean : FnScope d_lean.N d_lean.ps (defScope d_lean.st) := ⟨by kernel_rfl, by kernel_rfl, by kernel_rfl, by decide +kernel, by decide +kernel, by decide +kernel, by decide +kernel⟩
theorem bind_lean : ∀ (kV doc pm : Value) (an : Option Addr) (cdv ct : Value) (us : List Value), us.length = d_lean.ps.length → bindArgs (PySem.W.fnOf d_lean.x d_lean.x (defArgs d_lean.st) (defBody d_lean.st) (defScope d_lean.st) .none kV doc pm an cdv ct) ⟨us, []⟩ = pure (d_lean.ps.zip us) := fun _ _ _ _ _ _ us hl => match us, hl with | [_, _], _ => rfl
theorem code_lean : b_lean = ssOf (cS (cfgOf defs gls bis prog d_lean) eF (defScope d_lean.st)) (defBody d_lean.st) := by kernel_rfl
theorem ok_lean : DefOk defs gls bis prog 2 d_lean := ⟨sc_lean, bind_lean, F_lean, rfl, rfl, rfl, code_lean⟩
theorem sc_run_add : FnScope d_run_add.N d_run_add.ps (defScope d_run_add.st) := ⟨by kernel_rfl, by kernel_rfl, by kernel_rfl, by decide +kernel, by decide +kernel, by decide +kernel, by decide +kernel⟩
theorem bind_run_add : ∀ (kV doc pm : Value) (an : Option Addr) (cdv ct : Value) (us : List Value), us.length = d_run_add.ps.length → bindArgs (PySem.W.fnOf d_run_add.x d_run_add.x (defArgs d_run_add.st) (defBody d_run_add.st) (defScope d_run_add.st) .none kV doc pm an cdv ct) ⟨us, []⟩ = pure (d_run_add.ps.zip us) := fun _ _ _ _ _ _ us hl => match us, hl with | [_, _, _], _ => rfl
theorem code_run_add : b_run_add = ssOf (cS (cfgOf defs gls bis prog d_run_add) eF (defScope d_run_add.st)) (defBody d_run_add.st) := by kernel_rfl
theorem ok_run_add : DefOk defs gls bis prog 3 d_run_add := ⟨sc_run_add, bind_run_add, F_run_add, rfl, rfl, rfl, code_run_add⟩
theorem sc_run_mul : FnScope d_run_mul.N d_run_mul.ps (defScope d_run_mul.st) := ⟨by kernel_rfl, by kernel_rfl, by kernel_rfl, by decide +kernel, by decide +kernel, by decide +kernel, by decide +kernel⟩
theorem bind_run_mul : ∀ (kV doc pm : Value) (an : Option Addr) (cdv ct : Value) (us : List Value), us.length = d_run_mul.ps.length → bindArgs (PySem.W.fnOf d_run_mul.x d_run_mul.x (defArgs d_run_mul.st) (defBody d_run_mul.st) (defScope d_run_mul.st) .none kV doc pm an cdv ct) ⟨us, []⟩ = pure (d_run_mul.ps.zip us) := fun _ _ _ _ _ _ us hl => match us, hl with | [_, _, _], _ => rfl
theorem code_run_mul : b_run_mul = ssOf (cS (cfgOf defs gls bis prog d_run_mul) eF (defScope d_run_mul.st)) (defBody d_run_mul.st) := by kernel_rfl
theorem ok_run_mul : DefOk defs gls bis prog 4 d_run_mul := ⟨sc_run_mul, bind_run_mul, F_run_mul, rfl, rfl, rfl, code_run_mul⟩
theorem sc_run_other : FnScope d_run_other.N d_run_other.ps (defScope d_run_other.st) := ⟨by kernel_rfl, by kernel_rfl, by kernel_rfl, by decide +kernel, by decide +kernel, by decide +kernel, by decide +kernel⟩
theorem bind_run_other : ∀ (kV doc pm : Value) (an : Option Addr) (cdv ct : Value) (us : List Value), us.length = d_run_other.ps.length → bindArgs (PySem.W.fnOf d_run_other.x d_run_other.x (defArgs d_run_other.st) (defBody d_run_other.st) (defScope d_run_other.st) .none kV doc pm an cdv ct) ⟨us, []⟩ = pure (d_run_other.ps.zip us) := fun _ _ _ _ _ _ us hl => match us, hl with | [_, _, _], _ => rfl
theorem code_run_other : b_run_other = ssOf (cS (cfgOf defs gls bis prog d_run_other) eF (defScope d_run_other.st)) (defBody d_run_other.st) := by kernel_rfl
theorem ok_run_other : DefOk defs gls bis prog 5 d_run_other := ⟨sc_run_other, bind_run_other, F_run_other, rfl, rfl, rfl, code_run_other⟩
theorem sc_run_steps : FnScope d_run_steps.N d_run_steps.ps (defScope d_run_steps.st) := ⟨by kernel_rfl, by kernel_rfl, by kernel_rfl, by decide +kernel, by decide +kernel, by decide +kernel, by decide +kernel⟩
theorem bind_run_steps : ∀ (kV doc pm : Value) (an : Option Addr) (cdv ct : Value) (us : List Value), us.length = d_run_steps.ps.length → bindArgs (PySem.W.fnOf d_run_steps.x d_run_steps.x (defArgs d_run_steps.st) (defBody d_run_steps.st) (defScope d_run_steps.st) .none kV doc pm an cdv ct) ⟨us, []⟩ = pure (d_run_steps.ps.zip us) := fun _ _ _ _ _ _ us hl => match us, hl with | [_, _, _], _ => rfl
theorem code_run_steps : b_run_steps = ssOf (cS (cfgOf defs gls bis prog d_run_steps) eF (defScope d_run_steps.st)) (defBody d_run_steps.st) := by kernel_rfl
theorem ok_run_steps : DefOk defs gls bis prog 6 d_run_steps := ⟨sc_run_steps, bind_run_steps, F_run_steps, rfl, rfl, rfl, code_run_steps⟩
theorem sc_run_code : FnScope d_run_code.N d_run_code.ps (defScope d_run_code.st) := ⟨by kernel_rfl, by kernel_rfl, by kernel_rfl, by decide +kernel, by decide +kernel, by decide +kernel, by decide +kernel⟩
theorem bind_run_code : ∀ (kV doc pm : Value) (an : Option Addr) (cdv ct : Value) (us : List Value), us.length = d_run_code.ps.length → bindArgs (PySem.W.fnOf d_run_code.x d_run_code.x (defArgs d_run_code.st) (defBody d_run_code.st) (defScope d_run_code.st) .none kV doc pm an cdv ct) ⟨us, []⟩ = pure (d_run_code.ps.zip us) := fun _ _ _ _ _ _ us hl => match us, hl with | [_, _, _], _ => rfl
theorem code_run_code : b_run_code = ssOf (cS (cfgOf defs gls bis prog d_run_code) eF (defScope d_run_code.st)) (defBody d_run_code.st) := by kernel_rfl
theorem ok_run_code : DefOk defs gls bis prog 7 d_run_code := ⟨sc_run_code, bind_run_code, F_run_code, rfl, rfl, rfl, code_run_code⟩
theorem sc__law_cell : FnScope d__law_cell.N d__law_cell.ps (defScope d__law_cell.st) := ⟨by kernel_rfl, by kernel_rfl, by kernel_rfl, by decide +kernel, by decide +kernel, by decide +kernel, by decide +kernel⟩
theorem bind__law_cell : ∀ (kV doc pm : Value) (an : Option Addr) (cdv ct : Value) (us : List Value), us.length = d__law_cell.ps.length → bindArgs (PySem.W.fnOf d__law_cell.x d__law_cell.x (defArgs d__law_cell.st) (defBody d__law_cell.st) (defScope d__law_cell.st) .none kV doc pm an cdv ct) ⟨us, []⟩ = pure (d__law_cell.ps.zip us) := fun _ _ _ _ _ _ us hl => match us, hl with | [_, _], _ => rfl
theorem code__law_cell : b__law_cell = ssOf (cS (cfgOf defs gls bis prog d__law_cell) eF (defScope d__law_cell.st)) (defBody d__law_cell.st) := by kernel_rfl
theorem ok__law_cell : DefOk defs gls bis prog 8 d__law_cell := ⟨sc__law_cell, bind__law_cell, F__law_cell, rfl, rfl, rfl, code__law_cell⟩
theorem sc__law_row : FnScope d__law_row.N d__law_row.ps (defScope d__law_row.st) := ⟨by kernel_rfl, by kernel_rfl, by kernel_rfl, by decide +kernel, by decide +kernel, by decide +kernel, by decide +kernel⟩
theorem bind__law_row : ∀ (kV doc pm : Value) (an : Option Addr) (cdv ct : Value) (us : List Value), us.length = d__law_row.ps.length → bindArgs (PySem.W.fnOf d__law_row.x d__law_row.x (defArgs d__law_row.st) (defBody d__law_row.st) (defScope d__law_row.st) .none kV doc pm an cdv ct) ⟨us, []⟩ = pure (d__law_row.ps.zip us) := fun _ _ _ _ _ _ us hl => match us, hl with | [_, _, _, _], _ => rfl
theorem code__law_row : b__law_row = ssOf (cS (cfgOf defs gls bis prog d__law_row) eF (defScope d__law_row.st)) (defBody d__law_row.st) := by kernel_rfl
theorem ok__law_row : DefOk defs gls bis prog 9 d__law_row := ⟨sc__law_row, bind__law_row, F__law_row, rfl, rfl, rfl, code__law_row⟩
theorem sc__law_one : FnScope d__law_one.N d__law_one.ps (defScope d__law_one.st) := ⟨by kernel_rfl, by kernel_rfl, by kernel_rfl, by decide +kernel, by decide +kernel, by decide +kernel, by decide +kernel⟩
theorem bind__law_one : ∀ (kV doc pm : Value) (an : Option Addr) (cdv ct : Value) (us : List Value), us.length = d__law_one.ps.length → bindArgs (PySem.W.fnOf d__law_one.x d__law_one.x (defArgs d__law_one.st) (defBody d__law_one.st) (defScope d__law_one.st) .none kV doc pm an cdv ct) ⟨us, []⟩ = pure (d__law_one.ps.zip us) := fun _ _ _ _ _ _ us hl => match us, hl with | [_, _, _], _ => rfl
theorem code__law_one : b__law_one = ssOf (cS (cfgOf defs gls bis prog d__law_one) eF (defScope d__law_one.st)) (defBody d__law_one.st) := by kernel_rfl
theorem ok__law_one : DefOk defs gls bis prog 10 d__law_one := ⟨sc__law_one, bind__law_one, F__law_one, rfl, rfl, rfl, code__law_one⟩
theorem sc__law_words : FnScope d__law_words.N d__law_words.ps (defScope d__law_words.st) := ⟨by kernel_rfl, by kernel_rfl, by kernel_rfl, by decide +kernel, by decide +kernel, by decide +kernel, by decide +kernel⟩
theorem bind__law_words : ∀ (kV doc pm : Value) (an : Option Addr) (cdv ct : Value) (us : List Value), us.length = d__law_words.ps.length → bindArgs (PySem.W.fnOf d__law_words.x d__law_words.x (defArgs d__law_words.st) (defBody d__law_words.st) (defScope d__law_words.st) .none kV doc pm an cdv ct) ⟨us, []⟩ = pure (d__law_words.ps.zip us) := fun _ _ _ _ _ _ us hl => match us, hl with | [_, _, _, _], _ => rfl
theorem code__law_words : b__law_words = ssOf (cS (cfgOf defs gls bis prog d__law_words) eF (defScope d__law_words.st)) (defBody d__law_words.st) := by kernel_rfl
theorem ok__law_words : DefOk defs gls bis prog 11 d__law_words := ⟨sc__law_words, bind__law_words, F__law_words, rfl, rfl, rfl, code__law_words⟩
theorem sc__law_step : FnScope d__law_step.N d__law_step.ps (defScope d__law_step.st) := ⟨by kernel_rfl, by kernel_rfl, by kernel_rfl, by decide +kernel, by decide +kernel, by decide +kernel, by decide +kernel⟩
theorem bind__law_step : ∀ (kV doc pm : Value) (an : Option Addr) (cdv ct : Value) (us : List Value), us.length = d__law_step.ps.length → bindArgs (PySem.W.fnOf d__law_step.x d__law_step.x (defArgs d__law_step.st) (defBody d__law_step.st) (defScope d__law_step.st) .none kV doc pm an cdv ct) ⟨us, []⟩ = pure (d__law_step.ps.zip us) := fun _ _ _ _ _ _ us hl => match us, hl with | [_, _, _], _ => rfl
theorem code__law_step : b__law_step = ssOf (cS (cfgOf defs gls bis prog d__law_step) eF (defScope d__law_step.st)) (defBody d__law_step.st) := by kernel_rfl
theorem ok__law_step : DefOk defs gls bis prog 12 d__law_step := ⟨sc__law_step, bind__law_step, F__law_step, rfl, rfl, rfl, code__law_step⟩
theorem sc__law_code : FnScope d__law_code.N d__law_code.ps (defScope d__law_code.st) := ⟨by kernel_rfl, by kernel_rfl, by kernel_rfl, by decide +kernel, by decide +kernel, by decide +kernel, by decide +kernel⟩
theorem bind__law_code : ∀ (kV doc pm : Value) (an : Option Addr) (cdv ct : Value) (us : List Value), us.length = d__law_code.ps.length → bindArgs (PySem.W.fnOf d__law_code.x d__law_code.x (defArgs d__law_code.st) (defBody d__law_code.st) (defScope d__law_code.st) .none kV doc pm an cdv ct) ⟨us, []⟩ = pure (d__law_code.ps.zip us) := fun _ _ _ _ _ _ us hl => match us, hl with | [_, _, _, _, _], _ => rfl
theorem code__law_code : b__law_code = ssOf (cS (cfgOf defs gls bis prog d__law_code) eF (defScope d__law_code.st)) (defBody d__law_code.st) := by kernel_rfl
theorem ok__law_code : DefOk defs gls bis prog 13 d__law_code := ⟨sc__law_code, bind__law_code, F__law_code, rfl, rfl, rfl, code__law_code⟩
theorem sc__law_kept : FnScope d__law_kept.N d__law_kept.ps (defScope d__law_kept.st) := ⟨by kernel_rfl, by kernel_rfl, by kernel_rfl, by decide +kernel, by decide +kernel, by decide +kernel, by decide +kernel⟩
theorem bind__law_kept : ∀ (kV doc pm : Value) (an : Option Addr) (cdv ct : Value) (us : List Value), us.length = d__law_kept.ps.length → bindArgs (PySem.W.fnOf d__law_kept.x d__law_kept.x (defArgs d__law_kept.st) (defBody d__law_kept.st) (defScope d__law_kept.st) .none kV doc pm an cdv ct) ⟨us, []⟩ = pure (d__law_kept.ps.zip us) := fun _ _ _ _ _ _ us hl => match us, hl with | [_, _], _ => rfl
theorem code__law_kept : b__law_kept = ssOf (cS (cfgOf defs gls bis prog d__law_kept) eF (defScope d__law_kept.st)) (defBody d__law_kept.st) := by kernel_rfl
theorem ok__law_kept : DefOk defs gls bis prog 14 d__law_kept := ⟨sc__law_kept, bind__law_kept, F__law_kept, rfl, rfl, rfl, code__law_kept⟩
theorem sc__law_written : FnScope d__law_written.N d__law_written.ps (defScope d__law_written.st) := ⟨by kernel_rfl, by kernel_rfl, by kernel_rfl, by decide +kernel, by decide +kernel, by decide +kernel, by decide +kernel⟩
theorem bind__law_written : ∀ (kV doc pm : Value) (an : Option Addr) (cdv ct : Value) (us : List Value), us.length = d__law_written.ps.length → bindArgs (PySem.W.fnOf d__law_written.x d__law_written.x (defArgs d__law_written.st) (defBody d__law_written.st) (defScope d__law_written.st) .none kV doc pm an cdv ct) ⟨us, []⟩ = pure (d__law_written.ps.zip us) := fun _ _ _ _ _ _ us hl => match us, hl with | [_], _ => rfl
theorem code__law_written : b__law_written = ssOf (cS (cfgOf defs gls bis prog d__law_written) eF (defScope d__law_written.st)) (defBody d__law_written.st) := by kernel_rfl
theorem ok__law_written : DefOk defs gls bis prog 15 d__law_written := ⟨sc__law_written, bind__law_written, F__law_written, rfl, rfl, rfl, code__law_written⟩
theorem sc__law_reads : FnScope d__law_reads.N d__law_reads.ps (defScope d__law_reads.st) := ⟨by kernel_rfl, by kernel_rfl, by kernel_rfl, by decide +kernel, by decide +kernel, by decide +kernel, by decide +kernel⟩
theorem bind__law_reads : ∀ (kV doc pm : Value) (an : Option Addr) (cdv ct : Value) (us : List Value), us.length = d__law_reads.ps.length → bindArgs (PySem.W.fnOf d__law_reads.x d__law_reads.x (defArgs d__law_reads.st) (defBody d__law_reads.st) (defScope d__law_reads.st) .none kV doc pm an cdv ct) ⟨us, []⟩ = pure (d__law_reads.ps.zip us) := fun _ _ _ _ _ _ us hl => match us, hl with | [_, _], _ => rfl
theorem code__law_reads : b__law_reads = ssOf (cS (cfgOf defs gls bis prog d__law_reads) eF (defScope d__law_reads.st)) (defBody d__law_reads.st) := by kernel_rfl
theorem ok__law_reads : DefOk defs gls bis prog 16 d__law_reads := ⟨sc__law_reads, bind__law_reads, F__law_reads, rfl, rfl, rfl, code__law_reads⟩
theorem sc__law_matters : FnScope d__law_matters.N d__law_matters.ps (defScope d__law_matters.st) := ⟨by kernel_rfl, by kernel_rfl, by kernel_rfl, by decide +kernel, by decide +kernel, by decide +kernel, by decide +kernel⟩
theorem bind__law_matters : ∀ (kV doc pm : Value) (an : Option Addr) (cdv ct : Value) (us : List Value), us.length = d__law_matters.ps.length → bindArgs (PySem.W.fnOf d__law_matters.x d__law_matters.x (defArgs d__law_matters.st) (defBody d__law_matters.st) (defScope d__law_matters.st) .none kV doc pm an cdv ct) ⟨us, []⟩ = pure (d__law_matters.ps.zip us) := fun _ _ _ _ _ _ us hl => match us, hl with | [_, _, _, _, _], _ => rfl
theorem code__law_matters : b__law_matters = ssOf (cS (cfgOf defs gls bis prog d__law_matters) eF (defScope d__law_matters.st)) (defBody d__law_matters.st) := by kernel_rfl
theorem ok__law_matters : DefOk defs gls bis prog 17 d__law_matters := ⟨sc__law_matters, bind__law_matters, F__law_matters, rfl, rfl, rfl, code__law_matters⟩
theorem sc__law_lean : FnScope d__law_lean.N d__law_lean.ps (defScope d__law_lean.st) := ⟨by kernel_rfl, by kernel_rfl, by kernel_rfl, by decide +kernel, by decide +kernel, by decide +kernel, by decide +kernel⟩
theorem bind__law_lean : ∀ (kV doc pm : Value) (an : Option Addr) (cdv ct : Value) (us : List Value), us.length = d__law_lean.ps.length → bindArgs (PySem.W.fnOf d__law_lean.x d__law_lean.x (defArgs d__law_lean.st) (defBody d__law_lean.st) (defScope d__law_lean.st) .none kV doc pm an cdv ct) ⟨us, []⟩ = pure (d__law_lean.ps.zip us) := fun _ _ _ _ _ _ us hl => match us, hl with | [_, _], _ => rfl
theorem code__law_lean : b__law_lean = ssOf (cS (cfgOf defs gls bis prog d__law_lean) eF (defScope d__law_lean.st)) (defBody d__law_lean.st) := by kernel_rfl
theorem ok__law_lean : DefOk defs gls bis prog 18 d__law_lean := ⟨sc__law_lean, bind__law_lean, F__law_lean, rfl, rfl, rfl, code__law_lean⟩
theorem sc__law_word : FnScope d__law_word.N d__law_word.ps (defScope d__law_word.st) := ⟨by kernel_rfl, by kernel_rfl, by kernel_rfl, by decide +kernel, by decide +kernel, by decide +kernel, by decide +kernel⟩
theorem bind__law_word : ∀ (kV doc pm : Value) (an : Option Addr) (cdv ct : Value) (us : List Value), us.length = d__law_word.ps.length → bindArgs (PySem.W.fnOf d__law_word.x d__law_word.x (defArgs d__law_word.st) (defBody d__law_word.st) (defScope d__law_word.st) .none kV doc pm an cdv ct) ⟨us, []⟩ = pure (d__law_word.ps.zip us) := fun _ _ _ _ _ _ us hl => match us, hl with | [_, _, _], _ => rfl
theorem code__law_word : b__law_word = ssOf (cS (cfgOf defs gls bis prog d__law_word) eF (defScope d__law_word.st)) (defBody d__law_word.st) := by kernel_rfl
theorem ok__law_word : DefOk defs gls bis prog 19 d__law_word := ⟨sc__law_word, bind__law_word, F__law_word, rfl, rfl, rfl, code__law_word⟩
theorem sc__law_run : FnScope d__law_run.N d__law_run.ps (defScope d__law_run.st) := ⟨by kernel_rfl, by kernel_rfl, by kernel_rfl, by decide +kernel, by decide +kernel, by decide +kernel, by decide +kernel⟩
theorem bind__law_run : ∀ (kV doc pm : Value) (an : Option Addr) (cdv ct : Value) (us : List Value), us.length = d__law_run.ps.length → bindArgs (PySem.W.fnOf d__law_run.x d__law_run.x (defArgs d__law_run.st) (defBody d__law_run.st) (defScope d__law_run.st) .none kV doc pm an cdv ct) ⟨us, []⟩ = pure (d__law_run.ps.zip us) := fun _ _ _ _ _ _ us hl => match us, hl with | [_, _, _], _ => rfl
theorem code__law_run : b__law_run = ssOf (cS (cfgOf defs gls bis prog d__law_run) eF (defScope d__law_run.st)) (defBody d__law_run.st) := by kernel_rfl
theorem ok__law_run : DefOk defs gls bis prog 20 d__law_run := ⟨sc__law_run, bind__law_run, F__law_run, rfl, rfl, rfl, code__law_run⟩
theorem sc_law : FnScope d_law.N d_law.ps (defScope d_law.st) := ⟨by kernel_rfl, by kernel_rfl, by kernel_rfl, by decide +kernel, by decide +kernel, by decide +kernel, by decide +kernel⟩
theorem bind_law : ∀ (kV doc pm : Value) (an : Option Addr) (cdv ct : Value) (us : List Value), us.length = d_law.ps.length → bindArgs (PySem.W.fnOf d_law.x d_law.x (defArgs d_law.st) (defBody d_law.st) (defScope d_law.st) .none kV doc pm an cdv ct) ⟨us, []⟩ = pure (d_law.ps.zip us) := fun _ _ _ _ _ _ us hl => match us, hl with | [_], _ => rfl
theorem code_law : b_law = ssOf (cS (cfgOf defs gls bis prog d_law) eF (defScope d_law.st)) (defBody d_law.st) := by kernel_rfl
theorem ok_law : DefOk defs gls bis prog 21 d_law := ⟨sc_law, bind_law, F_law, rfl, rfl, rfl, code_law⟩
theorem oks : ∀ i d, defs[i]? = some d → DefOk defs gls bis prog i d
  | 0, _, h => by cases h; exact ok_written_cells
  | 1, _, h => by cases h; exact ok_read_cells
  | 2, _, h => by cases h; exact ok_lean
  | 3, _, h => by cases h; exact ok_run_add
  | 4, _, h => by cases h; exact ok_run_mul
  | 5, _, h => by cases h; exact ok_run_other
  | 6, _, h => by cases h; exact ok_run_steps
  | 7, _, h => by cases h; exact ok_run_code
  | 8, _, h => by cases h; exact ok__law_cell
  | 9, _, h => by cases h; exact ok__law_row
  | 10, _, h => by cases h; exact ok__law_one
  | 11, _, h => by cases h; exact ok__law_words
  | 12, _, h => by cases h; exact ok__law_step
  | 13, _, h => by cases h; exact ok__law_code
  | 14, _, h => by cases h; exact ok__law_kept
  | 15, _, h => by cases h; exact ok__law_written
  | 16, _, h => by cases h; exact ok__law_reads
  | 17, _, h => by cases h; exact ok__law_matters
  | 18, _, h => by cases h; exact ok__law_lean
  | 19, _, h => by cases h; exact ok__law_word
  | 20, _, h => by cases h; exact ok__law_run
  | 21, _, h => by cases h; exact ok_law
  | i + 22, _, h => by cases h
end Mp

/-! MiniPy, part M: lemmas to reckon with. -/
namespace Mp
open PySem PySem.Spec PyProof.Rows L2
theorem nat_inj : ∀ {a b : List Char}, a.map Char.toNat = b.map Char.toNat → a = b
  | [], [], _ => rfl
  | [], _ :: _, h => by simp at h
  | _ :: _, [], h => by simp at h
  | x :: a, y :: b, h => by
    rw [List.map_cons, List.map_cons, List.cons.injEq] at h
    have e : x = y := Char.toNat_inj.mp h.1
    rw [e, nat_inj h.2]
@[simp] theorem ofStr_inj {a b : String} : (Str.ofString a = Str.ofString b) = (a = b) := by
  refine propext ⟨fun h => ?_, fun h => by rw [h]⟩
  rw [Str.ofString_eq_toList, Str.ofString_eq_toList] at h
  have h2 := congrArg (fun s : Str => s.cps.toList) h
  simp only at h2
  exact String.toList_inj.mp (nat_inj h2)
theorem ixN_nat {n j : Nat} (h : j < n) : ixN n (j : Int) = some j := by
  unfold ixN
  rw [if_pos (by omega), if_pos (by omega)]; simp
theorem atI_map {α β : Type} {f : α → β} {xs : List α} {j : Nat} {x : α} (h : xs[j]? = some x) : atI (xs.map f) (j : Int) = some (f x) := by
  unfold atI
  rw [ixN_nat (by rw [List.length_map]; exact (List.getElem?_eq_some_iff.mp h).1)]
  simp [h]
theorem atI_some {α : Type} {xs : List α} {j : Nat} {x : α} (h : xs[j]? = some x) : atI xs (j : Int) = some x := by
  unfold atI
  rw [ixN_nat (List.getElem?_eq_some_iff.mp h).1]
  simp [h]
@[simp] theorem atI_0 {α : Type} {x : α} {xs : List α} : atI (x :: xs) 0 = some x := atI_some (j := 0) rfl
@[simp] theorem atI_1 {α : Type} {x y : α} {xs : List α} : atI (x :: y :: xs) 1 = some y := atI_some (j := 1) rfl
@[simp] theorem atI_2 {α : Type} {x y z : α} {xs : List α} : atI (x :: y :: z :: xs) 2 = some z := atI_some (j := 2) rfl
@[simp] theorem atI_3 {α : Type} {x y z u : α} {xs : List α} : atI (x :: y :: z :: u :: xs) 3 = some u := atI_some (j := 3) rfl
@[simp] theorem atI_4 {α : Type} {x y z u v : α} {xs : List α} : atI (x :: y :: z :: u :: v :: xs) 4 = some v := atI_some (j := 4) rfl
@[simp] theorem atI_5 {α : Type} {x y z u v w : α} {xs : List α} : atI (x :: y :: z :: u :: v :: w :: xs) 5 = some w := atI_some (j := 5) rfl
/-! ### loops -/
/-- a loop that runs to its end -/
theorem forL_to {io : List Nat} {t : T} {body : Tau → Out} (P : Nat → Tau → Prop) : ∀ (ds : List D) (k : Nat) (τ : Tau), P k τ →
    (∀ (i : Nat) (d : D) (τ : Tau), ds[i]? = some d → P (k + i) τ → ∃ τ1, asg io false t d τ = some τ1 ∧ ∃ τ2, (body τ1 = .nx τ2 ∨ body τ1 = .ct τ2) ∧ P (k + i + 1) τ2) →
    ∃ τ', forL io t body ds τ = .nx τ' ∧ P (k + ds.length) τ'
  | [], k, τ, h, _ => ⟨τ, rfl, h⟩
  | d :: ds, k, τ, h, st => by
    obtain ⟨τ1, h1, τ2, h2, h3⟩ := st 0 d τ rfl h
    obtain ⟨τ', h4, h5⟩ := forL_to P ds (k + 1) τ2 h3 fun i d' τ hd hp => by
      have := st (i + 1) d' τ hd (by rw [show k + (i + 1) = k + 1 + i by omega]; exact hp)
      rw [show k + (i + 1) + 1 = k + 1 + i + 1 by omega] at this
      exact this
    refine ⟨τ', ?_, by rw [List.length_cons, show k + (ds.length + 1) = k + 1 + ds.length by omega]; exact h5⟩
    unfold forL
    rw [h1]
    rcases h2 with h2 | h2
    · simp only [h2]; exact h4
    · simp only [h2]; exact h4
/-- a loop, exactly: its state is told by a function of the turn -/
theorem forL_eq {io : List Nat} {t : T} {body : Tau → Out} : ∀ (ds : List D) (s : Nat → Tau) (k : Nat),
    (∀ (i : Nat) (d : D), ds[i]? = some d → ∃ τ1, asg io false t d (s (k + i)) = some τ1 ∧ (body τ1 = .nx (s (k + i + 1)) ∨ body τ1 = .ct (s (k + i + 1)))) →
    forL io t body ds (s k) = .nx (s (k + ds.length))
  | [], s, k, _ => rfl
  | d :: ds, s, k, st => by
    obtain ⟨τ1, h1, h2⟩ := st 0 d rfl
    rw [Nat.add_zero] at h1 h2
    have ih := forL_eq (io := io) (t := t) (body := body) ds s (k + 1) fun i d' hd => by
      have := st (i + 1) d' hd
      rw [show k + (i + 1) = k + 1 + i by omega] at this
      exact this
    unfold forL
    rw [List.length_cons, show k + (ds.length + 1) = k + 1 + ds.length by omega, ← ih, h1]
    rcases h2 with h2 | h2 <;> simp only [h2] <;> rfl
/-- a comprehension, exactly -/
theorem compL_eq {elt : Tau → R (D × List Nat)} {cond : Tau → R Bool} {t : T} {own : List Nat} {τw : Tau} {α : Type} {g : α → D} {f : α → D} {p : α → Bool} : ∀ (xs : List α),
    (∀ x ∈ xs, ∃ τ1, asg [] false t (g x) τw = some τ1 ∧ cond τ1 = .ok (p x) ∧ (p x = true → elt τ1 = .ok (f x, []))) → compL elt cond t own τw (xs.map g) = .ok ((xs.filter p).map f, [])
  | [], _ => rfl
  | x :: xs, h => by
    obtain ⟨τ1, h1, h2, h3⟩ := h x (by simp)
    have ih := compL_eq (own := own) xs fun y hy => h y (List.mem_cons_of_mem _ hy)
    rw [List.map_cons]
    unfold compL
    rw [h1]
    simp only [h2]
    cases hp : p x with
    | true => simp only [h3 hp, ih, List.filter_cons, hp, if_true, List.map_cons, List.append_nil]
    | false => simp only [ih, List.filter_cons, hp]; rfl
theorem filter_tt {α : Type} (xs : List α) : (xs.filter fun _ => true) = xs := by simp

/-! ### operations on what is known -/
@[simp] theorem bAdd (i j : Int) : binD .Add (.int i) (.int j) = some (.int (i + j)) := rfl
@[simp] theorem bSub (i j : Int) : binD .Sub (.int i) (.int j) = some (.int (i - j)) := rfl
@[simp] theorem bMul (i j : Int) : binD .Mult (.int i) (.int j) = if mulOk i j then some (.int (i * j)) else none := rfl
@[simp] theorem bDiv (i j : Int) : binD .FloorDiv (.int i) (.int j) = if divOk i j then some (.int (i / j)) else none := rfl
@[simp] theorem bMod (i j : Int) : binD .Mod (.int i) (.int j) = if 0 < j then some (.int (i % j)) else none := rfl
@[simp] theorem bPow (i j : Int) : binD .Pow (.int i) (.int j) = if powOk i j then some (.int (i ^ j.toNat)) else none := rfl
@[simp] theorem bShl (i j : Int) : binD .LShift (.int i) (.int j) = if shlOk i j then some (.int (i * 2 ^ j.toNat)) else none := rfl
@[simp] theorem bShr (i j : Int) : binD .RShift (.int i) (.int j) = if 0 ≤ j then some (.int (i / 2 ^ j.toNat)) else none := rfl
@[simp] theorem bXor (i j : Int) : binD .BitXor (.int i) (.int j) = some (.int (Builtin.bitXor i j)) := rfl
@[simp] theorem bAnd (i j : Int) : binD .BitAnd (.int i) (.int j) = some (.int (Builtin.bitAnd i j)) := rfl
@[simp] theorem bOr (i j : Int) : binD .BitOr (.int i) (.int j) = some (.int (Builtin.bitOr i j)) := rfl
@[simp] theorem bAddT (a b : List D) : binD .Add (.tuple a) (.tuple b) = if a.length + b.length ≤ sizeLine then some (.tuple (a ++ b)) else none := rfl
@[simp] theorem bAddL (a b : List D) : binD .Add (.list a) (.list b) = if a.length + b.length ≤ sizeLine then some (.list (a ++ b)) else none := rfl
@[simp] theorem bMulL (a : List D) (k : Int) : binD .Mult (.list a) (.int k) = if -(2 ^ 63) ≤ k ∧ k < 2 ^ 63 ∧ a.length * k.toNat ≤ sizeLine then some (.list (List.replicate k.toNat a).flatten) else none := rfl
@[simp] theorem cEq (x y : D) : cmpD .Eq x y = eqD x y := rfl
@[simp] theorem cNe (x y : D) : cmpD .NotEq x y = (eqD x y).map (!·) := rfl
@[simp] theorem cIn (x y : D) : cmpD .In x y = inD x y := rfl
@[simp] theorem cNi (x y : D) : cmpD .NotIn x y = (inD x y).map (!·) := rfl
@[simp] theorem cLt (i j : Int) : cmpD .Lt (.int i) (.int j) = some (decide (i < j)) := rfl
@[simp] theorem cLe (i j : Int) : cmpD .LtE (.int i) (.int j) = some (decide (i ≤ j)) := rfl
@[simp] theorem cGt (i j : Int) : cmpD .Gt (.int i) (.int j) = some (decide (j < i)) := rfl
@[simp] theorem cGe (i j : Int) : cmpD .GtE (.int i) (.int j) = some (decide (j ≤ i)) := rfl
@[simp] theorem cIs (x : D) : cmpD .Is x .none = some (isNone x) := rfl
@[simp] theorem cIsn (x : D) : cmpD .IsNot x .none = some (!isNone x) := rfl
@[simp] theorem eqI (i j : Int) : eqD (.int i) (.int j) = some (decide (i = j)) := rfl
@[simp] theorem eqS (i j : Str) : eqD (.str i) (.str j) = some (decide (i = j)) := rfl
@[simp] theorem eqB (i j : Bool) : eqD (.bool i) (.bool j) = some (decide (i = j)) := rfl
@[simp] theorem sL (ds : List D) (i : Int) : subD (.list ds) (.int i) = atI ds i := rfl
@[simp] theorem sT (ds : List D) (i : Int) : subD (.tuple ds) (.int i) = atI ds i := rfl
@[simp] theorem slL (ds : List D) (l h : Option Int) : sliD (.list ds) l h = some (.list (cutD ds l h)) := rfl
@[simp] theorem slT (ds : List D) (l h : Option Int) : sliD (.tuple ds) l h = some (.tuple (cutD ds l h)) := rfl
@[simp] theorem tB (b : Bool) : truD (.bool b) = some b := rfl
@[simp] theorem tI' (i : Int) : truD (.int i) = some (i != 0) := rfl
@[simp] theorem tL (ds : List D) : truD (.list ds) = some (!ds.isEmpty) := rfl
@[simp] theorem tT' (ds : List D) : truD (.tuple ds) = some (!ds.isEmpty) := rfl
@[simp] theorem lenL (xs : List D) : biD .len [.list xs] = some (.int xs.length) := rfl
@[simp] theorem lenT (xs : List D) : biD .len [.tuple xs] = some (.int xs.length) := rfl
@[simp] theorem intI (i : Int) : biD .int [.int i] = some (.int i) := rfl
@[simp] theorem absI (i : Int) : biD .abs [.int i] = some (.int (if i < 0 then -i else i)) := rfl
@[simp] theorem tupL (xs : List D) : biD .tuple [.list xs] = some (.tuple xs) := rfl
@[simp] theorem tupT (xs : List D) : biD .tuple [.tuple xs] = some (.tuple xs) := rfl
@[simp] theorem lstL (xs : List D) : biD .list [.list xs] = some (.list xs) := rfl
@[simp] theorem lstT (xs : List D) : biD .list [.tuple xs] = some (.list xs) := rfl
@[simp] theorem anyL (xs : List D) : biD .any [.list xs] = (boolsOf xs).map fun bs => .bool (bs.any id) := rfl
@[simp] theorem revL (xs : List D) : revD (.list xs) = some (.list xs.reverse) := rfl
@[simp] theorem revT (xs : List D) : revD (.tuple xs) = some (.tuple xs.reverse) := rfl
@[simp] theorem inL (x : D) (ds : List D) : inD x (.list ds) = if flatD x && ds.all flatD then some (ds.any fun d => PyData.eqv d x) else none := rfl
@[simp] theorem inT (x : D) (ds : List D) : inD x (.tuple ds) = if flatD x && ds.all flatD then some (ds.any fun d => PyData.eqv d x) else none := rfl
@[simp] theorem inDc (x : D) (kds : List (D × D)) : inD x (.dict kds) = if isKey x then some (dGet x kds).isSome else none := rfl
@[simp] theorem fI (i : Int) : flatD (.int i) = true := rfl
@[simp] theorem fS (i : Str) : flatD (.str i) = true := rfl
@[simp] theorem fB (i : Bool) : flatD (.bool i) = true := rfl
@[simp] theorem fN : flatD .none = true := rfl
@[simp] theorem kI (i : Int) : isKey (.int i) = true := rfl
@[simp] theorem kS (i : Str) : isKey (.str i) = true := rfl
@[simp] theorem stL (ds : List D) (i : Int) (v : D) : setIxD (.list ds) (.int i) v = (ixN ds.length i).map fun j => .list (ds.set j v) := rfl
@[simp] theorem stD (kds : List (D × D)) (k v : D) : setIxD (.dict kds) k v = if isKey k && decide (kds.length < sizeLine) then some (.dict (dPut k v kds)) else none := rfl
@[simp] theorem icL (ds : List D) : isC (.list ds) = true := rfl
@[simp] theorem icD (ds : List (D × D)) : isC (.dict ds) = true := rfl
@[simp] theorem icT (ds : List D) : isC (.tuple ds) = false := rfl
@[simp] theorem icI (i : Int) : isC (.int i) = false := rfl
@[simp] theorem icS (i : Str) : isC (.str i) = false := rfl
@[simp] theorem icB (i : Bool) : isC (.bool i) = false := rfl
@[simp] theorem icN : isC .none = false := rfl
@[simp] theorem nlI (i : Int) : noL (.int i) = true := rfl
@[simp] theorem nlS (i : Str) : noL (.str i) = true := rfl
@[simp] theorem nlB (i : Bool) : noL (.bool i) = true := rfl
@[simp] theorem nlN : noL .none = true := rfl
@[simp] theorem it1L (ds : List D) : iter1 (.list ds) = some ds := rfl
@[simp] theorem it1T (ds : List D) : iter1 (.tuple ds) = some ds := rfl
@[simp] theorem iteR_int (b : Bool) (i j : Int) (L : List Nat) : iteR b (R.ok (PyData.int i, L)) (R.ok (PyData.int j, L)) = R.ok (PyData.int (if b then i else j), L) := by cases b <;> rfl
@[simp] theorem lk_nil (d : D) : lk d [] = [] := rfl
@[simp] theorem frz_cons (i : Nat) (L : List Nat) (τ : Tau) : frz (i :: L) τ = frz L (frz1 τ i) := rfl
theorem eqv_int (i j : Int) : PyData.eqv (.int i) (.int j) = decide (i = j) := rfl
@[simp] theorem lkE_v' (i : Nat) (L : List Nat) : lkE (.v i) L = [] := rfl
@[simp] theorem lkE_bad'  (L : List Nat) : lkE (.bad ) L = L := rfl
@[simp] theorem lkE_k' (d : D) (L : List Nat) : lkE (.k d) L = L := rfl
@[simp] theorem lkE_g' (i : Nat) (L : List Nat) : lkE (.g i) L = L := rfl
@[simp] theorem lkE_bin' (op : Operator) (a b : E) (L : List Nat) : lkE (.bin op a b) L = L := rfl
@[simp] theorem lkE_neg' (a : E) (L : List Nat) : lkE (.neg a) L = L := rfl
@[simp] theorem lkE_cmp' (op : CmpOp) (a b : E) (L : List Nat) : lkE (.cmp op a b) L = L := rfl
@[simp] theorem lkE_chain' (op op2 : CmpOp) (a b c : E) (L : List Nat) : lkE (.chain op op2 a b c) L = L := rfl
@[simp] theorem lkE_and' (a b : E) (L : List Nat) : lkE (.and a b) L = L := rfl
@[simp] theorem lkE_or' (a b : E) (L : List Nat) : lkE (.or a b) L = L := rfl
@[simp] theorem lkE_not' (a : E) (L : List Nat) : lkE (.not a) L = L := rfl
@[simp] theorem lkE_ite' (c a b : E) (L : List Nat) : lkE (.ite c a b) L = L := rfl
@[simp] theorem lkE_tup' (es : Es) (L : List Nat) : lkE (.tup es) L = L := rfl
@[simp] theorem lkE_lst' (es : Es) (L : List Nat) : lkE (.lst es) L = L := rfl
@[simp] theorem lkE_dct0'  (L : List Nat) : lkE (.dct0 ) L = L := rfl
@[simp] theorem lkE_sub' (a b : E) (L : List Nat) : lkE (.sub a b) L = L := rfl
@[simp] theorem lkE_sli' (a : E) (l h : O) (L : List Nat) : lkE (.sli a l h) L = L := rfl
@[simp] theorem lkE_rev' (a : E) (L : List Nat) : lkE (.rev a) L = L := rfl
@[simp] theorem lkE_call' (f : Nat) (es : Es) (L : List Nat) : lkE (.call f es) L = L := rfl
@[simp] theorem lkE_bi' (f : Bi) (es : Es) (L : List Nat) : lkE (.bi f es) L = L := rfl
@[simp] theorem lkE_isi' (a : E) (ts : List Ty) (L : List Nat) : lkE (.isi a ts) L = L := rfl
@[simp] theorem lkE_trev' (a : E) (L : List Nat) : lkE (.trev a) L = L := rfl
@[simp] theorem lkE_comp' (e : E) (t : T) (it : I) (c : O) (own : List Nat) (L : List Nat) : lkE (.comp e t it c own) L = L := rfl
@[simp] theorem fr_bad  : (E.bad ).fresh = false := rfl
@[simp] theorem fr_k (d : D) : (E.k d).fresh = false := rfl
@[simp] theorem fr_g (i : Nat) : (E.g i).fresh = false := rfl
@[simp] theorem fr_bin (op : Operator) (a b : E) : (E.bin op a b).fresh = true := rfl
@[simp] theorem fr_neg (a : E) : (E.neg a).fresh = false := rfl
@[simp] theorem fr_cmp (op : CmpOp) (a b : E) : (E.cmp op a b).fresh = false := rfl
@[simp] theorem fr_chain (op op2 : CmpOp) (a b c : E) : (E.chain op op2 a b c).fresh = false := rfl
@[simp] theorem fr_and (a b : E) : (E.and a b).fresh = false := rfl
@[simp] theorem fr_or (a b : E) : (E.or a b).fresh = false := rfl
@[simp] theorem fr_not (a : E) : (E.not a).fresh = false := rfl
@[simp] theorem fr_ite (c a b : E) : (E.ite c a b).fresh = false := rfl
@[simp] theorem fr_tup (es : Es) : (E.tup es).fresh = false := rfl
@[simp] theorem fr_lst (es : Es) : (E.lst es).fresh = true := rfl
@[simp] theorem fr_dct0  : (E.dct0 ).fresh = true := rfl
@[simp] theorem fr_sub (a b : E) : (E.sub a b).fresh = false := rfl
@[simp] theorem fr_sli (a : E) (l h : O) : (E.sli a l h).fresh = true := rfl
@[simp] theorem fr_rev (a : E) : (E.rev a).fresh = true := rfl
@[simp] theorem fr_call (f : Nat) (es : Es) : (E.call f es).fresh = false := rfl
@[simp] theorem fr_isi (a : E) (ts : List Ty) : (E.isi a ts).fresh = false := rfl
@[simp] theorem fr_trev (a : E) : (E.trev a).fresh = false := rfl
@[simp] theorem fr_comp (e : E) (t : T) (it : I) (c : O) (own : List Nat) : (E.comp e t it c own).fresh = true := rfl
@[simp] theorem fr_v (i : Nat) : (E.v i).fresh = false := rfl
@[simp] theorem fr_bi_len (es : Es) : (E.bi .len es).fresh = false := rfl
@[simp] theorem fr_bi_int (es : Es) : (E.bi .int es).fresh = false := rfl
@[simp] theorem fr_bi_abs (es : Es) : (E.bi .abs es).fresh = false := rfl
@[simp] theorem fr_bi_max (es : Es) : (E.bi .max es).fresh = false := rfl
@[simp] theorem fr_bi_min (es : Es) : (E.bi .min es).fresh = false := rfl
@[simp] theorem fr_bi_tuple (es : Es) : (E.bi .tuple es).fresh = false := rfl
@[simp] theorem fr_bi_sum (es : Es) : (E.bi .sum es).fresh = false := rfl
@[simp] theorem fr_bi_any (es : Es) : (E.bi .any es).fresh = false := rfl
@[simp] theorem fr_bi_all (es : Es) : (E.bi .all es).fresh = false := rfl
@[simp] theorem fr_bi_str (es : Es) : (E.bi .str es).fresh = false := rfl
@[simp] theorem fr_bi_bool (es : Es) : (E.bi .bool es).fresh = false := rfl
@[simp] theorem fr_bi_sorted (es : Es) : (E.bi .sorted es).fresh = false := rfl
@[simp] theorem fr_bi_bitlen (es : Es) : (E.bi .bitlen es).fresh = false := rfl
@[simp] theorem fr_bi_list (es : Es) : (E.bi .list es).fresh = true := rfl
@[simp] theorem lkI_it (e : E) (L : List Nat) : lkI (.it e) L = lkE e L := rfl
@[simp] theorem lkI_r1 (e : E) (L : List Nat) : lkI (.r1 e) L = L := rfl
@[simp] theorem lkI_r2 (e f : E) (L : List Nat) : lkI (.r2 e f) L = L := rfl
@[simp] theorem lkI_zip (e f : E) (L : List Nat) : lkI (.zip e f) L = L := rfl
@[simp] theorem lkI_enum (e : E) (L : List Nat) : lkI (.enum e) L = L := rfl
@[simp] theorem lkI_rev (e : E) (L : List Nat) : lkI (.rev e) L = L := rfl
theorem evSs_c (g : G) (io : List Nat) (s : S) (ss : Ss) (τ : Tau) : evSs g io (.cons s ss) τ = (evS g io s τ).seq (evSs g io ss) := by unfold evSs; rfl
theorem evSs_n (g : G) (io : List Nat) (τ : Tau) : evSs g io .nil τ = .nx τ := by unfold evSs; rfl
theorem runF_eq (g : G) (F : Fn) (ds : List D) (h : ds.length = F.nps) : runF g F ds = match evSs g F.io F.body (startT F ds) with
    | .nx τ => (R.of (outs τ F.io)).bind fun os => .ok (.none, os)
    | .ret τ d => (R.of (outs τ F.io)).bind fun os => .ok (d, os)
    | .ex x _ => .ex x
    | _ => .st := by
  unfold runF
  first
    | (rw [if_pos h]; done)
    | (rw [if_pos h]; rfl)

theorem divS {i j : Int} (h : 0 < j) (h2 : j < 1073741824) : divOk i j = true := by
  unfold divOk
  simp [h, h2]
/-- what is handed in, by the slots that may be changed -/
theorem ofI {α : Type} {x : α} : R.of (some x) = R.ok x := rfl
theorem cut_from {α : Type} (xs : List α) (n : Nat) : cutD xs (some (n : Int)) none = xs.drop n := by
  unfold cutD
  rw [HT.sIx_nat, HT.sIx_none]
  by_cases h : n ≤ xs.length
  · rw [Nat.min_eq_left h, List.take_of_length_le (by rw [List.length_drop]; omega)]
  · rw [Nat.min_eq_right (by omega), List.drop_of_length_le (by omega), List.drop_of_length_le (by omega)]; simp
theorem cut_mid {α : Type} (xs : List α) (n m : Nat) (h : m ≤ xs.length) (h2 : n ≤ m) : cutD xs (some (n : Int)) (some (m : Int)) = (xs.drop n).take (m - n) := by
  unfold cutD
  rw [HT.sIx_nat, HT.sIx_nat, Nat.min_eq_left (by omega), Nat.min_eq_left (by omega)]
@[simp] theorem cut2 {α : Type} (x y : α) (xs : List α) : cutD (x :: y :: xs) (some 2) none = xs := cut_from (x :: y :: xs) 2
@[simp] theorem sz_0 : (0 ≤ sizeLine) = True := eq_true (by decide)
@[simp] theorem sz_1 : (1 ≤ sizeLine) = True := eq_true (by decide)
@[simp] theorem sz_2 : (2 ≤ sizeLine) = True := eq_true (by decide)
@[simp] theorem sz_3 : (3 ≤ sizeLine) = True := eq_true (by decide)
@[simp] theorem sz_4 : (4 ≤ sizeLine) = True := eq_true (by decide)
@[simp] theorem sz_5 : (5 ≤ sizeLine) = True := eq_true (by decide)
@[simp] theorem sz_6 : (6 ≤ sizeLine) = True := eq_true (by decide)
@[simp] theorem sz_7 : (7 ≤ sizeLine) = True := eq_true (by decide)
@[simp] theorem sz_8 : (8 ≤ sizeLine) = True := eq_true (by decide)
@[simp] theorem sz_9 : (9 ≤ sizeLine) = True := eq_true (by decide)
@[simp] theorem sz_10 : (10 ≤ sizeLine) = True := eq_true (by decide)
@[simp] theorem sz_11 : (11 ≤ sizeLine) = True := eq_true (by decide)
@[simp] theorem sz_12 : (12 ≤ sizeLine) = True := eq_true (by decide)
@[simp] theorem sz_13 : (13 ≤ sizeLine) = True := eq_true (by decide)
@[simp] theorem sz_14 : (14 ≤ sizeLine) = True := eq_true (by decide)
@[simp] theorem sz_15 : (15 ≤ sizeLine) = True := eq_true (by decide)
@[simp] theorem sz_16 : (16 ≤ sizeLine) = True := eq_true (by decide)
@[simp] theorem eqv_I (i j : Int) : PyData.eqv (.int i) (.int j) = decide (i = j) := rfl
@[simp] theorem eqv_S (i j : Str) : PyData.eqv (.str i) (.str j) = decide (i = j) := rfl
theorem szs {n : Nat} (h : n ≤ 100000) : n ≤ sizeLine := Nat.le_trans h (by decide)
theorem szl {n : Nat} (h : n < 100000) : n < sizeLine := Nat.lt_of_lt_of_le h (by decide)
theorem turn_nx {X : Out} {P : Tau → Prop} (h : ∃ τ2, X = .nx τ2 ∧ P τ2) : ∃ τ2, (X = .nx τ2 ∨ X = .ct τ2) ∧ P τ2 := let ⟨t, a, b⟩ := h; ⟨t, .inl a, b⟩
theorem turn_ct {X : Out} {P : Tau → Prop} (h : ∃ τ2, X = .ct τ2 ∧ P τ2) : ∃ τ2, (X = .nx τ2 ∨ X = .ct τ2) ∧ P τ2 := let ⟨t, a, b⟩ := h; ⟨t, .inr a, b⟩
@[simp] theorem lk_I (i : Int) (L : List Nat) : lk (.int i) L = [] := lk_flat rfl
@[simp] theorem lk_S (i : Str) (L : List Nat) : lk (.str i) L = [] := lk_flat rfl
@[simp] theorem lk_B (i : Bool) (L : List Nat) : lk (.bool i) L = [] := lk_flat rfl
@[simp] theorem lk_N (L : List Nat) : lk .none L = [] := lk_flat rfl
theorem sm62 {i : Int} (h : -1000000 ≤ i) (h2 : i ≤ 1000000) : small62 i = true := by
  unfold small62
  have e : (2 : Int) ^ 62 = 4611686018427387904 := by decide
  rw [e]
  exact decide_eq_true ⟨by omega, by omega⟩
theorem rng1 {n : Nat} (h : n ≤ 100000) : rngR1 (n : Nat) = .ok (rngL 0 n, []) := by
  rw [rngR1_ok (sm62 (by omega) (by omega))]; rfl
theorem rng2 {a n : Nat} (h : a ≤ n) (h2 : n ≤ 100000) : rngR (a : Nat) (n : Nat) = .ok (rngL (a : Nat) (n - a), []) := by
  rw [rngR_ok (sm62 (by omega) (by omega)) (sm62 (by omega) (by omega))]
  rw [show ((n : Int) - (a : Int)).toNat = n - a by omega]
theorem r2_ok {g : G} {a b : E} {τ : Tau} {i j : Int} {L M : List Nat} (ha : evE g a τ = .ok (.int i, L)) (hb : evE g b τ = .ok (.int j, M)) : evI g (.r2 a b) τ = rngR i j := by
  unfold evI
  rw [ha, hb]; rfl
theorem r1_ok {g : G} {a : E} {τ : Tau} {i : Int} {L : List Nat} (ha : evE g a τ = .ok (.int i, L)) : evI g (.r1 a) τ = rngR1 i := by
  unfold evI
  rw [ha]; rfl
end Mp

namespace Mp
open PySem PySem.Spec PyProof.Rows L2
theorem callN_succ {n f : Nat} {ds : List D} {F : Fn} (h : prog.fs[f]? = some F) : callN prog (n + 1) f ds = runF ⟨callN prog n, prog.io, prog.gl, prog.wN⟩ F ds := by
  show (match prog.fs[f]? with | some F => runF _ F ds | none => .st) = _
  rw [h]
def rd (ms : List Int) (j : Nat) : Int := ms.getD j 0
theorem at_rd {ms : List Int} {j : Nat} (h : j < ms.length) : atI (ms.map PyData.int) (j : Int) = some (.int (rd ms j)) := by
  refine atI_map ?_
  unfold rd
  simp [h]
/-- an instruction -/
inductive Ins where
  | put (a : Nat) (w : Int)
  | copy (a c : Nat)
  | xor (a c d : Nat)
  | and (a c d : Nat)
  | sign (a c : Nat)
  | top (a c : Nat)
  | pick (a b c d : Nat)
  | add (a b c d : Nat)
  | sub (a b c d : Nat)
  | mul (a b c d e : Nat)
def Ins.d : Ins → D
  | .put a w => .tuple [.str "put", .int a, .int w]
  | .copy a c => .tuple [.str "copy", .int a, .int c]
  | .xor a c d => .tuple [.str "xor", .int a, .int c, .int d]
  | .and a c d => .tuple [.str "and", .int a, .int c, .int d]
  | .sign a c => .tuple [.str "sign", .int a, .int c]
  | .top a c => .tuple [.str "top", .int a, .int c]
  | .pick a b c d => .tuple [.str "pick", .int a, .int b, .int c, .int d]
  | .add a b c d => .tuple [.str "add", .int a, .int b, .int c, .int d]
  | .sub a b c d => .tuple [.str "sub", .int a, .int b, .int c, .int d]
  | .mul a b c d e => .tuple [.str "mul", .int a, .int b, .int c, .int d, .int e]
def Ins.W : Ins → List Nat
  | .add a b _ _ => [a, b]
  | .sub a b _ _ => [a, b]
  | .mul a b _ _ _ => [a, b]
  | .put a _ => [a]
  | .copy a _ => [a]
  | .xor a _ _ => [a]
  | .and a _ _ => [a]
  | .sign a _ => [a]
  | .top a _ => [a]
  | .pick a _ _ _ => [a]
def Ins.R : Ins → List Nat
  | .put _ _ => []
  | .copy _ c => [c]
  | .xor _ c d => [c, d]
  | .and _ c d => [c, d]
  | .sign _ c => [c]
  | .top _ c => [c]
  | .pick _ b c d => [b, c, d]
  | .add _ b c d => [b, c, d]
  | .sub _ b c d => [b, c, d]
  | .mul _ b c d e => [b, c, d, e]
def natD (l : List Nat) : List D := l.map fun x => .int (x : Nat)
def Ins.run (base : Int) (ms : List Int) : Ins → List Int
  | .put a w => ms.set a w
  | .copy a c => ms.set a (rd ms c)
  | .xor a c d => ms.set a (Builtin.bitXor (rd ms c) (rd ms d))
  | .and a c d => ms.set a (Builtin.bitAnd (rd ms c) (rd ms d))
  | .sign a c => ms.set a (if base / 2 ≤ rd ms c then base - 1 else 0)
  | .top a c => ms.set a (if base / 2 ≤ rd ms c then 1 else 0)
  | .pick a b c d => ms.set a (if rd ms b = 0 then rd ms d else rd ms c)
  | .add a b c d => (ms.set a ((rd ms c + rd ms d + (if rd ms b = 0 then 0 else 1)) % base)).set b (if base ≤ rd ms c + rd ms d + (if rd ms b = 0 then 0 else 1) then 1 else 0)
  | .sub a b c d => (ms.set a ((rd ms c - rd ms d - (if rd ms b = 0 then 0 else 1)) % base)).set b (if rd ms c - rd ms d - (if rd ms b = 0 then 0 else 1) < 0 then 1 else 0)
  | .mul a b c d e => (ms.set a ((rd ms c * rd ms d + rd ms e + rd ms b) % base)).set b ((rd ms c * rd ms d + rd ms e + rd ms b) / base)
/-- its cells are there -/
def Ins.ok (n : Nat) (i : Ins) : Prop := (∀ c ∈ i.W, c < n) ∧ ∀ c ∈ i.R, c < n
theorem written_ok (n : Nat) (i : Ins) : callN prog (n + 1) 0 [i.d] = .ok (.list (natD i.W), []) := by
  cases i <;> (simp only [Ins.d, Ins.W, natD]; rw [callN_succ (F := F_written_cells) rfl, runF_eq _ _ _ rfl]; simp only [F_written_cells, b_written_cells, startT, mark, List.replicate, List.cons_append, List.nil_append, List.contains_cons, List.contains_nil, icL, icT, icI, icS, icB, icN, Nat.reduceBEq, Nat.reduceSub, Nat.reduceAdd, Bool.true_and, Bool.false_and, Bool.or_false, beq_self_eq_true]; repeat (rw [evSs_c]; simp [evS, evE, evT, evEs, evO, evC, evI, evIo, evSs_n, asg, asgs, frz1, own?, ixN_nat, outs, ofI, divS]))
theorem read_ok (n : Nat) (i : Ins) : callN prog (n + 1) 1 [i.d] = .ok (.list (natD i.R), []) := by
  cases i <;> (simp only [Ins.d, Ins.R, natD]; rw [callN_succ (F := F_read_cells) rfl, runF_eq _ _ _ rfl]; simp only [F_read_cells, b_read_cells, startT, mark, List.replicate, List.cons_append, List.nil_append, List.contains_cons, List.contains_nil, icL, icT, icI, icS, icB, icN, Nat.reduceBEq, Nat.reduceSub, Nat.reduceAdd, Bool.true_and, Bool.false_and, Bool.or_false, beq_self_eq_true]; repeat (rw [evSs_c]; simp [evS, evE, evT, evEs, evO, evC, evI, evIo, evSs_n, asg, asgs, frz1, own?, ixN_nat, outs, ofI, divS]))
theorem lwritten_ok (n : Nat) (i : Ins) : callN prog (n + 1) 15 [i.d] = .ok (.list (natD i.W), []) := by
  cases i <;> (simp only [Ins.d, Ins.W, natD]; rw [callN_succ (F := F__law_written) rfl, runF_eq _ _ _ rfl]; simp only [F__law_written, b__law_written, startT, mark, List.replicate, List.cons_append, List.nil_append, List.contains_cons, List.contains_nil, icL, icT, icI, icS, icB, icN, Nat.reduceBEq, Nat.reduceSub, Nat.reduceAdd, Bool.true_and, Bool.false_and, Bool.or_false, beq_self_eq_true]; repeat (rw [evSs_c]; simp [evS, evE, evT, evEs, evO, evC, evI, evIo, evSs_n, asg, asgs, frz1, own?, ixN_nat, outs, ofI, divS]))
theorem cc (a b : Nat) : (((a : Nat) : Int) = (b : Nat)) = (b = a) := propext ⟨fun h => by omega, fun h => by omega⟩
theorem lreads_ok (n : Nat) (i : Ins) (c : Nat) : callN prog (n + 1) 16 [i.d, .int (c : Nat)] = .ok (.bool (decide (c ∈ i.R)), []) := by
  cases i <;> (simp only [Ins.d, Ins.R, natD]; rw [callN_succ (F := F__law_reads) rfl, runF_eq _ _ _ rfl]; simp only [F__law_reads, b__law_reads, startT, mark, List.replicate, List.cons_append, List.nil_append, List.contains_cons, List.contains_nil, icL, icT, icI, icS, icB, icN, Nat.reduceBEq, Nat.reduceSub, Nat.reduceAdd, Bool.true_and, Bool.false_and, Bool.or_false, beq_self_eq_true]; repeat (rw [evSs_c]; simp [evS, evE, evT, evEs, evO, evC, evI, evIo, evSs_n, asg, asgs, frz1, own?, ixN_nat, outs, ofI, divS, cc]))
theorem io_0 : prog.io 0 = [] := rfl
theorem io_1 : prog.io 1 = [] := rfl
theorem io_2 : prog.io 2 = [] := rfl
theorem io_3 : prog.io 3 = [0] := rfl
theorem io_4 : prog.io 4 = [0] := rfl
theorem io_5 : prog.io 5 = [0] := rfl
theorem io_6 : prog.io 6 = [1] := rfl
theorem io_7 : prog.io 7 = [] := rfl
theorem io_8 : prog.io 8 = [] := rfl
theorem io_9 : prog.io 9 = [] := rfl
theorem io_10 : prog.io 10 = [] := rfl
theorem io_11 : prog.io 11 = [] := rfl
theorem io_12 : prog.io 12 = [] := rfl
theorem io_13 : prog.io 13 = [] := rfl
theorem io_14 : prog.io 14 = [] := rfl
theorem io_15 : prog.io 15 = [] := rfl
theorem io_16 : prog.io 16 = [] := rfl
theorem io_17 : prog.io 17 = [] := rfl
theorem io_18 : prog.io 18 = [] := rfl
theorem io_19 : prog.io 19 = [] := rfl
theorem io_20 : prog.io 20 = [] := rfl
/-- memory's words are small -/
def Small (ms : List Int) : Prop := ∀ j, -(2 ^ 64) < rd ms j ∧ rd ms j < 2 ^ 64
theorem mulS {ms : List Int} (h : Small ms) (j : Nat) (x : Int) : mulOk (rd ms j) x = true := by
  unfold mulOk
  rw [decide_eq_true (h j)]; rfl
theorem run_add_ok (n : Nat) (ms : List Int) (a b c d : Nat) (base : Int) (hb : 0 < base) (ha : a < ms.length) (hb' : b < ms.length) (hc : c < ms.length) (hd : d < ms.length) :
    callN prog (n + 1) 3 [.list (ms.map .int), (Ins.add a b c d).d, .int base] = .ok (.none, [.list (((Ins.add a b c d).run base ms).map .int)]) := by
  simp only [Ins.d, Ins.run]
  rw [callN_succ (F := F_run_add) rfl, runF_eq _ _ _ rfl]; simp only [F_run_add, b_run_add, startT, mark, List.replicate, List.cons_append, List.nil_append, List.contains_cons, List.contains_nil, icL, icT, icI, icS, icB, icN, Nat.reduceBEq, Nat.reduceSub, Nat.reduceAdd, Bool.true_and, Bool.false_and, Bool.or_false, beq_self_eq_true]; repeat (rw [evSs_c]; simp [evS, evE, evT, evEs, evO, evC, evI, evIo, evSs_n, asg, asgs, frz1, own?, ixN_nat, outs, ofI, divS, at_rd, ha, hb', hc, hd, hb])
theorem run_sub_ok (n : Nat) (ms : List Int) (a b c d : Nat) (base : Int) (hb : 0 < base) (ha : a < ms.length) (hb' : b < ms.length) (hc : c < ms.length) (hd : d < ms.length) :
    callN prog (n + 1) 3 [.list (ms.map .int), (Ins.sub a b c d).d, .int base] = .ok (.none, [.list (((Ins.sub a b c d).run base ms).map .int)]) := by
  simp only [Ins.d, Ins.run]
  rw [callN_succ (F := F_run_add) rfl, runF_eq _ _ _ rfl]; simp only [F_run_add, b_run_add, startT, mark, List.replicate, List.cons_append, List.nil_append, List.contains_cons, List.contains_nil, icL, icT, icI, icS, icB, icN, Nat.reduceBEq, Nat.reduceSub, Nat.reduceAdd, Bool.true_and, Bool.false_and, Bool.or_false, beq_self_eq_true]; repeat (rw [evSs_c]; simp [evS, evE, evT, evEs, evO, evC, evI, evIo, evSs_n, asg, asgs, frz1, own?, ixN_nat, outs, ofI, divS, at_rd, ha, hb', hc, hd, hb])
theorem run_mul_ok (n : Nat) (ms : List Int) (a b c d e : Nat) (base : Int) (hb : 0 < base) (hbs : base < 1073741824) (hm : Small ms) (ha : a < ms.length) (hb' : b < ms.length) (hc : c < ms.length) (hd : d < ms.length) (he : e < ms.length) :
    callN prog (n + 1) 4 [.list (ms.map .int), (Ins.mul a b c d e).d, .int base] = .ok (.none, [.list (((Ins.mul a b c d e).run base ms).map .int)]) := by
  simp only [Ins.d, Ins.run]
  rw [callN_succ (F := F_run_mul) rfl, runF_eq _ _ _ rfl]; simp only [F_run_mul, b_run_mul, startT, mark, List.replicate, List.cons_append, List.nil_append, List.contains_cons, List.contains_nil, icL, icT, icI, icS, icB, icN, Nat.reduceBEq, Nat.reduceSub, Nat.reduceAdd, Bool.true_and, Bool.false_and, Bool.or_false, beq_self_eq_true]; repeat (rw [evSs_c]; simp [evS, evE, evT, evEs, evO, evC, evI, evIo, evSs_n, asg, asgs, frz1, own?, ixN_nat, outs, ofI, divS, at_rd, ha, hb', hc, hd, he, hb, hbs, mulS hm])
def Ins.other : Ins → Bool
  | .add .. => false
  | .sub .. => false
  | .mul .. => false
  | _ => true
theorem run_other_ok (n : Nat) (ms : List Int) (i : Ins) (base : Int) (hb : 0 < base) (hi : i.ok ms.length) (ho : i.other = true) :
    callN prog (n + 1) 5 [.list (ms.map .int), i.d, .int base] = .ok (.none, [.list ((i.run base ms).map .int)]) := by
  obtain ⟨h1, h2⟩ := hi
  cases i <;> simp only [Ins.W, Ins.R, List.mem_cons, List.not_mem_nil, or_false, forall_eq_or_imp, forall_eq, Ins.other, Bool.false_eq_true] at h1 h2 ho
  case put => simp only [Ins.d, Ins.run]; rw [callN_succ (F := F_run_other) rfl, runF_eq _ _ _ rfl]; simp only [F_run_other, b_run_other, startT, mark, List.replicate, List.cons_append, List.nil_append, List.contains_cons, List.contains_nil, icL, icT, icI, icS, icB, icN, Nat.reduceBEq, Nat.reduceSub, Nat.reduceAdd, Bool.true_and, Bool.false_and, Bool.or_false, beq_self_eq_true]; repeat (rw [evSs_c]; simp [evS, evE, evT, evEs, evO, evC, evI, evIo, evSs_n, asg, asgs, frz1, own?, ixN_nat, outs, ofI, divS, h1, h2])
  case copy => simp only [Ins.d, Ins.run]; rw [callN_succ (F := F_run_other) rfl, runF_eq _ _ _ rfl]; simp only [F_run_other, b_run_other, startT, mark, List.replicate, List.cons_append, List.nil_append, List.contains_cons, List.contains_nil, icL, icT, icI, icS, icB, icN, Nat.reduceBEq, Nat.reduceSub, Nat.reduceAdd, Bool.true_and, Bool.false_and, Bool.or_false, beq_self_eq_true]; repeat (rw [evSs_c]; simp [evS, evE, evT, evEs, evO, evC, evI, evIo, evSs_n, asg, asgs, frz1, own?, ixN_nat, outs, ofI, divS, h1, h2, at_rd])
  case xor => simp only [Ins.d, Ins.run]; rw [callN_succ (F := F_run_other) rfl, runF_eq _ _ _ rfl]; simp only [F_run_other, b_run_other, startT, mark, List.replicate, List.cons_append, List.nil_append, List.contains_cons, List.contains_nil, icL, icT, icI, icS, icB, icN, Nat.reduceBEq, Nat.reduceSub, Nat.reduceAdd, Bool.true_and, Bool.false_and, Bool.or_false, beq_self_eq_true]; repeat (rw [evSs_c]; simp [evS, evE, evT, evEs, evO, evC, evI, evIo, evSs_n, asg, asgs, frz1, own?, ixN_nat, outs, ofI, divS, h1, h2, at_rd])
  case and => simp only [Ins.d, Ins.run]; rw [callN_succ (F := F_run_other) rfl, runF_eq _ _ _ rfl]; simp only [F_run_other, b_run_other, startT, mark, List.replicate, List.cons_append, List.nil_append, List.contains_cons, List.contains_nil, icL, icT, icI, icS, icB, icN, Nat.reduceBEq, Nat.reduceSub, Nat.reduceAdd, Bool.true_and, Bool.false_and, Bool.or_false, beq_self_eq_true]; repeat (rw [evSs_c]; simp [evS, evE, evT, evEs, evO, evC, evI, evIo, evSs_n, asg, asgs, frz1, own?, ixN_nat, outs, ofI, divS, h1, h2, at_rd])
  case sign => simp only [Ins.d, Ins.run]; rw [callN_succ (F := F_run_other) rfl, runF_eq _ _ _ rfl]; simp only [F_run_other, b_run_other, startT, mark, List.replicate, List.cons_append, List.nil_append, List.contains_cons, List.contains_nil, icL, icT, icI, icS, icB, icN, Nat.reduceBEq, Nat.reduceSub, Nat.reduceAdd, Bool.true_and, Bool.false_and, Bool.or_false, beq_self_eq_true]; repeat (rw [evSs_c]; simp [evS, evE, evT, evEs, evO, evC, evI, evIo, evSs_n, asg, asgs, frz1, own?, ixN_nat, outs, ofI, divS, h1, h2, at_rd])
  case top => simp only [Ins.d, Ins.run]; rw [callN_succ (F := F_run_other) rfl, runF_eq _ _ _ rfl]; simp only [F_run_other, b_run_other, startT, mark, List.replicate, List.cons_append, List.nil_append, List.contains_cons, List.contains_nil, icL, icT, icI, icS, icB, icN, Nat.reduceBEq, Nat.reduceSub, Nat.reduceAdd, Bool.true_and, Bool.false_and, Bool.or_false, beq_self_eq_true]; repeat (rw [evSs_c]; simp [evS, evE, evT, evEs, evO, evC, evI, evIo, evSs_n, asg, asgs, frz1, own?, ixN_nat, outs, ofI, divS, h1, h2, at_rd])
  case pick a b c d =>
    simp only [Ins.d, Ins.run]
    by_cases hz : rd ms b = 0
    · rw [callN_succ (F := F_run_other) rfl, runF_eq _ _ _ rfl]; simp only [F_run_other, b_run_other, startT, mark, List.replicate, List.cons_append, List.nil_append, List.contains_cons, List.contains_nil, icL, icT, icI, icS, icB, icN, Nat.reduceBEq, Nat.reduceSub, Nat.reduceAdd, Bool.true_and, Bool.false_and, Bool.or_false, beq_self_eq_true]; repeat (rw [evSs_c]; simp [evS, evE, evT, evEs, evO, evC, evI, evIo, evSs_n, asg, asgs, frz1, own?, ixN_nat, outs, ofI, divS, h1, h2, at_rd, hz])
    · rw [callN_succ (F := F_run_other) rfl, runF_eq _ _ _ rfl]; simp only [F_run_other, b_run_other, startT, mark, List.replicate, List.cons_append, List.nil_append, List.contains_cons, List.contains_nil, icL, icT, icI, icS, icB, icN, Nat.reduceBEq, Nat.reduceSub, Nat.reduceAdd, Bool.true_and, Bool.false_and, Bool.or_false, beq_self_eq_true]; repeat (rw [evSs_c]; simp [evS, evE, evT, evEs, evO, evC, evI, evIo, evSs_n, asg, asgs, frz1, own?, ixN_nat, outs, ofI, divS, h1, h2, at_rd, hz])
end Mp

namespace Mp
open PySem PySem.Spec PyProof.Rows L2
theorem rdS (ms : List Int) (a : Nat) (x : Int) (j : Nat) : rd (ms.set a x) j = if j = a ∧ a < ms.length then x else rd ms j := by
  unfold rd
  simp only [List.getD_eq_getElem?_getD, List.getElem?_set]
  by_cases h : a = j
  · subst h
    by_cases h2 : a < ms.length
    · simp [h2]
    · simp [h2]
  · simp [h, Ne.symm h]
/-- a word -/
def Wd (base x : Int) : Prop := 0 ≤ x ∧ x < base
def Mem (n : Nat) (base : Int) (ms : List Int) : Prop := ms.length = n ∧ ∀ j, Wd base (rd ms j)
theorem Mem.set {n : Nat} {base : Int} {ms : List Int} (h : Mem n base ms) {a : Nat} {x : Int} (hx : Wd base x) : Mem n base (ms.set a x) := by
  refine ⟨by rw [List.length_set]; exact h.1, fun j => ?_⟩
  rw [rdS]
  split
  · exact hx
  · exact h.2 j
theorem Mem.small {n : Nat} {base : Int} {ms : List Int} (h : Mem n base ms) (hb : base < 1073741824) : Small ms := fun j => by
  have := h.2 j
  unfold Wd at this
  constructor <;> omega
theorem wd_ite {base : Int} {p : Prop} [Decidable p] (h1 : Wd base 1) (h0 : Wd base 0) : Wd base (if p then 1 else 0) := by
  by_cases h : p
  · rw [if_pos h]; exact h1
  · rw [if_neg h]; exact h0
def Ins.wd (base : Int) : Ins → Prop
  | .put _ w => Wd base w
  | _ => True
theorem xor_wd {b : Nat} {x y : Int} (hx : Wd (2 ^ b) x) (hy : Wd (2 ^ b) y) : Wd (2 ^ b) (Builtin.bitXor x y) := by
  obtain ⟨m, rfl⟩ := Int.eq_ofNat_of_zero_le hx.1
  obtain ⟨n, rfl⟩ := Int.eq_ofNat_of_zero_le hy.1
  have h1 : m < 2 ^ b := by have := hx.2; exact_mod_cast this
  have h2 : n < 2 ^ b := by have := hy.2; exact_mod_cast this
  rw [Bits.bitXor_pp (Int.natCast_nonneg m) (Int.natCast_nonneg n)]
  have := Nat.xor_lt_two_pow h1 h2
  exact ⟨Int.natCast_nonneg _, by exact_mod_cast this⟩
theorem and_wd {base : Int} {x y : Int} (hx : Wd base x) (hy : Wd base y) : Wd base (Builtin.bitAnd x y) := by
  obtain ⟨m, rfl⟩ := Int.eq_ofNat_of_zero_le hx.1
  obtain ⟨n, rfl⟩ := Int.eq_ofNat_of_zero_le hy.1
  rw [PyProof.Rows.bitAnd_pp (Int.natCast_nonneg m) (Int.natCast_nonneg n)]
  have h1 : m &&& n ≤ m := Nat.and_le_left
  have h2 := hx.2
  refine ⟨Int.natCast_nonneg _, ?_⟩
  simp only [Int.toNat_natCast]
  omega
theorem mod_wd {base x : Int} (hb : 0 < base) : Wd base (x % base) := ⟨Int.emod_nonneg _ (by omega), Int.emod_lt_of_pos _ hb⟩
theorem Ins.run_mem {n b : Nat} {ms : List Int} {i : Ins} (h : Mem n (2 ^ b) ms) (hb : 1 ≤ b) (hw : i.wd (2 ^ b)) : Mem n (2 ^ b) (i.run (2 ^ b) ms) := by
  have hp : (0 : Int) < 2 ^ b := Int.pow_pos (by decide)
  have h2 : (2 : Int) ≤ 2 ^ b := by
    have : (2 : Nat) ^ 1 ≤ 2 ^ b := Nat.pow_le_pow_right (by decide) hb
    exact_mod_cast this
  have z0 : Wd (2 ^ b) 0 := ⟨by decide, hp⟩
  have z1 : Wd (2 ^ b) 1 := ⟨by decide, by omega⟩
  cases i with
  | put a w => exact h.set hw
  | copy a c => exact h.set (h.2 c)
  | xor a c d => exact h.set (xor_wd (h.2 c) (h.2 d))
  | and a c d => exact h.set (and_wd (h.2 c) (h.2 d))
  | sign a c => refine h.set ?_; split; exact ⟨by omega, by omega⟩; exact z0
  | top a c => refine h.set ?_; split; exact z1; exact z0
  | pick a b c d => refine h.set ?_; split; exact h.2 d; exact h.2 c
  | add a b c d => exact (h.set (mod_wd hp)).set (wd_ite z1 z0)
  | sub a b c d => exact (h.set (mod_wd hp)).set (wd_ite z1 z0)
  | mul a b' c d e =>
    refine (h.set (mod_wd hp)).set ?_
    have hc := h.2 c
    have hd := h.2 d
    have he := h.2 e
    have hb' := h.2 b'
    unfold Wd at *
    generalize (2 : Int) ^ b = B at *
    have h1 : rd ms c * rd ms d ≤ (B - 1) * (B - 1) := Int.mul_le_mul (by omega) (by omega) hd.1 (by omega)
    have h0 : 0 ≤ rd ms c * rd ms d := Int.mul_nonneg hc.1 hd.1
    have e1 : (B - 1) * (B - 1) = B * B - 2 * B + 1 := by
      rw [Int.sub_mul, Int.mul_sub, Int.mul_sub]; omega
    refine ⟨Int.ediv_nonneg (by omega) (by omega), ?_⟩
    exact Int.ediv_lt_of_lt_mul hp (by omega)
def runs (base : Int) (is : List Ins) (ms : List Int) : List Int := is.foldl (fun ms i => i.run base ms) ms
theorem runs_mem {k b : Nat} (hb : 1 ≤ b) : ∀ {is : List Ins} {ms : List Int}, Mem k (2 ^ b) ms → (∀ i ∈ is, i.wd (2 ^ b)) → Mem k (2 ^ b) (runs (2 ^ b) is ms)
  | [], _, h, _ => h
  | i :: is, _, h, hw => runs_mem hb (is := is) (Ins.run_mem h hb (hw i (by simp))) fun j hj => hw j (List.mem_cons_of_mem _ hj)
theorem pow_small {b : Nat} (hb : b ≤ 16) : (2 : Int) ^ b < 1073741824 := by
  have : (2 : Nat) ^ b ≤ 2 ^ 16 := Nat.pow_le_pow_right (by decide) hb
  have h2 : ((2 : Nat) ^ b : Nat) ≤ 65536 := this
  have : (((2 : Nat) ^ b : Nat) : Int) = (2 : Int) ^ b := by push_cast; rfl
  omega
theorem shl_ok {b : Nat} (hb : b ≤ 16) : shlOk 1 (b : Int) = true := by
  unfold shlOk powOk
  rw [decide_eq_true (show (0 : Int) ≤ b ∧ (b : Int) ≤ 1000000 ∧ (1 : Int).natAbs < 2 ^ 64 from ⟨by omega, by omega, by decide⟩)]
  rfl
def Ins.op : Ins → D
  | .put _ _ => .str "put"
  | .copy _ _ => .str "copy"
  | .xor _ _ _ => .str "xor"
  | .and _ _ _ => .str "and"
  | .sign _ _ => .str "sign"
  | .top _ _ => .str "top"
  | .pick _ _ _ _ => .str "pick"
  | .add _ _ _ _ => .str "add"
  | .sub _ _ _ _ => .str "sub"
  | .mul _ _ _ _ _ => .str "mul"
theorem d0 (i : Ins) : subD i.d (.int 0) = some i.op := by cases i <;> rfl
theorem icd (i : Ins) : isC i.d = false := by cases i <;> rfl
theorem ico (i : Ins) : isC i.op = false := by cases i <;> rfl
theorem runs_take {base : Int} {is : List Ins} {ms : List Int} {j : Nat} {i : Ins} (h : is[j]? = some i) : runs base (is.take (j + 1)) ms = i.run base (runs base (is.take j) ms) := by
  unfold runs
  rw [List.take_add_one, h]
  simp
theorem run_steps_ok (n k b : Nat) (hb : 1 ≤ b) (hb2 : b ≤ 16) (is : List Ins) (ms : List Int) (hm : Mem k (2 ^ b) ms) (hi : ∀ i ∈ is, i.ok k ∧ i.wd (2 ^ b)) :
    callN prog (n + 2) 6 [.tuple (is.map Ins.d), .list (ms.map .int), .int (b : Nat)] = .ok (.none, [.list ((runs (2 ^ b) is ms).map .int)]) := by
  have hp : (0 : Int) < 2 ^ b := Int.pow_pos (by decide)
  have hs := pow_small hb2
  rw [callN_succ (F := F_run_steps) rfl, runF_eq _ _ _ rfl]; simp only [F_run_steps, b_run_steps, startT, mark, List.replicate, List.cons_append, List.nil_append, List.contains_cons, List.contains_nil, icL, icT, icI, icS, icB, icN, Nat.reduceBEq, Nat.reduceSub, Nat.reduceAdd, Bool.true_and, Bool.false_and, Bool.or_false, beq_self_eq_true]
  repeat (rw [evSs_c]; simp [evS, evE, evT, evEs, evO, evC, evI, evIo, evSs_n, asg, asgs, frz1, own?, ixN_nat, outs, ofI, divS, shl_ok hb2])
  obtain ⟨τ, e, x, y, rfl⟩ := forL_to (io := [1]) (t := .n 4) (body := evSs ⟨callN prog (n + 1), prog.io, prog.gl, prog.wN⟩ [1] b_run_steps_0)
    (fun j τ => ∃ x y, τ = [some (false, PyData.tuple (is.map Ins.d)), some (true, PyData.list ((runs (2 ^ b) (is.take j) ms).map PyData.int)), some (false, PyData.int (b : Nat)), some (false, PyData.int (2 ^ b)), x, y])
    (is.map Ins.d) 0 [some (false, PyData.tuple (is.map Ins.d)), some (true, PyData.list (ms.map PyData.int)), some (false, PyData.int (b : Nat)), some (false, PyData.int (2 ^ b)), none, none]
    ⟨none, none, rfl⟩ fun j d τ hd hP => by
      obtain ⟨x, y, rfl⟩ := hP
      rw [List.getElem?_map] at hd
      obtain ⟨i, hj, rfl⟩ := Option.map_eq_some_iff.mp hd
      rw [Nat.zero_add] at *
      obtain ⟨hok, hw⟩ := hi i (List.mem_of_getElem? hj)
      have hM := runs_mem (k := k) hb hm (is := is.take j) fun q hq => (hi q (List.mem_of_mem_take hq)).2
      rw [runs_take hj]
      generalize runs (2 ^ b) (is.take j) ms = m at *
      obtain ⟨hl, hr⟩ := hM
      rw [← hl] at hok
      refine ⟨_, rfl, [some (false, PyData.tuple (is.map Ins.d)), some (true, PyData.list ((i.run (2 ^ b) m).map PyData.int)), some (false, PyData.int (b : Nat)), some (false, PyData.int (2 ^ b)), some (false, i.d), some (false, i.op)], .inl ?_, ⟨_, _, rfl⟩⟩
      simp only [b_run_steps_0]
      have hms : Small m := fun j => by
        have := hr j
        unfold Wd at this
        constructor <;> omega
      have ho := hok
      obtain ⟨o1, o2⟩ := hok
      cases i <;> simp only [Ins.W, Ins.R, List.mem_cons, List.not_mem_nil, or_false, forall_eq_or_imp, forall_eq] at o1 o2
      case add a b' c d => repeat (rw [evSs_c]; simp [evS, evE, evT, evEs, evO, evC, evI, evIo, evSs_n, asg, asgs, frz1, own?, ixN_nat, outs, ofI, divS, d0, Ins.op, io_3, io_4, io_5, run_add_ok n m a b' c d _ hp o1.1 o1.2 o2.2.1 o2.2.2])
      case sub a b' c d => repeat (rw [evSs_c]; simp [evS, evE, evT, evEs, evO, evC, evI, evIo, evSs_n, asg, asgs, frz1, own?, ixN_nat, outs, ofI, divS, d0, Ins.op, io_3, io_4, io_5, run_sub_ok n m a b' c d _ hp o1.1 o1.2 o2.2.1 o2.2.2])
      case mul a b' c d e => repeat (rw [evSs_c]; simp [evS, evE, evT, evEs, evO, evC, evI, evIo, evSs_n, asg, asgs, frz1, own?, ixN_nat, outs, ofI, divS, d0, Ins.op, io_3, io_4, io_5, run_mul_ok n m a b' c d e _ hp hs hms o1.1 o1.2 o2.2.1 o2.2.2.1 o2.2.2.2])
      case put a w => repeat (rw [evSs_c]; simp [evS, evE, evT, evEs, evO, evC, evI, evIo, evSs_n, asg, asgs, frz1, own?, ixN_nat, outs, ofI, divS, d0, Ins.op, io_3, io_4, io_5, run_other_ok n m _ _ hp ho rfl])
      case copy => repeat (rw [evSs_c]; simp [evS, evE, evT, evEs, evO, evC, evI, evIo, evSs_n, asg, asgs, frz1, own?, ixN_nat, outs, ofI, divS, d0, Ins.op, io_3, io_4, io_5, run_other_ok n m _ _ hp ho rfl])
      case xor => repeat (rw [evSs_c]; simp [evS, evE, evT, evEs, evO, evC, evI, evIo, evSs_n, asg, asgs, frz1, own?, ixN_nat, outs, ofI, divS, d0, Ins.op, io_3, io_4, io_5, run_other_ok n m _ _ hp ho rfl])
      case and => repeat (rw [evSs_c]; simp [evS, evE, evT, evEs, evO, evC, evI, evIo, evSs_n, asg, asgs, frz1, own?, ixN_nat, outs, ofI, divS, d0, Ins.op, io_3, io_4, io_5, run_other_ok n m _ _ hp ho rfl])
      case sign => repeat (rw [evSs_c]; simp [evS, evE, evT, evEs, evO, evC, evI, evIo, evSs_n, asg, asgs, frz1, own?, ixN_nat, outs, ofI, divS, d0, Ins.op, io_3, io_4, io_5, run_other_ok n m _ _ hp ho rfl])
      case top => repeat (rw [evSs_c]; simp [evS, evE, evT, evEs, evO, evC, evI, evIo, evSs_n, asg, asgs, frz1, own?, ixN_nat, outs, ofI, divS, d0, Ins.op, io_3, io_4, io_5, run_other_ok n m _ _ hp ho rfl])
      case pick => repeat (rw [evSs_c]; simp [evS, evE, evT, evEs, evO, evC, evI, evIo, evSs_n, asg, asgs, frz1, own?, ixN_nat, outs, ofI, divS, d0, Ins.op, io_3, io_4, io_5, run_other_ok n m _ _ hp ho rfl])
  rw [e]
  simp [outs, evSs_n]
theorem run_code_ok (n k b : Nat) (hb : 1 ≤ b) (hb2 : b ≤ 16) (is : List Ins) (ms : List Int) (hm : Mem k (2 ^ b) ms) (hi : ∀ i ∈ is, i.ok k ∧ i.wd (2 ^ b)) :
    callN prog (n + 3) 7 [.tuple (is.map Ins.d), .tuple (ms.map .int), .int (b : Nat)] = .ok (.tuple ((runs (2 ^ b) is ms).map .int), []) := by
  rw [callN_succ (F := F_run_code) rfl, runF_eq _ _ _ rfl]; simp only [F_run_code, b_run_code, startT, mark, List.replicate, List.cons_append, List.nil_append, List.contains_cons, List.contains_nil, icL, icT, icI, icS, icB, icN, Nat.reduceBEq, Nat.reduceSub, Nat.reduceAdd, Bool.true_and, Bool.false_and, Bool.or_false, beq_self_eq_true]
  repeat (rw [evSs_c]; simp [evS, evE, evT, evEs, evO, evC, evI, evIo, evSs_n, asg, asgs, frz1, own?, ixN_nat, outs, ofI, divS, io_6, run_steps_ok n k b hb hb2 is ms hm hi])
end Mp

namespace Mp
open PySem PySem.Spec PyProof.Rows L2
section
variable (n : Nat) (x y z base : Int)
theorem word_copy : callN prog (n + 1) 19 [.str "copy", .list [.int x], .int base] = .ok (.int x, []) := by
  rw [callN_succ (F := F__law_word) rfl, runF_eq _ _ _ rfl]; simp only [F__law_word, b__law_word, startT, mark, List.replicate, List.cons_append, List.nil_append, List.contains_cons, List.contains_nil, icL, icT, icI, icS, icB, icN, Nat.reduceBEq, Nat.reduceSub, Nat.reduceAdd, Bool.true_and, Bool.false_and, Bool.or_false, beq_self_eq_true]; repeat (rw [evSs_c]; simp [evS, evE, evT, evEs, evO, evC, evI, evIo, evSs_n, asg, asgs, frz1, own?, ixN_nat, outs, ofI, divS])
theorem word_xor : callN prog (n + 1) 19 [.str "xor", .list [.int x, .int y], .int base] = .ok (.int (Builtin.bitXor x y), []) := by
  rw [callN_succ (F := F__law_word) rfl, runF_eq _ _ _ rfl]; simp only [F__law_word, b__law_word, startT, mark, List.replicate, List.cons_append, List.nil_append, List.contains_cons, List.contains_nil, icL, icT, icI, icS, icB, icN, Nat.reduceBEq, Nat.reduceSub, Nat.reduceAdd, Bool.true_and, Bool.false_and, Bool.or_false, beq_self_eq_true]; repeat (rw [evSs_c]; simp [evS, evE, evT, evEs, evO, evC, evI, evIo, evSs_n, asg, asgs, frz1, own?, ixN_nat, outs, ofI, divS])
theorem word_and : callN prog (n + 1) 19 [.str "and", .list [.int x, .int y], .int base] = .ok (.int (Builtin.bitAnd x y), []) := by
  rw [callN_succ (F := F__law_word) rfl, runF_eq _ _ _ rfl]; simp only [F__law_word, b__law_word, startT, mark, List.replicate, List.cons_append, List.nil_append, List.contains_cons, List.contains_nil, icL, icT, icI, icS, icB, icN, Nat.reduceBEq, Nat.reduceSub, Nat.reduceAdd, Bool.true_and, Bool.false_and, Bool.or_false, beq_self_eq_true]; repeat (rw [evSs_c]; simp [evS, evE, evT, evEs, evO, evC, evI, evIo, evSs_n, asg, asgs, frz1, own?, ixN_nat, outs, ofI, divS])
theorem word_sign : callN prog (n + 1) 19 [.str "sign", .list [.int x], .int base] = .ok (.int (if base / 2 ≤ x then base - 1 else 0), []) := by
  rw [callN_succ (F := F__law_word) rfl, runF_eq _ _ _ rfl]; simp only [F__law_word, b__law_word, startT, mark, List.replicate, List.cons_append, List.nil_append, List.contains_cons, List.contains_nil, icL, icT, icI, icS, icB, icN, Nat.reduceBEq, Nat.reduceSub, Nat.reduceAdd, Bool.true_and, Bool.false_and, Bool.or_false, beq_self_eq_true]; repeat (rw [evSs_c]; simp [evS, evE, evT, evEs, evO, evC, evI, evIo, evSs_n, asg, asgs, frz1, own?, ixN_nat, outs, ofI, divS])
theorem word_top : callN prog (n + 1) 19 [.str "top", .list [.int x], .int base] = .ok (.int (if base / 2 ≤ x then 1 else 0), []) := by
  rw [callN_succ (F := F__law_word) rfl, runF_eq _ _ _ rfl]; simp only [F__law_word, b__law_word, startT, mark, List.replicate, List.cons_append, List.nil_append, List.contains_cons, List.contains_nil, icL, icT, icI, icS, icB, icN, Nat.reduceBEq, Nat.reduceSub, Nat.reduceAdd, Bool.true_and, Bool.false_and, Bool.or_false, beq_self_eq_true]; repeat (rw [evSs_c]; simp [evS, evE, evT, evEs, evO, evC, evI, evIo, evSs_n, asg, asgs, frz1, own?, ixN_nat, outs, ofI, divS])
theorem word_pick : callN prog (n + 1) 19 [.str "pick", .list [.int x, .int y, .int z], .int base] = .ok (.int (if x = 0 then z else y), []) := by
  by_cases h : x = 0
  · rw [callN_succ (F := F__law_word) rfl, runF_eq _ _ _ rfl]; simp only [F__law_word, b__law_word, startT, mark, List.replicate, List.cons_append, List.nil_append, List.contains_cons, List.contains_nil, icL, icT, icI, icS, icB, icN, Nat.reduceBEq, Nat.reduceSub, Nat.reduceAdd, Bool.true_and, Bool.false_and, Bool.or_false, beq_self_eq_true]; repeat (rw [evSs_c]; simp [evS, evE, evT, evEs, evO, evC, evI, evIo, evSs_n, asg, asgs, frz1, own?, ixN_nat, outs, ofI, divS, h])
  · rw [callN_succ (F := F__law_word) rfl, runF_eq _ _ _ rfl]; simp only [F__law_word, b__law_word, startT, mark, List.replicate, List.cons_append, List.nil_append, List.contains_cons, List.contains_nil, icL, icT, icI, icS, icB, icN, Nat.reduceBEq, Nat.reduceSub, Nat.reduceAdd, Bool.true_and, Bool.false_and, Bool.or_false, beq_self_eq_true]; repeat (rw [evSs_c]; simp [evS, evE, evT, evEs, evO, evC, evI, evIo, evSs_n, asg, asgs, frz1, own?, ixN_nat, outs, ofI, divS, h])
end
theorem lrun_ok (n k b : Nat) (hb : 1 ≤ b) (hb2 : b ≤ 16) (C : D) (is : List Ins) (hC : C = .list (is.map Ins.d) ∨ C = .tuple (is.map Ins.d)) (ms : List Int) (hm : Mem k (2 ^ b) ms) (hi : ∀ i ∈ is, i.ok k ∧ i.wd (2 ^ b)) :
    callN prog (n + 2) 20 [C, .list (ms.map .int), .int (2 ^ b)] = .ok (.list ((runs (2 ^ b) is ms).map .int), []) := by
  have hp : (0 : Int) < 2 ^ b := Int.pow_pos (by decide)
  have hs := pow_small hb2
  have hit : iter1 C = some (is.map Ins.d) := by rcases hC with rfl | rfl <;> rfl
  rw [callN_succ (F := F__law_run) rfl, runF_eq _ _ _ rfl]; simp only [F__law_run, b__law_run, startT, mark, List.replicate, List.cons_append, List.nil_append, List.contains_cons, List.contains_nil, icL, icT, icI, icS, icB, icN, Nat.reduceBEq, Nat.reduceSub, Nat.reduceAdd, Bool.true_and, Bool.false_and, Bool.or_false, beq_self_eq_true]
  repeat (rw [evSs_c]; simp [evS, evE, evT, evEs, evO, evC, evI, evIo, evSs_n, asg, asgs, frz1, own?, ixN_nat, outs, ofI, divS, hit])
  obtain ⟨τ, e, x4, x5, x6, x7, x8, x9, rfl⟩ := forL_to (io := []) (t := .n 4) (body := evSs ⟨callN prog (n + 1), prog.io, prog.gl, prog.wN⟩ [] b__law_run_0)
    (fun j τ => ∃ x4 x5 x6 x7 x8 x9, τ = [some (false, C), some (false, PyData.list (ms.map PyData.int)), some (false, PyData.int (2 ^ b)), some (true, PyData.list ((runs (2 ^ b) (is.take j) ms).map PyData.int)), x4, x5, x6, x7, x8, x9])
    (is.map Ins.d) 0 [some (false, C), some (false, PyData.list (ms.map PyData.int)), some (false, PyData.int (2 ^ b)), some (true, PyData.list (ms.map PyData.int)), none, none, none, none, none, none]
    ⟨none, none, none, none, none, none, rfl⟩ fun j d τ hd hP => by
      obtain ⟨x4, x5, x6, x7, x8, x9, rfl⟩ := hP
      rw [List.getElem?_map] at hd
      obtain ⟨i, hj, rfl⟩ := Option.map_eq_some_iff.mp hd
      rw [Nat.zero_add] at *
      obtain ⟨hok, hw⟩ := hi i (List.mem_of_getElem? hj)
      have hM := runs_mem (k := k) hb hm (is := is.take j) fun q hq => (hi q (List.mem_of_mem_take hq)).2
      rw [runs_take hj]
      generalize runs (2 ^ b) (is.take j) ms = m at *
      obtain ⟨hl, hr⟩ := hM
      rw [← hl] at hok
      refine ⟨_, rfl, ?_⟩
      have hms : Small m := fun j => by
        have := hr j
        unfold Wd at this
        constructor <;> omega
      obtain ⟨o1, o2⟩ := hok
      simp only [b__law_run_0]
      cases i <;> simp only [Ins.W, Ins.R, List.mem_cons, List.not_mem_nil, or_false, forall_eq_or_imp, forall_eq] at o1 o2
      case put a w => refine turn_ct ?_; repeat (rw [evSs_c]; simp [evS, evE, evT, evEs, evO, evC, evI, evIo, evSs_n, asg, asgs, frz1, own?, ixN_nat, outs, ofI, divS, Ins.d, Ins.run, o1])
      case copy a c => refine turn_ct ?_; repeat (rw [evSs_c]; simp [evS, evE, evT, evEs, evO, evC, evI, evIo, evSs_n, asg, asgs, frz1, own?, ixN_nat, outs, ofI, divS, Ins.d, Ins.run, o1, o2, io_19, compL, at_rd, wipeT, word_copy])
      case xor => refine turn_ct ?_; repeat (rw [evSs_c]; simp [evS, evE, evT, evEs, evO, evC, evI, evIo, evSs_n, asg, asgs, frz1, own?, ixN_nat, outs, ofI, divS, Ins.d, Ins.run, o1, o2, io_19, compL, at_rd, wipeT, word_xor])
      case and => refine turn_ct ?_; repeat (rw [evSs_c]; simp [evS, evE, evT, evEs, evO, evC, evI, evIo, evSs_n, asg, asgs, frz1, own?, ixN_nat, outs, ofI, divS, Ins.d, Ins.run, o1, o2, io_19, compL, at_rd, wipeT, word_and])
      case sign => refine turn_ct ?_; repeat (rw [evSs_c]; simp [evS, evE, evT, evEs, evO, evC, evI, evIo, evSs_n, asg, asgs, frz1, own?, ixN_nat, outs, ofI, divS, Ins.d, Ins.run, o1, o2, io_19, compL, at_rd, wipeT, word_sign])
      case top => refine turn_ct ?_; repeat (rw [evSs_c]; simp [evS, evE, evT, evEs, evO, evC, evI, evIo, evSs_n, asg, asgs, frz1, own?, ixN_nat, outs, ofI, divS, Ins.d, Ins.run, o1, o2, io_19, compL, at_rd, wipeT, word_top])
      case pick => refine turn_ct ?_; repeat (rw [evSs_c]; simp [evS, evE, evT, evEs, evO, evC, evI, evIo, evSs_n, asg, asgs, frz1, own?, ixN_nat, outs, ofI, divS, Ins.d, Ins.run, o1, o2, io_19, compL, at_rd, wipeT, word_pick])
      case add => refine turn_nx ?_; repeat (rw [evSs_c]; simp [evS, evE, evT, evEs, evO, evC, evI, evIo, evSs_n, asg, asgs, frz1, own?, ixN_nat, outs, ofI, divS, Ins.d, Ins.run, o1, o2, hp, compL, at_rd, wipeT])
      case sub => refine turn_nx ?_; repeat (rw [evSs_c]; simp [evS, evE, evT, evEs, evO, evC, evI, evIo, evSs_n, asg, asgs, frz1, own?, ixN_nat, outs, ofI, divS, Ins.d, Ins.run, o1, o2, hp, compL, at_rd, wipeT])
      case mul => refine turn_nx ?_; repeat (rw [evSs_c]; simp [evS, evE, evT, evEs, evO, evC, evI, evIo, evSs_n, asg, asgs, frz1, own?, ixN_nat, outs, ofI, divS, Ins.d, Ins.run, o1, o2, hp, hs, mulS hms, compL, at_rd, wipeT])
  rw [e]
  simp [outs, evSs_n]
  repeat (rw [evSs_c]; simp [evS, evE, evT, evEs, evO, evC, evI, evIo, evSs_n, asg, asgs, frz1, own?, ixN_nat, outs, ofI, divS])
end Mp

namespace Mp
open PySem PySem.Spec PyProof.Rows L2
/-! ### lean -/
def mk (ks : List Nat) : List (D × D) := ks.map fun c => (.int (c : Nat), .bool true)
def addK (ks : List Nat) (c : Nat) : List Nat := if c ∈ ks then ks else ks ++ [c]
def addAll (ks cs : List Nat) : List Nat := cs.foldl addK ks
def popAll (ks cs : List Nat) : List Nat := cs.foldl (fun ks c => ks.filter (· ≠ c)) ks
theorem keyEq_n (a b : Nat) : keyEq (.int (a : Nat)) (.int (b : Nat)) = decide (a = b) := by
  show decide ((a : Int) = (b : Int)) = _
  exact decide_eq_decide.mpr (by omega)
theorem dGet_mk (c : Nat) : ∀ ks : List Nat, (dGet (.int (c : Nat)) (mk ks)).isSome = decide (c ∈ ks)
  | [] => rfl
  | k :: ks => by
    have ih := dGet_mk c ks
    unfold mk at ih ⊢
    rw [List.map_cons]
    unfold dGet
    rw [keyEq_n]
    by_cases h : k = c
    · subst h; simp
    · have : ¬ c = k := fun z => h z.symm
      simp only [h, decide_false, Bool.false_eq_true, if_false, ih, List.mem_cons, this, false_or]
theorem any_mk (c : Nat) (ks : List Nat) : ((mk ks).any fun p => keyEq p.1 (.int (c : Nat))) = decide (c ∈ ks) := by
  unfold mk
  rw [List.any_map]
  induction ks with
  | nil => rfl
  | cons k ks ih =>
    rw [List.any_cons, ih]
    show (keyEq (.int (k : Nat)) (.int (c : Nat)) || _) = _
    rw [keyEq_n]
    by_cases h : k = c
    · subst h; simp
    · have : ¬ c = k := fun z => h z.symm
      simp [h, this]
theorem dPut_mk (c : Nat) (ks : List Nat) : dPut (.int (c : Nat)) (.bool true) (mk ks) = mk (addK ks c) := by
  unfold dPut addK
  rw [any_mk]
  by_cases h : c ∈ ks
  · simp only [h, decide_true, if_true]
    unfold mk
    rw [List.map_map]
    apply List.map_congr_left
    intro k _
    show (if keyEq (.int (k : Nat)) (.int (c : Nat)) then ((PyData.int (k : Nat), PyData.bool true) : D × D) else _) = _
    split <;> rfl
  · simp [h, mk]
theorem dDrop_mk (c : Nat) (ks : List Nat) : dDrop (.int (c : Nat)) (mk ks) = mk (ks.filter (· ≠ c)) := by
  unfold dDrop mk
  rw [List.filter_map]
  congr 1
  apply List.filter_congr
  intro k _
  show (!keyEq (.int (k : Nat)) (.int (c : Nat))) = _
  rw [keyEq_n]
  simp
theorem mk_length (ks : List Nat) : (mk ks).length = ks.length := by simp [mk]
theorem addK_length (ks : List Nat) (c : Nat) : (addK ks c).length ≤ ks.length + 1 := by
  unfold addK
  split <;> simp
theorem addAll_length : ∀ (cs ks : List Nat), (addAll ks cs).length ≤ ks.length + cs.length
  | [], ks => by simp [addAll]
  | c :: cs, ks => by
    have := addAll_length cs (addK ks c)
    have h := addK_length ks c
    show (addAll (addK ks c) cs).length ≤ _
    simp only [List.length_cons]
    omega
theorem popAll_length : ∀ (cs ks : List Nat), (popAll ks cs).length ≤ ks.length
  | [], ks => by simp [popAll]
  | c :: cs, ks => Nat.le_trans (popAll_length cs _) (List.length_filter_le _ _)
theorem mem_addK {ks : List Nat} {c x : Nat} : x ∈ addK ks c ↔ x ∈ ks ∨ x = c := by
  unfold addK
  split
  · rename_i h
    exact ⟨.inl, fun z => z.elim id fun e => by rw [e]; exact h⟩
  · simp
theorem mem_addAll {x : Nat} : ∀ {cs ks : List Nat}, x ∈ addAll ks cs ↔ x ∈ ks ∨ x ∈ cs
  | [], ks => by simp [addAll]
  | c :: cs, ks => by
    show x ∈ addAll (addK ks c) cs ↔ _
    rw [mem_addAll, mem_addK]; simp [or_assoc]
theorem mem_popAll {x : Nat} : ∀ {cs ks : List Nat}, x ∈ popAll ks cs ↔ x ∈ ks ∧ x ∉ cs
  | [], ks => by simp [popAll]
  | c :: cs, ks => by
    show x ∈ popAll (ks.filter (· ≠ c)) cs ↔ _
    rw [mem_popAll]; simp [and_assoc]
section
variable {g : G} {c0 c1 x4 x5 x6 : Option (Bool × D)}
theorem add_loop : ∀ (cs ks : List Nat) (x3 : Option (Bool × D)), ks.length + cs.length < 100000 → ∃ y3, forL [] (.n 3) (evSs g [] b_lean_1) (natD cs) [c0, c1, some (true, .dict (mk ks)), x3, x4, x5, x6] = .nx [c0, c1, some (true, .dict (mk (addAll ks cs))), y3, x4, x5, x6]
  | [], ks, x3, _ => ⟨x3, rfl⟩
  | c :: cs, ks, x3, h => by
    have hl := addK_length ks c
    simp only [List.length_cons] at h
    obtain ⟨y3, e⟩ := add_loop cs (addK ks c) (some (false, .int (c : Nat))) (by omega)
    refine ⟨y3, ?_⟩
    have hz : (mk ks).length < sizeLine := szl (by rw [mk_length]; omega)
    have hb : evSs g [] b_lean_1 [c0, c1, some (true, .dict (mk ks)), some (false, .int (c : Nat)), x4, x5, x6] = .nx [c0, c1, some (true, .dict (mk (addK ks c))), some (false, .int (c : Nat)), x4, x5, x6] := by
      simp only [b_lean_1]
      repeat (rw [evSs_c]; simp [evS, evE, evT, evEs, evO, evC, evI, evIo, evSs_n, asg, asgs, frz1, own?, ixN_nat, outs, ofI, divS, hz, dPut_mk])
    show forL [] (.n 3) _ (.int (c : Nat) :: natD cs) _ = _
    unfold forL
    simp [asg, hb, e]
    rfl
theorem pop_loop : ∀ (cs ks : List Nat) (x3 : Option (Bool × D)), ∃ y3, forL [] (.n 3) (evSs g [] b_lean_2) (natD cs) [c0, c1, some (true, .dict (mk ks)), x3, x4, x5, x6] = .nx [c0, c1, some (true, .dict (mk (popAll ks cs))), y3, x4, x5, x6]
  | [], ks, x3 => ⟨x3, rfl⟩
  | c :: cs, ks, x3 => by
    obtain ⟨y3, e⟩ := pop_loop cs (ks.filter (· ≠ c)) (some (false, .int (c : Nat)))
    refine ⟨y3, ?_⟩
    have hb : evSs g [] b_lean_2 [c0, c1, some (true, .dict (mk ks)), some (false, .int (c : Nat)), x4, x5, x6] = .nx [c0, c1, some (true, .dict (mk (ks.filter (· ≠ c)))), some (false, .int (c : Nat)), x4, x5, x6] := by
      simp only [b_lean_2]
      rw [evSs_c]
      simp [evS, evE, own?, dDrop_mk, evSs_n]
    show forL [] (.n 3) _ (.int (c : Nat) :: natD cs) _ = _
    unfold forL
    simp only [asg, List.not_mem_nil, if_false, icI, Bool.and_false, List.set_cons_succ, List.set_cons_zero, hb, e]
    rfl
/-- any(cell in needed ..) -/
theorem any_comp (W ks : List Nat) (x3 : Option (Bool × D)) : compL (evE g (.cmp .In (.v 3) (.v 2))) (evC g .no) (.n 3) [3] (wipeT [c0, c1, some (true, .dict (mk ks)), x3, x4, x5, x6] [3]) (natD W) = .ok (W.map fun c => .bool (decide (c ∈ ks)), []) := by
  have := compL_eq (elt := evE g (.cmp .In (.v 3) (.v 2))) (cond := evC g .no) (t := .n 3) (own := [3]) (τw := wipeT [c0, c1, some (true, .dict (mk ks)), x3, x4, x5, x6] [3]) (g := fun x : Nat => PyData.int (x : Nat)) (f := fun c => .bool (decide (c ∈ ks))) (p := fun _ => true) W fun x _ => ⟨_, rfl, by simp [evC], fun _ => by
    simp [wipeT, evE, dGet_mk]⟩
  rw [filter_tt] at this
  exact this
theorem bools_map {α : Type} (f : α → Bool) : ∀ xs : List α, boolsOf (xs.map fun x => .bool (f x)) = some (xs.map f)
  | [] => rfl
  | x :: xs => by
    show (boolsOf (xs.map fun x => .bool (f x))).map (f x :: ·) = _
    rw [bools_map f xs]; rfl
end
end Mp

namespace Mp
open PySem PySem.Spec PyProof.Rows L2
def hasW (W ks : List Nat) : Bool := W.any fun c => decide (c ∈ ks)
theorem hasW_iff {W ks : List Nat} : hasW W ks = true ↔ ∃ c, c ∈ W ∧ c ∈ ks := by simp [hasW]
theorem anyC (W ks : List Nat) : (boolsOf (W.map fun c => .bool (decide (c ∈ ks)))).map (fun bs => PyData.bool (bs.any id)) = some (.bool (hasW W ks)) := by
  rw [bools_map]
  simp [hasW, List.any_map]
def stepB (s : List Ins × List Nat) (i : Ins) : List Ins × List Nat := if hasW i.W s.2 = true then (s.1 ++ [i], addAll (popAll s.2 i.W) i.R) else s
def backB (is : List Ins) (kept : List Nat) : List Ins × List Nat := is.reverse.foldl stepB ([], addAll [] kept)
def leanL (is : List Ins) (kept : List Nat) : List Ins := (backB is kept).1.reverse
theorem W_len (i : Ins) : i.W.length ≤ 2 := by cases i <;> simp [Ins.W]
theorem R_len (i : Ins) : i.R.length ≤ 4 := by cases i <;> simp [Ins.R]
theorem stepB_len (s : List Ins × List Nat) (i : Ins) : (stepB s i).2.length ≤ s.2.length + 4 := by
  unfold stepB
  split
  · have h1 := addAll_length i.R (popAll s.2 i.W)
    have h2 := popAll_length i.W s.2
    have h3 := R_len i
    show (addAll (popAll s.2 i.W) i.R).length ≤ _
    omega
  · omega
theorem foldB_len : ∀ (is : List Ins) (s : List Ins × List Nat), (is.foldl stepB s).2.length ≤ s.2.length + 4 * is.length
  | [], s => by simp
  | i :: is, s => by
    have h1 := foldB_len is (stepB s i)
    have h2 := stepB_len s i
    simp only [List.foldl_cons, List.length_cons]
    omega
theorem foldB_out : ∀ (is : List Ins) (s : List Ins × List Nat), (is.foldl stepB s).1.length ≤ s.1.length + is.length
  | [], s => by simp
  | i :: is, s => by
    have h1 := foldB_out is (stepB s i)
    have h2 : (stepB s i).1.length ≤ s.1.length + 1 := by unfold stepB; split <;> simp
    simp only [List.foldl_cons, List.length_cons]
    omega
theorem lean_turn (n : Nat) (i : Ins) (c0 c1 x3 x6 : Option (Bool × D)) (s : List Ins × List Nat) (h : s.2.length + 4 < 100000) (ho : s.1.length < 100000) :
    ∃ τ2, (evSs ⟨callN prog (n + 1), prog.io, prog.gl, prog.wN⟩ [] b_lean_0 [c0, c1, some (true, .dict (mk s.2)), x3, some (true, .list (s.1.map Ins.d)), some (false, i.d), x6] = .nx τ2 ∨
      evSs ⟨callN prog (n + 1), prog.io, prog.gl, prog.wN⟩ [] b_lean_0 [c0, c1, some (true, .dict (mk s.2)), x3, some (true, .list (s.1.map Ins.d)), some (false, i.d), x6] = .ct τ2) ∧
      ∃ y3 y6, τ2 = [c0, c1, some (true, .dict (mk (stepB s i).2)), y3, some (true, .list ((stepB s i).1.map Ins.d)), some (false, i.d), y6] := by
  have hz : (s.1.map Ins.d).length < sizeLine := szl (by rw [List.length_map]; exact ho)
  have hw : (natD i.W).length ≤ sizeLine := szs (by have := W_len i; unfold natD; rw [List.length_map]; omega)
  have hr := R_len i
  have hp := popAll_length i.W s.2
  obtain ⟨y3, e1⟩ := pop_loop (g := ⟨callN prog (n + 1), prog.io, prog.gl, prog.wN⟩) (c0 := c0) (c1 := c1) (x4 := some (true, .list (s.1.map Ins.d ++ [i.d]))) (x5 := some (false, i.d)) (x6 := some (false, .list (natD i.W))) i.W s.2 x3
  obtain ⟨z3, e2⟩ := add_loop (g := ⟨callN prog (n + 1), prog.io, prog.gl, prog.wN⟩) (c0 := c0) (c1 := c1) (x4 := some (true, .list (s.1.map Ins.d ++ [i.d]))) (x5 := some (false, i.d)) (x6 := some (false, .list (natD i.W))) i.R (popAll s.2 i.W) y3 (by omega)
  have ea := any_comp (g := ⟨callN prog (n + 1), prog.io, prog.gl, prog.wN⟩) (c0 := c0) (c1 := c1) (x4 := some (true, .list (s.1.map Ins.d))) (x5 := some (false, i.d)) (x6 := some (false, .list (natD i.W))) i.W s.2 x3
  simp [evE, evC] at ea
  simp only [b_lean_0]
  cases hc : hasW i.W s.2 with
  | false =>
    refine turn_ct ?_
    have hs : stepB s i = s := by unfold stepB; rw [hc]; rfl
    rw [hs]
    repeat (rw [evSs_c]; simp [evS, evE, evT, evEs, evO, evC, evI, evIo, evSs_n, asg, asgs, frz1, own?, ixN_nat, outs, ofI, divS, io_0, io_1, written_ok n i, ea, anyC, hc, hw])
  | true =>
    refine turn_nx ?_
    have hs : stepB s i = (s.1 ++ [i], addAll (popAll s.2 i.W) i.R) := by unfold stepB; rw [hc]; rfl
    rw [hs]
    have hl : s.1.length < sizeLine := by simpa using hz
    repeat (rw [evSs_c]; simp [evS, evE, evT, evEs, evO, evC, evI, evIo, evSs_n, asg, asgs, frz1, own?, ixN_nat, outs, ofI, divS, io_0, io_1, written_ok n i, read_ok n i, ea, anyC, hc, hw, hl, e1, e2])
theorem lean_ok (n : Nat) (is : List Ins) (kept : List Nat) (hi : is.length ≤ 1000) (hk : kept.length ≤ 1000) :
    callN prog (n + 2) 2 [.tuple (is.map Ins.d), .tuple (natD kept)] = .ok (.tuple ((leanL is kept).map Ins.d), []) := by
  obtain ⟨y3, e0⟩ := add_loop (g := ⟨callN prog (n + 1), prog.io, prog.gl, prog.wN⟩) (c0 := some (false, .tuple (is.map Ins.d))) (c1 := some (false, .tuple (natD kept))) (x4 := none) (x5 := none) (x6 := none) kept [] none (by simp only [List.length_nil]; omega)
  have e0 : forL [] (.n 3) (evSs ⟨callN prog (n + 1), prog.io, prog.gl, prog.wN⟩ [] b_lean_3) (natD kept) [some (false, .tuple (is.map Ins.d)), some (false, .tuple (natD kept)), some (true, .dict []), none, none, none, none] = _ := e0
  have hk0 := addAll_length kept []
  simp only [List.length_nil] at hk0
  obtain ⟨τ, e, z3, z5, z6, rfl⟩ := forL_to (io := []) (t := .n 5) (body := evSs ⟨callN prog (n + 1), prog.io, prog.gl, prog.wN⟩ [] b_lean_0)
    (fun j τ => ∃ x3 x5 x6, τ = [some (false, .tuple (is.map Ins.d)), some (false, .tuple (natD kept)), some (true, .dict (mk ((is.reverse.take j).foldl stepB ([], addAll [] kept)).2)), x3, some (true, .list (((is.reverse.take j).foldl stepB ([], addAll [] kept)).1.map Ins.d)), x5, x6])
    (is.map Ins.d).reverse 0 [some (false, .tuple (is.map Ins.d)), some (false, .tuple (natD kept)), some (true, .dict (mk (addAll [] kept))), y3, some (true, .list []), none, none]
    ⟨y3, none, none, rfl⟩ fun j d τ hd hP => by
      obtain ⟨x3, x5, x6, rfl⟩ := hP
      rw [← List.map_reverse, List.getElem?_map] at hd
      obtain ⟨i, hj, rfl⟩ := Option.map_eq_some_iff.mp hd
      rw [Nat.zero_add] at *
      have hstep : (is.reverse.take (j + 1)).foldl stepB ([], addAll [] kept) = stepB ((is.reverse.take j).foldl stepB ([], addAll [] kept)) i := by
        rw [List.take_add_one, hj]
        simp
      rw [hstep]
      have l1 := foldB_len (is.reverse.take j) ([], addAll [] kept)
      have l2 := foldB_out (is.reverse.take j) ([], addAll [] kept)
      have l3 : (is.reverse.take j).length ≤ is.length := by simp; omega
      simp only [List.length_nil] at l2
      dsimp only at l1 l2
      generalize (is.reverse.take j).foldl stepB ([], addAll [] kept) = s at *
      obtain ⟨τ2, h1, y3', y6, rfl⟩ := lean_turn n i (some (false, .tuple (is.map Ins.d))) (some (false, .tuple (natD kept))) x3 x6 s (by omega) (by omega)
      exact ⟨_, rfl, _, h1, _, _, _, rfl⟩
  rw [callN_succ (F := F_lean) rfl, runF_eq _ _ _ rfl]; simp only [F_lean, b_lean, startT, mark, List.replicate, List.cons_append, List.nil_append, List.contains_cons, List.contains_nil, icL, icT, icI, icS, icB, icN, Nat.reduceBEq, Nat.reduceSub, Nat.reduceAdd, Bool.true_and, Bool.false_and, Bool.or_false, beq_self_eq_true]
  repeat (rw [evSs_c]; simp [evS, evE, evT, evEs, evO, evC, evI, evIo, evSs_n, asg, asgs, frz1, own?, ixN_nat, outs, ofI, divS, e0])
  rw [e]
  have ht : is.reverse.take (0 + (is.map Ins.d).reverse.length) = is.reverse := List.take_of_length_le (by simp)
  rw [ht]
  simp only [Out.seq_nx]
  repeat (rw [evSs_c]; simp [evS, evE, evT, evEs, evO, evC, evI, evIo, evSs_n, asg, asgs, frz1, own?, ixN_nat, outs, ofI, divS])
  simp [leanL, backB]
end Mp

namespace Mp
open PySem PySem.Spec PyProof.Rows L2
theorem backB_cons (i : Ins) (r : List Ins) (kept : List Nat) : backB (i :: r) kept = stepB (backB r kept) i := by
  unfold backB
  rw [List.reverse_cons, List.foldl_append]
  rfl
def flagsOf : List Ins → List Nat → List Bool
  | [], _ => []
  | i :: r, kept => hasW i.W (backB r kept).2 :: flagsOf r kept
theorem flags_length : ∀ (is : List Ins) (kept : List Nat), (flagsOf is kept).length = is.length
  | [], _ => rfl
  | i :: r, kept => by simp [flagsOf, flags_length r kept]
@[simp] theorem all_nat (l : List Nat) : (natD l).all flatD = true := by
  unfold natD
  rw [List.all_map]
  simp
@[simp] theorem any_nat (l : List Nat) (c : Nat) : ((natD l).any fun d => PyData.eqv d (.int (c : Nat))) = decide (c ∈ l) := by
  unfold natD
  rw [List.any_map]
  induction l with
  | nil => rfl
  | cons x l ih =>
    rw [List.any_cons, ih]
    show (decide ((x : Int) = (c : Int)) || _) = _
    by_cases h : x = c
    · subst h; simp
    · have : ¬ c = x := fun z => h z.symm
      have h2 : ¬ (x : Int) = (c : Int) := by omega
      simp [h2, this]
theorem rng_succ (lo : Int) (n : Nat) : rngL lo (n + 1) = .int lo :: rngL (lo + 1) n := by
  unfold rngL
  rw [List.range_succ_eq_map, List.map_cons, List.map_map]
  congr 1
  · simp
  · apply List.map_congr_left
    intro k _
    show PyData.int (lo + ((k + 1 : Nat) : Int)) = .int (lo + 1 + (k : Nat))
    congr 1
    omega
theorem matters_loop (n : Nat) (is : List Ins) (fl : List Bool) (kept : List Nat) (at' c : Nat) (x2 : Option (Bool × D)) : ∀ (m p : Nat) (x5 : Option (Bool × D)), p + m = is.length → fl.drop p = flagsOf (is.drop p) kept →
    (∃ τ', forL [] (.n 5) (evSs ⟨callN prog (n + 1), prog.io, prog.gl, prog.wN⟩ [] b__law_matters_0) (rngL (p : Nat) m) [some (false, .list (is.map Ins.d)), some (false, .list (fl.map .bool)), x2, some (false, .int (c : Nat)), some (false, .tuple (natD kept)), x5] = .ret τ' (.bool true) ∧ c ∈ (backB (is.drop p) kept).2) ∨
    (∃ τ', forL [] (.n 5) (evSs ⟨callN prog (n + 1), prog.io, prog.gl, prog.wN⟩ [] b__law_matters_0) (rngL (p : Nat) m) [some (false, .list (is.map Ins.d)), some (false, .list (fl.map .bool)), x2, some (false, .int (c : Nat)), some (false, .tuple (natD kept)), x5] = .ret τ' (.bool false) ∧ c ∉ (backB (is.drop p) kept).2) ∨
    (∃ y5, forL [] (.n 5) (evSs ⟨callN prog (n + 1), prog.io, prog.gl, prog.wN⟩ [] b__law_matters_0) (rngL (p : Nat) m) [some (false, .list (is.map Ins.d)), some (false, .list (fl.map .bool)), x2, some (false, .int (c : Nat)), some (false, .tuple (natD kept)), x5] = .nx [some (false, .list (is.map Ins.d)), some (false, .list (fl.map .bool)), x2, some (false, .int (c : Nat)), some (false, .tuple (natD kept)), y5] ∧ (c ∈ (backB (is.drop p) kept).2 ↔ c ∈ kept))
  | 0, p, x5, hp, _ => by
    refine .inr (.inr ⟨x5, rfl, ?_⟩)
    have : is.drop p = [] := List.drop_of_length_le (by omega)
    rw [this]
    show c ∈ addAll [] kept ↔ _
    rw [mem_addAll]
    simp
  | m + 1, p, x5, hp, hf => by
    have hlt : p < is.length := by omega
    have hd : is.drop p = is[p] :: is.drop (p + 1) := List.drop_eq_getElem_cons hlt
    have hgi : is[p]? = some is[p] := List.getElem?_eq_getElem hlt
    generalize is[p] = i at *
    rw [hd] at hf ⊢
    have hf0 : fl[p]? = some (hasW i.W (backB (is.drop (p + 1)) kept).2) := by
      have := congrArg (·[0]?) hf
      simpa [flagsOf] using this
    have hf1 : fl.drop (p + 1) = flagsOf (is.drop (p + 1)) kept := by
      have := congrArg (·.drop 1) hf
      simpa [flagsOf] using this
    have hci : atI (is.map Ins.d) (p : Nat) = some i.d := atI_map hgi
    have hcf : atI (fl.map PyData.bool) (p : Nat) = some (.bool (hasW i.W (backB (is.drop (p + 1)) kept).2)) := atI_map hf0
    have ih := fun x5 => matters_loop n is fl kept at' c x2 m (p + 1) x5 (by omega) hf1
    rw [rng_succ, backB_cons]
    have hcast : ((p : Nat) : Int) + 1 = ((p + 1 : Nat) : Int) := by omega
    rw [hcast]
    unfold forL
    simp only [asg, List.not_mem_nil, if_false, icI, Bool.and_false, List.set_cons_succ, List.set_cons_zero]
    generalize hB : backB (is.drop (p + 1)) kept = B at *
    cases hc : hasW i.W B.2 with
    | false =>
      have hs : stepB B i = B := by unfold stepB; rw [hc]; rfl
      rw [hs]
      have hb : evSs ⟨callN prog (n + 1), prog.io, prog.gl, prog.wN⟩ [] b__law_matters_0 [some (false, .list (is.map Ins.d)), some (false, .list (fl.map .bool)), x2, some (false, .int (c : Nat)), some (false, .tuple (natD kept)), some (false, .int (p : Nat))] = .nx [some (false, .list (is.map Ins.d)), some (false, .list (fl.map .bool)), x2, some (false, .int (c : Nat)), some (false, .tuple (natD kept)), some (false, .int (p : Nat))] := by
        simp only [b__law_matters_0]
        repeat (rw [evSs_c]; simp [evS, evE, evT, evEs, evO, evC, evI, evIo, evSs_n, asg, asgs, frz1, own?, ixN_nat, outs, ofI, divS, hci, hcf, hc])
      rw [hb]
      exact ih _
    | true =>
      have hs : stepB B i = (B.1 ++ [i], addAll (popAll B.2 i.W) i.R) := by unfold stepB; rw [hc]; rfl
      rw [hs]
      simp only [mem_addAll, mem_popAll]
      by_cases h1 : c ∈ i.R
      · left
        have hb : ∃ τ', evSs ⟨callN prog (n + 1), prog.io, prog.gl, prog.wN⟩ [] b__law_matters_0 [some (false, .list (is.map Ins.d)), some (false, .list (fl.map .bool)), x2, some (false, .int (c : Nat)), some (false, .tuple (natD kept)), some (false, .int (p : Nat))] = .ret τ' (.bool true) := by
          simp only [b__law_matters_0]
          repeat (rw [evSs_c]; simp [evS, evE, evT, evEs, evO, evC, evI, evIo, evSs_n, asg, asgs, frz1, own?, ixN_nat, outs, ofI, divS, hci, hcf, hc, io_16, lreads_ok n, h1])
        obtain ⟨τ', hb⟩ := hb
        rw [hb]
        exact ⟨_, rfl, .inr h1⟩
      · by_cases h2 : c ∈ i.W
        · right; left
          have hb : ∃ τ', evSs ⟨callN prog (n + 1), prog.io, prog.gl, prog.wN⟩ [] b__law_matters_0 [some (false, .list (is.map Ins.d)), some (false, .list (fl.map .bool)), x2, some (false, .int (c : Nat)), some (false, .tuple (natD kept)), some (false, .int (p : Nat))] = .ret τ' (.bool false) := by
            simp only [b__law_matters_0]
            repeat (rw [evSs_c]; simp [evS, evE, evT, evEs, evO, evC, evI, evIo, evSs_n, asg, asgs, frz1, own?, ixN_nat, outs, ofI, divS, hci, hcf, hc, io_15, io_16, lreads_ok n, lwritten_ok n, h1, h2])
          obtain ⟨τ', hb⟩ := hb
          rw [hb]
          exact ⟨_, rfl, fun z => z.elim (fun z => z.2 h2) h1⟩
        · have hb : evSs ⟨callN prog (n + 1), prog.io, prog.gl, prog.wN⟩ [] b__law_matters_0 [some (false, .list (is.map Ins.d)), some (false, .list (fl.map .bool)), x2, some (false, .int (c : Nat)), some (false, .tuple (natD kept)), some (false, .int (p : Nat))] = .nx [some (false, .list (is.map Ins.d)), some (false, .list (fl.map .bool)), x2, some (false, .int (c : Nat)), some (false, .tuple (natD kept)), some (false, .int (p : Nat))] := by
            simp only [b__law_matters_0]
            repeat (rw [evSs_c]; simp [evS, evE, evT, evEs, evO, evC, evI, evIo, evSs_n, asg, asgs, frz1, own?, ixN_nat, outs, ofI, divS, hci, hcf, hc, io_15, io_16, lreads_ok n, lwritten_ok n, h1, h2])
          rw [hb]
          have hm : (c ∈ B.2 ∧ c ∉ i.W ∨ c ∈ i.R) ↔ c ∈ B.2 := by simp [h1, h2]
          rw [hm]
          exact ih _
end Mp

namespace Mp
open PySem PySem.Spec PyProof.Rows L2
theorem hA (g : G) (is : List Ins) (x y z w : Option (Bool × D)) (a : Nat) : evE g (.bin .Add (.v 2) (.k (.int 1))) [some (false, .list (is.map Ins.d)), x, some (false, .int (a : Nat)), y, z, w] = .ok (.int ((a : Int) + 1), []) := by
  simp [evE]
theorem hB (g : G) (is : List Ins) (x y z w : Option (Bool × D)) (a : Nat) : evE g (.bi .len (.cons (.v 0) .nil)) [some (false, .list (is.map Ins.d)), x, some (false, .int (a : Nat)), y, z, w] = .ok (.int (is.length : Nat), []) := by
  simp [evE, evEs]
theorem hC (a n : Nat) (h : a < n) (h2 : n ≤ 1000) : rngR ((a : Int) + 1) (n : Nat) = .ok (rngL ((a : Int) + 1) (n - (a + 1)), []) := by
  have := rng2 (a := a + 1) (n := n) (by omega) (by omega)
  rw [show ((a + 1 : Nat) : Int) = (a : Int) + 1 by omega] at this
  exact this
theorem hD (g : G) (is : List Ins) (x y z w : Option (Bool × D)) (a : Nat) (h : a < is.length) (h2 : is.length ≤ 1000) : evI g (.r2 (.bin .Add (.v 2) (.k (.int 1))) (.bi .len (.cons (.v 0) .nil))) [some (false, .list (is.map Ins.d)), x, some (false, .int (a : Nat)), y, z, w] = .ok (rngL ((a : Int) + 1) (is.length - (a + 1)), []) := by
  rw [r2_ok (hA g is x y z w a) (hB g is x y z w a)]
  exact hC a is.length h h2
theorem hE (g : G) (is : List Ins) (x y z w : Option (Bool × D)) (a : Nat) (RL : List D) (o : Tau) (hI : evI g (.r2 (.bin .Add (.v 2) (.k (.int 1))) (.bi .len (.cons (.v 0) .nil))) [some (false, .list (is.map Ins.d)), x, some (false, .int (a : Nat)), y, z, w] = .ok (RL, []))
   (h : forL [] (.n 5) (evSs g [] b__law_matters_0) RL [some (false, .list (is.map Ins.d)), x, some (false, .int (a : Nat)), y, z, w] = .ret o (.bool true)) : evSs g [] b__law_matters [some (false, .list (is.map Ins.d)), x, some (false, .int (a : Nat)), y, z, w] = .ret o (.bool true) := by
  simp only [b__law_matters]
  repeat (rw [evSs_c]; simp [evS, evE, evT, evEs, evO, evC, evIo, evSs_n, asg, asgs, frz1, own?, ixN_nat, outs, ofI, divS, hI, h])
theorem hF (g : G) (is : List Ins) (x w : Option (Bool × D)) (a c : Nat) (kept : List Nat) (RL : List D) (y5 : Option (Bool × D)) (hI : evI g (.r2 (.bin .Add (.v 2) (.k (.int 1))) (.bi .len (.cons (.v 0) .nil))) [some (false, .list (is.map Ins.d)), x, some (false, .int (a : Nat)), some (false, .int (c : Nat)), some (false, .tuple (natD kept)), w] = .ok (RL, []))
   (h : forL [] (.n 5) (evSs g [] b__law_matters_0) RL [some (false, .list (is.map Ins.d)), x, some (false, .int (a : Nat)), some (false, .int (c : Nat)), some (false, .tuple (natD kept)), w] = .nx [some (false, .list (is.map Ins.d)), x, some (false, .int (a : Nat)), some (false, .int (c : Nat)), some (false, .tuple (natD kept)), y5]) :
    ∃ o, evSs g [] b__law_matters [some (false, .list (is.map Ins.d)), x, some (false, .int (a : Nat)), some (false, .int (c : Nat)), some (false, .tuple (natD kept)), w] = .ret o (.bool (decide (c ∈ kept))) := by
  simp only [b__law_matters]
  repeat (rw [evSs_c]; simp [evS, evE, evT, evEs, evO, evC, evIo, evSs_n, asg, asgs, frz1, own?, ixN_nat, outs, ofI, divS, hI, h])
theorem hE' (g : G) (is : List Ins) (x y z w : Option (Bool × D)) (a : Nat) (RL : List D) (o : Tau) (b : Bool) (hI : evI g (.r2 (.bin .Add (.v 2) (.k (.int 1))) (.bi .len (.cons (.v 0) .nil))) [some (false, .list (is.map Ins.d)), x, some (false, .int (a : Nat)), y, z, w] = .ok (RL, []))
   (h : forL [] (.n 5) (evSs g [] b__law_matters_0) RL [some (false, .list (is.map Ins.d)), x, some (false, .int (a : Nat)), y, z, w] = .ret o (.bool b)) : evSs g [] b__law_matters [some (false, .list (is.map Ins.d)), x, some (false, .int (a : Nat)), y, z, w] = .ret o (.bool b) := by
  simp only [b__law_matters]
  repeat (rw [evSs_c]; simp [evS, evE, evT, evEs, evO, evC, evIo, evSs_n, asg, asgs, frz1, own?, ixN_nat, outs, ofI, divS, hI, h])
theorem matters_go (n : Nat) (ds : List D) (o : Tau) (d : D) (hl : ds.length = 5) (h : evSs ⟨callN prog n, prog.io, prog.gl, prog.wN⟩ [] b__law_matters (startT F__law_matters ds) = .ret o d) : callN prog (n + 1) 17 ds = .ok (d, []) := by
  rw [callN_succ (F := F__law_matters) rfl, runF_eq _ _ _ hl]
  have h : evSs ⟨callN prog n, prog.io, prog.gl, prog.wN⟩ F__law_matters.io F__law_matters.body (startT F__law_matters ds) = .ret o d := h
  rw [h]
  rfl
theorem matters_ok (n : Nat) (is : List Ins) (fl : List Bool) (kept : List Nat) (a c : Nat) (ha : a < is.length) (hl : is.length ≤ 1000) (hf : fl.drop (a + 1) = flagsOf (is.drop (a + 1)) kept) :
    callN prog (n + 2) 17 [.list (is.map Ins.d), .list (fl.map .bool), .int (a : Nat), .int (c : Nat), .tuple (natD kept)] = .ok (.bool (decide (c ∈ (backB (is.drop (a + 1)) kept).2)), []) := by
  have h := matters_loop n is fl kept a c (some (false, .int (a : Nat))) (is.length - (a + 1)) (a + 1) none (by omega) hf
  rw [show ((a + 1 : Nat) : Int) = (a : Int) + 1 by omega] at h
  have hI := fun x y z w g => hD g is x y z w a ha hl
  generalize rngL ((a : Int) + 1) (is.length - (a + 1)) = RL at *
  rcases h with ⟨τ', h, hm⟩ | ⟨τ', h, hm⟩ | ⟨y5, h, hm⟩
  · rw [decide_eq_true hm]
    exact matters_go (n + 1) _ _ _ rfl (hE' _ is _ _ _ _ a RL _ true (hI _ _ _ _ _) h)
  · rw [decide_eq_false hm]
    exact matters_go (n + 1) _ _ _ rfl (hE' _ is _ _ _ _ a RL _ false (hI _ _ _ _ _) h)
  · obtain ⟨o, ho⟩ := hF _ is _ _ a c kept RL _ (hI _ _ _ _ _) h
    rw [decide_eq_decide.mpr hm]
    exact matters_go (n + 1) _ _ _ rfl ho
theorem inner_t (g : G) (C kt : D) (L : List D) (x3 x4 x7 : Option (Bool × D)) (a c : Nat) (hio : g.io 17 = []) (h : g.cf 17 [C, .list L, .int (a : Nat), .int (c : Nat), kt] = .ok (.bool true, [])) (hl : a < L.length) :
    evSs g [] b__law_lean_1 [some (false, C), some (false, kt), some (true, .list L), x3, x4, some (false, .int (a : Nat)), some (false, .int (c : Nat)), x7] = .nx [some (false, C), some (false, kt), some (true, .list (L.set a (.bool true))), x3, x4, some (false, .int (a : Nat)), some (false, .int (c : Nat)), x7] := by
  simp only [b__law_lean_1]
  repeat (rw [evSs_c]; simp [evS, evE, evT, evEs, evO, evC, evI, evIo, evSs_n, asg, asgs, frz1, own?, ixN_nat, outs, ofI, divS, hio, h, hl])
theorem inner_f (g : G) (C kt : D) (L : List D) (x3 x4 x7 : Option (Bool × D)) (a c : Nat) (hio : g.io 17 = []) (h : g.cf 17 [C, .list L, .int (a : Nat), .int (c : Nat), kt] = .ok (.bool false, [])) :
    evSs g [] b__law_lean_1 [some (false, C), some (false, kt), some (true, .list L), x3, x4, some (false, .int (a : Nat)), some (false, .int (c : Nat)), x7] = .nx [some (false, C), some (false, kt), some (true, .list L), x3, x4, some (false, .int (a : Nat)), some (false, .int (c : Nat)), x7] := by
  simp only [b__law_lean_1]
  repeat (rw [evSs_c]; simp [evS, evE, evT, evEs, evO, evC, evI, evIo, evSs_n, asg, asgs, frz1, own?, ixN_nat, outs, ofI, divS, hio, h])
theorem forL_cons {io : List Nat} {i : Nat} {body : Tau → Out} {d : D} {ds : List D} {τ τ2 : Tau} (hi : i ∉ io) (h : body (τ.set i (some (false, d))) = .nx τ2) : forL io (.n i) body (d :: ds) τ = forL io (.n i) body ds τ2 := by
  conv => lhs; unfold forL
  simp only [asg, hi, if_false, Bool.false_and]
  rw [h]
def LS (is : List Ins) (kept : List Nat) (pre : List Bool) (a : Nat) (b : Bool) : List D := (pre ++ b :: flagsOf (is.drop (a + 1)) kept).map .bool
theorem LS_set (is : List Ins) (kept : List Nat) (pre : List Bool) (a : Nat) (b : Bool) (h : pre.length = a) : (LS is kept pre a b).set a (.bool true) = LS is kept pre a true := by
  unfold LS
  rw [List.map_append, List.map_append, List.set_append_right _ _ (by simp; omega)]
  simp [h]
theorem LS_len (is : List Ins) (kept : List Nat) (pre : List Bool) (a : Nat) (b : Bool) (h : pre.length = a) : a < (LS is kept pre a b).length := by
  unfold LS; simp; omega
theorem LS_call (n : Nat) (is : List Ins) (kept : List Nat) (pre : List Bool) (a c : Nat) (b : Bool) (ha : a < is.length) (hl : is.length ≤ 1000) (h : pre.length = a) :
    callN prog (n + 2) 17 [.list (is.map Ins.d), .list (LS is kept pre a b), .int (a : Nat), .int (c : Nat), .tuple (natD kept)] = .ok (.bool (decide (c ∈ (backB (is.drop (a + 1)) kept).2)), []) := by
  refine matters_ok n is _ kept a c ha hl ?_
  rw [List.drop_append, List.drop_of_length_le (by omega), h]
  simp
theorem lean_inner (g : G) (hio : g.io 17 = []) (is : List Ins) (pre : List Bool) (kept : List Nat) (a : Nat) (hpre : pre.length = a)
    (hg : ∀ c b, g.cf 17 [.list (is.map Ins.d), .list (LS is kept pre a b), .int (a : Nat), .int (c : Nat), .tuple (natD kept)] = .ok (.bool (decide (c ∈ (backB (is.drop (a + 1)) kept).2)), [])) (x3 x4 x7 : Option (Bool × D)) : ∀ (W : List Nat) (b : Bool) (x6 : Option (Bool × D)),
    ∃ y6, forL [] (.n 6) (evSs g [] b__law_lean_1) (natD W) [some (false, .list (is.map Ins.d)), some (false, .tuple (natD kept)), some (true, .list (LS is kept pre a b)), x3, x4, some (false, .int (a : Nat)), x6, x7] =
      .nx [some (false, .list (is.map Ins.d)), some (false, .tuple (natD kept)), some (true, .list (LS is kept pre a (b || hasW W (backB (is.drop (a + 1)) kept).2))), x3, x4, some (false, .int (a : Nat)), y6, x7]
  | [], b, x6 => ⟨x6, by simp [natD, forL, hasW]⟩
  | c :: W, b, x6 => by
    have hm := hg c b
    by_cases hc : c ∈ (backB (is.drop (a + 1)) kept).2
    · rw [decide_eq_true hc] at hm
      obtain ⟨y6, ih⟩ := lean_inner g hio is pre kept a hpre hg x3 x4 x7 W true (some (false, .int (c : Nat)))
      refine ⟨y6, ?_⟩
      have hh : hasW (c :: W) (backB (is.drop (a + 1)) kept).2 = true := by simp [hasW, hc]
      have hb := inner_t g _ _ (LS is kept pre a b) x3 x4 x7 a c hio hm (LS_len is kept pre a b hpre)
      rw [LS_set _ _ _ _ _ hpre] at hb
      rw [hh]
      show forL [] (.n 6) _ (.int (c : Nat) :: natD W) _ = _
      rw [forL_cons (by simp) hb, ih]
      simp
    · rw [decide_eq_false hc] at hm
      obtain ⟨y6, ih⟩ := lean_inner g hio is pre kept a hpre hg x3 x4 x7 W b (some (false, .int (c : Nat)))
      refine ⟨y6, ?_⟩
      have hh : hasW (c :: W) (backB (is.drop (a + 1)) kept).2 = hasW W (backB (is.drop (a + 1)) kept).2 := by simp [hasW, hc]
      have hb := inner_f g _ _ (LS is kept pre a b) x3 x4 x7 a c hio hm
      rw [hh]
      show forL [] (.n 6) _ (.int (c : Nat) :: natD W) _ = _
      rw [forL_cons (by simp) hb, ih]
theorem leanL_cons (i : Ins) (r : List Ins) (kept : List Nat) : leanL (i :: r) kept = if hasW i.W (backB r kept).2 = true then i :: leanL r kept else leanL r kept := by
  unfold leanL
  rw [backB_cons]
  unfold stepB
  split
  · simp
  · rfl
/-- what stays, by the flags -/
theorem pick_flags : ∀ (is : List Ins) (kept : List Nat), (((List.range is.length).filter fun k => (flagsOf is kept).getD k false).map fun k => (is.map Ins.d).getD k .none) = (leanL is kept).map Ins.d
  | [], _ => rfl
  | i :: r, kept => by
    have ih := pick_flags r kept
    rw [leanL_cons, List.length_cons, List.range_succ_eq_map, List.filter_cons, List.filter_map]
    have e1 : ((fun k => (flagsOf (i :: r) kept).getD k false) ∘ Nat.succ) = fun k => (flagsOf r kept).getD k false := by
      funext k; rfl
    rw [e1]
    have e2 : (flagsOf (i :: r) kept).getD 0 false = hasW i.W (backB r kept).2 := rfl
    rw [e2]
    split
    · rw [List.map_cons, List.map_map, List.map_cons (f := Ins.d) (a := i) (l := leanL r kept), ← ih]
      rfl
    · rw [List.map_map, ← ih]
      rfl
end Mp

namespace Mp
open PySem PySem.Spec PyProof.Rows L2
theorem call_go {n f : Nat} {F : Fn} {ds : List D} {τ0 τ : Tau} {d : D} (hF : prog.fs[f]? = some F) (hl : ds.length = F.nps) (hio : F.io = []) (ht : startT F ds = τ0) (h : evSs ⟨callN prog n, prog.io, prog.gl, prog.wN⟩ [] F.body τ0 = .ret τ d) : callN prog (n + 1) f ds = .ok (d, []) := by
  rw [callN_succ hF, runF_eq _ _ _ hl, hio, ht, h]; rfl
theorem outer_t (g : G) (Cl : List D) (kt : D) (L L' : List D) (x3 x5 x6 x7 y6 : Option (Bool × D)) (j a : Nat) (i : Ins) (hio : g.io 15 = []) (h : g.cf 15 [i.d] = .ok (.list (natD i.W), [])) (he : ((Cl.length : Nat) : Int) - 1 - (j : Nat) = (a : Nat)) (hi : atI Cl (a : Nat) = some i.d)
    (hf : forL [] (.n 6) (evSs g [] b__law_lean_1) (natD i.W) [some (false, .list Cl), some (false, kt), some (true, .list L), x3, some (false, .int (j : Nat)), some (false, .int (a : Nat)), x6, x7] = .nx [some (false, .list Cl), some (false, kt), some (true, .list L'), x3, some (false, .int (j : Nat)), some (false, .int (a : Nat)), y6, x7]) :
    evSs g [] b__law_lean_0 [some (false, .list Cl), some (false, kt), some (true, .list L), x3, some (false, .int (j : Nat)), x5, x6, x7] = .nx [some (false, .list Cl), some (false, kt), some (true, .list L'), x3, some (false, .int (j : Nat)), some (false, .int (a : Nat)), y6, x7] := by
  simp only [b__law_lean_0]
  repeat (rw [evSs_c]; simp [evS, evE, evT, evEs, evO, evC, evI, evIo, evSs_n, asg, asgs, frz1, own?, ixN_nat, outs, ofI, divS, hio, h, he, hi, hf])
theorem outer_loop (g : G) (is : List Ins) (kept : List Nat) (hio : g.io 15 = []) (hio2 : g.io 17 = []) (h15 : ∀ i : Ins, g.cf 15 [i.d] = .ok (.list (natD i.W), []))
    (h17 : ∀ (pre : List Bool) (a c : Nat) (b : Bool), a < is.length → pre.length = a → g.cf 17 [.list (is.map Ins.d), .list (LS is kept pre a b), .int (a : Nat), .int (c : Nat), .tuple (natD kept)] = .ok (.bool (decide (c ∈ (backB (is.drop (a + 1)) kept).2)), [])) (x3 : Option (Bool × D)) :
    ∃ x4 x5 x6 x7, forL [] (.n 4) (evSs g [] b__law_lean_0) (rngL 0 is.length) [some (false, .list (is.map Ins.d)), some (false, .tuple (natD kept)), some (true, .list ((List.replicate is.length false).map .bool)), x3, none, none, none, none] =
      .nx [some (false, .list (is.map Ins.d)), some (false, .tuple (natD kept)), some (true, .list ((flagsOf is kept).map .bool)), x3, x4, x5, x6, x7] := by
  obtain ⟨τ, e, x4, x5, x6, x7, rfl⟩ := forL_to (io := []) (t := .n 4) (body := evSs g [] b__law_lean_0)
    (fun j τ => ∃ x4 x5 x6 x7, τ = [some (false, .list (is.map Ins.d)), some (false, .tuple (natD kept)), some (true, .list ((List.replicate (is.length - j) false ++ flagsOf (is.drop (is.length - j)) kept).map .bool)), x3, x4, x5, x6, x7])
    (rngL 0 is.length) 0 [some (false, .list (is.map Ins.d)), some (false, .tuple (natD kept)), some (true, .list ((List.replicate is.length false).map .bool)), x3, none, none, none, none]
    ⟨none, none, none, none, by
      have : is.drop (is.length - 0) = [] := List.drop_of_length_le (by omega)
      rw [this]; simp [flagsOf]⟩ fun j d τ hd hP => by
      obtain ⟨x4, x5, x6, x7, rfl⟩ := hP
      unfold rngL at hd
      rw [List.getElem?_map] at hd
      obtain ⟨j', hj, rfl⟩ := Option.map_eq_some_iff.mp hd
      obtain ⟨hlt, he⟩ := List.getElem?_eq_some_iff.mp hj
      rw [List.length_range] at hlt
      rw [List.getElem_range] at he
      subst he
      rw [Nat.zero_add]
      rw [show (0 : Int) + (j : Nat) = (j : Nat) by omega]
      have ha : is.length - 1 - j < is.length := by omega
      generalize hA : is.length - 1 - j = a at *
      have e1 : is.length - j = a + 1 := by omega
      have e2 : is.length - (j + 1) = a := by omega
      rw [e1, e2]
      have hpre : (List.replicate a false).length = a := by simp
      have hL : (List.replicate (a + 1) false ++ flagsOf (is.drop (a + 1)) kept).map PyData.bool = LS is kept (List.replicate a false) a false := by
        unfold LS
        rw [List.replicate_succ', List.append_assoc]; rfl
      have hdr : is.drop a = is[a] :: is.drop (a + 1) := List.drop_eq_getElem_cons ha
      obtain ⟨y6, hin⟩ := lean_inner g hio2 is (List.replicate a false) kept a hpre (fun c b => h17 _ a c b ha hpre) x3 (some (false, .int (j : Nat))) x7 is[a].W false x6
      have hL2 : LS is kept (List.replicate a false) a (false || hasW is[a].W (backB (is.drop (a + 1)) kept).2) = (List.replicate a false ++ flagsOf (is.drop a) kept).map PyData.bool := by
        unfold LS
        rw [hdr, Bool.false_or]; rfl
      rw [hL2] at hin
      rw [hL]
      exact ⟨_, rfl, _, .inl (outer_t g _ _ _ _ x3 x5 x6 x7 y6 j a is[a] hio (h15 _) (by simp; omega) (atI_map (List.getElem?_eq_getElem ha)) hin), _, _, _, _, rfl⟩
  have hn : (rngL 0 is.length).length = is.length := by simp [rngL]
  rw [Nat.zero_add, hn, Nat.sub_self] at e
  exact ⟨x4, x5, x6, x7, e⟩
theorem falses (g : G) (Cl : List D) (τw : Tau) : compL (evE g (.k (.bool false))) (evC g .no) (.n 3) [3] τw Cl = .ok ((List.replicate Cl.length false).map .bool, []) := by
  have := compL_eq (elt := evE g (.k (.bool false))) (cond := evC g .no) (t := .n 3) (own := [3]) (τw := τw) (g := fun x : D => x) (f := fun _ => .bool false) (p := fun _ => true) Cl fun x _ => ⟨_, rfl, by simp [evC], fun _ => by simp [evE]⟩
  rw [filter_tt, List.map_id'] at this
  rw [this]
  congr 1
  congr 1
  clear this
  induction Cl with
  | nil => rfl
  | cons a l ih => rw [List.map_cons, List.length_cons, List.replicate_succ, List.map_cons, ih]
theorem picks (g : G) (Cl : List D) (fl : List Bool) (hl : fl.length = Cl.length) (x1 x3 x4 x5 x6 x7 : Option (Bool × D)) :
    compL (evE g (.sub (.v 0) (.v 7))) (evC g (.yes (.sub (.v 2) (.v 7)))) (.n 7) [7] (wipeT [some (false, .list Cl), x1, some (true, .list (fl.map .bool)), x3, x4, x5, x6, x7] [7]) (rngL 0 Cl.length) =
      .ok (((List.range Cl.length).filter fun k => fl.getD k false).map fun k => Cl.getD k .none, []) := by
  have := compL_eq (elt := evE g (.sub (.v 0) (.v 7))) (cond := evC g (.yes (.sub (.v 2) (.v 7)))) (t := .n 7) (own := [7]) (τw := wipeT [some (false, .list Cl), x1, some (true, .list (fl.map .bool)), x3, x4, x5, x6, x7] [7])
    (g := fun k : Nat => PyData.int (k : Nat)) (f := fun k => Cl.getD k .none) (p := fun k => fl.getD k false) (List.range Cl.length) fun k hk => by
      have hk : k < Cl.length := List.mem_range.mp hk
      have h1 : atI Cl (k : Nat) = some (Cl.getD k .none) := atI_some (by rw [List.getElem?_eq_getElem hk, List.getD_eq_getElem?_getD, List.getElem?_eq_getElem hk]; rfl)
      have hk2 : k < fl.length := by omega
      have h2 : atI (fl.map PyData.bool) (k : Nat) = some (.bool (fl.getD k false)) := atI_map (by rw [List.getElem?_eq_getElem hk2, List.getD_eq_getElem?_getD, List.getElem?_eq_getElem hk2]; rfl)
      generalize Cl.getD k .none = v at *
      generalize fl.getD k false = b at *
      exact ⟨_, rfl, by simp [evC, evT, evE, wipeT, h2], fun _ => by simp [evE, wipeT, h1]⟩
  have hr : rngL 0 Cl.length = (List.range Cl.length).map fun k : Nat => PyData.int (k : Nat) := by
    unfold rngL
    apply List.map_congr_left
    intro k _
    rw [show (0 : Int) + (k : Nat) = (k : Nat) by omega]
  rw [hr]
  exact this
theorem llean_ok (n : Nat) (is : List Ins) (kept : List Nat) (hl : is.length ≤ 1000) :
    callN prog (n + 3) 18 [.list (is.map Ins.d), .tuple (natD kept)] = .ok (.tuple ((leanL is kept).map Ins.d), []) := by
  have key : ∀ g : G, g.io 15 = [] → g.io 17 = [] → (∀ i : Ins, g.cf 15 [i.d] = .ok (.list (natD i.W), [])) → (∀ (pre : List Bool) (a c : Nat) (b : Bool), a < is.length → pre.length = a → g.cf 17 [.list (is.map Ins.d), .list (LS is kept pre a b), .int (a : Nat), .int (c : Nat), .tuple (natD kept)] = .ok (.bool (decide (c ∈ (backB (is.drop (a + 1)) kept).2)), [])) →
      ∃ τ, evSs g [] b__law_lean [some (false, .list (is.map Ins.d)), some (false, .tuple (natD kept)), none, none, none, none, none, none] = .ret τ (.tuple ((leanL is kept).map Ins.d)) := fun g h1 h2 h3 h4 => by
    obtain ⟨x4, x5, x6, x7, hloop⟩ := outer_loop g is kept h1 h2 h3 h4 none
    have hf := falses g (is.map Ins.d) (wipeT [some (false, .list (is.map Ins.d)), some (false, .tuple (natD kept)), none, none, none, none, none, none] [3])
    have hp := picks g (is.map Ins.d) (flagsOf is kept) (by rw [flags_length, List.length_map]) (some (false, .tuple (natD kept))) none x4 x5 x6 x7
    rw [List.length_map] at hf hp
    rw [pick_flags] at hp
    have hr : rngR1 (is.length : Nat) = .ok (rngL 0 is.length, []) := rng1 (by omega)
    have hz : is.length ≤ sizeLine := szs (by omega)
    have hz2 : (rngL 0 is.length).length ≤ sizeLine := by simp [rngL, hz]
    have s1 : evS g [] (.set (.n 2) (.comp (.k (.bool false)) (.n 3) (.it (.v 0)) .no [3])) [some (false, .list (is.map Ins.d)), some (false, .tuple (natD kept)), none, none, none, none, none, none] = .nx [some (false, .list (is.map Ins.d)), some (false, .tuple (natD kept)), some (true, .list ((List.replicate is.length false).map .bool)), none, none, none, none, none] := by
      unfold evS
      have he : evE g (.comp (.k (.bool false)) (.n 3) (.it (.v 0)) .no [3]) [some (false, .list (is.map Ins.d)), some (false, .tuple (natD kept)), none, none, none, none, none, none] = .ok (.list ((List.replicate is.length false).map .bool), []) := by
        conv => lhs; unfold evE
        have hi : evI g (.it (.v 0)) [some (false, .list (is.map Ins.d)), some (false, .tuple (natD kept)), none, none, none, none, none, none] = .ok (is.map Ins.d, []) := by simp [evI, evE]
        rw [hi]
        simp only [R.bind_ok, List.length_map, hz, if_true, lkI_it, lkE_v', frz_nil]
        rw [hf]; rfl
      rw [he]
      simp [asg]
    have s2 : evS g [] (.forS (.n 4) (.r1 (.bi .len (.cons (.v 0) .nil))) b__law_lean_0) [some (false, .list (is.map Ins.d)), some (false, .tuple (natD kept)), some (true, .list ((List.replicate is.length false).map .bool)), none, none, none, none, none] = .nx [some (false, .list (is.map Ins.d)), some (false, .tuple (natD kept)), some (true, .list ((flagsOf is kept).map .bool)), none, x4, x5, x6, x7] := by
      unfold evS
      rw [(r1_ok (i := (is.length : Nat)) (L := []) (by simp [evE, evEs])).trans hr]
      exact hloop
    have s3 : evS g [] (.ret (.bi .tuple (.cons (.comp (.sub (.v 0) (.v 7)) (.n 7) (.r1 (.bi .len (.cons (.v 0) .nil))) (.yes (.sub (.v 2) (.v 7))) [7]) .nil))) [some (false, .list (is.map Ins.d)), some (false, .tuple (natD kept)), some (true, .list ((flagsOf is kept).map .bool)), none, x4, x5, x6, x7] = .ret [some (false, .list (is.map Ins.d)), some (false, .tuple (natD kept)), some (true, .list ((flagsOf is kept).map .bool)), none, x4, x5, x6, x7] (.tuple ((leanL is kept).map Ins.d)) := by
      have he : evE g (.comp (.sub (.v 0) (.v 7)) (.n 7) (.r1 (.bi .len (.cons (.v 0) .nil))) (.yes (.sub (.v 2) (.v 7))) [7]) [some (false, .list (is.map Ins.d)), some (false, .tuple (natD kept)), some (true, .list ((flagsOf is kept).map .bool)), none, x4, x5, x6, x7] = .ok (.list ((leanL is kept).map Ins.d), []) := by
        conv => lhs; unfold evE
        rw [(r1_ok (i := (is.length : Nat)) (L := []) (by simp [evE, evEs])).trans hr]
        simp only [R.bind_ok, hz2, if_true, lkI_r1, frz_nil]
        rw [hp]; rfl
      unfold evS
      have hb : evE g (.bi .tuple (.cons (.comp (.sub (.v 0) (.v 7)) (.n 7) (.r1 (.bi .len (.cons (.v 0) .nil))) (.yes (.sub (.v 2) (.v 7))) [7]) .nil)) [some (false, .list (is.map Ins.d)), some (false, .tuple (natD kept)), some (true, .list ((flagsOf is kept).map .bool)), none, x4, x5, x6, x7] = .ok (.tuple ((leanL is kept).map Ins.d), []) := by
        conv => lhs; unfold evE
        unfold evEs
        rw [he]
        unfold evEs
        simp
      rw [hb]
      simp
    refine ⟨[some (false, .list (is.map Ins.d)), some (false, .tuple (natD kept)), some (true, .list ((flagsOf is kept).map .bool)), none, x4, x5, x6, x7], ?_⟩
    simp only [b__law_lean]
    rw [evSs_c, s1, Out.seq_nx, evSs_c, s2, Out.seq_nx, evSs_c, s3]
    rfl
  have h15 : ∀ i : Ins, callN prog (n + 2) 15 [i.d] = .ok (.list (natD i.W), []) := fun i => by
    rw [show n + 2 = (n + 1) + 1 from rfl]
    exact lwritten_ok (n + 1) i
  have h17 : ∀ (pre : List Bool) (a c : Nat) (b : Bool), a < is.length → pre.length = a → callN prog (n + 2) 17 [.list (is.map Ins.d), .list (LS is kept pre a b), .int (a : Nat), .int (c : Nat), .tuple (natD kept)] = .ok (.bool (decide (c ∈ (backB (is.drop (a + 1)) kept).2)), []) := fun pre a c b ha hp => LS_call n is kept pre a c b ha hl hp
  generalize hcf : callN prog (n + 2) = cf at h15 h17
  obtain ⟨τ, h⟩ := key ⟨cf, prog.io, prog.gl, prog.wN⟩ io_15 io_17 h15 h17
  rw [← hcf] at h
  rw [show n + 3 = (n + 2) + 1 from rfl]
  exact call_go (F := F__law_lean) rfl rfl rfl rfl h
end Mp

namespace Mp
open PySem PySem.Spec PyProof.Rows L2
theorem mulR {i j : Int} (h : -(2 ^ 64) < j ∧ j < 2 ^ 64) : mulOk i j = true := by
  unfold mulOk
  rw [decide_eq_true h]
  simp
theorem mulL {i j : Int} (h : -(2 ^ 64) < i ∧ i < 2 ^ 64) : mulOk i j = true := by
  unfold mulOk
  rw [decide_eq_true h]
  simp
theorem cell_ok (n : Nat) (ns : List Int) (p : Int) : ∃ c : Int, callN prog (n + 1) 8 [.list (ns.map .int), .int p] = .ok (.int c, []) := by
  by_cases h : ns = []
  · subst h
    refine ⟨0, ?_⟩
    rw [callN_succ (F := F__law_cell) rfl, runF_eq _ _ _ rfl]; simp only [F__law_cell, b__law_cell, startT, mark, List.replicate, List.cons_append, List.nil_append, List.contains_cons, List.contains_nil, icL, icT, icI, icS, icB, icN, Nat.reduceBEq, Nat.reduceSub, Nat.reduceAdd, Bool.true_and, Bool.false_and, Bool.or_false, beq_self_eq_true]; repeat (rw [evSs_c]; simp [evS, evE, evT, evEs, evO, evC, evI, evIo, evSs_n, asg, asgs, frz1, own?, ixN_nat, outs, ofI, divS])
  · have hl : 0 < ns.length := List.length_pos_iff.mpr h
    have h1 : (0 : Int) < (ns.length : Nat) := by omega
    have e : p % (ns.length : Nat) = (((p % (ns.length : Nat)).toNat : Nat) : Int) := (Int.toNat_of_nonneg (Int.emod_nonneg _ (by omega))).symm
    have hlt : (p % (ns.length : Nat)).toNat < ns.length := by
      have := Int.emod_lt_of_pos p h1
      omega
    have ha := at_rd (ms := ns) hlt
    generalize (p % (ns.length : Nat)).toNat = j at *
    generalize rd ns j = c at *
    have m1 : mulOk (-2) c = true := mulL (by decide)
    have m2 : mulOk 2 c = true := mulL (by decide)
    by_cases hc : c < 0
    · refine ⟨-2 * c + 1, ?_⟩
      rw [callN_succ (F := F__law_cell) rfl, runF_eq _ _ _ rfl]; simp only [F__law_cell, b__law_cell, startT, mark, List.replicate, List.cons_append, List.nil_append, List.contains_cons, List.contains_nil, icL, icT, icI, icS, icB, icN, Nat.reduceBEq, Nat.reduceSub, Nat.reduceAdd, Bool.true_and, Bool.false_and, Bool.or_false, beq_self_eq_true]; repeat (rw [evSs_c]; simp [evS, evE, evT, evEs, evO, evC, evI, evIo, evSs_n, asg, asgs, frz1, own?, ixN_nat, outs, ofI, divS, h, h1, hl, e, ha, hc, m1, m2])
    · refine ⟨2 * c, ?_⟩
      rw [callN_succ (F := F__law_cell) rfl, runF_eq _ _ _ rfl]; simp only [F__law_cell, b__law_cell, startT, mark, List.replicate, List.cons_append, List.nil_append, List.contains_cons, List.contains_nil, icL, icT, icI, icS, icB, icN, Nat.reduceBEq, Nat.reduceSub, Nat.reduceAdd, Bool.true_and, Bool.false_and, Bool.or_false, beq_self_eq_true]; repeat (rw [evSs_c]; simp [evS, evE, evT, evEs, evO, evC, evI, evIo, evSs_n, asg, asgs, frz1, own?, ixN_nat, outs, ofI, divS, h, h1, hl, e, ha, hc, m1, m2])
theorem row_A (g : G) (x0 x1 x2 x8 : Option (Bool × D)) (limit num : Int) (hl : 0 < limit) (hl2 : limit < 1073741824) (m : Nat) (hm : m ≤ 10000) (rest : Int) :
    ∃ (r : List Int) (y6 y7 : Option (Bool × D)), forL [] (.n 7) (evSs g [] b__law_row_1) (rngL 0 m) [x0, x1, x2, some (false, .int limit), some (false, .int num), some (true, .list []), some (false, .int rest), none, x8] = .nx [x0, x1, x2, some (false, .int limit), some (false, .int num), some (true, .list (r.map .int)), y6, y7, x8] ∧ r.length = m ∧ ∀ x ∈ r, Wd limit x := by
  obtain ⟨τ, e, r, y6, y7, rfl, hr, hw⟩ := forL_to (io := []) (t := .n 7) (body := evSs g [] b__law_row_1)
    (fun j τ => ∃ (r : List Int) (y6 : Int) (y7 : Option (Bool × D)), τ = [x0, x1, x2, some (false, .int limit), some (false, .int num), some (true, .list (r.map .int)), some (false, .int y6), y7, x8] ∧ r.length = j ∧ ∀ x ∈ r, Wd limit x)
    (rngL 0 m) 0 [x0, x1, x2, some (false, .int limit), some (false, .int num), some (true, .list []), some (false, .int rest), none, x8]
    ⟨[], rest, none, rfl, rfl, by simp⟩ fun j d τ hd hP => by
      obtain ⟨r, y6, y7, rfl, hr, hw⟩ := hP
      have hj : j < (rngL 0 m).length := (List.getElem?_eq_some_iff.mp hd).1
      have hjm : j < m := by simpa [rngL] using hj
      unfold rngL at hd
      rw [List.getElem?_map] at hd
      obtain ⟨j', hj', rfl⟩ := Option.map_eq_some_iff.mp hd
      have hz : r.length < sizeLine := szl (by omega)
      refine ⟨_, rfl, ?_⟩
      generalize (0 : Int) + (j' : Nat) = k at *
      by_cases h0 : y6 = 0
      · refine ⟨[x0, x1, x2, some (false, .int limit), some (false, .int num), some (true, .list ((r ++ [(num / 3 + k) % limit]).map .int)), some (false, .int ((num / 3 + k) / limit)), some (false, .int k), x8], .inl ?_, _, _, _, rfl, by simp; omega, ?_⟩
        · simp only [b__law_row_1]
          repeat (rw [evSs_c]; simp [evS, evE, evT, evEs, evO, evC, evI, evIo, evSs_n, asg, asgs, frz1, own?, ixN_nat, outs, ofI, divS, h0, hl, hl2, hz])
        · intro x hx
          rw [List.mem_append, List.mem_singleton] at hx
          rcases hx with hx | rfl
          · exact hw x hx
          · exact mod_wd hl
      · refine ⟨[x0, x1, x2, some (false, .int limit), some (false, .int num), some (true, .list ((r ++ [y6 % limit]).map .int)), some (false, .int (y6 / limit)), some (false, .int k), x8], .inl ?_, _, _, _, rfl, by simp; omega, ?_⟩
        · simp only [b__law_row_1]
          repeat (rw [evSs_c]; simp [evS, evE, evT, evEs, evO, evC, evI, evIo, evSs_n, asg, asgs, frz1, own?, ixN_nat, outs, ofI, divS, h0, hl, hl2, hz])
        · intro x hx
          rw [List.mem_append, List.mem_singleton] at hx
          rcases hx with hx | rfl
          · exact hw x hx
          · exact mod_wd hl
  have hn : (rngL 0 m).length = m := by simp [rngL]
  exact ⟨r, _, y7, e, by omega, hw⟩
def IsI (g : G) (e : E) (τ : Tau) : Prop := ∃ i : Int, evE g e τ = .ok (.int i, [])
section
variable {g : G} {τ : Tau} {a b : E}
theorem IsI.v {i : Nat} {x : Int} (h : τ[i]? = some (some (false, .int x))) : IsI g (.v i) τ := ⟨x, by unfold evE; rw [h]; rfl⟩
theorem IsI.add (ha : IsI g a τ) (hb : IsI g b τ) : IsI g (.bin .Add a b) τ := by
  obtain ⟨i, ha⟩ := ha
  obtain ⟨j, hb⟩ := hb
  refine ⟨i + j, ?_⟩
  conv => lhs; unfold evE
  rw [ha, hb]
  simp only [R.bind_ok, bAdd, lk_I]
theorem IsI.k {j : Int} : IsI g (.k (.int j)) τ := ⟨j, by unfold evE; rfl⟩
theorem IsI.mul {P : Int → Int → Prop} (hP : ∀ i j, P i j → mulOk i j = true) {i j : Int} (ha : evE g a τ = .ok (.int i, [])) (hb : evE g b τ = .ok (.int j, [])) (h : P i j) : IsI g (.bin .Mult a b) τ := by
  refine ⟨i * j, ?_⟩
  conv => lhs; unfold evE
  rw [ha, hb]
  simp only [R.bind_ok, bMul, hP i j h, if_true, lk_I]
theorem IsI.mulK {j : Int} (h : -(2 ^ 64) < j ∧ j < 2 ^ 64) (ha : IsI g a τ) : IsI g (.bin .Mult a (.k (.int j))) τ := by
  obtain ⟨i, ha⟩ := ha
  exact IsI.mul (P := fun _ y => y = j) (fun i y e => by subst e; exact mulR h) ha (by unfold evE; rfl) rfl
theorem IsI.Kmul {j : Int} (h : -(2 ^ 64) < j ∧ j < 2 ^ 64) (ha : IsI g a τ) : IsI g (.bin .Mult (.k (.int j)) a) τ := by
  obtain ⟨i, ha⟩ := ha
  exact IsI.mul (P := fun y _ => y = j) (fun y i e => by subst e; exact mulL h) (by unfold evE; rfl) ha rfl
theorem IsI.int (ha : IsI g a τ) : IsI g (.bi .int (.cons a .nil)) τ := by
  obtain ⟨i, ha⟩ := ha
  refine ⟨i, ?_⟩
  conv => lhs; unfold evE
  unfold evEs
  rw [ha]
  unfold evEs
  simp only [R.bind_ok, intI, lk_I]
theorem IsI.modK {j : Int} (h : 0 < j) (ha : IsI g a τ) : ∃ i : Int, evE g (.bin .Mod a (.k (.int j))) τ = .ok (.int i, []) ∧ Wd j i := by
  obtain ⟨i, ha⟩ := ha
  refine ⟨i % j, ?_, mod_wd h⟩
  conv => lhs; unfold evE
  rw [ha]
  have : evE g (.k (.int j)) τ = .ok (.int j, []) := by unfold evE; rfl
  rw [this]
  simp only [R.bind_ok, bMod, h, if_true, lk_I]
end
theorem mixed_1 (g : G) (x0 x2 x3 x5 x6 y8 : Option (Bool × D)) (p num k : Int) : ∃ w : Int, Wd 2147483647 w ∧ evS g [] (.set (.n 8) (.bin .Mod (.bi .int (.cons (.bin .Add (.bin .Add (.bin .Add (.bin .Mult (.bin .Add (.v 4) (.k (.int 7))) (.k (.int 48271))) (.bin .Mult (.bin .Add (.v 1) (.k (.int 1))) (.k (.int 69621)))) (.bin .Mult (.v 7) (.k (.int 16807)))) (.k (.int 12345))) .nil)) (.k (.int 2147483647)))) [x0, some (false, .int p), x2, x3, some (false, .int num), x5, x6, some (false, .int k), y8] = .nx [x0, some (false, .int p), x2, x3, some (false, .int num), x5, x6, some (false, .int k), some (false, .int w)] := by
  obtain ⟨w, h, hw⟩ := IsI.modK (g := g) (τ := [x0, some (false, .int p), x2, x3, some (false, .int num), x5, x6, some (false, .int k), y8]) (j := 2147483647) (by decide) (IsI.int (IsI.add (IsI.add (IsI.add (IsI.mulK (j := 48271) (by decide) (IsI.add (IsI.v (i := 4) (x := num) rfl) (IsI.k (j := 7)))) (IsI.mulK (j := 69621) (by decide) (IsI.add (IsI.v (i := 1) (x := p) rfl) (IsI.k (j := 1))))) (IsI.mulK (j := 16807) (by decide) (IsI.v (i := 7) (x := k) rfl))) (IsI.k (j := 12345))))
  refine ⟨w, hw, ?_⟩
  unfold evS
  rw [h]
  simp only [Out.ofR_ok, frz_nil]
  rfl
theorem mixed_2 (g : G) (x0 x2 x3 x5 x6 : Option (Bool × D)) (p num k w : Int) (hw : Wd 2147483647 w) : ∃ v : Int, evS g [] (.set (.n 8) (.bin .Mod (.bi .int (.cons (.bin .Add (.bin .Add (.bin .Mult (.v 8) (.v 8)) (.bin .Mult (.k (.int 40692)) (.bin .Add (.v 7) (.v 1)))) (.k (.int 11))) .nil)) (.k (.int 2147483399)))) [x0, some (false, .int p), x2, x3, some (false, .int num), x5, x6, some (false, .int k), some (false, .int w)] = .nx [x0, some (false, .int p), x2, x3, some (false, .int num), x5, x6, some (false, .int k), some (false, .int v)] := by
  have hv : evE g (.v 8) [x0, some (false, .int p), x2, x3, some (false, .int num), x5, x6, some (false, .int k), some (false, .int w)] = .ok (.int w, []) := by unfold evE; rfl
  have hww : -(2 ^ 64) < w ∧ w < 2 ^ 64 := by
    unfold Wd at hw
    constructor <;> omega
  have hsq : IsI g (.bin .Mult (.v 8) (.v 8)) [x0, some (false, .int p), x2, x3, some (false, .int num), x5, x6, some (false, .int k), some (false, .int w)] := IsI.mul (P := fun y _ => y = w) (fun y i e => by subst e; exact mulL hww) hv hv rfl
  obtain ⟨v, h, _⟩ := IsI.modK (j := 2147483399) (by decide) (IsI.int (IsI.add (IsI.add hsq (IsI.Kmul (j := 40692) (by decide) (IsI.add (IsI.v (i := 7) (x := k) rfl) (IsI.v (i := 1) (x := p) rfl)))) (IsI.k (j := 11))))
  refine ⟨v, ?_⟩
  unfold evS
  rw [h]
  simp only [Out.ofR_ok, frz_nil]
  rfl
theorem mixed_3 (g : G) (x0 x1 x2 x4 x6 x7 : Option (Bool × D)) (limit w : Int) (hl : 0 < limit) (r : List Int) (hz : r.length < sizeLine) : evS g [] (.app 5 (.bin .Mod (.bi .int (.cons (.bin .FloorDiv (.v 8) (.k (.int 5))) .nil)) (.v 3))) [x0, x1, x2, some (false, .int limit), x4, some (true, .list (r.map .int)), x6, x7, some (false, .int w)] = .nx [x0, x1, x2, some (false, .int limit), x4, some (true, .list ((r ++ [(w / 5) % limit]).map .int)), x6, x7, some (false, .int w)] := by
  simp [evS, evE, evT, evEs, evO, evC, evI, evIo, evSs_n, asg, asgs, frz1, own?, ixN_nat, outs, ofI, divS, hl, hz]
theorem row_B (g : G) (x0 x2 x6 : Option (Bool × D)) (p limit num : Int) (hl : 0 < limit) (m : Nat) (hm : m ≤ 10000) :
    ∃ (r : List Int) (y7 y8 : Option (Bool × D)), forL [] (.n 7) (evSs g [] b__law_row_0) (rngL 0 m) [x0, some (false, .int p), x2, some (false, .int limit), some (false, .int num), some (true, .list []), x6, none, none] = .nx [x0, some (false, .int p), x2, some (false, .int limit), some (false, .int num), some (true, .list (r.map .int)), x6, y7, y8] ∧ r.length = m ∧ ∀ x ∈ r, Wd limit x := by
  obtain ⟨τ, e, r, y7, y8, rfl, hr, hw⟩ := forL_to (io := []) (t := .n 7) (body := evSs g [] b__law_row_0)
    (fun j τ => ∃ (r : List Int) (y7 y8 : Option (Bool × D)), τ = [x0, some (false, .int p), x2, some (false, .int limit), some (false, .int num), some (true, .list (r.map .int)), x6, y7, y8] ∧ r.length = j ∧ ∀ x ∈ r, Wd limit x)
    (rngL 0 m) 0 [x0, some (false, .int p), x2, some (false, .int limit), some (false, .int num), some (true, .list []), x6, none, none]
    ⟨[], none, none, rfl, rfl, by simp⟩ fun j d τ hd hP => by
      obtain ⟨r, y7, y8, rfl, hr, hw⟩ := hP
      have hj : j < (rngL 0 m).length := (List.getElem?_eq_some_iff.mp hd).1
      have hjm : j < m := by simpa [rngL] using hj
      unfold rngL at hd
      rw [List.getElem?_map] at hd
      obtain ⟨j', hj', rfl⟩ := Option.map_eq_some_iff.mp hd
      have hz : r.length < sizeLine := szl (by omega)
      refine ⟨_, rfl, ?_⟩
      generalize (0 : Int) + (j' : Nat) = k at *
      have go : ∃ w : Int, evSs g [] b__law_row_0 ([x0, some (false, .int p), x2, some (false, .int limit), some (false, .int num), some (true, .list (r.map .int)), x6, y7, y8].set 7 (some (false && isC (.int k), .int k))) = .nx [x0, some (false, .int p), x2, some (false, .int limit), some (false, .int num), some (true, .list ((r ++ [(w / 5) % limit]).map .int)), x6, some (false, .int k), some (false, .int w)] := by
        obtain ⟨w, hw1, h1⟩ := mixed_1 g x0 x2 (some (false, .int limit)) (some (true, .list (r.map .int))) x6 y8 p num k
        obtain ⟨v, h2⟩ := mixed_2 g x0 x2 (some (false, .int limit)) (some (true, .list (r.map .int))) x6 p num k w hw1
        refine ⟨v, ?_⟩
        simp only [b__law_row_0, icI, Bool.and_false, List.set_cons_succ, List.set_cons_zero]
        rw [evSs_c, h1, Out.seq_nx, evSs_c, h2, Out.seq_nx, evSs_c, mixed_3 g _ _ _ _ _ _ limit v hl r hz, Out.seq_nx, evSs_n]
      obtain ⟨w, go⟩ := go
      refine ⟨_, .inl go, _, _, _, rfl, by simp; omega, ?_⟩
      intro x hx
      rw [List.mem_append, List.mem_singleton] at hx
      rcases hx with hx | rfl
      · exact hw x hx
      · exact mod_wd hl
  have hn : (rngL 0 m).length = m := by simp [rngL]
  exact ⟨r, y7, y8, e, by omega, hw⟩
end Mp

namespace Mp
open PySem PySem.Spec PyProof.Rows L2
theorem row_key (g : G) (ns : List Int) (p c limit : Int) (m : Nat) (hio : g.io 8 = []) (h8 : g.cf 8 [.list (ns.map .int), .int p] = .ok (.int c, [])) (hl : 0 < limit) (hl2 : limit < 1073741824) (hm : m ≤ 10000) :
    ∃ (τ : Tau) (r : List Int), evSs g [] b__law_row [some (false, .list (ns.map .int)), some (false, .int p), some (false, .int (m : Nat)), some (false, .int limit), none, none, none, none, none] = .ret τ (.list (r.map .int)) ∧ r.length = m ∧ ∀ x ∈ r, Wd limit x := by
  have s1 : evS g [] (.set (.n 4) (.call 8 (.cons (.v 0) (.cons (.v 1) .nil)))) [some (false, .list (ns.map .int)), some (false, .int p), some (false, .int (m : Nat)), some (false, .int limit), none, none, none, none, none] = .nx [some (false, .list (ns.map .int)), some (false, .int p), some (false, .int (m : Nat)), some (false, .int limit), some (false, .int c), none, none, none, none] := by
    simp [evS, evE, evT, evEs, evO, evC, evI, evIo, evSs_n, asg, asgs, frz1, own?, ixN_nat, outs, ofI, divS, hio, h8]
  have s2 : evS g [] (.set (.n 5) (.lst .nil)) [some (false, .list (ns.map .int)), some (false, .int p), some (false, .int (m : Nat)), some (false, .int limit), some (false, .int c), none, none, none, none] = .nx [some (false, .list (ns.map .int)), some (false, .int p), some (false, .int (m : Nat)), some (false, .int limit), some (false, .int c), some (true, .list []), none, none, none] := by
    simp [evS, evE, evT, evEs, evO, evC, evI, evIo, evSs_n, asg, asgs, frz1, own?, ixN_nat, outs, ofI, divS]
  generalize hτ : ([some (false, .list (ns.map .int)), some (false, .int p), some (false, .int (m : Nat)), some (false, .int limit), some (false, .int c), some (true, .list []), none, none, none] : Tau) = τ3 at s2
  have hv4 : evE g (.v 4) τ3 = .ok (.int c, []) := by rw [← hτ]; unfold evE; rfl
  have hT : ∃ b, evT g (.cmp .GtE (.v 4) (.bin .Pow (.k (.int 10)) (.k (.int 18)))) τ3 = .ok b := by
    have hp : ∃ q : Int, evE g (.bin .Pow (.k (.int 10)) (.k (.int 18))) τ3 = .ok (.int q, []) := by
      refine ⟨(10 : Int) ^ (18 : Int).toNat, ?_⟩
      have e1 : evE g (.k (.int 10)) τ3 = .ok (.int 10, []) := by unfold evE; rfl
      have e2 : evE g (.k (.int 18)) τ3 = .ok (.int 18, []) := by unfold evE; rfl
      conv => lhs; unfold evE
      rw [e1, e2]
      simp only [R.bind_ok, bPow]
      rw [if_pos (by decide)]
      rfl
    obtain ⟨q, hq⟩ := hp
    refine ⟨decide (q ≤ c), ?_⟩
    unfold evT
    rw [hv4, hq]
    rfl
  obtain ⟨b, hT⟩ := hT
  have hr := rng1 (n := m) (by omega)
  simp only [b__law_row]
  rw [evSs_c, s1, Out.seq_nx, evSs_c, s2, Out.seq_nx, evSs_c]
  have hif : ∀ A, evS g [] (.ifS (.cmp .GtE (.v 4) (.bin .Pow (.k (.int 10)) (.k (.int 18)))) A .nil) τ3 = if b = true then evSs g [] A τ3 else .nx τ3 := fun A => by
    conv => lhs; unfold evS
    rw [hT]
    cases b with
    | true => rfl
    | false => simp [evSs_n]
  rw [hif]
  cases b with
  | true =>
    rw [if_pos rfl]
    obtain ⟨rest, hrest⟩ : ∃ rest : Int, evS g [] (.set (.n 6) (.bin .Add (.bin .FloorDiv (.v 4) (.k (.int 2))) (.v 1))) τ3 = .nx [some (false, .list (ns.map .int)), some (false, .int p), some (false, .int (m : Nat)), some (false, .int limit), some (false, .int c), some (true, .list []), some (false, .int rest), none, none] := by
      refine ⟨c / 2 + p, ?_⟩
      rw [← hτ]
      simp [evS, evE, evT, evEs, evO, evC, evI, evIo, evSs_n, asg, asgs, frz1, own?, ixN_nat, outs, ofI, divS]
    obtain ⟨r, y6, y7, e, h1, h2⟩ := row_A g (some (false, .list (ns.map .int))) (some (false, .int p)) (some (false, .int (m : Nat))) none limit c hl hl2 m hm rest
    have s4 : evS g [] (.forS (.n 7) (.r1 (.v 2)) b__law_row_1) [some (false, .list (ns.map .int)), some (false, .int p), some (false, .int (m : Nat)), some (false, .int limit), some (false, .int c), some (true, .list []), some (false, .int rest), none, none] = .nx [some (false, .list (ns.map .int)), some (false, .int p), some (false, .int (m : Nat)), some (false, .int limit), some (false, .int c), some (true, .list (r.map .int)), y6, y7, none] := by
      unfold evS
      rw [(r1_ok (i := (m : Nat)) (L := []) (by unfold evE; rfl)).trans hr]
      exact e
    rw [evSs_c, hrest, Out.seq_nx, evSs_c, s4, Out.seq_nx, evSs_c]
    refine ⟨[some (false, .list (ns.map .int)), some (false, .int p), some (false, .int (m : Nat)), some (false, .int limit), some (false, .int c), some (false, .list (r.map .int)), y6, y7, none], r, ?_, h1, h2⟩
    simp [evS, evE, evT, evEs, evO, evC, evI, evIo, evSs_n, asg, asgs, frz1, own?, ixN_nat, outs, ofI, divS]
  | false =>
    rw [if_neg (by decide), ← hτ]
    obtain ⟨r, y7, y8, e, h1, h2⟩ := row_B g (some (false, .list (ns.map .int))) (some (false, .int (m : Nat))) none p limit c hl m hm
    have s4 : evS g [] (.forS (.n 7) (.r1 (.v 2)) b__law_row_0) [some (false, .list (ns.map .int)), some (false, .int p), some (false, .int (m : Nat)), some (false, .int limit), some (false, .int c), some (true, .list []), none, none, none] = .nx [some (false, .list (ns.map .int)), some (false, .int p), some (false, .int (m : Nat)), some (false, .int limit), some (false, .int c), some (true, .list (r.map .int)), none, y7, y8] := by
      unfold evS
      rw [(r1_ok (i := (m : Nat)) (L := []) (by unfold evE; rfl)).trans hr]
      exact e
    rw [Out.seq_nx, evSs_c, s4, Out.seq_nx, evSs_c]
    refine ⟨[some (false, .list (ns.map .int)), some (false, .int p), some (false, .int (m : Nat)), some (false, .int limit), some (false, .int c), some (false, .list (r.map .int)), none, y7, y8], r, ?_, h1, h2⟩
    simp [evS, evE, evT, evEs, evO, evC, evI, evIo, evSs_n, asg, asgs, frz1, own?, ixN_nat, outs, ofI, divS]
theorem row_ok (n : Nat) (ns : List Int) (p limit : Int) (m : Nat) (hl : 0 < limit) (hl2 : limit < 1073741824) (hm : m ≤ 10000) :
    ∃ r : List Int, callN prog (n + 2) 9 [.list (ns.map .int), .int p, .int (m : Nat), .int limit] = .ok (.list (r.map .int), []) ∧ r.length = m ∧ ∀ x ∈ r, Wd limit x := by
  obtain ⟨c, hc⟩ := cell_ok n ns p
  rw [show n + 2 = (n + 1) + 1 from rfl]
  generalize hcf : callN prog (n + 1) = cf at hc
  obtain ⟨τ, r, h, h1, h2⟩ := row_key ⟨cf, prog.io, prog.gl, prog.wN⟩ ns p c limit m io_8 hc hl hl2 hm
  rw [← hcf] at h
  exact ⟨r, call_go (F := F__law_row) rfl rfl rfl rfl h, h1, h2⟩
theorem one_ok (n : Nat) (ns : List Int) (p limit : Int) (hl : 0 < limit) (hl2 : limit < 1073741824) :
    ∃ x : Int, callN prog (n + 3) 10 [.list (ns.map .int), .int p, .int limit] = .ok (.int x, []) ∧ Wd limit x := by
  obtain ⟨r, hr, h1, h2⟩ := row_ok n ns p limit 1 hl hl2 (by omega)
  match r, h1, h2, hr with
  | [x], _, h2, hr =>
    refine ⟨x, ?_, h2 x (by simp)⟩
    rw [show n + 3 = (n + 2) + 1 from rfl]
    generalize hcf : callN prog (n + 2) = cf at hr
    have key : ∀ g : G, g.io 9 = [] → g.cf 9 [.list (ns.map .int), .int p, .int ((1 : Nat) : Int), .int limit] = .ok (.list ([x].map .int), []) → evSs g [] b__law_one [some (false, .list (ns.map .int)), some (false, .int p), some (false, .int limit)] = .ret [some (false, .list (ns.map .int)), some (false, .int p), some (false, .int limit)] (.int x) := fun g hio h => by
      have h : g.cf 9 [.list (ns.map .int), .int p, .int 1, .int limit] = .ok (.list [.int x], []) := h
      simp only [b__law_one]
      repeat (rw [evSs_c]; simp [evS, evE, evT, evEs, evO, evC, evI, evIo, evSs_n, asg, asgs, frz1, own?, ixN_nat, outs, ofI, divS, hio, h])
    have h := key ⟨cf, prog.io, prog.gl, prog.wN⟩ io_9 hr
    rw [← hcf] at h
    exact call_go (F := F__law_one) rfl rfl rfl rfl h
end Mp

namespace Mp
open PySem PySem.Spec PyProof.Rows L2
theorem rng0 (n : Nat) : rngL 0 n = (List.range n).map fun k : Nat => PyData.int (k : Nat) := by
  unfold rngL
  apply List.map_congr_left
  intro k _
  rw [show (0 : Int) + (k : Nat) = (k : Nat) by omega]
theorem rd_mem {xs : List Int} {k : Nat} (h : k < xs.length) : rd xs k ∈ xs := by
  unfold rd
  rw [List.getD_eq_getElem?_getD, List.getElem?_eq_getElem h]
  exact List.getElem_mem h
theorem words_key (g : G) (ns pk wy : List Int) (p base : Int) (m : Nat) (hb : 256 ≤ base) (hb2 : base < 1073741824) (hm : m ≤ 1000) (hio : g.io 9 = []) (h1 : g.cf 9 [.list (ns.map .int), .int p, .int (m : Nat), .int base] = .ok (.list (pk.map .int), []))
    (h2 : g.cf 9 [.list (ns.map .int), .int (p + 31), .int (m : Nat), .int 10] = .ok (.list (wy.map .int), [])) (l1 : pk.length = m) (l2 : wy.length = m) (w1 : ∀ x ∈ pk, Wd base x) (w2 : ∀ x ∈ wy, Wd 10 x) :
    ∃ (τ : Tau) (ws : List Int), evSs g [] b__law_words [some (false, .list (ns.map .int)), some (false, .int p), some (false, .int (m : Nat)), some (false, .int base), none, none, none, none] = .ret τ (.list (ws.map .int)) ∧ ws.length = m ∧ ∀ x ∈ ws, Wd base x := by
  let ed : List Int := [0, 1, base / 2 - 1, base / 2, base - 1]
  have hed : ∀ x ∈ ed, Wd base x := by
    intro x hx
    simp only [ed, List.mem_cons, List.not_mem_nil, or_false] at hx
    unfold Wd
    omega
  let f : Nat → Int := fun k => if rd wy k < 5 then rd ed (rd wy k).toNat else rd pk k
  have hf : ∀ k, k < m → Wd base (f k) := fun k hk => by
    have hw := w2 _ (rd_mem (xs := wy) (k := k) (by omega))
    simp only [f]
    split
    · refine hed _ (rd_mem ?_)
      show (rd wy k).toNat < 5
      omega
    · exact w1 _ (rd_mem (by omega))
  refine ⟨[some (false, .list (ns.map .int)), some (false, .int p), some (false, .int (m : Nat)), some (false, .int base), some (false, .list (pk.map .int)), some (false, .list (wy.map .int)), some (true, .list (ed.map .int)), none], (List.range m).map f, ?_, by simp, fun x hx => by
    rw [List.mem_map] at hx
    obtain ⟨k, hk, rfl⟩ := hx
    exact hf k (List.mem_range.mp hk)⟩
  have s1 : evS g [] (.set (.n 4) (.call 9 (.cons (.v 0) (.cons (.v 1) (.cons (.v 2) (.cons (.v 3) .nil)))))) [some (false, .list (ns.map .int)), some (false, .int p), some (false, .int (m : Nat)), some (false, .int base), none, none, none, none] = .nx [some (false, .list (ns.map .int)), some (false, .int p), some (false, .int (m : Nat)), some (false, .int base), some (false, .list (pk.map .int)), none, none, none] := by
    simp [evS, evE, evT, evEs, evO, evC, evI, evIo, evSs_n, asg, asgs, frz1, own?, ixN_nat, outs, ofI, divS, hio, h1]
  have s2 : evS g [] (.set (.n 5) (.call 9 (.cons (.v 0) (.cons (.bin .Add (.v 1) (.k (.int 31))) (.cons (.v 2) (.cons (.k (.int 10)) .nil)))))) [some (false, .list (ns.map .int)), some (false, .int p), some (false, .int (m : Nat)), some (false, .int base), some (false, .list (pk.map .int)), none, none, none] = .nx [some (false, .list (ns.map .int)), some (false, .int p), some (false, .int (m : Nat)), some (false, .int base), some (false, .list (pk.map .int)), some (false, .list (wy.map .int)), none, none] := by
    simp [evS, evE, evT, evEs, evO, evC, evI, evIo, evSs_n, asg, asgs, frz1, own?, ixN_nat, outs, ofI, divS, hio, h2]
  have s3 : evS g [] (.set (.n 6) (.lst (.cons (.k (.int 0)) (.cons (.k (.int 1)) (.cons (.bin .Sub (.bin .FloorDiv (.v 3) (.k (.int 2))) (.k (.int 1))) (.cons (.bin .FloorDiv (.v 3) (.k (.int 2))) (.cons (.bin .Sub (.v 3) (.k (.int 1))) .nil))))))) [some (false, .list (ns.map .int)), some (false, .int p), some (false, .int (m : Nat)), some (false, .int base), some (false, .list (pk.map .int)), some (false, .list (wy.map .int)), none, none] = .nx [some (false, .list (ns.map .int)), some (false, .int p), some (false, .int (m : Nat)), some (false, .int base), some (false, .list (pk.map .int)), some (false, .list (wy.map .int)), some (true, .list [.int 0, .int 1, .int (base / 2 - 1), .int (base / 2), .int (base - 1)]), none] := by
    simp [evS, evE, evT, evEs, evO, evC, evI, evIo, evSs_n, asg, asgs, frz1, own?, ixN_nat, outs, ofI, divS]
  have hcomp := compL_eq (elt := evE g (.ite (.cmp .Lt (.sub (.v 5) (.v 7)) (.k (.int 5))) (.sub (.v 6) (.sub (.v 5) (.v 7))) (.sub (.v 4) (.v 7)))) (cond := evC g .no) (t := .n 7) (own := [7])
    (τw := wipeT [some (false, .list (ns.map .int)), some (false, .int p), some (false, .int (m : Nat)), some (false, .int base), some (false, .list (pk.map .int)), some (false, .list (wy.map .int)), some (true, .list (ed.map .int)), none] [7])
    (g := fun k : Nat => PyData.int (k : Nat)) (f := fun k => .int (f k)) (p := fun _ => true) (List.range m) fun k hk => by
      have hk : k < m := List.mem_range.mp hk
      have hw := w2 _ (rd_mem (xs := wy) (k := k) (by omega))
      have a1 := at_rd (ms := wy) (j := k) (by omega)
      have a2 := at_rd (ms := pk) (j := k) (by omega)
      refine ⟨_, rfl, by unfold evC; rfl, fun _ => ?_⟩
      by_cases h5 : rd wy k < 5
      · have hj : rd wy k = (((rd wy k).toNat : Nat) : Int) := (Int.toNat_of_nonneg hw.1).symm
        have a3 := at_rd (ms := ed) (j := (rd wy k).toNat) (show (rd wy k).toNat < 5 by omega)
        rw [← hj] at a3
        have hfk : f k = rd ed (rd wy k).toNat := by simp only [f]; rw [if_pos h5]
        rw [hfk]
        generalize rd ed (rd wy k).toNat = v at *
        generalize rd wy k = y at *
        generalize hE : ed.map PyData.int = EL at *
        simp [evE, evT, wipeT, a1, a3, h5]
      · have hfk : f k = rd pk k := by simp only [f]; rw [if_neg h5]
        rw [hfk]
        generalize rd wy k = y at *
        generalize hE : ed.map PyData.int = EL at *
        simp [evE, evT, wipeT, a1, a2, h5]
  rw [filter_tt, ← rng0] at hcomp
  have hr := rng1 (n := m) (by omega)
  have hz2 : (rngL 0 m).length ≤ sizeLine := szs (by simp [rngL]; omega)
  have s4 : evE g (.comp (.ite (.cmp .Lt (.sub (.v 5) (.v 7)) (.k (.int 5))) (.sub (.v 6) (.sub (.v 5) (.v 7))) (.sub (.v 4) (.v 7))) (.n 7) (.r1 (.v 2)) .no [7]) [some (false, .list (ns.map .int)), some (false, .int p), some (false, .int (m : Nat)), some (false, .int base), some (false, .list (pk.map .int)), some (false, .list (wy.map .int)), some (true, .list (ed.map .int)), none] = .ok (.list (((List.range m).map f).map .int), []) := by
    conv => lhs; unfold evE
    rw [(r1_ok (i := (m : Nat)) (L := []) (by unfold evE; rfl)).trans hr]
    simp only [R.bind_ok, hz2, if_true, lkI_r1, frz_nil]
    rw [hcomp, List.map_map]; rfl
  simp only [b__law_words]
  rw [evSs_c, s1, Out.seq_nx, evSs_c, s2, Out.seq_nx, evSs_c, s3, Out.seq_nx, evSs_c]
  conv => lhs; arg 1; unfold evS
  have s4' : evE g (.comp (.ite (.cmp .Lt (.sub (.v 5) (.v 7)) (.k (.int 5))) (.sub (.v 6) (.sub (.v 5) (.v 7))) (.sub (.v 4) (.v 7))) (.n 7) (.r1 (.v 2)) .no [7]) [some (false, .list (ns.map .int)), some (false, .int p), some (false, .int (m : Nat)), some (false, .int base), some (false, .list (pk.map .int)), some (false, .list (wy.map .int)), some (true, .list [.int 0, .int 1, .int (base / 2 - 1), .int (base / 2), .int (base - 1)]), none] = .ok (.list (((List.range m).map f).map .int), []) := s4
  rw [s4']
  rfl
theorem words_ok (n : Nat) (ns : List Int) (p base : Int) (m : Nat) (hb : 256 ≤ base) (hb2 : base < 1073741824) (hm : m ≤ 1000) :
    ∃ ws : List Int, callN prog (n + 3) 11 [.list (ns.map .int), .int p, .int (m : Nat), .int base] = .ok (.list (ws.map .int), []) ∧ ws.length = m ∧ ∀ x ∈ ws, Wd base x := by
  obtain ⟨pk, h1, l1, w1⟩ := row_ok n ns p base m (by omega) hb2 (by omega)
  obtain ⟨wy, h2, l2, w2⟩ := row_ok n ns (p + 31) 10 m (by omega) (by omega) (by omega)
  rw [show n + 3 = (n + 2) + 1 from rfl]
  generalize hcf : callN prog (n + 2) = cf at h1 h2
  obtain ⟨τ, ws, h, q1, q2⟩ := words_key ⟨cf, prog.io, prog.gl, prog.wN⟩ ns pk wy p base m hb hb2 hm io_9 h1 h2 l1 l2 w1 w2
  rw [← hcf] at h
  exact ⟨ws, call_go (F := F__law_words) rfl rfl rfl rfl h, q1, q2⟩
end Mp

namespace Mp
open PySem PySem.Spec PyProof.Rows L2
def InsOk (k : Nat) (base : Int) (i : Ins) : Prop := i.ok k ∧ i.wd base
def b_tail : Ss := (.cons (.ifS (.cmp .Eq (.v 6) (.k (.str "put"))) (.cons (.ret (.tup (.cons (.v 6) (.cons (.v 7) (.cons (.v 1) .nil))))) .nil) .nil) (.cons (.ifS (.cmp .In (.v 6) (.lst (.cons (.k (.str "copy")) (.cons (.k (.str "sign")) (.cons (.k (.str "top")) .nil))))) (.cons (.ret (.tup (.cons (.v 6) (.cons (.v 7) (.cons (.sub (.v 3) (.k (.int 3))) .nil))))) .nil) .nil) (.cons (.ifS (.cmp .In (.v 6) (.lst (.cons (.k (.str "xor")) (.cons (.k (.str "and")) .nil)))) (.cons (.ret (.tup (.cons (.v 6) (.cons (.v 7) (.cons (.sub (.v 3) (.k (.int 3))) (.cons (.sub (.v 3) (.k (.int 4))) .nil)))))) .nil) .nil) (.cons (.ifS (.cmp .Eq (.v 6) (.k (.str "pick"))) (.cons (.ret (.tup (.cons (.v 6) (.cons (.v 7) (.cons (.sub (.v 3) (.k (.int 2))) (.cons (.sub (.v 3) (.k (.int 3))) (.cons (.sub (.v 3) (.k (.int 4))) .nil))))))) .nil) .nil) (.cons (.set (.n 8) (.bin .Mod (.bi .int (.cons (.bin .Add (.bin .Add (.v 7) (.k (.int 1))) (.bin .Mod (.bi .int (.cons (.sub (.v 0) (.k (.int 2))) .nil)) (.bin .Sub (.v 2) (.k (.int 1))))) .nil)) (.v 2))) (.cons (.ifS (.cmp .Eq (.v 6) (.k (.str "mul"))) (.cons (.ret (.tup (.cons (.v 6) (.cons (.v 7) (.cons (.v 8) (.cons (.sub (.v 3) (.k (.int 3))) (.cons (.sub (.v 3) (.k (.int 4))) (.cons (.sub (.v 3) (.k (.int 5))) .nil)))))))) .nil) .nil) (.cons (.ret (.tup (.cons (.v 6) (.cons (.v 7) (.cons (.v 8) (.cons (.sub (.v 3) (.k (.int 3))) (.cons (.sub (.v 3) (.k (.int 4))) .nil))))))) .nil)))))))
theorem tail_put (g : G) (z4 : Option (Bool × D)) (w base : Int) (hw : Wd base w) (cells : Nat) (hc : 2 ≤ cells) (d2 : Int) (a0 a1 a2 a3 a4 a5 : Nat) (ops : List D)
    (ha1 : a1 < cells) (ha2 : a2 < cells) (ha3 : a3 < cells) (ha4 : a4 < cells) (ha5 : a5 < cells) (DL : List D) (hd2 : atI DL 2 = some (.int d2)) :
    ∃ i : Ins, (∃ τ, evSs g [] b_tail [some (false, .list DL), some (false, .int w), some (false, .int (cells : Nat)), some (true, .list [.int (a0 : Nat), .int (a1 : Nat), .int (a2 : Nat), .int (a3 : Nat), .int (a4 : Nat), .int (a5 : Nat)]), z4, some (true, .list ops), some (false, .str "put"), some (false, .int (a1 : Nat)), none] = .ret τ i.d) ∧ InsOk cells base i := by
  refine ⟨.put a1 w, ?_, ⟨by simp [Ins.W, Ins.ok, Ins.R, ha1], hw⟩⟩
  simp only [b_tail]
  repeat (rw [evSs_c]; simp [evS, evE, evT, evEs, evO, evC, evI, evIo, evSs_n, asg, asgs, frz1, own?, ixN_nat, outs, ofI, divS, Ins.d])
theorem tail_copy (g : G) (z4 : Option (Bool × D)) (w base : Int) (hw : Wd base w) (cells : Nat) (hc : 2 ≤ cells) (d2 : Int) (a0 a1 a2 a3 a4 a5 : Nat) (ops : List D)
    (ha1 : a1 < cells) (ha2 : a2 < cells) (ha3 : a3 < cells) (ha4 : a4 < cells) (ha5 : a5 < cells) (DL : List D) (hd2 : atI DL 2 = some (.int d2)) :
    ∃ i : Ins, (∃ τ, evSs g [] b_tail [some (false, .list DL), some (false, .int w), some (false, .int (cells : Nat)), some (true, .list [.int (a0 : Nat), .int (a1 : Nat), .int (a2 : Nat), .int (a3 : Nat), .int (a4 : Nat), .int (a5 : Nat)]), z4, some (true, .list ops), some (false, .str "copy"), some (false, .int (a1 : Nat)), none] = .ret τ i.d) ∧ InsOk cells base i := by
  refine ⟨.copy a1 a3, ?_, ⟨by simp [Ins.W, Ins.ok, Ins.R, ha1, ha3], trivial⟩⟩
  simp only [b_tail]
  repeat (rw [evSs_c]; simp [evS, evE, evT, evEs, evO, evC, evI, evIo, evSs_n, asg, asgs, frz1, own?, ixN_nat, outs, ofI, divS, Ins.d])
theorem tail_xor (g : G) (z4 : Option (Bool × D)) (w base : Int) (hw : Wd base w) (cells : Nat) (hc : 2 ≤ cells) (d2 : Int) (a0 a1 a2 a3 a4 a5 : Nat) (ops : List D)
    (ha1 : a1 < cells) (ha2 : a2 < cells) (ha3 : a3 < cells) (ha4 : a4 < cells) (ha5 : a5 < cells) (DL : List D) (hd2 : atI DL 2 = some (.int d2)) :
    ∃ i : Ins, (∃ τ, evSs g [] b_tail [some (false, .list DL), some (false, .int w), some (false, .int (cells : Nat)), some (true, .list [.int (a0 : Nat), .int (a1 : Nat), .int (a2 : Nat), .int (a3 : Nat), .int (a4 : Nat), .int (a5 : Nat)]), z4, some (true, .list ops), some (false, .str "xor"), some (false, .int (a1 : Nat)), none] = .ret τ i.d) ∧ InsOk cells base i := by
  refine ⟨.xor a1 a3 a4, ?_, ⟨by simp [Ins.W, Ins.ok, Ins.R, ha1, ha3, ha4], trivial⟩⟩
  simp only [b_tail]
  repeat (rw [evSs_c]; simp [evS, evE, evT, evEs, evO, evC, evI, evIo, evSs_n, asg, asgs, frz1, own?, ixN_nat, outs, ofI, divS, Ins.d])
theorem tail_and (g : G) (z4 : Option (Bool × D)) (w base : Int) (hw : Wd base w) (cells : Nat) (hc : 2 ≤ cells) (d2 : Int) (a0 a1 a2 a3 a4 a5 : Nat) (ops : List D)
    (ha1 : a1 < cells) (ha2 : a2 < cells) (ha3 : a3 < cells) (ha4 : a4 < cells) (ha5 : a5 < cells) (DL : List D) (hd2 : atI DL 2 = some (.int d2)) :
    ∃ i : Ins, (∃ τ, evSs g [] b_tail [some (false, .list DL), some (false, .int w), some (false, .int (cells : Nat)), some (true, .list [.int (a0 : Nat), .int (a1 : Nat), .int (a2 : Nat), .int (a3 : Nat), .int (a4 : Nat), .int (a5 : Nat)]), z4, some (true, .list ops), some (false, .str "and"), some (false, .int (a1 : Nat)), none] = .ret τ i.d) ∧ InsOk cells base i := by
  refine ⟨.and a1 a3 a4, ?_, ⟨by simp [Ins.W, Ins.ok, Ins.R, ha1, ha3, ha4], trivial⟩⟩
  simp only [b_tail]
  repeat (rw [evSs_c]; simp [evS, evE, evT, evEs, evO, evC, evI, evIo, evSs_n, asg, asgs, frz1, own?, ixN_nat, outs, ofI, divS, Ins.d])
theorem tail_sign (g : G) (z4 : Option (Bool × D)) (w base : Int) (hw : Wd base w) (cells : Nat) (hc : 2 ≤ cells) (d2 : Int) (a0 a1 a2 a3 a4 a5 : Nat) (ops : List D)
    (ha1 : a1 < cells) (ha2 : a2 < cells) (ha3 : a3 < cells) (ha4 : a4 < cells) (ha5 : a5 < cells) (DL : List D) (hd2 : atI DL 2 = some (.int d2)) :
    ∃ i : Ins, (∃ τ, evSs g [] b_tail [some (false, .list DL), some (false, .int w), some (false, .int (cells : Nat)), some (true, .list [.int (a0 : Nat), .int (a1 : Nat), .int (a2 : Nat), .int (a3 : Nat), .int (a4 : Nat), .int (a5 : Nat)]), z4, some (true, .list ops), some (false, .str "sign"), some (false, .int (a1 : Nat)), none] = .ret τ i.d) ∧ InsOk cells base i := by
  refine ⟨.sign a1 a3, ?_, ⟨by simp [Ins.W, Ins.ok, Ins.R, ha1, ha3], trivial⟩⟩
  simp only [b_tail]
  repeat (rw [evSs_c]; simp [evS, evE, evT, evEs, evO, evC, evI, evIo, evSs_n, asg, asgs, frz1, own?, ixN_nat, outs, ofI, divS, Ins.d])
theorem tail_top (g : G) (z4 : Option (Bool × D)) (w base : Int) (hw : Wd base w) (cells : Nat) (hc : 2 ≤ cells) (d2 : Int) (a0 a1 a2 a3 a4 a5 : Nat) (ops : List D)
    (ha1 : a1 < cells) (ha2 : a2 < cells) (ha3 : a3 < cells) (ha4 : a4 < cells) (ha5 : a5 < cells) (DL : List D) (hd2 : atI DL 2 = some (.int d2)) :
    ∃ i : Ins, (∃ τ, evSs g [] b_tail [some (false, .list DL), some (false, .int w), some (false, .int (cells : Nat)), some (true, .list [.int (a0 : Nat), .int (a1 : Nat), .int (a2 : Nat), .int (a3 : Nat), .int (a4 : Nat), .int (a5 : Nat)]), z4, some (true, .list ops), some (false, .str "top"), some (false, .int (a1 : Nat)), none] = .ret τ i.d) ∧ InsOk cells base i := by
  refine ⟨.top a1 a3, ?_, ⟨by simp [Ins.W, Ins.ok, Ins.R, ha1, ha3], trivial⟩⟩
  simp only [b_tail]
  repeat (rw [evSs_c]; simp [evS, evE, evT, evEs, evO, evC, evI, evIo, evSs_n, asg, asgs, frz1, own?, ixN_nat, outs, ofI, divS, Ins.d])
theorem tail_pick (g : G) (z4 : Option (Bool × D)) (w base : Int) (hw : Wd base w) (cells : Nat) (hc : 2 ≤ cells) (d2 : Int) (a0 a1 a2 a3 a4 a5 : Nat) (ops : List D)
    (ha1 : a1 < cells) (ha2 : a2 < cells) (ha3 : a3 < cells) (ha4 : a4 < cells) (ha5 : a5 < cells) (DL : List D) (hd2 : atI DL 2 = some (.int d2)) :
    ∃ i : Ins, (∃ τ, evSs g [] b_tail [some (false, .list DL), some (false, .int w), some (false, .int (cells : Nat)), some (true, .list [.int (a0 : Nat), .int (a1 : Nat), .int (a2 : Nat), .int (a3 : Nat), .int (a4 : Nat), .int (a5 : Nat)]), z4, some (true, .list ops), some (false, .str "pick"), some (false, .int (a1 : Nat)), none] = .ret τ i.d) ∧ InsOk cells base i := by
  refine ⟨.pick a1 a2 a3 a4, ?_, ⟨by simp [Ins.W, Ins.ok, Ins.R, ha1, ha2, ha3, ha4], trivial⟩⟩
  simp only [b_tail]
  repeat (rw [evSs_c]; simp [evS, evE, evT, evEs, evO, evC, evI, evIo, evSs_n, asg, asgs, frz1, own?, ixN_nat, outs, ofI, divS, Ins.d])
theorem tail_add (g : G) (z4 : Option (Bool × D)) (w base : Int) (hw : Wd base w) (cells : Nat) (hc : 2 ≤ cells) (d2 : Int) (a0 a1 a2 a3 a4 a5 : Nat) (ops : List D)
    (ha1 : a1 < cells) (ha2 : a2 < cells) (ha3 : a3 < cells) (ha4 : a4 < cells) (ha5 : a5 < cells) (DL : List D) (hd2 : atI DL 2 = some (.int d2)) :
    ∃ i : Ins, (∃ τ, evSs g [] b_tail [some (false, .list DL), some (false, .int w), some (false, .int (cells : Nat)), some (true, .list [.int (a0 : Nat), .int (a1 : Nat), .int (a2 : Nat), .int (a3 : Nat), .int (a4 : Nat), .int (a5 : Nat)]), z4, some (true, .list ops), some (false, .str "add"), some (false, .int (a1 : Nat)), none] = .ret τ i.d) ∧ InsOk cells base i := by
  have hc1 : (0 : Int) < (cells : Nat) := by omega
  have hc2 : (0 : Int) < ((cells : Nat) : Int) - 1 := by omega
  have hs0 := Int.emod_nonneg ((a1 : Int) + 1 + d2 % (((cells : Nat) : Int) - 1)) (show ((cells : Nat) : Int) ≠ 0 by omega)
  have hs1 := Int.emod_lt_of_pos ((a1 : Int) + 1 + d2 % (((cells : Nat) : Int) - 1)) hc1
  have hs : ((a1 : Int) + 1 + d2 % (((cells : Nat) : Int) - 1)) % (cells : Nat) = ((((a1 : Int) + 1 + d2 % (((cells : Nat) : Int) - 1)) % (cells : Nat)).toNat : Nat) := (Int.toNat_of_nonneg hs0).symm
  have hsl : (((a1 : Int) + 1 + d2 % (((cells : Nat) : Int) - 1)) % (cells : Nat)).toNat < cells := by omega
  generalize (((a1 : Int) + 1 + d2 % (((cells : Nat) : Int) - 1)) % (cells : Nat)).toNat = s at *
  have hc3 : (1 : Int) < (cells : Nat) := by omega
  have hc5 : 1 < cells := by omega
  have hc4 : 0 < cells := by omega
  refine ⟨.add a1 s a3 a4, ?_, ⟨by simp [Ins.W, Ins.ok, Ins.R, ha1, hsl, ha3, ha4], trivial⟩⟩
  simp only [b_tail]
  repeat (rw [evSs_c]; simp [evS, evE, evT, evEs, evO, evC, evI, evIo, evSs_n, asg, asgs, frz1, own?, ixN_nat, outs, ofI, divS, Ins.d, hd2, hs, hc1, hc2, hc3, hc4, hc5])
theorem tail_sub (g : G) (z4 : Option (Bool × D)) (w base : Int) (hw : Wd base w) (cells : Nat) (hc : 2 ≤ cells) (d2 : Int) (a0 a1 a2 a3 a4 a5 : Nat) (ops : List D)
    (ha1 : a1 < cells) (ha2 : a2 < cells) (ha3 : a3 < cells) (ha4 : a4 < cells) (ha5 : a5 < cells) (DL : List D) (hd2 : atI DL 2 = some (.int d2)) :
    ∃ i : Ins, (∃ τ, evSs g [] b_tail [some (false, .list DL), some (false, .int w), some (false, .int (cells : Nat)), some (true, .list [.int (a0 : Nat), .int (a1 : Nat), .int (a2 : Nat), .int (a3 : Nat), .int (a4 : Nat), .int (a5 : Nat)]), z4, some (true, .list ops), some (false, .str "sub"), some (false, .int (a1 : Nat)), none] = .ret τ i.d) ∧ InsOk cells base i := by
  have hc1 : (0 : Int) < (cells : Nat) := by omega
  have hc2 : (0 : Int) < ((cells : Nat) : Int) - 1 := by omega
  have hs0 := Int.emod_nonneg ((a1 : Int) + 1 + d2 % (((cells : Nat) : Int) - 1)) (show ((cells : Nat) : Int) ≠ 0 by omega)
  have hs1 := Int.emod_lt_of_pos ((a1 : Int) + 1 + d2 % (((cells : Nat) : Int) - 1)) hc1
  have hs : ((a1 : Int) + 1 + d2 % (((cells : Nat) : Int) - 1)) % (cells : Nat) = ((((a1 : Int) + 1 + d2 % (((cells : Nat) : Int) - 1)) % (cells : Nat)).toNat : Nat) := (Int.toNat_of_nonneg hs0).symm
  have hsl : (((a1 : Int) + 1 + d2 % (((cells : Nat) : Int) - 1)) % (cells : Nat)).toNat < cells := by omega
  generalize (((a1 : Int) + 1 + d2 % (((cells : Nat) : Int) - 1)) % (cells : Nat)).toNat = s at *
  have hc3 : (1 : Int) < (cells : Nat) := by omega
  have hc5 : 1 < cells := by omega
  have hc4 : 0 < cells := by omega
  refine ⟨.sub a1 s a3 a4, ?_, ⟨by simp [Ins.W, Ins.ok, Ins.R, ha1, hsl, ha3, ha4], trivial⟩⟩
  simp only [b_tail]
  repeat (rw [evSs_c]; simp [evS, evE, evT, evEs, evO, evC, evI, evIo, evSs_n, asg, asgs, frz1, own?, ixN_nat, outs, ofI, divS, Ins.d, hd2, hs, hc1, hc2, hc3, hc4, hc5])
theorem tail_mul (g : G) (z4 : Option (Bool × D)) (w base : Int) (hw : Wd base w) (cells : Nat) (hc : 2 ≤ cells) (d2 : Int) (a0 a1 a2 a3 a4 a5 : Nat) (ops : List D)
    (ha1 : a1 < cells) (ha2 : a2 < cells) (ha3 : a3 < cells) (ha4 : a4 < cells) (ha5 : a5 < cells) (DL : List D) (hd2 : atI DL 2 = some (.int d2)) :
    ∃ i : Ins, (∃ τ, evSs g [] b_tail [some (false, .list DL), some (false, .int w), some (false, .int (cells : Nat)), some (true, .list [.int (a0 : Nat), .int (a1 : Nat), .int (a2 : Nat), .int (a3 : Nat), .int (a4 : Nat), .int (a5 : Nat)]), z4, some (true, .list ops), some (false, .str "mul"), some (false, .int (a1 : Nat)), none] = .ret τ i.d) ∧ InsOk cells base i := by
  have hc1 : (0 : Int) < (cells : Nat) := by omega
  have hc2 : (0 : Int) < ((cells : Nat) : Int) - 1 := by omega
  have hs0 := Int.emod_nonneg ((a1 : Int) + 1 + d2 % (((cells : Nat) : Int) - 1)) (show ((cells : Nat) : Int) ≠ 0 by omega)
  have hs1 := Int.emod_lt_of_pos ((a1 : Int) + 1 + d2 % (((cells : Nat) : Int) - 1)) hc1
  have hs : ((a1 : Int) + 1 + d2 % (((cells : Nat) : Int) - 1)) % (cells : Nat) = ((((a1 : Int) + 1 + d2 % (((cells : Nat) : Int) - 1)) % (cells : Nat)).toNat : Nat) := (Int.toNat_of_nonneg hs0).symm
  have hsl : (((a1 : Int) + 1 + d2 % (((cells : Nat) : Int) - 1)) % (cells : Nat)).toNat < cells := by omega
  generalize (((a1 : Int) + 1 + d2 % (((cells : Nat) : Int) - 1)) % (cells : Nat)).toNat = s at *
  have hc3 : (1 : Int) < (cells : Nat) := by omega
  have hc5 : 1 < cells := by omega
  have hc4 : 0 < cells := by omega
  refine ⟨.mul a1 s a3 a4 a5, ?_, ⟨by simp [Ins.W, Ins.ok, Ins.R, ha1, hsl, ha3, ha4, ha5], trivial⟩⟩
  simp only [b_tail]
  repeat (rw [evSs_c]; simp [evS, evE, evT, evEs, evO, evC, evI, evIo, evSs_n, asg, asgs, frz1, own?, ixN_nat, outs, ofI, divS, Ins.d, hd2, hs, hc1, hc2, hc3, hc4, hc5])
def opsD : List D := [.str "put", .str "copy", .str "xor", .str "and", .str "sign", .str "top", .str "pick", .str "add", .str "sub", .str "mul"]
theorem step_tail (g : G) (z4 : Option (Bool × D)) (w base : Int) (hw : Wd base w) (cells : Nat) (hc : 2 ≤ cells) (d2 : Int) (a0 a1 a2 a3 a4 a5 : Nat) (ops : List D)
    (ha1 : a1 < cells) (ha2 : a2 < cells) (ha3 : a3 < cells) (ha4 : a4 < cells) (ha5 : a5 < cells) (DL : List D) (hd2 : atI DL 2 = some (.int d2)) (j : Nat) (hj : j < 10) :
    ∃ i : Ins, (∃ τ, evSs g [] b_tail [some (false, .list DL), some (false, .int w), some (false, .int (cells : Nat)), some (true, .list [.int (a0 : Nat), .int (a1 : Nat), .int (a2 : Nat), .int (a3 : Nat), .int (a4 : Nat), .int (a5 : Nat)]), z4, some (true, .list ops), some (false, opsD.getD j .none), some (false, .int (a1 : Nat)), none] = .ret τ i.d) ∧ InsOk cells base i :=
  match j, hj with
  | 0, _ => tail_put g z4 w base hw cells hc d2 a0 a1 a2 a3 a4 a5 ops ha1 ha2 ha3 ha4 ha5 DL hd2
  | 1, _ => tail_copy g z4 w base hw cells hc d2 a0 a1 a2 a3 a4 a5 ops ha1 ha2 ha3 ha4 ha5 DL hd2
  | 2, _ => tail_xor g z4 w base hw cells hc d2 a0 a1 a2 a3 a4 a5 ops ha1 ha2 ha3 ha4 ha5 DL hd2
  | 3, _ => tail_and g z4 w base hw cells hc d2 a0 a1 a2 a3 a4 a5 ops ha1 ha2 ha3 ha4 ha5 DL hd2
  | 4, _ => tail_sign g z4 w base hw cells hc d2 a0 a1 a2 a3 a4 a5 ops ha1 ha2 ha3 ha4 ha5 DL hd2
  | 5, _ => tail_top g z4 w base hw cells hc d2 a0 a1 a2 a3 a4 a5 ops ha1 ha2 ha3 ha4 ha5 DL hd2
  | 6, _ => tail_pick g z4 w base hw cells hc d2 a0 a1 a2 a3 a4 a5 ops ha1 ha2 ha3 ha4 ha5 DL hd2
  | 7, _ => tail_add g z4 w base hw cells hc d2 a0 a1 a2 a3 a4 a5 ops ha1 ha2 ha3 ha4 ha5 DL hd2
  | 8, _ => tail_sub g z4 w base hw cells hc d2 a0 a1 a2 a3 a4 a5 ops ha1 ha2 ha3 ha4 ha5 DL hd2
  | 9, _ => tail_mul g z4 w base hw cells hc d2 a0 a1 a2 a3 a4 a5 ops ha1 ha2 ha3 ha4 ha5 DL hd2
theorem step_ok (n : Nat) (ds : List Int) (hl : ds.length = 6) (w base : Int) (hw : Wd base w) (cells : Nat) (hc : 2 ≤ cells) :
    ∃ i : Ins, callN prog (n + 1) 12 [.list (ds.map .int), .int w, .int (cells : Nat)] = .ok (i.d, []) ∧ InsOk cells base i := by
  match ds, hl with
  | [d0, d1, d2, d3, d4, d5], _ =>
    have hc1 : (0 : Int) < (cells : Nat) := by omega
    have hc4 : 0 < cells := by omega
    have hq : ∀ d : Int, ∃ a : Nat, d % (cells : Nat) = (a : Nat) ∧ a < cells := fun d => ⟨(d % (cells : Nat)).toNat, (Int.toNat_of_nonneg (Int.emod_nonneg _ (by omega))).symm, by
      have h1 := Int.emod_lt_of_pos d hc1
      have h2 := Int.emod_nonneg d (show ((cells : Nat) : Int) ≠ 0 by omega)
      omega⟩
    obtain ⟨a0, e0, _⟩ := hq d0
    obtain ⟨a1, e1, l1⟩ := hq d1
    obtain ⟨a2, e2, l2⟩ := hq d2
    obtain ⟨a3, e3, l3⟩ := hq d3
    obtain ⟨a4, e4, l4⟩ := hq d4
    obtain ⟨a5, e5, l5⟩ := hq d5
    obtain ⟨j, ej, lj⟩ : ∃ j : Nat, d0 % 10 = (j : Nat) ∧ j < 10 := ⟨(d0 % 10).toNat, by omega, by omega⟩
    have hop : atI opsD (j : Nat) = some (opsD.getD j .none) := atI_some (by
      have : j < opsD.length := lj
      rw [List.getElem?_eq_getElem this, List.getD_eq_getElem?_getD, List.getElem?_eq_getElem this]; rfl)
    have key : ∀ g : G, ∃ i : Ins, (∃ τ, evSs g [] b__law_step [some (false, .list [.int d0, .int d1, .int d2, .int d3, .int d4, .int d5]), some (false, .int w), some (false, .int (cells : Nat)), none, none, none, none, none, none] = .ret τ i.d) ∧ InsOk cells base i := fun g => by
      have s1 : evS g [] (.set (.n 3) (.comp (.bin .Mod (.bi .int (.cons (.v 4) .nil)) (.v 2)) (.n 4) (.it (.v 0)) .no [4])) [some (false, .list [.int d0, .int d1, .int d2, .int d3, .int d4, .int d5]), some (false, .int w), some (false, .int (cells : Nat)), none, none, none, none, none, none] = .nx [some (false, .list [.int d0, .int d1, .int d2, .int d3, .int d4, .int d5]), some (false, .int w), some (false, .int (cells : Nat)), some (true, .list [.int (a0 : Nat), .int (a1 : Nat), .int (a2 : Nat), .int (a3 : Nat), .int (a4 : Nat), .int (a5 : Nat)]), none, none, none, none, none] := by
        simp [evS, evE, evT, evEs, evO, evC, evI, evIo, evSs_n, asg, asgs, frz1, own?, ixN_nat, outs, ofI, divS, compL, wipeT, hc1, hc4, e0, e1, e2, e3, e4, e5]
      have s2 : ∀ x6 x7 x8 : Option (Bool × D), evS g [] (.set (.n 5) (.lst (.cons (.k (.str "put")) (.cons (.k (.str "copy")) (.cons (.k (.str "xor")) (.cons (.k (.str "and")) (.cons (.k (.str "sign")) (.cons (.k (.str "top")) (.cons (.k (.str "pick")) (.cons (.k (.str "add")) (.cons (.k (.str "sub")) (.cons (.k (.str "mul")) .nil)))))))))))) [some (false, .list [.int d0, .int d1, .int d2, .int d3, .int d4, .int d5]), some (false, .int w), some (false, .int (cells : Nat)), some (true, .list [.int (a0 : Nat), .int (a1 : Nat), .int (a2 : Nat), .int (a3 : Nat), .int (a4 : Nat), .int (a5 : Nat)]), none, none, x6, x7, x8] = .nx [some (false, .list [.int d0, .int d1, .int d2, .int d3, .int d4, .int d5]), some (false, .int w), some (false, .int (cells : Nat)), some (true, .list [.int (a0 : Nat), .int (a1 : Nat), .int (a2 : Nat), .int (a3 : Nat), .int (a4 : Nat), .int (a5 : Nat)]), none, some (true, .list opsD), x6, x7, x8] := fun x6 x7 x8 => by
        simp [evS, evE, evT, evEs, evO, evC, evI, evIo, evSs_n, asg, asgs, frz1, own?, ixN_nat, outs, ofI, divS, opsD]
      have s3 : evS g [] (.set (.n 6) (.sub (.v 5) (.bin .Mod (.bi .int (.cons (.sub (.v 0) (.k (.int 0))) .nil)) (.k (.int 10))))) [some (false, .list [.int d0, .int d1, .int d2, .int d3, .int d4, .int d5]), some (false, .int w), some (false, .int (cells : Nat)), some (true, .list [.int (a0 : Nat), .int (a1 : Nat), .int (a2 : Nat), .int (a3 : Nat), .int (a4 : Nat), .int (a5 : Nat)]), none, some (true, .list opsD), none, none, none] = .nx [some (false, .list [.int d0, .int d1, .int d2, .int d3, .int d4, .int d5]), some (false, .int w), some (false, .int (cells : Nat)), some (true, .list [.int (a0 : Nat), .int (a1 : Nat), .int (a2 : Nat), .int (a3 : Nat), .int (a4 : Nat), .int (a5 : Nat)]), none, some (true, .list opsD), some (false, opsD.getD j .none), none, none] := by
        generalize opsD = OD at *
        simp [evS, evE, evT, evEs, evO, evC, evI, evIo, evSs_n, asg, asgs, frz1, own?, ixN_nat, outs, ofI, divS, ej, hop]
      have s4 : evS g [] (.set (.n 7) (.sub (.v 3) (.k (.int 1)))) [some (false, .list [.int d0, .int d1, .int d2, .int d3, .int d4, .int d5]), some (false, .int w), some (false, .int (cells : Nat)), some (true, .list [.int (a0 : Nat), .int (a1 : Nat), .int (a2 : Nat), .int (a3 : Nat), .int (a4 : Nat), .int (a5 : Nat)]), none, some (true, .list opsD), some (false, opsD.getD j .none), none, none] = .nx [some (false, .list [.int d0, .int d1, .int d2, .int d3, .int d4, .int d5]), some (false, .int w), some (false, .int (cells : Nat)), some (true, .list [.int (a0 : Nat), .int (a1 : Nat), .int (a2 : Nat), .int (a3 : Nat), .int (a4 : Nat), .int (a5 : Nat)]), none, some (true, .list opsD), some (false, opsD.getD j .none), some (false, .int (a1 : Nat)), none] := by
        generalize opsD.getD j .none = ov at *
        generalize opsD = OD at *
        simp [evS, evE, evT, evEs, evO, evC, evI, evIo, evSs_n, asg, asgs, frz1, own?, ixN_nat, outs, ofI, divS]
      obtain ⟨i, ⟨τ, h⟩, hi⟩ := step_tail g none w base hw cells hc d2 a0 a1 a2 a3 a4 a5 opsD l1 l2 l3 l4 l5 [.int d0, .int d1, .int d2, .int d3, .int d4, .int d5] rfl j lj
      refine ⟨i, ⟨τ, ?_⟩, hi⟩
      simp only [b__law_step]
      rw [evSs_c, s1, Out.seq_nx, evSs_c, s2, Out.seq_nx, evSs_c, s3, Out.seq_nx, evSs_c, s4, Out.seq_nx]
      exact h
    obtain ⟨i, ⟨τ, h⟩, hi⟩ := key ⟨callN prog n, prog.io, prog.gl, prog.wN⟩
    exact ⟨i, call_go (F := F__law_step) rfl rfl rfl rfl h, hi⟩
end Mp

namespace Mp
open PySem PySem.Spec PyProof.Rows L2
theorem choose_list {P : Nat → Ins → Prop} : ∀ m : Nat, (∀ k, k < m → ∃ i, P k i) → ∃ is : List Ins, is.length = m ∧ ∀ k i, is[k]? = some i → P k i
  | 0, _ => ⟨[], rfl, fun k i h => by simp at h⟩
  | m + 1, h => by
    obtain ⟨is, h1, h2⟩ := choose_list m fun k hk => h k (by omega)
    obtain ⟨i, hi⟩ := h m (by omega)
    refine ⟨is ++ [i], by simp [h1], fun k j hj => ?_⟩
    by_cases hk : k < is.length
    · rw [List.getElem?_append_left hk] at hj
      exact h2 k j hj
    · rw [List.getElem?_append_right (by omega)] at hj
      have : k - is.length = 0 := by
        have := (List.getElem?_eq_some_iff.mp hj).1
        simp at this; omega
      rw [this] at hj
      cases hj
      rw [show k = m by omega]; exact hi
theorem range_getD : ∀ L : List D, ((List.range L.length).map fun k => L.getD k .none) = L
  | [] => rfl
  | x :: L => by
    rw [List.length_cons, List.range_succ_eq_map, List.map_cons, List.map_map]
    have := range_getD L
    rw [show ((fun k => (x :: L).getD k PyData.none) ∘ Nat.succ) = fun k => L.getD k .none from rfl, this]
    rfl
theorem code_ok (n : Nat) (ns : List Int) (p base : Int) (m cells : Nat) (hb : 256 ≤ base) (hb2 : base < 1073741824) (hm : m ≤ 100) (hc : 2 ≤ cells) :
    ∃ is : List Ins, callN prog (n + 4) 13 [.list (ns.map .int), .int p, .int (m : Nat), .int (cells : Nat), .int base] = .ok (.list (is.map Ins.d), []) ∧ is.length = m ∧ ∀ i ∈ is, InsOk cells base i := by
  obtain ⟨dg, h1, l1, _⟩ := row_ok (n + 1) ns p 240 (6 * m) (by omega) (by omega) (by omega)
  obtain ⟨ws, h2, l2, w2⟩ := words_ok n ns (p + 3) base m hb hb2 (by omega)
  have hex : ∀ k, k < m → ∃ i : Ins, callN prog (n + 3) 12 [.list (((dg.drop (6 * k)).take 6).map .int), .int (rd ws k), .int (cells : Nat)] = .ok (i.d, []) ∧ InsOk cells base i := fun k hk => by
    have := step_ok (n + 2) ((dg.drop (6 * k)).take 6) (by simp; omega) (rd ws k) base (w2 _ (rd_mem (by omega))) cells hc
    rw [show n + 3 = (n + 2) + 1 from rfl]
    exact this
  obtain ⟨is, li, hi⟩ := choose_list m hex
  rw [show n + 1 + 2 = n + 3 by omega] at h1
  rw [show n + 4 = (n + 3) + 1 from rfl]
  generalize hcf : callN prog (n + 3) = cf at h1 h2 hi
  have key : ∀ g : G, g.io 9 = [] → g.io 11 = [] → g.io 12 = [] → g.cf = cf → ∃ τ, evSs g [] b__law_code [some (false, .list (ns.map .int)), some (false, .int p), some (false, .int (m : Nat)), some (false, .int (cells : Nat)), some (false, .int base), none, none, none] = .ret τ (.list (is.map Ins.d)) := fun g i9 i11 i12 hg => by
    have h1' : g.cf 9 [.list (ns.map .int), .int p, .int (6 * (m : Nat)), .int 240] = .ok (.list (dg.map .int), []) := by
      rw [hg]
      rw [show (((6 * m : Nat)) : Int) = 6 * ((m : Nat) : Int) by omega] at h1
      exact h1
    have h2' : g.cf 11 [.list (ns.map .int), .int (p + 3), .int (m : Nat), .int base] = .ok (.list (ws.map .int), []) := by rw [hg]; exact h2
    have m6 : mulOk 6 (m : Nat) = true := mulL (by decide)
    have s1 : evS g [] (.set (.n 5) (.call 9 (.cons (.v 0) (.cons (.v 1) (.cons (.bin .Mult (.k (.int 6)) (.v 2)) (.cons (.k (.int 240)) .nil)))))) [some (false, .list (ns.map .int)), some (false, .int p), some (false, .int (m : Nat)), some (false, .int (cells : Nat)), some (false, .int base), none, none, none] = .nx [some (false, .list (ns.map .int)), some (false, .int p), some (false, .int (m : Nat)), some (false, .int (cells : Nat)), some (false, .int base), some (false, .list (dg.map .int)), none, none] := by
      simp [evS, evE, evT, evEs, evO, evC, evI, evIo, evSs_n, asg, asgs, frz1, own?, ixN_nat, outs, ofI, divS, i9, m6, h1']
    have s2 : evS g [] (.set (.n 6) (.call 11 (.cons (.v 0) (.cons (.bin .Add (.v 1) (.k (.int 3))) (.cons (.v 2) (.cons (.v 4) .nil)))))) [some (false, .list (ns.map .int)), some (false, .int p), some (false, .int (m : Nat)), some (false, .int (cells : Nat)), some (false, .int base), some (false, .list (dg.map .int)), none, none] = .nx [some (false, .list (ns.map .int)), some (false, .int p), some (false, .int (m : Nat)), some (false, .int (cells : Nat)), some (false, .int base), some (false, .list (dg.map .int)), some (false, .list (ws.map .int)), none] := by
      simp [evS, evE, evT, evEs, evO, evC, evI, evIo, evSs_n, asg, asgs, frz1, own?, ixN_nat, outs, ofI, divS, i11, h2']
    have hcomp := compL_eq (elt := evE g (.call 12 (.cons (.sli (.v 5) (.yes (.bin .Mult (.k (.int 6)) (.v 7))) (.yes (.bin .Add (.bin .Mult (.k (.int 6)) (.v 7)) (.k (.int 6))))) (.cons (.sub (.v 6) (.v 7)) (.cons (.v 3) .nil))))) (cond := evC g .no) (t := .n 7) (own := [7])
      (τw := wipeT [some (false, .list (ns.map .int)), some (false, .int p), some (false, .int (m : Nat)), some (false, .int (cells : Nat)), some (false, .int base), some (false, .list (dg.map .int)), some (false, .list (ws.map .int)), none] [7])
      (g := fun k : Nat => PyData.int (k : Nat)) (f := fun k => (is.map Ins.d).getD k .none) (p := fun _ => true) (List.range m) fun k hk => by
        have hk : k < m := List.mem_range.mp hk
        have hki : k < is.length := by omega
        have hi' := (hi k is[k] (List.getElem?_eq_getElem hki)).1
        have hfk : (is.map Ins.d).getD k .none = is[k].d := by
          rw [List.getD_eq_getElem?_getD, List.getElem?_map, List.getElem?_eq_getElem hki]; rfl
        rw [hfk]
        generalize is[k] = i at *
        have a1 := at_rd (ms := ws) (j := k) (by omega)
        have hcut : cutD (dg.map PyData.int) (some (6 * (k : Nat))) (some (6 * (k : Nat) + 6)) = ((dg.drop (6 * k)).take 6).map PyData.int := by
          have := cut_mid (dg.map PyData.int) (6 * k) (6 * k + 6) (by rw [List.length_map]; omega) (by omega)
          rw [show (((6 * k : Nat)) : Int) = 6 * ((k : Nat) : Int) by omega, show (((6 * k + 6 : Nat)) : Int) = 6 * ((k : Nat) : Int) + 6 by omega, show 6 * k + 6 - 6 * k = 6 by omega] at this
          rw [this, List.map_take, List.map_drop]
        have m6k : mulOk 6 (k : Nat) = true := mulL (by decide)
        have hcall : g.cf 12 [.list (((dg.drop (6 * k)).take 6).map .int), .int (rd ws k), .int (cells : Nat)] = .ok (i.d, []) := by rw [hg]; exact hi'
        refine ⟨_, rfl, by unfold evC; rfl, fun _ => ?_⟩
        generalize ((dg.drop (6 * k)).take 6).map PyData.int = SL at *
        generalize rd ws k = wk at *
        simp [evE, evEs, evO, wipeT, i12, m6k, hcut, a1, hcall]
    rw [filter_tt, ← rng0] at hcomp
    have hr := rng1 (n := m) (by omega)
    have hz2 : (rngL 0 m).length ≤ sizeLine := szs (by simp [rngL]; omega)
    have hmap : ((List.range m).map fun k => (is.map Ins.d).getD k .none) = is.map Ins.d := by
      have := range_getD (is.map Ins.d)
      rw [List.length_map, li] at this
      exact this
    have s4 : evE g (.comp (.call 12 (.cons (.sli (.v 5) (.yes (.bin .Mult (.k (.int 6)) (.v 7))) (.yes (.bin .Add (.bin .Mult (.k (.int 6)) (.v 7)) (.k (.int 6))))) (.cons (.sub (.v 6) (.v 7)) (.cons (.v 3) .nil)))) (.n 7) (.r1 (.v 2)) .no [7]) [some (false, .list (ns.map .int)), some (false, .int p), some (false, .int (m : Nat)), some (false, .int (cells : Nat)), some (false, .int base), some (false, .list (dg.map .int)), some (false, .list (ws.map .int)), none] = .ok (.list (is.map Ins.d), []) := by
      conv => lhs; unfold evE
      rw [(r1_ok (i := (m : Nat)) (L := []) (by unfold evE; rfl)).trans hr]
      simp only [R.bind_ok, hz2, if_true, lkI_r1, frz_nil]
      rw [hcomp, hmap]; rfl
    refine ⟨[some (false, .list (ns.map .int)), some (false, .int p), some (false, .int (m : Nat)), some (false, .int (cells : Nat)), some (false, .int base), some (false, .list (dg.map .int)), some (false, .list (ws.map .int)), none], ?_⟩
    simp only [b__law_code]
    rw [evSs_c, s1, Out.seq_nx, evSs_c, s2, Out.seq_nx, evSs_c]
    conv => lhs; arg 1; unfold evS
    rw [s4]
    rfl
  obtain ⟨τ, h⟩ := key ⟨cf, prog.io, prog.gl, prog.wN⟩ io_9 io_11 io_12 rfl
  rw [← hcf] at h
  exact ⟨is, call_go (F := F__law_code) rfl rfl rfl rfl h, li, fun i hm' => by
    obtain ⟨k, hk⟩ := List.getElem?_of_mem hm'
    exact (hi k i hk).2⟩
end Mp

namespace Mp
open PySem PySem.Spec PyProof.Rows L2
/-! ### the plain law -/
theorem back_lean (kept : List Nat) : ∀ is : List Ins, backB (leanL is kept) kept = backB is kept
  | [] => rfl
  | i :: r => by
    have ih := back_lean kept r
    rw [leanL_cons, backB_cons]
    split
    · rw [backB_cons, ih]
    · rename_i h
      rw [ih]
      unfold stepB
      rw [if_neg h]
theorem lean_lean (is : List Ins) (kept : List Nat) : leanL (leanL is kept) kept = leanL is kept := by
  have := back_lean kept is
  show (backB (leanL is kept) kept).1.reverse = _
  rw [this]; rfl
theorem mem_step {s : List Ins × List Nat} {i : Ins} {x : Nat} (h : hasW i.W s.2 = true) : x ∈ (stepB s i).2 ↔ (x ∈ s.2 ∧ x ∉ i.W) ∨ x ∈ i.R := by
  unfold stepB
  rw [if_pos h]
  show x ∈ addAll (popAll s.2 i.W) i.R ↔ _
  rw [mem_addAll, mem_popAll]
theorem step_no {s : List Ins × List Nat} {i : Ins} (h : ¬ hasW i.W s.2 = true) : stepB s i = s := by
  unfold stepB
  rw [if_neg h]
theorem back_mono {kept more : List Nat} (hk : ∀ x, x ∈ kept → x ∈ more) : ∀ (is : List Ins) (x : Nat), x ∈ (backB is kept).2 → x ∈ (backB is more).2
  | [], x, h => by
    have h : x ∈ addAll [] kept := h
    show x ∈ addAll [] more
    rw [mem_addAll] at h ⊢
    exact h.elim .inl fun z => .inr (hk x z)
  | i :: r, x, h => by
    have ih := back_mono hk r
    rw [backB_cons] at h ⊢
    by_cases h1 : hasW i.W (backB r kept).2 = true
    · have h2 : hasW i.W (backB r more).2 = true := by
        rw [hasW_iff] at h1 ⊢
        obtain ⟨c, q1, q2⟩ := h1
        exact ⟨c, q1, ih c q2⟩
      rw [mem_step h1] at h
      rw [mem_step h2]
      exact h.elim (fun z => .inl ⟨ih x z.1, z.2⟩) .inr
    · rw [step_no h1] at h
      by_cases h2 : hasW i.W (backB r more).2 = true
      · rw [mem_step h2]
        exact .inl ⟨ih x h, fun z => h1 (hasW_iff.mpr ⟨x, z, h⟩)⟩
      · rw [step_no h2]; exact ih x h
theorem back_more {kept more : List Nat} (hk : ∀ x, x ∈ kept → x ∈ more) : ∀ is : List Ins, backB (leanL is more) kept = backB is kept
  | [] => rfl
  | i :: r => by
    have ih := back_more hk r
    rw [leanL_cons, backB_cons]
    split
    · rw [backB_cons, ih]
    · rename_i h
      rw [ih, step_no]
      intro z
      rw [hasW_iff] at z
      obtain ⟨c, q1, q2⟩ := z
      exact h (hasW_iff.mpr ⟨c, q1, back_mono hk r c q2⟩)
theorem lean_more {kept more : List Nat} (hk : ∀ x, x ∈ kept → x ∈ more) (is : List Ins) : leanL (leanL is more) kept = leanL is kept := by
  have := back_more hk is
  show (backB (leanL is more) kept).1.reverse = _
  rw [this]; rfl
theorem run_out {base : Int} {ms : List Int} {i : Ins} {x : Nat} (h : x ∉ i.W) : rd (i.run base ms) x = rd ms x := by
  cases i <;> simp only [Ins.W, List.mem_cons, List.not_mem_nil, or_false, not_or] at h <;> simp only [Ins.run, rdS, List.length_set] <;> simp [h]
theorem run_agree {base : Int} {ms ms' : List Int} {i : Ins} (hl : ms.length = ms'.length) (hr : ∀ c ∈ i.R, rd ms c = rd ms' c) (x : Nat) (hx : x ∈ i.W ∨ rd ms x = rd ms' x) (hok : ∀ c ∈ i.W, c < ms.length) : rd (i.run base ms) x = rd (i.run base ms') x := by
  cases i <;> simp only [Ins.R, Ins.W, List.mem_cons, List.not_mem_nil, or_false, forall_eq_or_imp, forall_eq, false_implies, implies_true] at hr hx hok <;> simp only [Ins.run, rdS, List.length_set, ← hl]
  case put a w =>
    by_cases e : x = a
    · simp [e, hok]
    · have := hx.resolve_left e; simp [e, this]
  case copy => rw [hr]; split; rfl; rename_i e; exact hx.resolve_left fun z => e ⟨z, hok⟩
  case xor => rw [hr.1, hr.2]; split; rfl; rename_i e; exact hx.resolve_left fun z => e ⟨z, hok⟩
  case and => rw [hr.1, hr.2]; split; rfl; rename_i e; exact hx.resolve_left fun z => e ⟨z, hok⟩
  case sign => rw [hr]; split; rfl; rename_i e; exact hx.resolve_left fun z => e ⟨z, hok⟩
  case top => rw [hr]; split; rfl; rename_i e; exact hx.resolve_left fun z => e ⟨z, hok⟩
  case pick => rw [hr.1, hr.2.1, hr.2.2]; split; rfl; rename_i e; exact hx.resolve_left fun z => e ⟨z, hok⟩
  case add =>
    rw [hr.1, hr.2.1, hr.2.2]; split; rfl; rename_i e; split; rfl; rename_i e2
    exact (hx.resolve_left fun z => z.elim (fun z => e2 ⟨z, hok.1⟩) fun z => e ⟨z, hok.2⟩)
  case sub =>
    rw [hr.1, hr.2.1, hr.2.2]; split; rfl; rename_i e; split; rfl; rename_i e2
    exact (hx.resolve_left fun z => z.elim (fun z => e2 ⟨z, hok.1⟩) fun z => e ⟨z, hok.2⟩)
  case mul =>
    rw [hr.1, hr.2.1, hr.2.2.1, hr.2.2.2]; split; rfl; rename_i e; split; rfl; rename_i e2
    exact (hx.resolve_left fun z => z.elim (fun z => e2 ⟨z, hok.1⟩) fun z => e ⟨z, hok.2⟩)
theorem run_length (base : Int) (ms : List Int) (i : Ins) : (i.run base ms).length = ms.length := by
  cases i <;> simp [Ins.run]
theorem runs_agree {base : Int} {kept : List Nat} {n : Nat} : ∀ (is : List Ins) (ms ms' : List Int), ms.length = n → ms'.length = n → (∀ i ∈ is, i.ok n) → (∀ x ∈ (backB is kept).2, rd ms x = rd ms' x) → ∀ x ∈ kept, rd (runs base is ms) x = rd (runs base (leanL is kept) ms') x
  | [], ms, ms', _, _, _, h, x, hx => h x (by show x ∈ addAll [] kept; rw [mem_addAll]; exact .inr hx)
  | i :: r, ms, ms', h1, h2, hok, h, x, hx => by
    rw [leanL_cons]
    rw [backB_cons] at h
    have hi := hok i (by simp)
    have hr := fun j hj => hok j (List.mem_cons_of_mem _ hj)
    by_cases hc : hasW i.W (backB r kept).2 = true
    · rw [if_pos hc]
      refine runs_agree r (i.run base ms) (i.run base ms') (by rw [run_length, h1]) (by rw [run_length, h2]) hr (fun y hy => ?_) x hx
      refine run_agree (by rw [h1, h2]) (fun c hc' => h c ((mem_step hc).mpr (.inr hc'))) y ?_ (by rw [h1]; exact hi.1)
      by_cases hw : y ∈ i.W
      · exact .inl hw
      · exact .inr (h y ((mem_step hc).mpr (.inl ⟨hy, hw⟩)))
    · rw [if_neg hc]
      rw [step_no hc] at h
      refine runs_agree r (i.run base ms) ms' (by rw [run_length, h1]) h2 hr (fun y hy => ?_) x hx
      rw [run_out fun z => hc (hasW_iff.mpr ⟨y, z, hy⟩)]
      exact h y hy
end Mp

namespace Mp
open PySem PySem.Spec PyProof.Rows L2
theorem lay_all {α : Type} {f : α → D} (h : ∀ x, (f x).canLay0 = true) : ∀ xs : List α, PyData.canLayAll0 (xs.map f) = true
  | [] => by simp [PyData.canLayAll0]
  | x :: xs => by simp [PyData.canLayAll0, h x, lay_all h xs]
theorem dep_all {α : Type} {f : α → D} {k : Nat} (h : ∀ x, (f x).depth ≤ k) : ∀ xs : List α, PyData.depthAll (xs.map f) ≤ k
  | [] => by simp [PyData.depthAll]
  | x :: xs => by
    have h1 := h x
    have h2 := dep_all h xs
    simp only [List.map_cons, PyData.depthAll]
    omega
theorem noL_all {α : Type} {f : α → D} (h : ∀ x, noL (f x) = true) : ∀ xs : List α, noLs (xs.map f) = true
  | [] => rfl
  | x :: xs => by
    show (noL (f x) && noLs (xs.map f)) = true
    rw [h x, noL_all h xs]; rfl
theorem ins_lay (i : Ins) : i.d.canLay0 = true := by
  have h : ∀ s ∈ ["put", "copy", "xor", "and", "sign", "top", "pick", "add", "sub", "mul"], (PyData.str s).canLay0 = true := by decide +kernel
  cases i <;> simp only [Ins.d, PyData.canLay0, PyData.canLayAll0, Bool.and_true, Bool.true_and] <;> first | exact h _ (by simp) | (have := h _ (by simp : _ ∈ _); simpa [PyData.canLay0] using this)
theorem ins_dep (i : Ins) : i.d.depth ≤ 1 := by cases i <;> simp [Ins.d, PyData.depth, PyData.depthAll]
theorem ins_noL (i : Ins) : noL i.d = true := by cases i <;> rfl
theorem eq_tup {L : List D} {k : Nat} (h1 : PyData.canLayAll0 L = true) (h2 : PyData.depthAll L ≤ 10) : eqD (.tuple L) (.tuple L) = some true := by
  have hc : (PyData.tuple L).canLay0 = true := by simpa [PyData.canLay0] using h1
  have hs : SeqAt.shaped (.tuple L) = true := by
    unfold SeqAt.shaped
    rw [hc, Bool.true_and]
    refine decide_eq_true ?_
    simp only [PyData.depth]
    omega
  show (if SeqAt.shaped (.tuple L) && SeqAt.shaped (.tuple L) then some (PyData.eqv (.tuple L) (.tuple L)) else none) = _
  rw [hs, SeqAt.eqv_refl _ hc]; rfl
theorem eq_lst {L : List D} (h1 : PyData.canLayAll0 L = true) (h2 : PyData.depthAll L ≤ 10) : eqD (.list L) (.list L) = some true := by
  have hc : (PyData.list L).canLay0 = true := by simpa [PyData.canLay0] using h1
  have hs : SeqAt.shaped (.list L) = true := by
    unfold SeqAt.shaped
    rw [hc, Bool.true_and]
    refine decide_eq_true ?_
    simp only [PyData.depth]
    omega
  show (if SeqAt.shaped (.list L) && SeqAt.shaped (.list L) then some (PyData.eqv (.list L) (.list L)) else none) = _
  rw [hs, SeqAt.eqv_refl _ hc]; rfl
theorem eq_ins (is : List Ins) : eqD (.tuple (is.map Ins.d)) (.tuple (is.map Ins.d)) = some true := eq_tup (k := 0) (lay_all ins_lay is) (Nat.le_trans (dep_all ins_dep is) (by decide))
theorem eq_intsT (ms : List Int) : eqD (.tuple (ms.map .int)) (.tuple (ms.map .int)) = some true := eq_tup (k := 0) (lay_all (fun _ => by simp [PyData.canLay0]) ms) (Nat.le_trans (dep_all (k := 0) (fun _ => by simp [PyData.depth]) ms) (by decide))
theorem eq_intsL (ms : List Int) : eqD (.list (ms.map .int)) (.list (ms.map .int)) = some true := eq_lst (lay_all (fun _ => by simp [PyData.canLay0]) ms) (Nat.le_trans (dep_all (k := 0) (fun _ => by simp [PyData.depth]) ms) (by decide))
theorem tupComp {g : G} {e : E} {τ : Tau} {L : List D} (h : evE g e τ = .ok (.list L, [])) : evE g (.bi .tuple (.cons e .nil)) τ = .ok (.tuple L, []) := by
  have hn : lkE e [] = [] := by unfold lkE; split <;> rfl
  conv => lhs; unfold evE
  unfold evEs
  rw [h]
  unfold evEs
  simp [hn]
theorem compR {g : G} {elt : E} {t : T} {a : E} {c : O} {own : List Nat} {τ : Tau} {m : Nat} {L : List D} (ha : evE g a τ = .ok (.int (m : Nat), [])) (hm : m ≤ 1000) (hc : compL (evE g elt) (evC g c) t own (wipeT τ own) (rngL 0 m) = .ok (L, [])) :
    evE g (.comp elt t (.r1 a) c own) τ = .ok (.list L, []) := by
  have hz2 : (rngL 0 m).length ≤ sizeLine := szs (by simp [rngL]; omega)
  conv => lhs; unfold evE
  rw [(r1_ok ha).trans (rng1 (by omega))]
  simp only [R.bind_ok, hz2, if_true, lkI_r1, frz_nil]
  rw [hc]; rfl
theorem kept_filt (g : G) (x0 x3 x4 x5 : Option (Bool × D)) (r : List Int) (cells : Nat) (hl : r.length = cells) (hc : cells ≤ 1000) (q : Int) :
    evE g (.bi .tuple (.cons (.comp (.v 4) (.n 4) (.r1 (.v 1)) (.yes (.cmp .Eq (.sub (.v 2) (.v 4)) (.k (.int q)))) [4]) .nil)) [x0, some (false, .int (cells : Nat)), some (false, .list (r.map .int)), x3, x4, x5] = .ok (.tuple (natD ((List.range cells).filter fun k => decide (rd r k = q))), []) := by
  refine tupComp (compR (m := cells) (by unfold evE; rfl) hc ?_)
  have := compL_eq (elt := evE g (.v 4)) (cond := evC g (.yes (.cmp .Eq (.sub (.v 2) (.v 4)) (.k (.int q))))) (t := .n 4) (own := [4]) (τw := wipeT [x0, some (false, .int (cells : Nat)), some (false, .list (r.map .int)), x3, x4, x5] [4])
    (g := fun k : Nat => PyData.int (k : Nat)) (f := fun k => .int (k : Nat)) (p := fun k => decide (rd r k = q)) (List.range cells) fun k hk => by
      have hk : k < cells := List.mem_range.mp hk
      have a1 := at_rd (ms := r) (j := k) (by omega)
      generalize rd r k = y at *
      exact ⟨_, rfl, by simp [evC, evT, evE, wipeT, a1], fun _ => by simp [evE, wipeT]⟩
  rw [← rng0] at this
  exact this
theorem kept_rev (g : G) (x0 x2 x3 x4 x5 : Option (Bool × D)) (cells : Nat) (hc : cells ≤ 1000) :
    evE g (.bi .tuple (.cons (.comp (.bin .Sub (.bin .Sub (.v 1) (.k (.int 1))) (.v 4)) (.n 4) (.r1 (.v 1)) .no [4]) .nil)) [x0, some (false, .int (cells : Nat)), x2, x3, x4, x5] = .ok (.tuple (natD ((List.range cells).map fun k => cells - 1 - k)), []) := by
  refine tupComp (compR (m := cells) (by unfold evE; rfl) hc ?_)
  have := compL_eq (elt := evE g (.bin .Sub (.bin .Sub (.v 1) (.k (.int 1))) (.v 4))) (cond := evC g .no) (t := .n 4) (own := [4]) (τw := wipeT [x0, some (false, .int (cells : Nat)), x2, x3, x4, x5] [4])
    (g := fun k : Nat => PyData.int (k : Nat)) (f := fun k => .int ((cells - 1 - k : Nat) : Int)) (p := fun _ => true) (List.range cells) fun k hk => by
      have hk : k < cells := List.mem_range.mp hk
      have e : ((cells : Nat) : Int) - 1 - (k : Nat) = ((cells - 1 - k : Nat) : Int) := by omega
      exact ⟨_, rfl, by unfold evC; rfl, fun _ => by simp [evE, wipeT, e]⟩
  rw [filter_tt, ← rng0] at this
  rw [this]
  simp [natD, List.map_map, Function.comp_def]
theorem kept_key (g : G) (ns r : List Int) (w : Int) (cells : Nat) (hl : r.length = cells) (hc : cells ≤ 100) (i9 : g.io 9 = []) (i10 : g.io 10 = []) (h9 : g.cf 9 [.list (ns.map .int), .int 6, .int (cells : Nat), .int 4] = .ok (.list (r.map .int), [])) (h10 : g.cf 10 [.list (ns.map .int), .int 8, .int 10] = .ok (.int w, [])) :
    ∃ (τ : Tau) (A B : List Nat), evSs g [] b__law_kept [some (false, .list (ns.map .int)), some (false, .int (cells : Nat)), none, none, none, none] = .ret τ (.tuple [.tuple (natD A), .tuple (natD (A ++ B))]) ∧ (∀ x ∈ A, x < cells) ∧ A.length ≤ 200 ∧ B.length ≤ 100 := by
  have s1 : evS g [] (.set (.n 2) (.call 9 (.cons (.v 0) (.cons (.k (.int 6)) (.cons (.v 1) (.cons (.k (.int 4)) .nil)))))) [some (false, .list (ns.map .int)), some (false, .int (cells : Nat)), none, none, none, none] = .nx [some (false, .list (ns.map .int)), some (false, .int (cells : Nat)), some (false, .list (r.map .int)), none, none, none] := by
    simp [evS, evE, evT, evEs, evO, evC, evI, evIo, evSs_n, asg, asgs, frz1, own?, ixN_nat, outs, ofI, divS, i9, h9]
  have f0 := kept_filt g (some (false, .list (ns.map .int))) none none none r cells hl (by omega) 0
  have f1 := fun x3 x5 => kept_filt g (some (false, .list (ns.map .int))) x3 none x5 r cells hl (by omega) 1
  have fr := fun x3 x5 => kept_rev g (some (false, .list (ns.map .int))) (some (false, .list (r.map .int))) x3 none x5 cells (by omega)
  have lA : ((List.range cells).filter fun k => decide (rd r k = 0)).length ≤ cells := Nat.le_trans (List.length_filter_le _ _) (by simp)
  have lB : ((List.range cells).filter fun k => decide (rd r k = 1)).length ≤ cells := Nat.le_trans (List.length_filter_le _ _) (by simp)
  have mA : ∀ x ∈ (List.range cells).filter fun k => decide (rd r k = 0), x < cells := fun x hx => List.mem_range.mp (List.mem_filter.mp hx).1
  generalize (List.range cells).filter (fun k => decide (rd r k = 0)) = A0 at *
  generalize (List.range cells).filter (fun k => decide (rd r k = 1)) = B at *
  have s2 : evS g [] (.set (.n 3) (.bi .tuple (.cons (.comp (.v 4) (.n 4) (.r1 (.v 1)) (.yes (.cmp .Eq (.sub (.v 2) (.v 4)) (.k (.int 0)))) [4]) .nil))) [some (false, .list (ns.map .int)), some (false, .int (cells : Nat)), some (false, .list (r.map .int)), none, none, none] = .nx [some (false, .list (ns.map .int)), some (false, .int (cells : Nat)), some (false, .list (r.map .int)), some (false, .tuple (natD A0)), none, none] := by
    unfold evS
    rw [f0]; rfl
  have s3 : evS g [] (.set (.n 5) (.call 10 (.cons (.v 0) (.cons (.k (.int 8)) (.cons (.k (.int 10)) .nil))))) [some (false, .list (ns.map .int)), some (false, .int (cells : Nat)), some (false, .list (r.map .int)), some (false, .tuple (natD A0)), none, none] = .nx [some (false, .list (ns.map .int)), some (false, .int (cells : Nat)), some (false, .list (r.map .int)), some (false, .tuple (natD A0)), none, some (false, .int w)] := by
    simp [evS, evE, evT, evEs, evO, evC, evI, evIo, evSs_n, asg, asgs, frz1, own?, ixN_nat, outs, ofI, divS, i10, h10]
  -- the three ways
  have ways : ∃ A : List Nat, (∀ x ∈ A, x < cells) ∧ A.length ≤ 200 ∧ ∀ ss : Ss, evSs g [] (.cons (.ifS (.cmp .Eq (.v 5) (.k (.int 0))) (.cons (.set (.n 3) (.tup .nil)) .nil) .nil) (.cons (.ifS (.cmp .Eq (.v 5) (.k (.int 1))) (.cons (.set (.n 3) (.bi .tuple (.cons (.comp (.bin .Sub (.bin .Sub (.v 1) (.k (.int 1))) (.v 4)) (.n 4) (.r1 (.v 1)) .no [4]) .nil))) .nil) .nil) (.cons (.ifS (.cmp .Eq (.v 5) (.k (.int 2))) (.cons (.set (.n 3) (.bin .Add (.rev (.v 3)) (.v 3))) .nil) .nil) ss))) [some (false, .list (ns.map .int)), some (false, .int (cells : Nat)), some (false, .list (r.map .int)), some (false, .tuple (natD A0)), none, some (false, .int w)] = evSs g [] ss [some (false, .list (ns.map .int)), some (false, .int (cells : Nat)), some (false, .list (r.map .int)), some (false, .tuple (natD A)), none, some (false, .int w)] := by
    by_cases w0 : w = 0
    · subst w0
      refine ⟨[], by simp, by simp, fun ss => ?_⟩
      rw [evSs_c]; simp [evS, evE, evT, evEs, evO, evC, evI, evIo, evSs_n, asg, asgs, frz1, own?, ixN_nat, outs, ofI, divS]
      rw [evSs_c]; simp [evS, evE, evT, evEs, evO, evC, evI, evIo, evSs_n, asg, asgs, frz1, own?, ixN_nat, outs, ofI, divS]
      rw [evSs_c]; simp [evS, evE, evT, evEs, evO, evC, evI, evIo, evSs_n, asg, asgs, frz1, own?, ixN_nat, outs, ofI, divS]
      rw [evSs_c]; simp [evS, evE, evT, evEs, evO, evC, evI, evIo, evSs_n, asg, asgs, frz1, own?, ixN_nat, outs, ofI, divS, natD]
    · by_cases w1 : w = 1
      · subst w1
        refine ⟨(List.range cells).map fun k => cells - 1 - k, fun x hx => ?_, by simp; omega, fun ss => ?_⟩
        · rw [List.mem_map] at hx
          obtain ⟨k, hk, rfl⟩ := hx
          have := List.mem_range.mp hk
          omega
        · have hset : evS g [] (.set (.n 3) (.bi .tuple (.cons (.comp (.bin .Sub (.bin .Sub (.v 1) (.k (.int 1))) (.v 4)) (.n 4) (.r1 (.v 1)) .no [4]) .nil))) [some (false, .list (ns.map .int)), some (false, .int (cells : Nat)), some (false, .list (r.map .int)), some (false, .tuple (natD A0)), none, some (false, .int 1)] = .nx [some (false, .list (ns.map .int)), some (false, .int (cells : Nat)), some (false, .list (r.map .int)), some (false, .tuple (natD ((List.range cells).map fun k => cells - 1 - k))), none, some (false, .int 1)] := by
            unfold evS
            rw [fr]; rfl
          generalize natD ((List.range cells).map fun k => cells - 1 - k) = KD at *
          have i1 : ∀ A τ, evT g (.cmp .Eq (.v 5) (.k (.int A))) τ = evT g (.cmp .Eq (.v 5) (.k (.int A))) τ := fun _ _ => rfl
          rw [evSs_c]
          have e1 : evS g [] (.ifS (.cmp .Eq (.v 5) (.k (.int 0))) (.cons (.set (.n 3) (.tup .nil)) .nil) .nil) [some (false, .list (ns.map .int)), some (false, .int (cells : Nat)), some (false, .list (r.map .int)), some (false, .tuple (natD A0)), none, some (false, .int 1)] = .nx [some (false, .list (ns.map .int)), some (false, .int (cells : Nat)), some (false, .list (r.map .int)), some (false, .tuple (natD A0)), none, some (false, .int 1)] := by simp [evS, evE, evT, evEs, evO, evC, evI, evIo, evSs_n, asg, asgs, frz1, own?, ixN_nat, outs, ofI, divS]
          rw [e1, Out.seq_nx, evSs_c]
          have e2 : ∀ A, evS g [] (.ifS (.cmp .Eq (.v 5) (.k (.int 1))) A .nil) [some (false, .list (ns.map .int)), some (false, .int (cells : Nat)), some (false, .list (r.map .int)), some (false, .tuple (natD A0)), none, some (false, .int 1)] = evSs g [] A [some (false, .list (ns.map .int)), some (false, .int (cells : Nat)), some (false, .list (r.map .int)), some (false, .tuple (natD A0)), none, some (false, .int 1)] := fun A => by simp [evS, evE, evT, evEs, evO, evC, evI, evIo, evSs_n, asg, asgs, frz1, own?, ixN_nat, outs, ofI, divS]
          rw [e2, evSs_c, hset, Out.seq_nx, evSs_n, Out.seq_nx, evSs_c]
          simp [evS, evE, evT, evEs, evO, evC, evI, evIo, evSs_n, asg, asgs, frz1, own?, ixN_nat, outs, ofI, divS]
      · by_cases w2 : w = 2
        · subst w2
          refine ⟨A0.reverse ++ A0, fun x hx => ?_, by simp; omega, fun ss => ?_⟩
          · rw [List.mem_append, List.mem_reverse] at hx
            exact mA x (hx.elim id id)
          · have hz : (natD A0).reverse.length + (natD A0).length ≤ sizeLine := szs (by simp [natD]; omega)
            have hz' : (natD A0).length + (natD A0).length ≤ sizeLine := by simpa using hz
            have hap : natD (A0.reverse ++ A0) = (natD A0).reverse ++ natD A0 := by simp [natD]
            rw [hap]
            generalize natD A0 = L at *
            rw [evSs_c]; simp [evS, evE, evT, evEs, evO, evC, evI, evIo, evSs_n, asg, asgs, frz1, own?, ixN_nat, outs, ofI, divS]
            rw [evSs_c]; simp [evS, evE, evT, evEs, evO, evC, evI, evIo, evSs_n, asg, asgs, frz1, own?, ixN_nat, outs, ofI, divS]
            rw [evSs_c]; simp [evS, evE, evT, evEs, evO, evC, evI, evIo, evSs_n, asg, asgs, frz1, own?, ixN_nat, outs, ofI, divS, hz, hz']
            rw [evSs_c]; simp [evS, evE, evT, evEs, evO, evC, evI, evIo, evSs_n, asg, asgs, frz1, own?, ixN_nat, outs, ofI, divS, hz, hz']
        · refine ⟨A0, mA, by omega, fun ss => ?_⟩
          rw [evSs_c]; simp [evS, evE, evT, evEs, evO, evC, evI, evIo, evSs_n, asg, asgs, frz1, own?, ixN_nat, outs, ofI, divS, w0, w1, w2]
          rw [evSs_c]; simp [evS, evE, evT, evEs, evO, evC, evI, evIo, evSs_n, asg, asgs, frz1, own?, ixN_nat, outs, ofI, divS, w0, w1, w2]
          rw [evSs_c]; simp [evS, evE, evT, evEs, evO, evC, evI, evIo, evSs_n, asg, asgs, frz1, own?, ixN_nat, outs, ofI, divS, w0, w1, w2]
  obtain ⟨A, hA, hA2, hw⟩ := ways
  have hz : (natD A).length + (natD B).length ≤ sizeLine := szs (by simp [natD]; omega)
  have s7 : evE g (.tup (.cons (.v 3) (.cons (.bin .Add (.v 3) (.bi .tuple (.cons (.comp (.v 4) (.n 4) (.r1 (.v 1)) (.yes (.cmp .Eq (.sub (.v 2) (.v 4)) (.k (.int 1)))) [4]) .nil))) .nil))) [some (false, .list (ns.map .int)), some (false, .int (cells : Nat)), some (false, .list (r.map .int)), some (false, .tuple (natD A)), none, some (false, .int w)] = .ok (.tuple [.tuple (natD A), .tuple (natD (A ++ B))], []) := by
    have hb : evE g (.bin .Add (.v 3) (.bi .tuple (.cons (.comp (.v 4) (.n 4) (.r1 (.v 1)) (.yes (.cmp .Eq (.sub (.v 2) (.v 4)) (.k (.int 1)))) [4]) .nil))) [some (false, .list (ns.map .int)), some (false, .int (cells : Nat)), some (false, .list (r.map .int)), some (false, .tuple (natD A)), none, some (false, .int w)] = .ok (.tuple (natD (A ++ B)), []) := by
      conv => lhs; unfold evE
      rw [f1]
      have : evE g (.v 3) [some (false, .list (ns.map .int)), some (false, .int (cells : Nat)), some (false, .list (r.map .int)), some (false, .tuple (natD A)), none, some (false, .int w)] = .ok (.tuple (natD A), []) := by unfold evE; rfl
      rw [this]
      simp only [R.bind_ok, bAddT, hz, if_true]
      simp [natD]
    have hv : evE g (.v 3) [some (false, .list (ns.map .int)), some (false, .int (cells : Nat)), some (false, .list (r.map .int)), some (false, .tuple (natD A)), none, some (false, .int w)] = .ok (.tuple (natD A), []) := by unfold evE; rfl
    conv => lhs; unfold evE
    unfold evEs
    rw [hv]
    unfold evEs
    rw [hb]
    unfold evEs
    simp
  refine ⟨[some (false, .list (ns.map .int)), some (false, .int (cells : Nat)), some (false, .list (r.map .int)), some (false, .tuple (natD A)), none, some (false, .int w)], A, B, ?_, hA, hA2, by omega⟩
  simp only [b__law_kept]
  rw [evSs_c, s1, Out.seq_nx, evSs_c, s2, Out.seq_nx, evSs_c, s3, Out.seq_nx, hw, evSs_c]
  conv => lhs; arg 1; unfold evS
  rw [s7]
  rfl
theorem kept_ok (n : Nat) (ns : List Int) (cells : Nat) (hc : cells ≤ 100) :
    ∃ A B : List Nat, callN prog (n + 4) 14 [.list (ns.map .int), .int (cells : Nat)] = .ok (.tuple [.tuple (natD A), .tuple (natD (A ++ B))], []) ∧ (∀ x ∈ A, x < cells) ∧ A.length ≤ 200 ∧ B.length ≤ 100 := by
  obtain ⟨r, h9, hl, _⟩ := row_ok (n + 1) ns 6 4 cells (by omega) (by omega) (by omega)
  obtain ⟨w, h10, _⟩ := one_ok n ns 8 10 (by omega) (by omega)
  rw [show n + 1 + 2 = n + 3 by omega] at h9
  rw [show n + 4 = (n + 3) + 1 from rfl]
  generalize hcf : callN prog (n + 3) = cf at h9 h10
  obtain ⟨τ, A, B, h, q⟩ := kept_key ⟨cf, prog.io, prog.gl, prog.wN⟩ ns r w cells hl hc io_9 io_10 h9 h10
  rw [← hcf] at h
  exact ⟨A, B, call_go (F := F__law_kept) rfl rfl rfl rfl h, q⟩
end Mp

namespace Mp
open PySem PySem.Spec PyProof.Rows L2
/-- one memory's turn -/
theorem law_turn (g : G) (S K M : D) (bits base cl : Int) (is js : List Ins) (kp : List Nat) (ms : List Int) (pl : Int) (o : Bool) (x10 x11 x12 x13 : Option (Bool × D)) (c1 c2 : List Int)
    (i7 : g.io 7 = []) (i11 : g.io 11 = []) (i20 : g.io 20 = [])
    (h11 : g.cf 11 [S, .int pl, .int cl, .int base] = .ok (.list (ms.map .int), []))
    (h7 : g.cf 7 [.tuple (is.map Ins.d), .tuple (ms.map .int), .int bits] = .ok (.tuple (c1.map .int), [])) (h7' : g.cf 7 [.tuple (js.map Ins.d), .tuple (ms.map .int), .int bits] = .ok (.tuple (c2.map .int), []))
    (h20 : g.cf 20 [.list (is.map Ins.d), .list (ms.map .int), .int base] = .ok (.list (c1.map .int), [])) (h20' : g.cf 20 [.tuple (js.map Ins.d), .list (ms.map .int), .int base] = .ok (.list (c2.map .int), []))
    (hk1 : ∀ x ∈ kp, x < c1.length) (hk2 : ∀ x ∈ kp, x < c2.length) (hag : ∀ x ∈ kp, rd c1 x = rd c2 x) (hkl : kp.length ≤ 1000) :
    ∃ y10 y11 y12, evSs g [] b_law_0 [some (false, S), some (false, .int bits), some (false, .int base), some (false, .int cl), some (o, .list (is.map Ins.d)), some (false, .tuple (natD kp)), some (false, M), some (false, .tuple (js.map Ins.d)), some (false, .tuple (js.map Ins.d)), some (false, .int pl), x10, x11, x12, x13] =
      .nx [some (false, S), some (false, .int bits), some (false, .int base), some (false, .int cl), some (o, .list (is.map Ins.d)), some (false, .tuple (natD kp)), some (false, M), some (false, .tuple (js.map Ins.d)), some (false, .tuple (js.map Ins.d)), some (false, .int pl), y10, y11, y12, x13] := by
  have n1 : ∀ L : List Nat, lk (.tuple (c1.map PyData.int)) L = [] := fun L => by
    cases L with
    | nil => rfl
    | cons i L => rw [lk_cons, if_pos]; exact noL_all (fun _ => rfl) c1
  have n2 : ∀ L : List Nat, lk (.tuple (c2.map PyData.int)) L = [] := fun L => by
    cases L with
    | nil => rfl
    | cons i L => rw [lk_cons, if_pos]; exact noL_all (fun _ => rfl) c2
  have q1 := eq_intsT c1
  have q2 := eq_intsT c2
  have cmp : ∀ (j : Nat) (c : List Int) (τ : Tau), τ[5]? = some (some (false, .tuple (natD kp))) → τ[j]? = some (some (false, .tuple (c.map .int))) → 13 < τ.length → j ≠ 13 → (∀ x ∈ kp, x < c.length) →
      evE g (.comp (.sub (.v j) (.v 13)) (.n 13) (.it (.v 5)) .no [13]) τ = .ok (.list ((kp.map fun x => rd c x).map .int), []) := fun j c τ e5 ej e13 hj hx => by
    have hcomp := compL_eq (elt := evE g (.sub (.v j) (.v 13))) (cond := evC g .no) (t := .n 13) (own := [13]) (τw := wipeT τ [13])
      (g := fun k : Nat => PyData.int (k : Nat)) (f := fun k => .int (rd c k)) (p := fun _ => true) kp fun k hk => by
        have a1 := at_rd (ms := c) (j := k) (hx k hk)
        refine ⟨_, rfl, by unfold evC; rfl, fun _ => ?_⟩
        have v1 : evE g (.v j) ((wipeT τ [13]).set 13 (some (false, .int (k : Nat)))) = .ok (.tuple (c.map .int), []) := by
          unfold evE
          show (match (((τ.set 13 none).set 13 (some (false, PyData.int (k : Nat))) : Tau))[j]? with | some (some (o, d)) => R.ok (d, if o then [j] else []) | _ => .st) = _
          rw [List.getElem?_set_ne (fun z => hj z.symm), List.getElem?_set_ne (fun z => hj z.symm), ej]; rfl
        have v2 : evE g (.v 13) ((wipeT τ [13]).set 13 (some (false, .int (k : Nat)))) = .ok (.int (k : Nat), []) := by
          unfold evE
          show (match (((τ.set 13 none).set 13 (some (false, PyData.int (k : Nat))) : Tau))[13]? with | some (some (o, d)) => R.ok (d, if o then [13] else []) | _ => .st) = _
          rw [List.getElem?_set_self (by simpa using e13)]; rfl
        have e0 : ((wipeT τ [13]).set 13 (some (false && isC (PyData.int (k : Nat)), .int (k : Nat)))) = (wipeT τ [13]).set 13 (some (false, .int (k : Nat))) := rfl
        rw [e0]
        conv => lhs; unfold evE
        rw [v1, v2]
        simp only [R.bind_ok, sT, a1, lk_I]
    rw [filter_tt] at hcomp
    have hi : evI g (.it (.v 5)) τ = .ok (natD kp, []) := by
      unfold evI
      have : evE g (.v 5) τ = .ok (.tuple (natD kp), []) := by unfold evE; rw [e5]; rfl
      rw [this]; rfl
    have hz : (natD kp).length ≤ sizeLine := szs (by simp [natD]; omega)
    conv => lhs; unfold evE
    rw [hi]
    simp only [R.bind_ok, hz, if_true, lkI_it, lkE_v', frz_nil]
    show (compL _ _ _ _ _ (kp.map fun k : Nat => PyData.int (k : Nat))).bind _ = _
    rw [hcomp, List.map_map]; rfl
  have hkk : (kp.map fun x => rd c1 x) = kp.map fun x => rd c2 x := List.map_congr_left hag
  have q3 := eq_intsL (kp.map fun x => rd c2 x)
  have s5 : evS g [] (.ifS (.cmp .NotEq (.comp (.sub (.v 11) (.v 13)) (.n 13) (.it (.v 5)) .no [13]) (.comp (.sub (.v 12) (.v 13)) (.n 13) (.it (.v 5)) .no [13])) (.cons (.ret (.k (.bool false))) .nil) .nil)
      [some (false, S), some (false, .int bits), some (false, .int base), some (false, .int cl), some (o, .list (is.map Ins.d)), some (false, .tuple (natD kp)), some (false, M), some (false, .tuple (js.map Ins.d)), some (false, .tuple (js.map Ins.d)), some (false, .int pl), some (false, .list (ms.map .int)), some (false, .tuple (c1.map .int)), some (false, .tuple (c2.map .int)), x13] =
      .nx [some (false, S), some (false, .int bits), some (false, .int base), some (false, .int cl), some (o, .list (is.map Ins.d)), some (false, .tuple (natD kp)), some (false, M), some (false, .tuple (js.map Ins.d)), some (false, .tuple (js.map Ins.d)), some (false, .int pl), some (false, .list (ms.map .int)), some (false, .tuple (c1.map .int)), some (false, .tuple (c2.map .int)), x13] := by
    conv => lhs; unfold evS; unfold evT
    rw [cmp 11 c1 _ rfl rfl (by simp) (by decide) hk1, cmp 12 c2 _ rfl rfl (by simp) (by decide) hk2, hkk]
    simp only [R.bind_ok, cNe, q3]
    rfl
  refine ⟨some (false, .list (ms.map .int)), some (false, .tuple (c1.map .int)), some (false, .tuple (c2.map .int)), ?_⟩
  generalize hI : is.map Ins.d = IL at *
  generalize hJ : js.map Ins.d = JL at *
  generalize hM' : ms.map PyData.int = ML at *
  generalize hC1 : c1.map PyData.int = C1 at *
  generalize hC2 : c2.map PyData.int = C2 at *
  generalize natD kp = KD at *
  simp only [b_law_0]
  rw [evSs_c]; simp [evS, evE, evT, evEs, evO, evC, evI, evIo, evSs_n, asg, asgs, frz1, own?, ixN_nat, outs, ofI, divS, i11, h11]
  rw [evSs_c]; simp [evS, evE, evT, evEs, evO, evC, evI, evIo, evSs_n, asg, asgs, frz1, own?, ixN_nat, outs, ofI, divS, i7, h7]
  rw [evSs_c]; simp [evS, evE, evT, evEs, evO, evC, evI, evIo, evSs_n, asg, asgs, frz1, own?, ixN_nat, outs, ofI, divS, i7, h7']
  rw [evSs_c]
  have s4 : evS g [] (.ifS (.or (.cmp .NotEq (.v 11) (.bi .tuple (.cons (.call 20 (.cons (.v 4) (.cons (.v 10) (.cons (.v 2) .nil)))) .nil))) (.cmp .NotEq (.v 12) (.bi .tuple (.cons (.call 20 (.cons (.v 7) (.cons (.v 10) (.cons (.v 2) .nil)))) .nil)))) (.cons (.ret (.k (.bool false))) .nil) .nil)
      [some (false, S), some (false, .int bits), some (false, .int base), some (false, .int cl), some (o, .list IL), some (false, .tuple KD), some (false, M), some (false, .tuple JL), some (false, .tuple JL), some (false, .int pl), some (false, .list ML), some (false, .tuple C1), some (false, .tuple C2), x13] =
      .nx [some (false, S), some (false, .int bits), some (false, .int base), some (false, .int cl), some (o, .list IL), some (false, .tuple KD), some (false, M), some (false, .tuple JL), some (false, .tuple JL), some (false, .int pl), some (false, .list ML), some (false, .tuple C1), some (false, .tuple C2), x13] := by
    cases o <;> simp [evS, evE, evT, evEs, evO, evC, evI, evIo, evSs_n, asg, asgs, frz1, own?, ixN_nat, outs, ofI, divS, i20, h20, h20', q1, q2, n1, n2]
  rw [s4, Out.seq_nx, evSs_c, s5, Out.seq_nx, evSs_n]
end Mp

namespace Mp
open PySem PySem.Spec PyProof.Rows L2
theorem isTupD (L : List D) : isiD (.tuple L) [.b "tuple"] = some true := by simp [isiD, isT, tyOf]
theorem lk_ins (is : List Ins) (L : List Nat) : lk (.tuple (is.map Ins.d)) L = [] := by
  cases L with
  | nil => rfl
  | cons i L => rw [lk_cons, if_pos]; exact noL_all ins_noL is
theorem noL_nat (l : List Nat) : noLs (natD l) = true := noL_all (fun _ => rfl) l
theorem lk_kept (A B : List Nat) (L : List Nat) : lk (.tuple [.tuple (natD A), .tuple (natD B)]) L = [] := by
  cases L with
  | nil => rfl
  | cons i L =>
    rw [lk_cons, if_pos]
    show (noLs (natD A) && (noLs (natD B) && true)) = true
    rw [noL_nat, noL_nat]; rfl
theorem law_tail (g : G) (S : D) (bits base cl : Int) (o : Bool) (is js ls : List Ins) (A B : List Nat) (m1 m2 : List Int) (c1 c2 e1 e2 : List Int)
    (i2 : g.io 2 = []) (i7 : g.io 7 = []) (i11 : g.io 11 = []) (i14 : g.io 14 = []) (i18 : g.io 18 = []) (i20 : g.io 20 = [])
    (h14 : g.cf 14 [S, .int cl] = .ok (.tuple [.tuple (natD A), .tuple (natD (A ++ B))], [])) (h18 : g.cf 18 [.list (is.map Ins.d), .tuple (natD A)] = .ok (.tuple (js.map Ins.d), []))
    (h2 : g.cf 2 [.tuple (is.map Ins.d), .tuple (natD A)] = .ok (.tuple (js.map Ins.d), [])) (h2' : g.cf 2 [.tuple (js.map Ins.d), .tuple (natD A)] = .ok (.tuple (js.map Ins.d), []))
    (h2m : g.cf 2 [.tuple (is.map Ins.d), .tuple (natD (A ++ B))] = .ok (.tuple (ls.map Ins.d), [])) (h2n : g.cf 2 [.tuple (ls.map Ins.d), .tuple (natD A)] = .ok (.tuple (js.map Ins.d), []))
    (t1 : ∀ M x10 x11 x12 x13, ∃ y10 y11 y12, evSs g [] b_law_0 [some (false, S), some (false, .int bits), some (false, .int base), some (false, .int cl), some (o, .list (is.map Ins.d)), some (false, .tuple (natD A)), some (false, M), some (false, .tuple (js.map Ins.d)), some (false, .tuple (js.map Ins.d)), some (false, .int 3), x10, x11, x12, x13] =
      .nx [some (false, S), some (false, .int bits), some (false, .int base), some (false, .int cl), some (o, .list (is.map Ins.d)), some (false, .tuple (natD A)), some (false, M), some (false, .tuple (js.map Ins.d)), some (false, .tuple (js.map Ins.d)), some (false, .int 3), y10, y11, y12, x13])
    (t2 : ∀ M x10 x11 x12 x13, ∃ y10 y11 y12, evSs g [] b_law_0 [some (false, S), some (false, .int bits), some (false, .int base), some (false, .int cl), some (o, .list (is.map Ins.d)), some (false, .tuple (natD A)), some (false, M), some (false, .tuple (js.map Ins.d)), some (false, .tuple (js.map Ins.d)), some (false, .int 17), x10, x11, x12, x13] =
      .nx [some (false, S), some (false, .int bits), some (false, .int base), some (false, .int cl), some (o, .list (is.map Ins.d)), some (false, .tuple (natD A)), some (false, M), some (false, .tuple (js.map Ins.d)), some (false, .tuple (js.map Ins.d)), some (false, .int 17), y10, y11, y12, x13]) :
    ∃ τ, evSs g [] (.cons (.set (.tup [5, 6]) (.call 14 (.cons (.v 0) (.cons (.v 3) .nil)))) (.cons (.set (.n 7) (.call 18 (.cons (.v 4) (.cons (.v 5) .nil)))) (.cons (.set (.n 8) (.call 2 (.cons (.bi .tuple (.cons (.v 4) .nil)) (.cons (.v 5) .nil)))) (.cons (.ifS (.or (.not (.isi (.v 8) [.b "tuple"])) (.cmp .NotEq (.v 8) (.v 7))) (.cons (.ret (.k (.bool false))) .nil) .nil) (.cons (.ifS (.or (.cmp .NotEq (.call 2 (.cons (.v 8) (.cons (.v 5) .nil))) (.v 7)) (.cmp .NotEq (.call 2 (.cons (.call 2 (.cons (.bi .tuple (.cons (.v 4) .nil)) (.cons (.v 6) .nil))) (.cons (.v 5) .nil))) (.v 7))) (.cons (.ret (.k (.bool false))) .nil) .nil) (.cons (.forS (.n 9) (.it (.lst (.cons (.k (.int 3)) (.cons (.k (.int 17)) .nil)))) b_law_0) (.cons (.ret (.k (.bool true))) .nil)))))))
      [some (false, S), some (false, .int bits), some (false, .int base), some (false, .int cl), some (o, .list (is.map Ins.d)), none, none, none, none, none, none, none, none, none] = .ret τ (.bool true) := by
  have qj := eq_ins js
  have lj := lk_ins js
  have ll := lk_ins ls
  have lkk := lk_kept A (A ++ B)
  have ti := isTupD (js.map Ins.d)
  obtain ⟨y10, y11, y12, u1⟩ := t1 (.tuple (natD (A ++ B))) none none none none
  obtain ⟨z10, z11, z12, u2⟩ := t2 (.tuple (natD (A ++ B))) y10 y11 y12 none
  generalize is.map Ins.d = IL at *
  generalize js.map Ins.d = JL at *
  generalize ls.map Ins.d = LL at *
  generalize natD A = AD at *
  generalize natD (A ++ B) = BD at *
  have sLoop : evS g [] (.forS (.n 9) (.it (.lst (.cons (.k (.int 3)) (.cons (.k (.int 17)) .nil)))) b_law_0) [some (false, S), some (false, .int bits), some (false, .int base), some (false, .int cl), some (o, .list IL), some (false, .tuple AD), some (false, .tuple BD), some (false, .tuple JL), some (false, .tuple JL), none, none, none, none, none] =
      .nx [some (false, S), some (false, .int bits), some (false, .int base), some (false, .int cl), some (o, .list IL), some (false, .tuple AD), some (false, .tuple BD), some (false, .tuple JL), some (false, .tuple JL), some (false, .int 17), z10, z11, z12, none] := by
    have hi : ∀ τ, evI g (.it (.lst (.cons (.k (.int 3)) (.cons (.k (.int 17)) .nil)))) τ = .ok ([.int 3, .int 17], []) := fun τ => by simp [evI, evE, evEs]
    unfold evS
    rw [hi]
    simp only [Out.ofR_ok, frz_nil]
    rw [forL_cons (by simp) u1, forL_cons (by simp) u2]
    rfl
  refine ⟨[some (false, S), some (false, .int bits), some (false, .int base), some (false, .int cl), some (o, .list IL), some (false, .tuple AD), some (false, .tuple BD), some (false, .tuple JL), some (false, .tuple JL), some (false, .int 17), z10, z11, z12, none], ?_⟩
  have w6 : evS g [] (.set (.tup [5, 6]) (.call 14 (.cons (.v 0) (.cons (.v 3) .nil)))) [some (false, S), some (false, .int bits), some (false, .int base), some (false, .int cl), some (o, .list IL), none, none, none, none, none, none, none, none, none] = .nx [some (false, S), some (false, .int bits), some (false, .int base), some (false, .int cl), some (o, .list IL), some (false, .tuple AD), some (false, .tuple BD), none, none, none, none, none, none, none] := by
    simp [evS, evE, evT, evEs, evO, evC, evI, evIo, evSs_n, asg, asgs, frz1, own?, ixN_nat, outs, ofI, divS, i14, h14, lkk]
  have w7 : evS g [] (.set (.n 7) (.call 18 (.cons (.v 4) (.cons (.v 5) .nil)))) [some (false, S), some (false, .int bits), some (false, .int base), some (false, .int cl), some (o, .list IL), some (false, .tuple AD), some (false, .tuple BD), none, none, none, none, none, none, none] = .nx [some (false, S), some (false, .int bits), some (false, .int base), some (false, .int cl), some (o, .list IL), some (false, .tuple AD), some (false, .tuple BD), some (false, .tuple JL), none, none, none, none, none, none] := by
    cases o <;> simp [evS, evE, evT, evEs, evO, evC, evI, evIo, evSs_n, asg, asgs, frz1, own?, ixN_nat, outs, ofI, divS, i18, h18, lj]
  have w8 : evS g [] (.set (.n 8) (.call 2 (.cons (.bi .tuple (.cons (.v 4) .nil)) (.cons (.v 5) .nil)))) [some (false, S), some (false, .int bits), some (false, .int base), some (false, .int cl), some (o, .list IL), some (false, .tuple AD), some (false, .tuple BD), some (false, .tuple JL), none, none, none, none, none, none] = .nx [some (false, S), some (false, .int bits), some (false, .int base), some (false, .int cl), some (o, .list IL), some (false, .tuple AD), some (false, .tuple BD), some (false, .tuple JL), some (false, .tuple JL), none, none, none, none, none] := by
    cases o <;> simp [evS, evE, evT, evEs, evO, evC, evI, evIo, evSs_n, asg, asgs, frz1, own?, ixN_nat, outs, ofI, divS, i2, h2, lj]
  have w9 : evS g [] (.ifS (.or (.not (.isi (.v 8) [.b "tuple"])) (.cmp .NotEq (.v 8) (.v 7))) (.cons (.ret (.k (.bool false))) .nil) .nil) [some (false, S), some (false, .int bits), some (false, .int base), some (false, .int cl), some (o, .list IL), some (false, .tuple AD), some (false, .tuple BD), some (false, .tuple JL), some (false, .tuple JL), none, none, none, none, none] = .nx [some (false, S), some (false, .int bits), some (false, .int base), some (false, .int cl), some (o, .list IL), some (false, .tuple AD), some (false, .tuple BD), some (false, .tuple JL), some (false, .tuple JL), none, none, none, none, none] := by
    simp [evS, evE, evT, evEs, evO, evC, evI, evIo, evSs_n, asg, asgs, frz1, own?, ixN_nat, outs, ofI, divS, ti, qj]
  have w10 : evS g [] (.ifS (.or (.cmp .NotEq (.call 2 (.cons (.v 8) (.cons (.v 5) .nil))) (.v 7)) (.cmp .NotEq (.call 2 (.cons (.call 2 (.cons (.bi .tuple (.cons (.v 4) .nil)) (.cons (.v 6) .nil))) (.cons (.v 5) .nil))) (.v 7))) (.cons (.ret (.k (.bool false))) .nil) .nil) [some (false, S), some (false, .int bits), some (false, .int base), some (false, .int cl), some (o, .list IL), some (false, .tuple AD), some (false, .tuple BD), some (false, .tuple JL), some (false, .tuple JL), none, none, none, none, none] = .nx [some (false, S), some (false, .int bits), some (false, .int base), some (false, .int cl), some (o, .list IL), some (false, .tuple AD), some (false, .tuple BD), some (false, .tuple JL), some (false, .tuple JL), none, none, none, none, none] := by
    cases o <;> simp [evS, evE, evT, evEs, evO, evC, evI, evIo, evSs_n, asg, asgs, frz1, own?, ixN_nat, outs, ofI, divS, i2, h2', h2m, h2n, qj, lj, ll]
  rw [evSs_c, w6, Out.seq_nx, evSs_c, w7, Out.seq_nx, evSs_c, w8, Out.seq_nx, evSs_c, w9, Out.seq_nx, evSs_c, w10, Out.seq_nx, evSs_c, sLoop, Out.seq_nx, evSs_c]
  simp [evS, evE, evT, evEs, evO, evC, evI, evIo, evSs_n, asg, asgs, frz1, own?, ixN_nat, outs, ofI, divS]
end Mp

namespace Mp
open PySem PySem.Spec PyProof.Rows L2
theorem lean_sub : ∀ (is : List Ins) (kept : List Nat) (i : Ins), i ∈ leanL is kept → i ∈ is
  | [], _, i, h => by simp [leanL, backB] at h
  | j :: r, kept, i, h => by
    rw [leanL_cons] at h
    split at h
    · rw [List.mem_cons] at h ⊢
      exact h.elim .inl fun z => .inr (lean_sub r kept i z)
    · exact List.mem_cons_of_mem _ (lean_sub r kept i h)
theorem lean_len : ∀ (is : List Ins) (kept : List Nat), (leanL is kept).length ≤ is.length
  | [], _ => by simp [leanL, backB]
  | j :: r, kept => by
    have := lean_len r kept
    rw [leanL_cons]
    split <;> simp only [List.length_cons] <;> omega
theorem mem_of {n : Nat} {base : Int} {ms : List Int} (hb : 0 < base) (h1 : ms.length = n) (h2 : ∀ x ∈ ms, Wd base x) : Mem n base ms := ⟨h1, fun j => by
  by_cases h : j < ms.length
  · exact h2 _ (rd_mem h)
  · have : rd ms j = 0 := by
      unfold rd
      rw [List.getD_eq_getElem?_getD, List.getElem?_eq_none (by omega)]; rfl
    rw [this]
    exact ⟨by decide, hb⟩⟩
theorem pow_ge {b : Nat} (hb : 8 ≤ b) : (256 : Int) ≤ 2 ^ b := by
  have : (2 : Nat) ^ 8 ≤ 2 ^ b := Nat.pow_le_pow_right (by decide) hb
  have h2 : (256 : Nat) ≤ 2 ^ b := this
  have : (((2 : Nat) ^ b : Nat) : Int) = (2 : Int) ^ b := by push_cast; rfl
  omega
theorem law_head (g : G) (S : D) (x0 x1 x4 x5 base : Int) (b cells m : Nat) (is : List Ins) (hb2 : b ≤ 16) (e0 : 8 + x0 = (b : Nat)) (e1 : 2 + x1 = (cells : Nat)) (e4 : x4 = (m : Nat)) (hbase : (2 : Int) ^ b = base)
    (i10 : g.io 10 = []) (i13 : g.io 13 = []) (h0 : g.cf 10 [S, .int 0, .int 9] = .ok (.int x0, [])) (h1 : g.cf 10 [S, .int 1, .int 11] = .ok (.int x1, [])) (h4 : g.cf 10 [S, .int 4, .int 30] = .ok (.int x4, [])) (h5 : g.cf 10 [S, .int 5, .int 16] = .ok (.int x5, []))
    (h13 : g.cf 13 [S, .int 9, .int (m : Nat), .int (cells : Nat), .int base] = .ok (.list (is.map Ins.d), [])) (hl : is.length ≤ 100) (ss : Ss) :
    ∃ (o : Bool) (is' : List Ins), (∀ i ∈ is', i ∈ is) ∧ is'.length ≤ 400 ∧
      evSs g [] (.cons (.set (.n 1) (.bin .Add (.k (.int 8)) (.call 10 (.cons (.v 0) (.cons (.k (.int 0)) (.cons (.k (.int 9)) .nil)))))) (.cons (.set (.n 2) (.bin .LShift (.k (.int 1)) (.v 1))) (.cons (.set (.n 3) (.bin .Add (.k (.int 2)) (.call 10 (.cons (.v 0) (.cons (.k (.int 1)) (.cons (.k (.int 11)) .nil)))))) (.cons (.set (.n 4) (.call 13 (.cons (.v 0) (.cons (.k (.int 9)) (.cons (.call 10 (.cons (.v 0) (.cons (.k (.int 4)) (.cons (.k (.int 30)) .nil)))) (.cons (.v 3) (.cons (.v 2) .nil))))))) (.cons (.ifS (.cmp .Eq (.call 10 (.cons (.v 0) (.cons (.k (.int 5)) (.cons (.k (.int 16)) .nil)))) (.k (.int 0))) (.cons (.set (.n 4) (.bin .Mult (.v 4) (.k (.int 4)))) .nil) .nil) ss)))))
        [some (false, S), none, none, none, none, none, none, none, none, none, none, none, none, none] =
      evSs g [] ss [some (false, S), some (false, .int (b : Nat)), some (false, .int base), some (false, .int (cells : Nat)), some (o, .list (is'.map Ins.d)), none, none, none, none, none, none, none, none, none] := by
  have hsh := shl_ok hb2
  have hsh2 : binD .LShift (.int 1) (.int (b : Nat)) = some (.int base) := by
    rw [bShl, if_pos hsh, Int.toNat_natCast, Int.one_mul, hbase]
  have w1 : evS g [] (.set (.n 1) (.bin .Add (.k (.int 8)) (.call 10 (.cons (.v 0) (.cons (.k (.int 0)) (.cons (.k (.int 9)) .nil)))))) [some (false, S), none, none, none, none, none, none, none, none, none, none, none, none, none] = .nx [some (false, S), some (false, .int (b : Nat)), none, none, none, none, none, none, none, none, none, none, none, none] := by
    simp [evS, evE, evT, evEs, evO, evC, evI, evIo, evSs_n, asg, asgs, frz1, own?, ixN_nat, outs, ofI, divS, i10, h0, e0]
  have w2 : evS g [] (.set (.n 2) (.bin .LShift (.k (.int 1)) (.v 1))) [some (false, S), some (false, .int (b : Nat)), none, none, none, none, none, none, none, none, none, none, none, none] = .nx [some (false, S), some (false, .int (b : Nat)), some (false, .int base), none, none, none, none, none, none, none, none, none, none, none] := by
    have e1 : evE g (.bin .LShift (.k (.int 1)) (.v 1)) [some (false, S), some (false, .int (b : Nat)), none, none, none, none, none, none, none, none, none, none, none, none] = .ok (.int base, []) := by
      have a1 : evE g (.k (.int 1)) [some (false, S), some (false, .int (b : Nat)), none, none, none, none, none, none, none, none, none, none, none, none] = .ok (.int 1, []) := by unfold evE; rfl
      have a2 : evE g (.v 1) [some (false, S), some (false, .int (b : Nat)), none, none, none, none, none, none, none, none, none, none, none, none] = .ok (.int (b : Nat), []) := by unfold evE; rfl
      conv => lhs; unfold evE
      rw [a1, a2]
      simp only [R.bind_ok, hsh2, lk_I]
    unfold evS
    rw [e1]
    simp only [Out.ofR_ok, frz_nil]
    rfl
  have w3 : evS g [] (.set (.n 3) (.bin .Add (.k (.int 2)) (.call 10 (.cons (.v 0) (.cons (.k (.int 1)) (.cons (.k (.int 11)) .nil)))))) [some (false, S), some (false, .int (b : Nat)), some (false, .int base), none, none, none, none, none, none, none, none, none, none, none] = .nx [some (false, S), some (false, .int (b : Nat)), some (false, .int base), some (false, .int (cells : Nat)), none, none, none, none, none, none, none, none, none, none] := by
    simp [evS, evE, evT, evEs, evO, evC, evI, evIo, evSs_n, asg, asgs, frz1, own?, ixN_nat, outs, ofI, divS, i10, h1, e1]
  have w4 : evS g [] (.set (.n 4) (.call 13 (.cons (.v 0) (.cons (.k (.int 9)) (.cons (.call 10 (.cons (.v 0) (.cons (.k (.int 4)) (.cons (.k (.int 30)) .nil)))) (.cons (.v 3) (.cons (.v 2) .nil))))))) [some (false, S), some (false, .int (b : Nat)), some (false, .int base), some (false, .int (cells : Nat)), none, none, none, none, none, none, none, none, none, none] = .nx [some (false, S), some (false, .int (b : Nat)), some (false, .int base), some (false, .int (cells : Nat)), some (false, .list (is.map Ins.d)), none, none, none, none, none, none, none, none, none] := by
    subst e4
    generalize is.map Ins.d = IL at *
    simp [evS, evE, evT, evEs, evO, evC, evI, evIo, evSs_n, asg, asgs, frz1, own?, ixN_nat, outs, ofI, divS, i10, i13, h4, h13]
  by_cases h : x5 = 0
  · refine ⟨true, is ++ (is ++ (is ++ is)), fun i hi => ?_, by simp; omega, ?_⟩
    · simp only [List.mem_append] at hi
      rcases hi with h | h | h | h <;> exact h
    · have hz : (is.map Ins.d).length * 4 ≤ sizeLine := szs (by simp; omega)
      have hm : (is ++ (is ++ (is ++ is))).map Ins.d = is.map Ins.d ++ (is.map Ins.d ++ (is.map Ins.d ++ is.map Ins.d)) := by simp
      rw [hm]
      have w5 : evS g [] (.ifS (.cmp .Eq (.call 10 (.cons (.v 0) (.cons (.k (.int 5)) (.cons (.k (.int 16)) .nil)))) (.k (.int 0))) (.cons (.set (.n 4) (.bin .Mult (.v 4) (.k (.int 4)))) .nil) .nil) [some (false, S), some (false, .int (b : Nat)), some (false, .int base), some (false, .int (cells : Nat)), some (false, .list (is.map Ins.d)), none, none, none, none, none, none, none, none, none] = .nx [some (false, S), some (false, .int (b : Nat)), some (false, .int base), some (false, .int (cells : Nat)), some (true, .list (is.map Ins.d ++ (is.map Ins.d ++ (is.map Ins.d ++ is.map Ins.d)))), none, none, none, none, none, none, none, none, none] := by
        have hml : binD .Mult (.list (is.map Ins.d)) (.int 4) = some (.list (is.map Ins.d ++ (is.map Ins.d ++ (is.map Ins.d ++ is.map Ins.d)))) := by
          rw [bMulL, if_pos ⟨by decide, by decide, hz⟩]
          show some (PyData.list (List.replicate 4 (is.map Ins.d)).flatten) = _
          simp [List.replicate]
        generalize is.map Ins.d = IL at *
        have ht : evT g (.cmp .Eq (.call 10 (.cons (.v 0) (.cons (.k (.int 5)) (.cons (.k (.int 16)) .nil)))) (.k (.int 0))) [some (false, S), some (false, .int (b : Nat)), some (false, .int base), some (false, .int (cells : Nat)), some (false, .list IL), none, none, none, none, none, none, none, none, none] = .ok true := by
          simp [evS, evE, evT, evEs, evO, evC, evI, evIo, evSs_n, asg, asgs, frz1, own?, ixN_nat, outs, ofI, divS, i10, h5, h]
        have hs : evS g [] (.set (.n 4) (.bin .Mult (.v 4) (.k (.int 4)))) [some (false, S), some (false, .int (b : Nat)), some (false, .int base), some (false, .int (cells : Nat)), some (false, .list IL), none, none, none, none, none, none, none, none, none] = .nx [some (false, S), some (false, .int (b : Nat)), some (false, .int base), some (false, .int (cells : Nat)), some (true, .list (IL ++ (IL ++ (IL ++ IL)))), none, none, none, none, none, none, none, none, none] := by
          have a1 : evE g (.v 4) [some (false, S), some (false, .int (b : Nat)), some (false, .int base), some (false, .int (cells : Nat)), some (false, .list IL), none, none, none, none, none, none, none, none, none] = .ok (.list IL, []) := by unfold evE; rfl
          have a2 : evE g (.k (.int 4)) [some (false, S), some (false, .int (b : Nat)), some (false, .int base), some (false, .int (cells : Nat)), some (false, .list IL), none, none, none, none, none, none, none, none, none] = .ok (.int 4, []) := by unfold evE; rfl
          have a3 : evE g (.bin .Mult (.v 4) (.k (.int 4))) [some (false, S), some (false, .int (b : Nat)), some (false, .int base), some (false, .int (cells : Nat)), some (false, .list IL), none, none, none, none, none, none, none, none, none] = .ok (.list (IL ++ (IL ++ (IL ++ IL))), []) := by
            conv => lhs; unfold evE
            rw [a1, a2]
            simp only [R.bind_ok, hml, lkE_v', lkE_k', List.append_nil, lk_nil]
          unfold evS
          rw [a3]
          simp only [Out.ofR_ok, frz_nil]
          rfl
        unfold evS
        rw [ht]
        show evSs g [] _ _ = _
        rw [evSs_c, hs, Out.seq_nx, evSs_n]
      rw [evSs_c, w1, Out.seq_nx, evSs_c, w2, Out.seq_nx, evSs_c, w3, Out.seq_nx, evSs_c, w4, Out.seq_nx, evSs_c, w5, Out.seq_nx]
  · refine ⟨false, is, fun i hi => hi, by omega, ?_⟩
    have w5 : evS g [] (.ifS (.cmp .Eq (.call 10 (.cons (.v 0) (.cons (.k (.int 5)) (.cons (.k (.int 16)) .nil)))) (.k (.int 0))) (.cons (.set (.n 4) (.bin .Mult (.v 4) (.k (.int 4)))) .nil) .nil) [some (false, S), some (false, .int (b : Nat)), some (false, .int base), some (false, .int (cells : Nat)), some (false, .list (is.map Ins.d)), none, none, none, none, none, none, none, none, none] = .nx [some (false, S), some (false, .int (b : Nat)), some (false, .int base), some (false, .int (cells : Nat)), some (false, .list (is.map Ins.d)), none, none, none, none, none, none, none, none, none] := by
      generalize is.map Ins.d = IL at *
      simp [evS, evE, evT, evEs, evO, evC, evI, evIo, evSs_n, asg, asgs, frz1, own?, ixN_nat, outs, ofI, divS, i10, h5, h]
    rw [evSs_c, w1, Out.seq_nx, evSs_c, w2, Out.seq_nx, evSs_c, w3, Out.seq_nx, evSs_c, w4, Out.seq_nx, evSs_c, w5, Out.seq_nx]
theorem law_n (n : Nat) (ns : List Int) : callN prog (n + 6) 21 [.list (ns.map .int)] = .ok (.bool true, []) := by
  obtain ⟨x0, h0, w0⟩ := one_ok (n + 2) ns 0 9 (by omega) (by omega)
  obtain ⟨x1, h1, w1⟩ := one_ok (n + 2) ns 1 11 (by omega) (by omega)
  obtain ⟨x4, h4, w4⟩ := one_ok (n + 2) ns 4 30 (by omega) (by omega)
  obtain ⟨x5, h5, w5⟩ := one_ok (n + 2) ns 5 16 (by omega) (by omega)
  unfold Wd at w0 w1 w4
  obtain ⟨b, e0, hb1, hb2⟩ : ∃ b : Nat, 8 + x0 = (b : Nat) ∧ 8 ≤ b ∧ b ≤ 16 := ⟨(8 + x0).toNat, by omega, by omega, by omega⟩
  obtain ⟨cells, e1, hc1, hc2⟩ : ∃ c : Nat, 2 + x1 = (c : Nat) ∧ 2 ≤ c ∧ c ≤ 12 := ⟨(2 + x1).toNat, by omega, by omega, by omega⟩
  obtain ⟨m, e4, hm⟩ : ∃ m : Nat, x4 = (m : Nat) ∧ m ≤ 30 := ⟨x4.toNat, by omega, by omega⟩
  have hge := pow_ge hb1
  have hlt := pow_small hb2
  obtain ⟨is0, h13, hl0, hok0⟩ := code_ok (n + 1) ns 9 (2 ^ b) m cells hge hlt (by omega) hc1
  obtain ⟨A, B, h14, hA, hA2, hB2⟩ := kept_ok (n + 1) ns cells (by omega)
  rw [show n + 2 + 3 = n + 5 by omega] at h0 h1 h4 h5
  rw [show n + 1 + 4 = n + 5 by omega] at h13 h14
  -- the heads
  obtain ⟨ms1, hw1, lw1, ww1⟩ := words_ok (n + 2) ns 3 (2 ^ b) cells hge hlt (by omega)
  obtain ⟨ms2, hw2, lw2, ww2⟩ := words_ok (n + 2) ns 17 (2 ^ b) cells hge hlt (by omega)
  rw [show n + 2 + 3 = n + 5 by omega] at hw1 hw2
  have M1 : Mem cells (2 ^ b) ms1 := mem_of (by omega) lw1 ww1
  have M2 : Mem cells (2 ^ b) ms2 := mem_of (by omega) lw2 ww2
  have calls : ∀ is : List Ins, (∀ i ∈ is, i ∈ is0) → is.length ≤ 400 →
      callN prog (n + 5) 18 [.list (is.map Ins.d), .tuple (natD A)] = .ok (.tuple ((leanL is A).map Ins.d), []) ∧
      (∀ K : List Nat, K.length ≤ 1000 → callN prog (n + 5) 2 [.tuple (is.map Ins.d), .tuple (natD K)] = .ok (.tuple ((leanL is K).map Ins.d), [])) ∧
      (∀ ms, Mem cells (2 ^ b) ms → callN prog (n + 5) 7 [.tuple (is.map Ins.d), .tuple (ms.map .int), .int (b : Nat)] = .ok (.tuple ((runs (2 ^ b) is ms).map .int), [])) ∧
      (∀ ms, Mem cells (2 ^ b) ms → callN prog (n + 5) 20 [.list (is.map Ins.d), .list (ms.map .int), .int (2 ^ b)] = .ok (.list ((runs (2 ^ b) is ms).map .int), [])) ∧
      (∀ ms, Mem cells (2 ^ b) ms → callN prog (n + 5) 20 [.tuple (is.map Ins.d), .list (ms.map .int), .int (2 ^ b)] = .ok (.list ((runs (2 ^ b) is ms).map .int), [])) := fun is hs hl => by
    have hok : ∀ i ∈ is, i.ok cells ∧ i.wd (2 ^ b) := fun i hi => hok0 i (hs i hi)
    refine ⟨?_, fun K hK => ?_, fun ms hM => ?_, fun ms hM => ?_, fun ms hM => ?_⟩
    · have := llean_ok (n + 2) is A (by omega)
      rw [show n + 2 + 3 = n + 5 by omega] at this
      exact this
    · have := lean_ok (n + 3) is K (by omega) hK
      rw [show n + 3 + 2 = n + 5 by omega] at this
      exact this
    · have := run_code_ok (n + 2) cells b (by omega) hb2 is ms hM hok
      rw [show n + 2 + 3 = n + 5 by omega] at this
      exact this
    · have := lrun_ok (n + 3) cells b (by omega) hb2 _ is (.inl rfl) ms hM hok
      rw [show n + 3 + 2 = n + 5 by omega] at this
      exact this
    · have := lrun_ok (n + 3) cells b (by omega) hb2 _ is (.inr rfl) ms hM hok
      rw [show n + 3 + 2 = n + 5 by omega] at this
      exact this
  rw [show n + 6 = (n + 5) + 1 from rfl]
  generalize hcf : callN prog (n + 5) = cf at *
  have key : ∃ τ, evSs ⟨cf, prog.io, prog.gl, prog.wN⟩ [] b_law [some (false, .list (ns.map .int)), none, none, none, none, none, none, none, none, none, none, none, none, none] = .ret τ (.bool true) := by
    simp only [b_law]
    obtain ⟨o, is, hsub, hlen, hh⟩ := law_head ⟨cf, prog.io, prog.gl, prog.wN⟩ (.list (ns.map .int)) x0 x1 x4 x5 (2 ^ b) b cells m is0 hb2 e0 e1 e4 rfl io_10 io_13 h0 h1 h4 h5 h13 (by omega) _
    rw [hh]
    obtain ⟨k18, k2, k7, k20, _⟩ := calls is hsub hlen
    obtain ⟨_, j2, j7, _, j20⟩ := calls (leanL is A) (fun i hi => hsub i (lean_sub is A i hi)) (Nat.le_trans (lean_len is A) hlen)
    obtain ⟨_, l2, _, _, _⟩ := calls (leanL is (A ++ B)) (fun i hi => hsub i (lean_sub is _ i hi)) (Nat.le_trans (lean_len is _) hlen)
    have jj := j2 A (by omega)
    rw [lean_lean] at jj
    have lj := l2 A (by omega)
    rw [lean_more (fun x hx => List.mem_append_left _ hx) is] at lj
    have hok : ∀ i ∈ is, i.ok cells := fun i hi => (hok0 i (hsub i hi)).1
    have turn := fun (ms : List Int) (hM : Mem cells (2 ^ b) ms) (pl : Int) (hcall : cf 11 [.list (ns.map .int), .int pl, .int (cells : Nat), .int (2 ^ b)] = .ok (.list (ms.map .int), [])) (Mx : D) (x10 x11 x12 x13 : Option (Bool × D)) => by
      have r1 : (runs (2 ^ b) is ms).length = cells := (runs_mem (by omega) hM fun i hi => (hok0 i (hsub i hi)).2).1
      have r2 : (runs (2 ^ b) (leanL is A) ms).length = cells := (runs_mem (by omega) hM fun i hi => (hok0 i (hsub i (lean_sub is A i hi))).2).1
      exact law_turn ⟨cf, prog.io, prog.gl, prog.wN⟩ (.list (ns.map .int)) .none Mx (b : Nat) (2 ^ b) (cells : Nat) is (leanL is A) A ms pl o x10 x11 x12 x13 (runs (2 ^ b) is ms) (runs (2 ^ b) (leanL is A) ms) io_7 io_11 io_20 hcall (k7 ms hM) (j7 ms hM) (k20 ms hM) (j20 ms hM)
        (fun x hx => by rw [r1]; exact hA x hx) (fun x hx => by rw [r2]; exact hA x hx) (fun x hx => runs_agree is ms ms hM.1 hM.1 hok (fun _ _ => rfl) x hx) (by omega)
    exact law_tail ⟨cf, prog.io, prog.gl, prog.wN⟩ (.list (ns.map .int)) (b : Nat) (2 ^ b) (cells : Nat) o is (leanL is A) (leanL is (A ++ B)) A B [] [] [] [] [] [] io_2 io_7 io_11 io_14 io_18 io_20 h14 k18 (k2 A (by omega)) jj (k2 (A ++ B) (by rw [List.length_append]; omega)) lj
      (fun Mx x10 x11 x12 x13 => turn ms1 M1 3 hw1 Mx x10 x11 x12 x13) (fun Mx x10 x11 x12 x13 => turn ms2 M2 17 hw2 Mx x10 x11 x12 x13)
  obtain ⟨τ, h⟩ := key
  rw [← hcf] at h
  exact call_go (F := F_law) rfl rfl rfl rfl h
theorem law_true : ∀ ns : List Int, ns.length ≤ 63 → (∀ z ∈ ns, Builtin.Int.intBits z ≤ 1048576) → callN prog 6 21 [.list (ns.map .int)] = .ok (.bool true, []) := fun ns _ _ => by
  rw [show (6 : Nat) = 0 + 6 from rfl]
  exact law_n 0 ns
end Mp

open PySem PySem.W PyProof.Rows
set_option maxHeartbeats 0 in
theorem PySem.Challenge.cw_swornspire_k13_lean_code_holds : PySem.Challenge.rw_swornspire_k13_lean_code.Holds := by
  w_on; o_law; k_head; (case hw => w_witness2)
  k_fill
  refine Mp.walk_mp (l := PySem.Challenge.rw_swornspire_k13_lean_code) (n := 63) (m := 6) (iL := 21) (p := Mp.prog) (dL := Mp.d_law) (xa := fun _ _ _ _ => False) rfl (by decide) rfl ⟨rfl, by decide, by decide⟩ (fun w h Y => PySem.W.kIn_of Y) Mp.oks rfl rfl rfl rfl ?hat ?hbi ?hgl Mp.law_true
  case hat =>
    intro w d hd
    simp only [Mp.defs, List.mem_cons, List.not_mem_nil, or_false] at hd
    rcases hd with rfl | rfl | rfl | rfl | rfl | rfl | rfl | rfl | rfl | rfl | rfl | rfl | rfl | rfl | rfl | rfl | rfl | rfl | rfl | rfl | rfl | rfl
    all_goals (refine' Mp.mkDef ?a ?l ?c ?k; (case a => k_is); (case l => k_is); (case c => k_is); (case k => k_is))
  case hbi =>
    intro w x hx
    simp only [Mp.bis, List.contains_cons, List.contains_nil, Bool.or_eq_true, beq_iff_eq, Bool.or_false] at hx
    rcases hx with rfl | rfl | rfl | rfl | rfl | rfl | rfl | rfl
    all_goals k_is
  case hgl => intro w i x hx; cases i <;> cases hx

