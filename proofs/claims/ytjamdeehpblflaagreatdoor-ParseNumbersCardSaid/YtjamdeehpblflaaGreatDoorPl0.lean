/- Own texts put together: P14, P16, P5 .. -/
import Derived.Test.YtjamdeehpblflaaGreatDoorVm1
import Derived.Shelf.Strings.Builder1
import Derived.Shelf.Strings.Builder2
import Derived.Shelf.Strings.OnBuilder
import Derived.Shelf.Strings.BuilderF
import Derived.Shelf.Strconv.Itoa0
import Derived.Shelf.Strconv.Itoa1
import Derived.Shelf.LaysM
import Derived.Shelf.Strconv.Itoa2
import Derived.Shelf.Strconv.Itoa3
import Derived.Shelf.Strconv.Itoa4
import Derived.Shelf.Strconv.ParseIntEmpty
import Derived.Shelf.Strconv.Clone
import Derived.Shelf.Strconv.SyntaxError
import Derived.Shelf.LaysC
import Derived.Shelf.Strconv.ToError
import Derived.Shelf.Strconv.Lower
import Derived.Shelf.Strconv.ParseUint10
import Derived.Shelf.Strconv.ParseUint10Empty
import Derived.Shelf.Strconv.ParseUint10Any
import Derived.Shelf.Strconv.ParseInt10
import Derived.Shelf.Strconv.RangeError
import Derived.Shelf.Strconv.ToErrorRange
import Derived.Shelf.Strconv.ParseUintEmpty
import Derived.Shelf.Strconv.ParseUint10b64
import Derived.Shelf.Strconv.ParseUint10b32
import Derived.Shelf.Strconv.ParseUint10b16
import Derived.Shelf.Strconv.ParseUint10b8
import Derived.Shelf.Strconv.ParseUint10At
import Derived.Shelf.Strconv.ParseInt10At64
import Derived.Shelf.Strconv.ParseInt10At32
import Derived.Shelf.Strconv.ParseInt10At16
import Derived.Shelf.Strconv.ParseInt10At8
import Derived.Shelf.Strconv.ParseInt10All
import Derived.Shelf.Strconv.ParseIntPublic10
import Derived.Shelf.Strconv.ErrVarParseInt
import Derived.Shelf.Slices.Clone
import Derived.Shelf.SlicesE.Clone
import Derived.Test.YtjamdeehpblflaaGreatDoorProg
namespace Go.Pf
abbrev LI := List Int
abbrev LN := Int × LI × LI × LI × Int × Int × ByteArray
abbrev ln0 : LN := (0,([],([],([],(0,(0,ByteArray.empty))))))
abbrev LT := LI × LI
theorem obs {α β : Type} (a : α) (f : α → Option β) : (some a).bind f = f a := rfl
theorem ifp {c : Prop} [Decidable c] {α : Type} {a b : α} (h : c := by omega) : (if c then a else b) = a := if_pos h
theorem ifq {c : Prop} [Decidable c] {α : Type} {a b : α} (h : ¬ c := by omega) : (if c then a else b) = b := if_neg h
theorem sun {n : Nat} (h : 0 < n := by omega) : ∃ m, n = m + 1 := ⟨n - 1,by omega⟩
theorem lSi {α : Type} {a : α} : [a].length = 1 := rfl
theorem tNc (n : Nat) : (n : Int).toNat = n := Int.toNat_natCast n
theorem dNl {α : Type} {l : List α} {i : Nat} (h : l.length ≤ i) : l.drop i = [] := List.drop_eq_nil_of_le h
theorem lAp {α : Type} {a b : List α} : (a ++ b).length = a.length + b.length := List.length_append
theorem gDg {α : Type} {l : List α} {i : Nat} {a : α} : l.getD i a = l[i]?.getD a := List.getD_eq_getElem?_getD
theorem dZr {α : Type} {l : List α} : l.drop 0 = l := rfl
theorem lCo {α : Type} {a : α} {l : List α} : (a :: l).length = l.length + 1 := rfl
theorem mCm {α : Type} (y : α) {a : α} {l : List α} (h : a ∈ l) : a ∈ y :: l := List.mem_cons_of_mem y h
theorem lTk {α : Type} {i : Nat} {l : List α} : (l.take i).length = min i l.length := List.length_take
theorem nAp {α : Type} (a : List α) : [] ++ a = a := rfl
theorem aAs {α : Type} (a b c : List α) : a ++ b ++ c = a ++ (b ++ c) := List.append_assoc a b c
theorem bAt (a b : Bool) : ((a && b) = true) = (a = true ∧ b = true) := Bool.and_eq_true a b
end Go.Pf

set_option linter.unusedVariables false
set_option linter.unusedSimpArgs false
namespace Go.Pf
open Go
def qdV.f (a0 : Int) (a1 : Int) (a2 : Int) : Option (Int) := if a1 ≤ a0 then (if a0 ≤ a2 then (some a0) else if IntKind.i64.wrap ((IntKind.i64.wrap (a2 - a1)) + 1) ≠ 0 then if a0.tmod (IntKind.i64.wrap ((IntKind.i64.wrap (a2 - a1)) + 1)) < 0 then (some (IntKind.i64.wrap (a1 + (IntKind.i64.wrap ((IntKind.i64.wrap ((IntKind.i64.wrap ((a0.tmod (IntKind.i64.wrap ((IntKind.i64.wrap (a2 - a1)) + 1))) + a2)) - a1)) + 1))))) else some (IntKind.i64.wrap (a1 + (a0.tmod (IntKind.i64.wrap ((IntKind.i64.wrap (a2 - a1)) + 1))))) else none) else if IntKind.i64.wrap ((IntKind.i64.wrap (a2 - a1)) + 1) ≠ 0 then if a0.tmod (IntKind.i64.wrap ((IntKind.i64.wrap (a2 - a1)) + 1)) < 0 then (some (IntKind.i64.wrap (a1 + (IntKind.i64.wrap ((IntKind.i64.wrap ((IntKind.i64.wrap ((a0.tmod (IntKind.i64.wrap ((IntKind.i64.wrap (a2 - a1)) + 1))) + a2)) - a1)) + 1))))) else some (IntKind.i64.wrap (a1 + (a0.tmod (IntKind.i64.wrap ((IntKind.i64.wrap (a2 - a1)) + 1))))) else none
end Go.Pf

namespace Go.Pf
open Go
def qaU.l0 : Nat → Int → LI → Int → Int → Option (Int ⊕ Bool)
 | 0,_,_,_,_ => none
 | n + 1,x3,x9,x10,x11 => if x11 < x10 then (if 0 ≤ x11 ∧ x11 < (x9.length : Int) then if x9.getD x11.toNat 0 < 0 then (some (.inr false)) else if 32 < x9.getD x11.toNat 0 then (some (.inr false)) else qaU.l0 n (IntKind.i64.wrap (x3 * (x9.getD x11.toNat 0))) x9 x10 (IntKind.i64.wrap (x11 + 1)) else none) else some (.inl x3)
def qaU.f (k : Nat) (a0 : LI) : Option (Bool) := if 4 < (a0.length : Int) then (some false) else (qaU.l0 k 1 a0 (a0.length : Int) 0).bind fun t1 => Sum.elim (fun t1 => some (decide (t1 ≤ 4096))) (fun t1 => some t1) t1
def qa1.l0 : Nat → LI → Int → Int → Int → Option (Unit ⊕ Int)
 | 0,_,_,_,_ => none
 | n + 1,x0,x1,x7,x8 => if x8 < x7 then (if 0 ≤ x8 ∧ x8 < (x0.length : Int) then if x1 = x0.getD x8.toNat 0 then (some (.inr x8)) else qa1.l0 n x0 x1 x7 (IntKind.i64.wrap (x8 + 1)) else none) else some (.inl ())
def qa1.f (k : Nat) (a0 : LI) (a1 : Int) : Option (Int) := (qa1.l0 k a0 a1 (a0.length : Int) 0).bind fun t1 => Sum.elim (fun t1 => some (-1)) (fun t1 => some t1) t1
def qb8.f (k : Nat) (a0 : LI) (a1 : Int) : Option (Bool) := (qa1.f k a0 a1).bind fun t1 => some (decide (0 ≤ t1))
def qad.f (a1 : Int) (o0_0 : LI) (o0_1 : Int) : Option (Int × Int) := if (o0_0.length : Int) ≤ o0_1 then (some (0,o0_1)) else if a1 < 1 then (some (0,o0_1)) else if 0 ≤ IntKind.i64.wrap ((IntKind.i64.wrap (o0_1 + 1)) - 1) ∧ IntKind.i64.wrap ((IntKind.i64.wrap (o0_1 + 1)) - 1) < (o0_0.length : Int) then (qdV.f (o0_0.getD (IntKind.i64.wrap ((IntKind.i64.wrap (o0_1 + 1)) - 1)).toNat 0) 0 1073741824).bind fun t1 => if a1 ≠ 0 then some (t1.tmod a1,IntKind.i64.wrap (o0_1 + 1)) else none else none
def qaw.l0 : Nat → Int → LI → Int → LI → Option (Int × LI)
 | 0,_,_,_,_ => none
 | n + 1,x4,y0_0,y0_1,y1 => if 0 < x4 then ((qad.f 8 y0_0 y0_1).bind fun t2 => if 0 ≤ t2.1 ∧ t2.1 < (([1,2,3,4,5,0,7,2] : LI).length : Int) then if t2.1.toNat < ([1,2,3,4,5,0,7,2] : LI).length then if y1.length + [([1,2,3,4,5,0,7,2] : LI).getD t2.1.toNat 0].length ≤ 281474976710656 ∧ (y1.length + [([1,2,3,4,5,0,7,2] : LI).getD t2.1.toNat 0].length) * 8 ≤ 140737488355328 then qaw.l0 n (IntKind.i64.wrap (x4 - 1)) y0_0 t2.2 (y1 ++ [([1,2,3,4,5,0,7,2] : LI).getD t2.1.toNat 0]) else none else none else none) else some (y0_1,y1)
def qaw.f (k : Nat) (o0_0 : LI) (o0_1 : Int) : Option (Int × LI) := (qad.f 4 o0_0 o0_1).bind fun t1 => (qaw.l0 k t1.1 o0_0 t1.2 []).bind fun t3 => some (t3.1,t3.2)
def qaP.l0 : Nat → LI → Int → Int → LI → Int → LI → (List Bool) → Option (Int × LI)
 | 0,_,_,_,_,_,_,_ => none
 | n + 1,x1,x17,x18,y0_0,y0_1,y1,y2 => if x18 < x17 then (if 0 ≤ x18 ∧ x18 < (y1.length : Int) then if x18.toNat < y1.length then if 0 < (x1.length : Int) then ((qad.f 2 y0_0 y0_1).bind fun t1 => if t1.1 = 0 then ((qad.f (x1.length : Int) y0_0 t1.2).bind fun t2 => if 0 ≤ t2.1 ∧ t2.1 < (y2.length : Int) then if t2.1.toNat < y2.length then if (y2.getD t2.1.toNat false) = true then (qaP.l0 n x1 x17 (IntKind.i64.wrap (x18 + 1)) y0_0 t2.2 (y1.set x18.toNat (-1)) y2) else if 0 ≤ x18 ∧ x18 < ((y1.set x18.toNat (-1)).length : Int) then if x18.toNat < (y1.set x18.toNat (-1)).length then qaP.l0 n x1 x17 (IntKind.i64.wrap (x18 + 1)) y0_0 t2.2 ((y1.set x18.toNat (-1)).set x18.toNat t2.1) (y2.set t2.1.toNat true) else none else none else none else none) else qaP.l0 n x1 x17 (IntKind.i64.wrap (x18 + 1)) y0_0 t1.2 (y1.set x18.toNat (-1)) y2) else qaP.l0 n x1 x17 (IntKind.i64.wrap (x18 + 1)) y0_0 y0_1 (y1.set x18.toNat (-1)) y2 else none else none) else some (y0_1,y1)
def qaP.f (k : Nat) (a1 : LI) (a2 : Int) (o0_0 : LI) (o0_1 : Int) : Option (Int × LI) := if 0 ≤ a2 ∧ a2 ≤ 281474976710656 ∧ ((8 : Nat) : Int) * a2 ≤ 140737488355328 then if 0 ≤ (a1.length : Int) ∧ (a1.length : Int) ≤ 281474976710656 ∧ ((1 : Nat) : Int) * (a1.length : Int) ≤ 140737488355328 then (qaP.l0 k a1 ((List.replicate a2.toNat (0 : Int)).length : Int) 0 o0_0 o0_1 (List.replicate a2.toNat (0 : Int)) (List.replicate (a1.length : Int).toNat (false : Bool))).bind fun t3 => some (t3.1,t3.2) else none else none
end Go.Pf

namespace Go.Pf
open Go
def qaF.l0 : Nat → LI → Int → Int → Option (Int ⊕ Bool)
 | 0,_,_,_ => none
 | n + 1,x0,x3,x4 => if x4 < (x0.length : Int) then (if 0 ≤ x4 ∧ x4 < (x0.length : Int) then if x0.getD x4.toNat 0 < 0 then (some (.inr false)) else if 32 < x0.getD x4.toNat 0 then (some (.inr false)) else if 4 ≤ x4 then (some (.inr false)) else qaF.l0 n x0 (IntKind.i64.wrap (x3 * (x0.getD x4.toNat 0))) (IntKind.i64.wrap (x4 + 1)) else none) else some (.inl x3)
def qaF.f (k : Nat) (a0 : LI) : Option (Bool) := (qaF.l0 k a0 1 0).bind fun t1 => Sum.elim (fun t1 => some (decide (t1 ≤ 4096))) (fun t1 => some t1) t1
def qbU.l0 : Nat → LI → Int → Int → Option (Int)
 | 0,_,_,_ => none
 | n + 1,x0,x3,x4 => if x4 < (x0.length : Int) then (if 0 ≤ x4 ∧ x4 < (x0.length : Int) then qbU.l0 n x0 (IntKind.i64.wrap (x3 * (x0.getD x4.toNat 0))) (IntKind.i64.wrap (x4 + 1)) else none) else some x3
def qbU.f (k : Nat) (a0 : LI) : Option (Int) := (qaF.f k a0).bind fun t1 => if t1 = true then ((qbU.l0 k a0 1 0).bind fun t2 => some t2) else some 0
def qa2.l0 (k : Nat) : Nat → LI → Int → Int → LI → LI → Option (LI)
 | 0,_,_,_,_,_ => none
 | n + 1,x0,x1,x6,y2,y3 => (qbU.f k x0).bind fun t1 => if x6 < t1 then (if y3.length + [x1].length ≤ 281474976710656 ∧ (y3.length + [x1].length) * 8 ≤ 140737488355328 then qa2.l0 k n x0 x1 (IntKind.i64.wrap (x6 + 1)) y2 (y3 ++ [x1]) else none) else some y3
def qa2.f (k : Nat) (a0 : LI) (a1 : Int) : Option LT := if 0 + a0.length ≤ 281474976710656 ∧ (0 + a0.length) * 8 ≤ 140737488355328 then (qa2.l0 k k a0 a1 0 ([] ++ a0) []).bind fun t2 => some ([] ++ a0,t2) else none
def qbf.f (o0_0 : LI) (o0_1 : Int) : Option (Int × Int) := (qad.f 9 o0_0 o0_1).bind fun t1 => if t1.1 = 0 then ((qad.f 6 o0_0 t1.2).bind fun t2 => if 0 ≤ t2.1 ∧ t2.1 < (([9223372036854775807,-9223372036854775808,4611686018427387904,-1099511627776,8589934592,3037000500] : LI).length : Int) then if t2.1.toNat < ([9223372036854775807,-9223372036854775808,4611686018427387904,-1099511627776,8589934592,3037000500] : LI).length then some (([9223372036854775807,-9223372036854775808,4611686018427387904,-1099511627776,8589934592,3037000500] : LI).getD t2.1.toNat 0,t2.2) else none else none) else if t1.1 = 1 then (some (0,t1.2)) else (qad.f 19 o0_0 t1.2).bind fun t3 => some (IntKind.i64.wrap (t3.1 - 9),t3.2)
def qbF.f (a0 : LI) : Option (LI) := if 0 + a0.length ≤ 281474976710656 ∧ (0 + a0.length) * 8 ≤ 140737488355328 then some ([] ++ a0) else none
def qaW.l1 : Nat → Int → LI → (List LI) → Int → Int → LI → Int → Int → LI → Option (Unit ⊕ Int)
 | 0,_,_,_,_,_,_,_,_,_ => none
 | n + 1,x0,x8,x33,x34,x35,x44,x45,x46,y0 => if x46 < x45 then (if 0 ≤ x46 ∧ x46 < (x44.length : Int) then if x46 = x0 then (qaW.l1 n x0 x8 x33 x34 x35 x44 x45 (IntKind.i64.wrap (x46 + 1)) y0) else if 0 ≤ x46 ∧ x46 < (y0.length : Int) then if x46.toNat < y0.length then if x44.getD x46.toNat 0 = y0.getD x46.toNat 0 then (qaW.l1 n x0 x8 x33 x34 x35 x44 x45 (IntKind.i64.wrap (x46 + 1)) y0) else some (.inr 13) else none else none else none) else some (.inl ())
def qaW.l0 (k : Nat) : Nat → Int → (List LI) → Int → Int → LI → Option (LI ⊕ Int)
 | 0,_,_,_,_,_ => none
 | n + 1,x0,x33,x34,x35,y0 => if x35 < x34 then (if 0 ≤ x35 ∧ x35 < (x33.length : Int) then if ((x33.getD x35.toNat []).length : Int) = (y0.length : Int) then ((qaW.l1 n x0 (x33.getD x35.toNat []) x33 x34 x35 (x33.getD x35.toNat []) ((x33.getD x35.toNat []).length : Int) 0 y0).bind fun t2 => Sum.elim (fun t2 => if 0 ≤ x0 ∧ x0 < (y0.length : Int) then if x0.toNat < y0.length then if 0 ≤ x0 ∧ x0 < ((x33.getD x35.toNat []).length : Int) then if 0 ≤ x0 ∧ x0 < ((y0.set x0.toNat (IntKind.i64.wrap ((y0.getD x0.toNat 0) + ((x33.getD x35.toNat []).getD x0.toNat 0)))).length : Int) then if x0.toNat < (y0.set x0.toNat (IntKind.i64.wrap ((y0.getD x0.toNat 0) + ((x33.getD x35.toNat []).getD x0.toNat 0)))).length then if 32 < (y0.set x0.toNat (IntKind.i64.wrap ((y0.getD x0.toNat 0) + ((x33.getD x35.toNat []).getD x0.toNat 0)))).getD x0.toNat 0 then (some (.inr 13)) else qaW.l0 k n x0 x33 x34 (IntKind.i64.wrap (x35 + 1)) (y0.set x0.toNat (IntKind.i64.wrap ((y0.getD x0.toNat 0) + ((x33.getD x35.toNat []).getD x0.toNat 0)))) else none else none else none else none else none) (fun t2 => some (.inr t2)) t2) else some (.inr 13) else none) else some (.inl y0)
def qaW.f (k : Nat) (a0 : Int) (a1 : List LI) : Option (Int × LI) := if (a1.length : Int) = 0 then (some (1,[])) else if a0 < 0 then (some (1,[])) else if (0 : Int) ≤ 0 ∧ 0 < (a1.length : Int) then if ((a1.getD 0 []).length : Int) ≤ a0 then (some (1,[])) else (qbF.f (a1.getD 0 [])).bind fun t1 => if 0 ≤ a0 ∧ a0 < (t1.length : Int) then if a0.toNat < t1.length then (qaW.l0 k k a0 a1 (a1.length : Int) 0 (t1.set a0.toNat 0)).bind fun t3 => Sum.elim (fun t3 => (qaU.f k t3).bind fun t4 => if t4 = true then (some (0,t3)) else some (13,[])) (fun t3 => some (t3,[])) t3 else none else none else none
def qk7.l0 : Nat → LI → Int → Int → LI → Option (LI)
 | 0,_,_,_,_ => none
 | n + 1,x0,x1,x6,y0 => if 0 ≤ x6 then (if 0 ≤ x6 ∧ x6 < (x0.length : Int) then if x0.getD x6.toNat 0 ≠ 0 then if 0 ≤ x6 ∧ x6 < (y0.length : Int) then if x6.toNat < y0.length then qk7.l0 n x0 (IntKind.i64.wrap (x1.tdiv (x0.getD x6.toNat 0))) (IntKind.i64.wrap (x6 - 1)) (y0.set x6.toNat (x1.tmod (x0.getD x6.toNat 0))) else none else none else none else none) else some y0
def qbN.l0 : Nat → LI → LI → Int → Int → LI → (List Bool) → Option (LI ⊕ Int)
 | 0,_,_,_,_,_,_ => none
 | n + 1,x0,x21,x22,x23,y0,y1 => if x23 < x22 then (if 0 ≤ x23 ∧ x23 < (x21.length : Int) then if x21.getD x23.toNat 0 < 0 then (some (.inr 1)) else if (x0.length : Int) ≤ x21.getD x23.toNat 0 then (some (.inr 1)) else if 0 ≤ x21.getD x23.toNat 0 ∧ x21.getD x23.toNat 0 < (y1.length : Int) then if (x21.getD x23.toNat 0).toNat < y1.length then if (y1.getD (x21.getD x23.toNat 0).toNat false) = true then (some (.inr 1)) else if 0 ≤ x21.getD x23.toNat 0 ∧ x21.getD x23.toNat 0 < (x0.length : Int) then if 0 ≤ x23 ∧ x23 < (y0.length : Int) then if x23.toNat < y0.length then qbN.l0 n x0 x21 x22 (IntKind.i64.wrap (x23 + 1)) (y0.set x23.toNat (x0.getD (x21.getD x23.toNat 0).toNat 0)) (y1.set (x21.getD x23.toNat 0).toNat true) else none else none else none else none else none else none) else some (.inl y0)
def qbN.f (k : Nat) (a0 : LI) (a1 : LI) : Option (Int × LI) := if (a1.length : Int) = (a0.length : Int) then (if 0 ≤ (a0.length : Int) ∧ (a0.length : Int) ≤ 281474976710656 ∧ ((8 : Nat) : Int) * (a0.length : Int) ≤ 140737488355328 then if 0 ≤ (a0.length : Int) ∧ (a0.length : Int) ≤ 281474976710656 ∧ ((1 : Nat) : Int) * (a0.length : Int) ≤ 140737488355328 then (qbN.l0 k a0 a1 (a1.length : Int) 0 (List.replicate (a0.length : Int).toNat (0 : Int)) (List.replicate (a0.length : Int).toNat (false : Bool))).bind fun t1 => Sum.elim (fun t1 => some (0,t1)) (fun t1 => some (t1,[])) t1 else none else none) else some (1,[])
def qlF.l0 : Nat → LI → Int → Int → LI → LI → LI → LI → LI → Option (LI)
 | 0,_,_,_,_,_,_,_,_ => none
 | n + 1,x8,x9,x10,y0,y1,y3_0,y3_1,y4 => if x10 < x9 then (if 0 ≤ x10 ∧ x10 < (x8.length : Int) then if 0 ≤ x10 ∧ x10 < (y0.length : Int) then if x10.toNat < y0.length then if 0 ≤ x8.getD x10.toNat 0 ∧ x8.getD x10.toNat 0 < (y4.length : Int) then if (x8.getD x10.toNat 0).toNat < y4.length then qlF.l0 n x8 x9 (IntKind.i64.wrap (x10 + 1)) y0 y1 y3_0 y3_1 (y4.set (x8.getD x10.toNat 0).toNat (y0.getD x10.toNat 0)) else none else none else none else none else none) else some y4
def qbO.l0 : Nat → LI → LI → LI → Int → Int → Option (Unit ⊕ Int)
 | 0,_,_,_,_,_ => none
 | n + 1,x1,x2,x21,x22,x23 => if x23 < x22 then (if 0 ≤ x23 ∧ x23 < (x21.length : Int) then if 0 ≤ x23 ∧ x23 < (x1.length : Int) then if x1.getD x23.toNat 0 < 0 then (some (.inr 1)) else if x21.getD x23.toNat 0 < x1.getD x23.toNat 0 then (some (.inr 1)) else if 0 ≤ x23 ∧ x23 < (x2.length : Int) then if x2.getD x23.toNat 0 < 0 then (some (.inr 1)) else if IntKind.i64.wrap ((x21.getD x23.toNat 0) - (x1.getD x23.toNat 0)) < x2.getD x23.toNat 0 then (some (.inr 1)) else qbO.l0 n x1 x2 x21 x22 (IntKind.i64.wrap (x23 + 1)) else none else none else none) else some (.inl ())
def qbO.f (k : Nat) (a0 : LI) (a1 : LI) (a2 : LI) : Option (Int) := if (a1.length : Int) = (a0.length : Int) then (if (a2.length : Int) = (a0.length : Int) then ((qbO.l0 k a1 a2 a0 (a0.length : Int) 0).bind fun t1 => Sum.elim (fun t1 => some 0) (fun t1 => some t1) t1) else some 1) else some 1
def qkU.l0 : Nat → LI → Int → Int → LI → LI → LI → LI → Option (LI)
 | 0,_,_,_,_,_,_,_ => none
 | n + 1,x7,x8,x9,y0,y1,y2_0,y2_1 => if x9 < x8 then (if 0 ≤ x9 ∧ x9 < (x7.length : Int) then if 0 ≤ x9 ∧ x9 < (y0.length : Int) then if x9.toNat < y0.length then qkU.l0 n x7 x8 (IntKind.i64.wrap (x9 + 1)) (y0.set x9.toNat (IntKind.i64.wrap ((y0.getD x9.toNat 0) + (x7.getD x9.toNat 0)))) y1 y2_0 y2_1 else none else none else none) else some y0
def qbs.l0 : Nat → LI → LI → Int → Option (Unit ⊕ Bool)
 | 0,_,_,_ => none
 | n + 1,x0,x1,x5 => if x5 < (x0.length : Int) then (if 0 ≤ x5 ∧ x5 < (x0.length : Int) then if 0 ≤ x5 ∧ x5 < (x1.length : Int) then if x0.getD x5.toNat 0 = x1.getD x5.toNat 0 then (qbs.l0 n x0 x1 (IntKind.i64.wrap (x5 + 1))) else some (.inr false) else none else none) else some (.inl ())
def qbs.f (k : Nat) (a0 : LI) (a1 : LI) : Option (Bool) := if (a0.length : Int) = (a1.length : Int) then ((qbs.l0 k a0 a1 0).bind fun t1 => Sum.elim (fun t1 => some true) (fun t1 => some t1) t1) else some false
def qcS.f (a0 : Int) : Option (Bool) := if 0 ≤ a0 then (some (decide (a0 ≤ 32))) else some false
def qbP.l0 : Nat → LI → LI → LI → Int → Int → LI → Option (LI ⊕ Int)
 | 0,_,_,_,_,_,_ => none
 | n + 1,x1,x2,x27,x28,x29,y0 => if x29 < x28 then (if 0 ≤ x29 ∧ x29 < (x27.length : Int) then if 0 ≤ x29 ∧ x29 < (x1.length : Int) then (qcS.f (x1.getD x29.toNat 0)).bind fun t1 => if t1 = true then (if 0 ≤ x29 ∧ x29 < (x2.length : Int) then (qcS.f (x2.getD x29.toNat 0)).bind fun t2 => if t2 = true then (if 0 ≤ x29 ∧ x29 < (y0.length : Int) then if x29.toNat < y0.length then qbP.l0 n x1 x2 x27 x28 (IntKind.i64.wrap (x29 + 1)) (y0.set x29.toNat (IntKind.i64.wrap ((IntKind.i64.wrap ((x1.getD x29.toNat 0) + (x27.getD x29.toNat 0))) + (x2.getD x29.toNat 0)))) else none else none) else some (.inr 1) else none) else some (.inr 1) else none else none) else some (.inl y0)
def qbP.f (k : Nat) (a0 : LI) (a1 : LI) (a2 : LI) : Option (Int × LI) := if (a1.length : Int) = (a0.length : Int) then (if (a2.length : Int) = (a0.length : Int) then (if 0 ≤ (a0.length : Int) ∧ (a0.length : Int) ≤ 281474976710656 ∧ ((8 : Nat) : Int) * (a0.length : Int) ≤ 140737488355328 then (qbP.l0 k a1 a2 a0 (a0.length : Int) 0 (List.replicate (a0.length : Int).toNat (0 : Int))).bind fun t3 => Sum.elim (fun t3 => (qaU.f k t3).bind fun t4 => if t4 = true then (some (0,t3)) else some (13,[])) (fun t3 => some (t3,[])) t3 else none) else some (1,[])) else some (1,[])
def qa5.l0 : Nat → Int → Int → LI → Int → Int → Option (Unit ⊕ Bool)
 | 0,_,_,_,_,_ => none
 | n + 1,x1,x5,x8,x9,x10 => if x10 < x9 then (if 0 ≤ x10 ∧ x10 < (x8.length : Int) then if x8.getD x10.toNat 0 ≤ x5 then (some (.inr false)) else if x1 ≤ x8.getD x10.toNat 0 then (some (.inr false)) else qa5.l0 n x1 (x8.getD x10.toNat 0) x8 x9 (IntKind.i64.wrap (x10 + 1)) else none) else some (.inl ())
def qa5.f (k : Nat) (a0 : LI) (a1 : Int) : Option (Bool) := (qa5.l0 k a1 (-1) a0 (a0.length : Int) 0).bind fun t1 => Sum.elim (fun t1 => some true) (fun t1 => some t1) t1
def qb7.l0 : Nat → LI → LI → LI → Int → Int → Option (Unit ⊕ Int)
 | 0,_,_,_,_,_ => none
 | n + 1,x0,x1,x24,x25,x26 => if x26 < x25 then (if 0 ≤ x26 ∧ x26 < (x24.length : Int) then if 0 ≤ x24.getD x26.toNat 0 ∧ x24.getD x26.toNat 0 < (x1.length : Int) then if 0 ≤ x26 ∧ x26 < (x0.length : Int) then if x1.getD (x24.getD x26.toNat 0).toNat 0 = x0.getD x26.toNat 0 then (qb7.l0 n x0 x1 x24 x25 (IntKind.i64.wrap (x26 + 1))) else some (.inr 1) else none else none else none) else some (.inl ())
def qb7.f (k : Nat) (a0 : LI) (a1 : LI) (a2 : LI) : Option (Int) := (qaU.f k a1).bind fun t1 => if t1 = true then (if (a2.length : Int) = (a0.length : Int) then ((qa5.f k a2 (a1.length : Int)).bind fun t2 => if t2 = true then ((qb7.l0 k a0 a1 a2 (a2.length : Int) 0).bind fun t3 => Sum.elim (fun t3 => some 0) (fun t3 => some t3) t3) else some 1) else some 1) else some 13
def qby.f (k : Nat) (a0_0 : LI) (a0_1 : LI) : Option (Bool) := (qaF.f k a0_0).bind fun t1 => if t1 = true then ((qbU.f k a0_0).bind fun t2 => some (decide ((a0_1.length : Int) = t2))) else some false
def qa7.l0 : Nat → LI → Int → Int → LI → Option (LI)
 | 0,_,_,_,_ => none
 | n + 1,x0,x1,x6,y0 => if 0 ≤ x6 then (if 0 ≤ x6 ∧ x6 < (x0.length : Int) then if x0.getD x6.toNat 0 ≠ 0 then if 0 ≤ x6 ∧ x6 < (y0.length : Int) then if x6.toNat < y0.length then qa7.l0 n x0 (IntKind.i64.wrap (x1.tdiv (x0.getD x6.toNat 0))) (IntKind.i64.wrap (x6 - 1)) (y0.set x6.toNat (x1.tmod (x0.getD x6.toNat 0))) else none else none else none else none) else some y0
def qa7.f (k : Nat) (a0 : LI) (a1 : Int) : Option (LI) := if a1 < 0 then (some []) else (qbU.f k a0).bind fun t1 => if t1 ≤ a1 then (some []) else if 0 ≤ (a0.length : Int) ∧ (a0.length : Int) ≤ 281474976710656 ∧ ((8 : Nat) : Int) * (a0.length : Int) ≤ 140737488355328 then (qa7.l0 k a0 a1 (IntKind.i64.wrap ((a0.length : Int) - 1)) (List.replicate (a0.length : Int).toNat (0 : Int))).bind fun t2 => some t2 else none
def qbD.l0 : Nat → LI → LI → Int → Int → Option (Int ⊕ Int)
 | 0,_,_,_,_ => none
 | n + 1,x0,x1,x5,x6 => if x6 < (x0.length : Int) then (if 0 ≤ x6 ∧ x6 < (x1.length : Int) then if x1.getD x6.toNat 0 < 0 then (some (.inr (-1))) else if 0 ≤ x6 ∧ x6 < (x0.length : Int) then if x0.getD x6.toNat 0 ≤ x1.getD x6.toNat 0 then (some (.inr (-1))) else qbD.l0 n x0 x1 (IntKind.i64.wrap ((IntKind.i64.wrap (x5 * (x0.getD x6.toNat 0))) + (x1.getD x6.toNat 0))) (IntKind.i64.wrap (x6 + 1)) else none else none) else some (.inl x5)
def qbD.f (k : Nat) (a0 : LI) (a1 : LI) : Option (Int) := (qaF.f k a0).bind fun t1 => if t1 = true then (if (a1.length : Int) = (a0.length : Int) then ((qbD.l0 k a0 a1 0 0).bind fun t2 => Sum.elim (fun t2 => some t2) (fun t2 => some t2) t2) else some (-1)) else some (-1)
def qch.f (k : Nat) (a0_0 : LI) (a0_1 : LI) (a1 : LI) : Option (Int) := (qbD.f k a0_0 a1).bind fun t1 => if 0 ≤ t1 ∧ t1 < (a0_1.length : Int) then some (a0_1.getD t1.toNat 0) else none
def qaY.l0 : Nat → LI → Int → Int → LI → LI → LI → LI → Option (LI ⊕ Int)
 | 0,_,_,_,_,_,_,_ => none
 | n + 1,x1,x29,x30,y0_0,y0_1,y2,y3 => if x30 < x29 then (if 0 ≤ x30 ∧ x30 < (x1.length : Int) then if x1.getD x30.toNat 0 < 0 then (some (.inr 1)) else if (y2.length : Int) ≤ x1.getD x30.toNat 0 then (some (.inr 1)) else if 0 ≤ x1.getD x30.toNat 0 ∧ x1.getD x30.toNat 0 < (y2.length : Int) then if (x1.getD x30.toNat 0).toNat < y2.length then if 0 < y2.getD (x1.getD x30.toNat 0).toNat 0 then (some (.inr 1)) else if 0 ≤ x1.getD x30.toNat 0 ∧ x1.getD x30.toNat 0 < (y0_0.length : Int) then if y3.length + [y0_0.getD (x1.getD x30.toNat 0).toNat 0].length ≤ 281474976710656 ∧ (y3.length + [y0_0.getD (x1.getD x30.toNat 0).toNat 0].length) * 8 ≤ 140737488355328 then qaY.l0 n x1 x29 (IntKind.i64.wrap (x30 + 1)) y0_0 y0_1 (y2.set (x1.getD x30.toNat 0).toNat (IntKind.i64.wrap ((y2.getD (x1.getD x30.toNat 0).toNat 0) + 1))) (y3 ++ [y0_0.getD (x1.getD x30.toNat 0).toNat 0]) else none else none else none else none else none) else some (.inl y3)
def qaY.l2 : Nat → LI → Int → Int → Int → Int → Int → LI → LI → LI → LI → LI → LI → LI → Option (LI)
 | 0,_,_,_,_,_,_,_,_,_,_,_,_,_ => none
 | n + 1,x1,x10,x83,x84,x94,x95,y0_0,y0_1,y2,y4,y5,y6,y7 => if x95 < x94 then (if 0 ≤ x95 ∧ x95 < (x1.length : Int) then if 0 ≤ x95 ∧ x95 < (y4.length : Int) then if x95.toNat < y4.length then if 0 ≤ x1.getD x95.toNat 0 ∧ x1.getD x95.toNat 0 < (y5.length : Int) then if (x1.getD x95.toNat 0).toNat < y5.length then qaY.l2 n x1 x10 x83 x84 x94 (IntKind.i64.wrap (x95 + 1)) y0_0 y0_1 y2 y4 (y5.set (x1.getD x95.toNat 0).toNat (y4.getD x95.toNat 0)) y6 y7 else none else none else none else none else none) else some y5
def qaY.l1 (k : Nat) : Nat → LI → Int → Int → LI → LI → LI → LI → LI → Option (LI)
 | 0,_,_,_,_,_,_,_,_ => none
 | n + 1,x1,x83,x84,y0_0,y0_1,y2,y4,y5 => if x84 < x83 then ((qa7.f k y2 x84).bind fun t4 => if 0 ≤ (t4.length : Int) ∧ (t4.length : Int) ≤ 281474976710656 ∧ ((8 : Nat) : Int) * (t4.length : Int) ≤ 140737488355328 then (qaY.l2 n x1 x84 x83 x84 (t4.length : Int) 0 y0_0 y0_1 y2 t4 (List.replicate (t4.length : Int).toNat (0 : Int)) y4 y5).bind fun t5 => (qch.f k y0_0 y0_1 t5).bind fun t6 => if 0 ≤ x84 ∧ x84 < (y5.length : Int) then if x84.toNat < y5.length then qaY.l1 k n x1 x83 (IntKind.i64.wrap (x84 + 1)) y0_0 y0_1 y2 y4 (y5.set x84.toNat t6) else none else none else none) else some y5
def qaY.f (k : Nat) (a0_0 : LI) (a0_1 : LI) (a1 : LI) : Option (Int × LI × LI) := (qby.f k a0_0 a0_1).bind fun t1 => if t1 = true then (if 0 ≤ (a0_0.length : Int) ∧ (a0_0.length : Int) ≤ 281474976710656 ∧ ((8 : Nat) : Int) * (a0_0.length : Int) ≤ 140737488355328 then if (a1.length : Int) = ((List.replicate (a0_0.length : Int).toNat (0 : Int)).length : Int) then ((qaY.l0 k a1 (a1.length : Int) 0 a0_0 a0_1 (List.replicate (a0_0.length : Int).toNat (0 : Int)) []).bind fun t2 => Sum.elim (fun t2 => (qa2.f k t2 0).bind fun t3 => (qaY.l1 k k a1 (t3.2.length : Int) 0 a0_0 a0_1 t2 t3.1 t3.2).bind fun t7 => some (0,t3.1,t7)) (fun t2 => some (t2,[],[])) t2) else some (1,[],[]) else none) else some (13,[],[])
def qax.l0 : Nat → LI → LI → Int → Int → LI → LI → Option (Unit ⊕ Int)
 | 0,_,_,_,_,_,_ => none
 | n + 1,x1,x2,x31,x32,y0_0,y0_1 => if x32 < x31 then (if 0 ≤ x32 ∧ x32 < (x2.length : Int) then if x2.getD x32.toNat 0 < 0 then (some (.inr 1)) else if (x1.length : Int) ≤ x2.getD x32.toNat 0 then (some (.inr 1)) else if 0 < x32 then (if 0 ≤ IntKind.i64.wrap (x32 - 1) ∧ IntKind.i64.wrap (x32 - 1) < (x2.length : Int) then if x2.getD x32.toNat 0 ≤ x2.getD (IntKind.i64.wrap (x32 - 1)).toNat 0 then (some (.inr 1)) else if 0 ≤ x2.getD x32.toNat 0 ∧ x2.getD x32.toNat 0 < (x1.length : Int) then if 0 ≤ x32 ∧ x32 < (y0_0.length : Int) then if x1.getD (x2.getD x32.toNat 0).toNat 0 = y0_0.getD x32.toNat 0 then (qax.l0 n x1 x2 x31 (IntKind.i64.wrap (x32 + 1)) y0_0 y0_1) else some (.inr 1) else none else none else none) else if 0 ≤ x2.getD x32.toNat 0 ∧ x2.getD x32.toNat 0 < (x1.length : Int) then if 0 ≤ x32 ∧ x32 < (y0_0.length : Int) then if x1.getD (x2.getD x32.toNat 0).toNat 0 = y0_0.getD x32.toNat 0 then (qax.l0 n x1 x2 x31 (IntKind.i64.wrap (x32 + 1)) y0_0 y0_1) else some (.inr 1) else none else none else none) else some (.inl ())
def qax.l2 : Nat → LI → LI → Int → Int → Int → Int → Int → LI → LI → LI → LI → LI → LI → Option (LI)
 | 0,_,_,_,_,_,_,_,_,_,_,_,_,_ => none
 | n + 1,x1,x2,x10,x86,x87,x94,x95,y0_0,y0_1,y3,y4,y5,y6 => if x95 < x94 then (if 0 ≤ x95 ∧ x95 < (x2.length : Int) then if 0 ≤ x2.getD x95.toNat 0 ∧ x2.getD x95.toNat 0 < (y3.length : Int) then if (x2.getD x95.toNat 0).toNat < y3.length then if y4.length + [y3.getD (x2.getD x95.toNat 0).toNat 0].length ≤ 281474976710656 ∧ (y4.length + [y3.getD (x2.getD x95.toNat 0).toNat 0].length) * 8 ≤ 140737488355328 then qax.l2 n x1 x2 x10 x86 x87 x94 (IntKind.i64.wrap (x95 + 1)) y0_0 y0_1 y3 (y4 ++ [y3.getD (x2.getD x95.toNat 0).toNat 0]) y5 y6 else none else none else none else none) else some y4
def qax.l1 (k : Nat) : Nat → LI → LI → Int → Int → LI → LI → LI → LI → Option (LI)
 | 0,_,_,_,_,_,_,_,_ => none
 | n + 1,x1,x2,x86,x87,y0_0,y0_1,y3,y4 => if x87 < x86 then ((qa7.f k x1 x87).bind fun t5 => (qax.l2 n x1 x2 x87 x86 x87 (x2.length : Int) 0 y0_0 y0_1 t5 [] y3 y4).bind fun t6 => (qch.f k y0_0 y0_1 t6).bind fun t7 => if 0 ≤ x87 ∧ x87 < (y4.length : Int) then if x87.toNat < y4.length then qax.l1 k n x1 x2 x86 (IntKind.i64.wrap (x87 + 1)) y0_0 y0_1 y3 (y4.set x87.toNat t7) else none else none) else some y4
def qax.f (k : Nat) (a0_0 : LI) (a0_1 : LI) (a1 : LI) (a2 : LI) : Option (Int × LI × LI) := (qby.f k a0_0 a0_1).bind fun t1 => if t1 = true then ((qaF.f k a1).bind fun t2 => if t2 = true then (if (a2.length : Int) = (a0_0.length : Int) then ((qax.l0 k a1 a2 (a2.length : Int) 0 a0_0 a0_1).bind fun t3 => Sum.elim (fun t3 => (qa2.f k a1 0).bind fun t4 => (qax.l1 k k a1 a2 (t4.2.length : Int) 0 a0_0 a0_1 t4.1 t4.2).bind fun t8 => some (0,t4.1,t8)) (fun t3 => some (t3,[],[])) t3) else some (1,[],[])) else some (13,[],[])) else some (13,[],[])
def qaI.l0 : Nat → LI → LI → Int → Int → LI → LI → Option (Unit ⊕ Int)
 | 0,_,_,_,_,_,_ => none
 | n + 1,x1,x2,x33,x34,y0_0,y0_1 => if x34 < x33 then (if 0 ≤ x34 ∧ x34 < (x1.length : Int) then if x1.getD x34.toNat 0 < 0 then (some (.inr 1)) else if 0 ≤ x34 ∧ x34 < (x2.length : Int) then if x2.getD x34.toNat 0 < 0 then (some (.inr 1)) else if 0 ≤ x34 ∧ x34 < (y0_0.length : Int) then if y0_0.getD x34.toNat 0 < x1.getD x34.toNat 0 then (some (.inr 1)) else if IntKind.i64.wrap ((y0_0.getD x34.toNat 0) - (x1.getD x34.toNat 0)) < x2.getD x34.toNat 0 then (some (.inr 1)) else qaI.l0 n x1 x2 x33 (IntKind.i64.wrap (x34 + 1)) y0_0 y0_1 else none else none else none) else some (.inl ())
def qaI.l2 : Nat → LI → LI → Int → Int → Int → Int → Int → LI → LI → LI → LI → LI → Option (LI)
 | 0,_,_,_,_,_,_,_,_,_,_,_,_ => none
 | n + 1,x1,x2,x10,x84,x85,x92,x93,y0_0,y0_1,y3,y4,y5 => if x93 < x92 then (if 0 ≤ x93 ∧ x93 < (y3.length : Int) then if x93.toNat < y3.length then if 0 ≤ x93 ∧ x93 < (x1.length : Int) then qaI.l2 n x1 x2 x10 x84 x85 x92 (IntKind.i64.wrap (x93 + 1)) y0_0 y0_1 (y3.set x93.toNat (IntKind.i64.wrap ((y3.getD x93.toNat 0) + (x1.getD x93.toNat 0)))) y4 y5 else none else none else none) else some y3
def qaI.l1 (k : Nat) : Nat → LI → LI → Int → Int → LI → LI → LI → LI → Option (LI)
 | 0,_,_,_,_,_,_,_,_ => none
 | n + 1,x1,x2,x84,x85,y0_0,y0_1,y3,y4 => if x85 < x84 then ((qa7.f k x2 x85).bind fun t4 => (qaI.l2 n x1 x2 x85 x84 x85 (t4.length : Int) 0 y0_0 y0_1 t4 y3 y4).bind fun t5 => (qch.f k y0_0 y0_1 t5).bind fun t6 => if 0 ≤ x85 ∧ x85 < (y4.length : Int) then if x85.toNat < y4.length then qaI.l1 k n x1 x2 x84 (IntKind.i64.wrap (x85 + 1)) y0_0 y0_1 y3 (y4.set x85.toNat t6) else none else none) else some y4
def qaI.f (k : Nat) (a0_0 : LI) (a0_1 : LI) (a1 : LI) (a2 : LI) : Option (Int × LI × LI) := (qby.f k a0_0 a0_1).bind fun t1 => if t1 = true then (if (a1.length : Int) = (a0_0.length : Int) then (if (a2.length : Int) = (a0_0.length : Int) then ((qaI.l0 k a1 a2 (a1.length : Int) 0 a0_0 a0_1).bind fun t2 => Sum.elim (fun t2 => (qa2.f k a2 0).bind fun t3 => (qaI.l1 k k a1 a2 (t3.2.length : Int) 0 a0_0 a0_1 t3.1 t3.2).bind fun t7 => some (0,t3.1,t7)) (fun t2 => some (t2,[],[])) t2) else some (1,[],[])) else some (1,[],[])) else some (13,[],[])
def qbc.l0 : Nat → LI → LI → Int → Int → Int → LI → LI → LI → Option (LI ⊕ Int)
 | 0,_,_,_,_,_,_,_,_ => none
 | n + 1,x1,x2,x3,x36,x37,y0_0,y0_1,y2 => if x37 < x36 then (if 0 ≤ x37 ∧ x37 < (x1.length : Int) then if x1.getD x37.toNat 0 < 0 then (some (.inr 1)) else if 0 ≤ x37 ∧ x37 < (x2.length : Int) then if x2.getD x37.toNat 0 < 0 then (some (.inr 1)) else if 32 < x1.getD x37.toNat 0 then (some (.inr 1)) else if 32 < x2.getD x37.toNat 0 then (some (.inr 1)) else if 0 ≤ x37 ∧ x37 < (y0_0.length : Int) then if y2.length + [IntKind.i64.wrap ((IntKind.i64.wrap ((x1.getD x37.toNat 0) + (y0_0.getD x37.toNat 0))) + (x2.getD x37.toNat 0))].length ≤ 281474976710656 ∧ (y2.length + [IntKind.i64.wrap ((IntKind.i64.wrap ((x1.getD x37.toNat 0) + (y0_0.getD x37.toNat 0))) + (x2.getD x37.toNat 0))].length) * 8 ≤ 140737488355328 then qbc.l0 n x1 x2 x3 x36 (IntKind.i64.wrap (x37 + 1)) y0_0 y0_1 (y2 ++ [IntKind.i64.wrap ((IntKind.i64.wrap ((x1.getD x37.toNat 0) + (y0_0.getD x37.toNat 0))) + (x2.getD x37.toNat 0))]) else none else none else none else none) else some (.inl y2)
def qbc.l2 : Nat → LI → Int → Int → Int → Int → Int → LI → LI → LI → LI → LI → LI → Option (LI)
 | 0,_,_,_,_,_,_,_,_,_,_,_,_ => none
 | n + 1,x1,x13,x95,x96,x104,x105,y0_0,y0_1,y2,y4,y5,y6 => if x105 < x104 then (if 0 ≤ x105 ∧ x105 < (y4.length : Int) then if x105.toNat < y4.length then if 0 ≤ x105 ∧ x105 < (x1.length : Int) then qbc.l2 n x1 x13 x95 x96 x104 (IntKind.i64.wrap (x105 + 1)) y0_0 y0_1 y2 (y4.set x105.toNat (IntKind.i64.wrap ((y4.getD x105.toNat 0) + (x1.getD x105.toNat 0)))) y5 y6 else none else none else none) else some y4
def qbc.l1 (k : Nat) : Nat → LI → Int → Int → LI → LI → LI → LI → LI → Option (LI)
 | 0,_,_,_,_,_,_,_,_ => none
 | n + 1,x1,x95,x96,y0_0,y0_1,y2,y4,y5 => if x96 < x95 then ((qa7.f k y0_0 x96).bind fun t5 => (qbc.l2 n x1 x96 x95 x96 (t5.length : Int) 0 y0_0 y0_1 y2 t5 y4 y5).bind fun t6 => (qbD.f k y2 t6).bind fun t7 => if 0 ≤ x96 ∧ x96 < (y0_1.length : Int) then if 0 ≤ t7 ∧ t7 < (y5.length : Int) then if t7.toNat < y5.length then qbc.l1 k n x1 x95 (IntKind.i64.wrap (x96 + 1)) y0_0 y0_1 y2 y4 (y5.set t7.toNat (y0_1.getD x96.toNat 0)) else none else none else none) else some y5
def qbc.f (k : Nat) (a0_0 : LI) (a0_1 : LI) (a1 : LI) (a2 : LI) (a3 : Int) : Option (Int × LI × LI) := (qby.f k a0_0 a0_1).bind fun t1 => if t1 = true then (if (a1.length : Int) = (a0_0.length : Int) then (if (a2.length : Int) = (a0_0.length : Int) then ((qbc.l0 k a1 a2 a3 (a1.length : Int) 0 a0_0 a0_1 []).bind fun t2 => Sum.elim (fun t2 => (qaF.f k t2).bind fun t3 => if t3 = true then ((qa2.f k t2 a3).bind fun t4 => (qbc.l1 k k a1 (a0_1.length : Int) 0 a0_0 a0_1 t2 t4.1 t4.2).bind fun t8 => some (0,t4.1,t8)) else some (13,[],[])) (fun t2 => some (t2,[],[])) t2) else some (1,[],[])) else some (1,[],[])) else some (13,[],[])
def qas.l0 (k : Nat) : Nat → Int → (List LT) → Int → Int → Option (Unit ⊕ Int)
 | 0,_,_,_,_ => none
 | n + 1,x0,x1,x16,x17 => if x17 < x16 then (if 0 ≤ x17 ∧ x17 < (x1.length : Int) then (qby.f k (x1.getD x17.toNat ([],[])).1 (x1.getD x17.toNat ([],[])).2).bind fun t1 => if t1 = true then (qas.l0 k n x0 x1 x16 (IntKind.i64.wrap (x17 + 1))) else some (.inr 13) else none) else some (.inl ())
def qas.l2 : Nat → Int → (List LT) → Int → Int → Int → Int → Int → LI → Option (Unit ⊕ Int)
 | 0,_,_,_,_,_,_,_,_ => none
 | n + 1,x0,x1,x8,x55,x56,x70,x71,y1 => if x71 < x70 then (if x71 = x0 then (qas.l2 n x0 x1 x8 x55 x56 x70 (IntKind.i64.wrap (x71 + 1)) y1) else if 0 ≤ x8 ∧ x8 < (x1.length : Int) then if 0 ≤ x71 ∧ x71 < ((x1.getD x8.toNat ([],[])).1.length : Int) then if 0 ≤ x71 ∧ x71 < (y1.length : Int) then if x71.toNat < y1.length then if (x1.getD x8.toNat ([],[])).1.getD x71.toNat 0 = y1.getD x71.toNat 0 then (qas.l2 n x0 x1 x8 x55 x56 x70 (IntKind.i64.wrap (x71 + 1)) y1) else some (.inr 13) else none else none else none else none) else some (.inl ())
def qas.l1 (k : Nat) : Nat → Int → (List LT) → Int → Int → LI → Option (LI ⊕ Int)
 | 0,_,_,_,_,_ => none
 | n + 1,x0,x1,x55,x56,y1 => if x56 < x55 then (if 0 ≤ x56 ∧ x56 < (x1.length : Int) then if ((x1.getD x56.toNat ([],[])).1.length : Int) = (y1.length : Int) then ((qas.l2 n x0 x1 x56 x55 x56 (y1.length : Int) 0 y1).bind fun t3 => Sum.elim (fun t3 => if 0 ≤ x0 ∧ x0 < (y1.length : Int) then if x0.toNat < y1.length then if 0 ≤ x0 ∧ x0 < ((x1.getD x56.toNat ([],[])).1.length : Int) then if 0 ≤ x0 ∧ x0 < ((y1.set x0.toNat (IntKind.i64.wrap ((y1.getD x0.toNat 0) + ((x1.getD x56.toNat ([],[])).1.getD x0.toNat 0)))).length : Int) then if x0.toNat < (y1.set x0.toNat (IntKind.i64.wrap ((y1.getD x0.toNat 0) + ((x1.getD x56.toNat ([],[])).1.getD x0.toNat 0)))).length then if 32 < (y1.set x0.toNat (IntKind.i64.wrap ((y1.getD x0.toNat 0) + ((x1.getD x56.toNat ([],[])).1.getD x0.toNat 0)))).getD x0.toNat 0 then (some (.inr 13)) else qas.l1 k n x0 x1 x55 (IntKind.i64.wrap (x56 + 1)) (y1.set x0.toNat (IntKind.i64.wrap ((y1.getD x0.toNat 0) + ((x1.getD x56.toNat ([],[])).1.getD x0.toNat 0)))) else none else none else none else none else none) (fun t3 => some (.inr t3)) t3) else some (.inr 13) else none) else some (.inl y1)
def qas.l4 (k : Nat) : Nat → Int → (List LT) → Int → Int → Int → Int → Int → Int → LI → LI → LI → Option (LI)
 | 0,_,_,_,_,_,_,_,_,_,_,_ => none
 | n + 1,x0,x1,x11,x12,x124,x125,x133,x134,y1,y3,y4 => if x134 < x133 then (if 0 ≤ x12 ∧ x12 < (x1.length : Int) then (qa7.f k (x1.getD x12.toNat ([],[])).1 x134).bind fun t7 => if 0 ≤ x0 ∧ x0 < (t7.length : Int) then if x0.toNat < t7.length then (qbD.f k y1 (t7.set x0.toNat (IntKind.i64.wrap ((t7.getD x0.toNat 0) + x11)))).bind fun t8 => if 0 ≤ x134 ∧ x134 < ((x1.getD x12.toNat ([],[])).2.length : Int) then if 0 ≤ t8 ∧ t8 < (y4.length : Int) then if t8.toNat < y4.length then qas.l4 k n x0 x1 x11 x12 x124 x125 x133 (IntKind.i64.wrap (x134 + 1)) y1 y3 (y4.set t8.toNat ((x1.getD x12.toNat ([],[])).2.getD x134.toNat 0)) else none else none else none else none else none else none) else some y4
def qas.l3 (k : Nat) : Nat → Int → (List LT) → Int → Int → Int → LI → LI → LI → Option (LI)
 | 0,_,_,_,_,_,_,_,_ => none
 | n + 1,x0,x1,x11,x124,x125,y1,y3,y4 => if x125 < x124 then (if 0 ≤ x125 ∧ x125 < (x1.length : Int) then (qas.l4 k n x0 x1 x11 x125 x124 x125 ((x1.getD x125.toNat ([],[])).2.length : Int) 0 y1 y3 y4).bind fun t9 => if 0 ≤ x0 ∧ x0 < ((x1.getD x125.toNat ([],[])).1.length : Int) then qas.l3 k n x0 x1 (IntKind.i64.wrap (x11 + ((x1.getD x125.toNat ([],[])).1.getD x0.toNat 0))) x124 (IntKind.i64.wrap (x125 + 1)) y1 y3 t9 else none else none) else some y4
def qas.f (k : Nat) (a0 : Int) (a1 : List LT) : Option (Int × LI × LI) := (qas.l0 k k a0 a1 (a1.length : Int) 0).bind fun t2 => Sum.elim (fun t2 => if (a1.length : Int) = 0 then (some (1,[],[])) else if a0 < 0 then (some (1,[],[])) else if (0 : Int) ≤ 0 ∧ 0 < (a1.length : Int) then if ((a1.getD 0 ([],[])).1.length : Int) ≤ a0 then (some (1,[],[])) else if 0 + (a1.getD 0 ([],[])).1.length ≤ 281474976710656 ∧ (0 + (a1.getD 0 ([],[])).1.length) * 8 ≤ 140737488355328 then if 0 ≤ a0 ∧ a0 < (([] ++ (a1.getD 0 ([],[])).1).length : Int) then if a0.toNat < ([] ++ (a1.getD 0 ([],[])).1).length then (qas.l1 k k a0 a1 (a1.length : Int) 0 (([] ++ (a1.getD 0 ([],[])).1).set a0.toNat 0)).bind fun t4 => Sum.elim (fun t4 => (qaF.f k t4).bind fun t5 => if t5 = true then ((qa2.f k t4 0).bind fun t6 => (qas.l3 k k a0 a1 0 (a1.length : Int) 0 t4 t6.1 t6.2).bind fun t10 => some (0,t6.1,t10)) else some (13,[],[])) (fun t4 => some (t4,[],[])) t4 else none else none else none else none) (fun t2 => some (t2,[],[])) t2
end Go.Pf

namespace Go.Pf
open Go
def qaX.l0 : Nat → LI → LI → Int → Int → Option (Unit ⊕ Bool)
 | 0,_,_,_,_ => none
 | n + 1,x0,x1,x12,x13 => if x13 < x12 then (if 0 ≤ x13 ∧ x13 < (x0.length : Int) then if 0 ≤ x13 ∧ x13 < (x1.length : Int) then if x0.getD x13.toNat 0 = x1.getD x13.toNat 0 then (qaX.l0 n x0 x1 x12 (IntKind.i64.wrap (x13 + 1))) else some (.inr false) else none else none) else some (.inl ())
def qaX.f (k : Nat) (a0 : LI) (a1 : LI) : Option (Bool) := if (a0.length : Int) = (a1.length : Int) then ((qaX.l0 k a0 a1 (a0.length : Int) 0).bind fun t1 => Sum.elim (fun t1 => some true) (fun t1 => some t1) t1) else some false
end Go.Pf

namespace Go.Pf
open Go
def qdB.f (k : Nat) (a0 : LI) (a1 : LI) : Option (Bool) := (qaX.f k a0 a1).bind fun t1 => some t1
end Go.Pf

namespace Go.Pf
open Go
def qcV.f (o0_0 : LI) (o0_1 : Int) : Option (ByteArray × Int × LI) := (qad.f 10 o0_0 o0_1).bind fun t1 => if 0 ≤ t1.1 ∧ t1.1 < ([([2] : LI),([3] : LI),([2,2] : LI),([4] : LI),([2,3] : LI),[],([2,2,2] : LI),([5] : LI),([1,3] : LI),([8] : LI)].length : Int) then if t1.1.toNat < [([2] : LI),([3] : LI),([2,2] : LI),([4] : LI),([2,3] : LI),[],([2,2,2] : LI),([5] : LI),([1,3] : LI),([8] : LI)].length then if 0 ≤ (if IntKind.i64.wrap ((([([2] : LI),([3] : LI),([2,2] : LI),([4] : LI),([2,3] : LI),[],([2,2,2] : LI),([5] : LI),([1,3] : LI),([8] : LI)].getD t1.1.toNat []).length : Int) - 1) < 0 then 0 else IntKind.i64.wrap ((([([2] : LI),([3] : LI),([2,2] : LI),([4] : LI),([2,3] : LI),[],([2,2,2] : LI),([5] : LI),([1,3] : LI),([8] : LI)].getD t1.1.toNat []).length : Int) - 1)) ∧ (if IntKind.i64.wrap ((([([2] : LI),([3] : LI),([2,2] : LI),([4] : LI),([2,3] : LI),[],([2,2,2] : LI),([5] : LI),([1,3] : LI),([8] : LI)].getD t1.1.toNat []).length : Int) - 1) < 0 then 0 else IntKind.i64.wrap ((([([2] : LI),([3] : LI),([2,2] : LI),([4] : LI),([2,3] : LI),[],([2,2,2] : LI),([5] : LI),([1,3] : LI),([8] : LI)].getD t1.1.toNat []).length : Int) - 1)) < ([(ByteArray.mk #[120]),(ByteArray.mk #[121,195,169]),(ByteArray.mk #[97,98,228,184,150])].length : Int) then if (if IntKind.i64.wrap ((([([2] : LI),([3] : LI),([2,2] : LI),([4] : LI),([2,3] : LI),[],([2,2,2] : LI),([5] : LI),([1,3] : LI),([8] : LI)].getD t1.1.toNat []).length : Int) - 1) < 0 then 0 else IntKind.i64.wrap ((([([2] : LI),([3] : LI),([2,2] : LI),([4] : LI),([2,3] : LI),[],([2,2,2] : LI),([5] : LI),([1,3] : LI),([8] : LI)].getD t1.1.toNat []).length : Int) - 1)).toNat < [(ByteArray.mk #[120]),(ByteArray.mk #[121,195,169]),(ByteArray.mk #[97,98,228,184,150])].length then if (([([2] : LI),([3] : LI),([2,2] : LI),([4] : LI),([2,3] : LI),[],([2,2,2] : LI),([5] : LI),([1,3] : LI),([8] : LI)].getD t1.1.toNat []).length : Int) = 0 then (if (([([2] : LI),([3] : LI),([2,2] : LI),([4] : LI),([2,3] : LI),[],([2,2,2] : LI),([5] : LI),([1,3] : LI),([8] : LI)].getD t1.1.toNat []).length : Int) = 2 then (if 0 + ([([2] : LI),([3] : LI),([2,2] : LI),([4] : LI),([2,3] : LI),[],([2,2,2] : LI),([5] : LI),([1,3] : LI),([8] : LI)].getD t1.1.toNat []).length ≤ 281474976710656 ∧ (0 + ([([2] : LI),([3] : LI),([2,2] : LI),([4] : LI),([2,3] : LI),[],([2,2,2] : LI),([5] : LI),([1,3] : LI),([8] : LI)].getD t1.1.toNat []).length) * 8 ≤ 140737488355328 then some ((ByteArray.mk #[121,195,169]),t1.2,[] ++ ([([2] : LI),([3] : LI),([2,2] : LI),([4] : LI),([2,3] : LI),[],([2,2,2] : LI),([5] : LI),([1,3] : LI),([8] : LI)].getD t1.1.toNat [])) else none) else if 0 + ([([2] : LI),([3] : LI),([2,2] : LI),([4] : LI),([2,3] : LI),[],([2,2,2] : LI),([5] : LI),([1,3] : LI),([8] : LI)].getD t1.1.toNat []).length ≤ 281474976710656 ∧ (0 + ([([2] : LI),([3] : LI),([2,2] : LI),([4] : LI),([2,3] : LI),[],([2,2,2] : LI),([5] : LI),([1,3] : LI),([8] : LI)].getD t1.1.toNat []).length) * 8 ≤ 140737488355328 then some (ByteArray.empty,t1.2,[] ++ ([([2] : LI),([3] : LI),([2,2] : LI),([4] : LI),([2,3] : LI),[],([2,2,2] : LI),([5] : LI),([1,3] : LI),([8] : LI)].getD t1.1.toNat [])) else none) else if (([([2] : LI),([3] : LI),([2,2] : LI),([4] : LI),([2,3] : LI),[],([2,2,2] : LI),([5] : LI),([1,3] : LI),([8] : LI)].getD t1.1.toNat []).length : Int) = 2 then (if 0 + ([([2] : LI),([3] : LI),([2,2] : LI),([4] : LI),([2,3] : LI),[],([2,2,2] : LI),([5] : LI),([1,3] : LI),([8] : LI)].getD t1.1.toNat []).length ≤ 281474976710656 ∧ (0 + ([([2] : LI),([3] : LI),([2,2] : LI),([4] : LI),([2,3] : LI),[],([2,2,2] : LI),([5] : LI),([1,3] : LI),([8] : LI)].getD t1.1.toNat []).length) * 8 ≤ 140737488355328 then some ((ByteArray.mk #[121,195,169]),t1.2,[] ++ ([([2] : LI),([3] : LI),([2,2] : LI),([4] : LI),([2,3] : LI),[],([2,2,2] : LI),([5] : LI),([1,3] : LI),([8] : LI)].getD t1.1.toNat [])) else none) else if 0 + ([([2] : LI),([3] : LI),([2,2] : LI),([4] : LI),([2,3] : LI),[],([2,2,2] : LI),([5] : LI),([1,3] : LI),([8] : LI)].getD t1.1.toNat []).length ≤ 281474976710656 ∧ (0 + ([([2] : LI),([3] : LI),([2,2] : LI),([4] : LI),([2,3] : LI),[],([2,2,2] : LI),([5] : LI),([1,3] : LI),([8] : LI)].getD t1.1.toNat []).length) * 8 ≤ 140737488355328 then some ([(ByteArray.mk #[120]),(ByteArray.mk #[121,195,169]),(ByteArray.mk #[97,98,228,184,150])].getD (if IntKind.i64.wrap ((([([2] : LI),([3] : LI),([2,2] : LI),([4] : LI),([2,3] : LI),[],([2,2,2] : LI),([5] : LI),([1,3] : LI),([8] : LI)].getD t1.1.toNat []).length : Int) - 1) < 0 then 0 else IntKind.i64.wrap ((([([2] : LI),([3] : LI),([2,2] : LI),([4] : LI),([2,3] : LI),[],([2,2,2] : LI),([5] : LI),([1,3] : LI),([8] : LI)].getD t1.1.toNat []).length : Int) - 1)).toNat ByteArray.empty,t1.2,[] ++ ([([2] : LI),([3] : LI),([2,2] : LI),([4] : LI),([2,3] : LI),[],([2,2,2] : LI),([5] : LI),([1,3] : LI),([8] : LI)].getD t1.1.toNat [])) else none else none else none else none else none
def qbI.l0 (k : Nat) : Nat → (List LI) → LI → Int → Int → LI → Option (LI)
 | 0,_,_,_,_,_ => none
 | n + 1,x0,x1,x8,x9,y0 => if x9 < x8 then (if 0 ≤ x9 ∧ x9 < (x0.length : Int) then (qbs.f k (x0.getD x9.toNat []) x1).bind fun t1 => if t1 = true then (if y0.length + [x9].length ≤ 281474976710656 ∧ (y0.length + [x9].length) * 8 ≤ 140737488355328 then qbI.l0 k n x0 x1 x8 (IntKind.i64.wrap (x9 + 1)) (y0 ++ [x9]) else none) else qbI.l0 k n x0 x1 x8 (IntKind.i64.wrap (x9 + 1)) y0 else none) else some y0
def qbI.f (k : Nat) (a0 : List LI) (a1 : LI) : Option (LI) := (qbI.l0 k k a0 a1 (a0.length : Int) 0 []).bind fun t2 => some t2
def qdJ.f (a0 : Int) : Option (Int × Bool × Bool × Bool × Bool) := if a0 = 1 then (some (0,true,false,false,false)) else if a0 = 2 then (some (0,true,false,true,false)) else if a0 = 3 then (some (0,true,true,false,false)) else if a0 = 4 then (some (1,false,false,false,false)) else if a0 = 5 then (some (1,false,false,false,false)) else if 6 ≤ a0 then (if a0 ≤ 11 then (some (2,false,false,false,false)) else if a0 = 12 then (some (3,false,false,false,false)) else if a0 = 13 then (some (1,false,true,false,false)) else if a0 = 15 then (some (1,false,true,false,false)) else if a0 = 14 then (some (1,true,true,false,false)) else if a0 = 16 then (some (1,false,true,true,false)) else if a0 = 17 then (some (-1,false,true,false,false)) else if a0 = 18 then (some (1,false,true,false,true)) else if a0 = 20 then (some (1,false,true,false,true)) else if a0 = 19 then (some (2,false,true,false,false)) else some (-2,false,false,false,false)) else if a0 = 12 then (some (3,false,false,false,false)) else if a0 = 13 then (some (1,false,true,false,false)) else if a0 = 15 then (some (1,false,true,false,false)) else if a0 = 14 then (some (1,true,true,false,false)) else if a0 = 16 then (some (1,false,true,true,false)) else if a0 = 17 then (some (-1,false,true,false,false)) else if a0 = 18 then (some (1,false,true,false,true)) else if a0 = 20 then (some (1,false,true,false,true)) else if a0 = 19 then (some (2,false,true,false,false)) else some (-2,false,false,false,false)
def qeg.f (a0_0 : Int) (a0_1 : LI) (a0_2 : LI) (a0_3 : LI) (a0_4 : Int) (a0_5 : Int) (a0_6 : ByteArray) (a1 : Int) : Option (Bool) := (qdJ.f a0_0).bind fun t1 => if t1.1 = -2 then (some false) else if 0 ≤ t1.1 then (if a1 = t1.1 then (if t1.1 = -1 then (if a1 < 2 then (some false) else if t1.2.1 = true then (if t1.2.2.1 = true then (if t1.2.2.2.1 = true then (if t1.2.2.2.2 = true then (some true) else some (decide (a0_5 = 0))) else if a0_4 = 0 then (if t1.2.2.2.2 = true then (some true) else some (decide (a0_5 = 0))) else some false) else if (a0_3.length : Int) = 0 then (if t1.2.2.2.1 = true then (if t1.2.2.2.2 = true then (some true) else some (decide (a0_5 = 0))) else if a0_4 = 0 then (if t1.2.2.2.2 = true then (some true) else some (decide (a0_5 = 0))) else some false) else some false) else if (a0_2.length : Int) = 0 then (if t1.2.2.1 = true then (if t1.2.2.2.1 = true then (if t1.2.2.2.2 = true then (some true) else some (decide (a0_5 = 0))) else if a0_4 = 0 then (if t1.2.2.2.2 = true then (some true) else some (decide (a0_5 = 0))) else some false) else if (a0_3.length : Int) = 0 then (if t1.2.2.2.1 = true then (if t1.2.2.2.2 = true then (some true) else some (decide (a0_5 = 0))) else if a0_4 = 0 then (if t1.2.2.2.2 = true then (some true) else some (decide (a0_5 = 0))) else some false) else some false) else some false) else if t1.2.1 = true then (if t1.2.2.1 = true then (if t1.2.2.2.1 = true then (if t1.2.2.2.2 = true then (some true) else some (decide (a0_5 = 0))) else if a0_4 = 0 then (if t1.2.2.2.2 = true then (some true) else some (decide (a0_5 = 0))) else some false) else if (a0_3.length : Int) = 0 then (if t1.2.2.2.1 = true then (if t1.2.2.2.2 = true then (some true) else some (decide (a0_5 = 0))) else if a0_4 = 0 then (if t1.2.2.2.2 = true then (some true) else some (decide (a0_5 = 0))) else some false) else some false) else if (a0_2.length : Int) = 0 then (if t1.2.2.1 = true then (if t1.2.2.2.1 = true then (if t1.2.2.2.2 = true then (some true) else some (decide (a0_5 = 0))) else if a0_4 = 0 then (if t1.2.2.2.2 = true then (some true) else some (decide (a0_5 = 0))) else some false) else if (a0_3.length : Int) = 0 then (if t1.2.2.2.1 = true then (if t1.2.2.2.2 = true then (some true) else some (decide (a0_5 = 0))) else if a0_4 = 0 then (if t1.2.2.2.2 = true then (some true) else some (decide (a0_5 = 0))) else some false) else some false) else some false) else some false) else if t1.1 = -1 then (if a1 < 2 then (some false) else if t1.2.1 = true then (if t1.2.2.1 = true then (if t1.2.2.2.1 = true then (if t1.2.2.2.2 = true then (some true) else some (decide (a0_5 = 0))) else if a0_4 = 0 then (if t1.2.2.2.2 = true then (some true) else some (decide (a0_5 = 0))) else some false) else if (a0_3.length : Int) = 0 then (if t1.2.2.2.1 = true then (if t1.2.2.2.2 = true then (some true) else some (decide (a0_5 = 0))) else if a0_4 = 0 then (if t1.2.2.2.2 = true then (some true) else some (decide (a0_5 = 0))) else some false) else some false) else if (a0_2.length : Int) = 0 then (if t1.2.2.1 = true then (if t1.2.2.2.1 = true then (if t1.2.2.2.2 = true then (some true) else some (decide (a0_5 = 0))) else if a0_4 = 0 then (if t1.2.2.2.2 = true then (some true) else some (decide (a0_5 = 0))) else some false) else if (a0_3.length : Int) = 0 then (if t1.2.2.2.1 = true then (if t1.2.2.2.2 = true then (some true) else some (decide (a0_5 = 0))) else if a0_4 = 0 then (if t1.2.2.2.2 = true then (some true) else some (decide (a0_5 = 0))) else some false) else some false) else some false) else if t1.2.1 = true then (if t1.2.2.1 = true then (if t1.2.2.2.1 = true then (if t1.2.2.2.2 = true then (some true) else some (decide (a0_5 = 0))) else if a0_4 = 0 then (if t1.2.2.2.2 = true then (some true) else some (decide (a0_5 = 0))) else some false) else if (a0_3.length : Int) = 0 then (if t1.2.2.2.1 = true then (if t1.2.2.2.2 = true then (some true) else some (decide (a0_5 = 0))) else if a0_4 = 0 then (if t1.2.2.2.2 = true then (some true) else some (decide (a0_5 = 0))) else some false) else some false) else if (a0_2.length : Int) = 0 then (if t1.2.2.1 = true then (if t1.2.2.2.1 = true then (if t1.2.2.2.2 = true then (some true) else some (decide (a0_5 = 0))) else if a0_4 = 0 then (if t1.2.2.2.2 = true then (some true) else some (decide (a0_5 = 0))) else some false) else if (a0_3.length : Int) = 0 then (if t1.2.2.2.1 = true then (if t1.2.2.2.2 = true then (some true) else some (decide (a0_5 = 0))) else if a0_4 = 0 then (if t1.2.2.2.2 = true then (some true) else some (decide (a0_5 = 0))) else some false) else some false) else some false
def qcr.f (a0_0 : Int) (a0_1 : LI) (a0_2 : LI) (a0_3 : LI) (a0_4 : Int) (a0_5 : Int) (a0_6 : ByteArray) (a1 : Int) : Option (Bool) := some (decide ((a0_3.length : Int) = a1))
def qcf.l0 (k : Nat) : Nat → LI → Int → Int → LI → LI → Option (LI)
 | 0,_,_,_,_,_ => none
 | n + 1,x0,x1,x6,y2,y3 => if x6 < (y3.length : Int) then ((qa7.f k x0 x6).bind fun t2 => if 0 ≤ x1 ∧ x1 < (t2.length : Int) then if x1.toNat < t2.length then if 0 ≤ x6 ∧ x6 < (y3.length : Int) then if x6.toNat < y3.length then qcf.l0 k n x0 x1 (IntKind.i64.wrap (x6 + 1)) y2 (y3.set x6.toNat (t2.getD x1.toNat 0)) else none else none else none else none) else some y3
def qcf.f (k : Nat) (a0 : LI) (a1 : Int) : Option LT := (qa2.f k a0 0).bind fun t1 => (qcf.l0 k k a0 a1 0 t1.1 t1.2).bind fun t3 => some (t1.1,t3)
def qbR.l0 (k : Nat) : Nat → (List LT) → Int → Option (Unit ⊕ Int)
 | 0,_,_ => none
 | n + 1,x0,x3 => if x3 < (x0.length : Int) then (if 0 ≤ x3 ∧ x3 < (x0.length : Int) then (qby.f k (x0.getD x3.toNat ([],[])).1 (x0.getD x3.toNat ([],[])).2).bind fun t1 => if t1 = true then (if (0 : Int) ≤ 0 ∧ 0 < (x0.length : Int) then (qbs.f k (x0.getD x3.toNat ([],[])).1 (x0.getD 0 ([],[])).1).bind fun t2 => if t2 = true then (qbR.l0 k n x0 (IntKind.i64.wrap (x3 + 1))) else some (.inr 13) else none) else some (.inr 13) else none) else some (.inl ())
def qbR.f (k : Nat) (a0 : List LT) : Option (Int) := (qbR.l0 k k a0 0).bind fun t3 => Sum.elim (fun t3 => some 0) (fun t3 => some t3) t3
def qfZ.f (a0 : Bool) : Option (Int) := if a0 = true then (some 1) else some 0
def qed.f (a0 : Int) (a1 : Int) (a2 : Int) : Option (Int) := if a0 = 4 then (some (IntKind.i64.wrap (0 - a1))) else if a0 = 5 then ((qfZ.f (decide (a1 = 0))).bind fun t1 => some t1) else if a0 = 6 then (some (IntKind.i64.wrap (a1 + a2))) else if a0 = 7 then (some (IntKind.i64.wrap (a1 - a2))) else if a0 = 8 then (some (IntKind.i64.wrap (a1 * a2))) else if a0 = 9 then (some (if a2 < a1 then a2 else a1)) else if a0 = 10 then (some (if a1 < a2 then a2 else a1)) else if a0 = 11 then ((qfZ.f (decide (a1 < a2))).bind fun t2 => some t2) else some 0
def qck.l0 : Nat → Int → Int → Int → LI → LI → LI → LI → Option (LI)
 | 0,_,_,_,_,_,_,_ => none
 | n + 1,x0,x28,x29,y0_0,y0_1,y3,y4 => if x29 < x28 then (if 0 ≤ x29 ∧ x29 < (y0_1.length : Int) then (qed.f x0 (y0_1.getD x29.toNat 0) 0).bind fun t3 => if 0 ≤ x29 ∧ x29 < (y4.length : Int) then if x29.toNat < y4.length then qck.l0 n x0 x28 (IntKind.i64.wrap (x29 + 1)) y0_0 y0_1 y3 (y4.set x29.toNat t3) else none else none else none) else some y4
def qck.f (k : Nat) (a0 : Int) (a1_0 : LI) (a1_1 : LI) : Option (Int × LI × LI) := if a0 = 4 then ((qbR.f k [(a1_0,a1_1)]).bind fun t5 => if t5 = 0 then ((qa2.f k a1_0 0).bind fun t6 => (qck.l0 k a0 (t6.2.length : Int) 0 a1_0 a1_1 t6.1 t6.2).bind fun t7 => some (0,t6.1,t7)) else some (t5,[],[])) else if a0 = 5 then ((qbR.f k [(a1_0,a1_1)]).bind fun t1 => if t1 = 0 then ((qa2.f k a1_0 0).bind fun t2 => (qck.l0 k a0 (t2.2.length : Int) 0 a1_0 a1_1 t2.1 t2.2).bind fun t4 => some (0,t2.1,t4)) else some (t1,[],[])) else some (1,[],[])
def qcd.l0 : Nat → Int → Int → LI → LI → LI → LI → LI → LI → LI → LI → Option (LI)
 | 0,_,_,_,_,_,_,_,_,_,_ => none
 | n + 1,x25,x26,y0_0,y0_1,y1_0,y1_1,y2_0,y2_1,y5,y6 => if x26 < x25 then (if 0 ≤ x26 ∧ x26 < (y2_1.length : Int) then if 0 ≤ x26 ∧ x26 < (y6.length : Int) then if x26.toNat < y6.length then if 0 ≤ x26 ∧ x26 < (y0_1.length : Int) then if y0_1.getD x26.toNat 0 = 0 then (qcd.l0 n x25 (IntKind.i64.wrap (x26 + 1)) y0_0 y0_1 y1_0 y1_1 y2_0 y2_1 y5 (y6.set x26.toNat (y2_1.getD x26.toNat 0))) else if 0 ≤ x26 ∧ x26 < (y1_1.length : Int) then if 0 ≤ x26 ∧ x26 < ((y6.set x26.toNat (y2_1.getD x26.toNat 0)).length : Int) then if x26.toNat < (y6.set x26.toNat (y2_1.getD x26.toNat 0)).length then qcd.l0 n x25 (IntKind.i64.wrap (x26 + 1)) y0_0 y0_1 y1_0 y1_1 y2_0 y2_1 y5 ((y6.set x26.toNat (y2_1.getD x26.toNat 0)).set x26.toNat (y1_1.getD x26.toNat 0)) else none else none else none else none else none else none else none) else some y6
def qcd.f (k : Nat) (a0_0 : LI) (a0_1 : LI) (a1_0 : LI) (a1_1 : LI) (a2_0 : LI) (a2_1 : LI) : Option (Int × LI × LI) := (qbR.f k [(a0_0,a0_1),(a1_0,a1_1),(a2_0,a2_1)]).bind fun t1 => if t1 = 0 then ((qa2.f k a1_0 0).bind fun t2 => (qcd.l0 k (t2.2.length : Int) 0 a0_0 a0_1 a1_0 a1_1 a2_0 a2_1 t2.1 t2.2).bind fun t3 => some (0,t2.1,t3)) else some (t1,[],[])
def qc9.f (k : Nat) (a0 : LI) (a1 : LI) (a2 : Int) : Option (Int × LI) := if a2 < 0 then (some (1,[])) else if (a0.length : Int) ≤ a2 then (some (1,[])) else if (a1.length : Int) ≤ a2 then (some (1,[])) else (qaF.f k a0).bind fun t1 => if t1 = true then ((qaF.f k a1).bind fun t2 => if t2 = true then (if 0 ≤ ((0 : Nat) : Int) ∧ ((0 : Nat) : Int) ≤ a2 ∧ a2 ≤ (a0.length : Int) then if 0 ≤ ((0 : Nat) : Int) ∧ ((0 : Nat) : Int) ≤ a2 ∧ a2 ≤ (a1.length : Int) then (qbs.f k ((a0.take a2.toNat).drop 0) ((a1.take a2.toNat).drop 0)).bind fun t3 => if t3 = true then (if 0 ≤ IntKind.i64.wrap ((a0.length : Int) - 1) ∧ IntKind.i64.wrap ((a0.length : Int) - 1) < (a0.length : Int) then if 0 ≤ a2 ∧ a2 < (a1.length : Int) then if a0.getD (IntKind.i64.wrap ((a0.length : Int) - 1)).toNat 0 = a1.getD a2.toNat 0 then (if 0 ≤ ((0 : Nat) : Int) ∧ ((0 : Nat) : Int) ≤ IntKind.i64.wrap ((a0.length : Int) - 1) ∧ IntKind.i64.wrap ((a0.length : Int) - 1) ≤ (a0.length : Int) then if 0 + ((a0.take (IntKind.i64.wrap ((a0.length : Int) - 1)).toNat).drop 0).length ≤ 281474976710656 ∧ (0 + ((a0.take (IntKind.i64.wrap ((a0.length : Int) - 1)).toNat).drop 0).length) * 8 ≤ 140737488355328 then if 0 ≤ IntKind.i64.wrap (a2 + 1) ∧ IntKind.i64.wrap (a2 + 1) ≤ (a1.length : Int) ∧ (a1.length : Int) ≤ (a1.length : Int) then if ([] ++ ((a0.take (IntKind.i64.wrap ((a0.length : Int) - 1)).toNat).drop 0)).length + ((a1.take a1.length).drop (IntKind.i64.wrap (a2 + 1)).toNat).length ≤ 281474976710656 ∧ (([] ++ ((a0.take (IntKind.i64.wrap ((a0.length : Int) - 1)).toNat).drop 0)).length + ((a1.take a1.length).drop (IntKind.i64.wrap (a2 + 1)).toNat).length) * 8 ≤ 140737488355328 then (qaF.f k (([] ++ ((a0.take (IntKind.i64.wrap ((a0.length : Int) - 1)).toNat).drop 0)) ++ ((a1.take a1.length).drop (IntKind.i64.wrap (a2 + 1)).toNat))).bind fun t4 => if t4 = true then (some (0,([] ++ ((a0.take (IntKind.i64.wrap ((a0.length : Int) - 1)).toNat).drop 0)) ++ ((a1.take a1.length).drop (IntKind.i64.wrap (a2 + 1)).toNat))) else some (13,[]) else none else none else none else none) else some (13,[]) else none else none) else some (13,[]) else none else none) else some (13,[])) else some (13,[])
def qbG.l1 (k : Nat) : Nat → Int → Int → Int → Int → Int → Int → LI → LI → LI → LI → LI → LI → LI → LI → Option (LI)
 | 0,_,_,_,_,_,_,_,_,_,_,_,_,_,_ => none
 | n + 1,x2,x11,x12,x14,x47,x48,y0_0,y0_1,y1_0,y1_1,y3,y5,y6,y7 => if 0 ≤ x2 ∧ x2 < (y1_0.length : Int) then if x14 < y1_0.getD x2.toNat 0 then (if 0 ≤ ((0 : Nat) : Int) ∧ ((0 : Nat) : Int) ≤ x11 ∧ x11 ≤ (y5.length : Int) then if 0 + ((y5.take x11.toNat).drop 0).length ≤ 281474976710656 ∧ (0 + ((y5.take x11.toNat).drop 0).length) * 8 ≤ 140737488355328 then if ([] ++ ((y5.take x11.toNat).drop 0)).length + [x14].length ≤ 281474976710656 ∧ (([] ++ ((y5.take x11.toNat).drop 0)).length + [x14].length) * 8 ≤ 140737488355328 then if 0 ≤ ((0 : Nat) : Int) ∧ ((0 : Nat) : Int) ≤ x2 ∧ x2 ≤ (y5.length : Int) then if 0 + ((y5.take x2.toNat).drop 0).length ≤ 281474976710656 ∧ (0 + ((y5.take x2.toNat).drop 0).length) * 8 ≤ 140737488355328 then if ([] ++ ((y5.take x2.toNat).drop 0)).length + [x14].length ≤ 281474976710656 ∧ (([] ++ ((y5.take x2.toNat).drop 0)).length + [x14].length) * 8 ≤ 140737488355328 then if 0 ≤ x11 ∧ x11 ≤ (y5.length : Int) ∧ (y5.length : Int) ≤ (y5.length : Int) then if (([] ++ ((y5.take x2.toNat).drop 0)) ++ [x14]).length + ((y5.take y5.length).drop x11.toNat).length ≤ 281474976710656 ∧ ((([] ++ ((y5.take x2.toNat).drop 0)) ++ [x14]).length + ((y5.take y5.length).drop x11.toNat).length) * 8 ≤ 140737488355328 then if 0 ≤ x12 ∧ x12 < (y7.length : Int) then if x12.toNat < y7.length then (qch.f k y0_0 y0_1 (([] ++ ((y5.take x11.toNat).drop 0)) ++ [x14])).bind fun t6 => (qch.f k y1_0 y1_1 ((([] ++ ((y5.take x2.toNat).drop 0)) ++ [x14]) ++ ((y5.take y5.length).drop x11.toNat))).bind fun t7 => qbG.l1 k n x2 x11 x12 (IntKind.i64.wrap (x14 + 1)) x47 x48 y0_0 y0_1 y1_0 y1_1 y3 y5 y6 (y7.set x12.toNat (IntKind.i64.wrap ((y7.getD x12.toNat 0) + (IntKind.i64.wrap (t6 * t7))))) else none else none else none else none else none else none else none else none else none else none) else some y7 else none
def qbG.l0 (k : Nat) : Nat → Int → Int → Int → Int → LI → LI → LI → LI → LI → LI → LI → Option (LI)
 | 0,_,_,_,_,_,_,_,_,_,_,_ => none
 | n + 1,x2,x11,x47,x48,y0_0,y0_1,y1_0,y1_1,y3,y5,y6 => if x48 < x47 then ((qa7.f k y3 x48).bind fun t5 => (qbG.l1 k n x2 x11 x48 0 x47 x48 y0_0 y0_1 y1_0 y1_1 y3 t5 y5 y6).bind fun t8 => qbG.l0 k n x2 x11 x47 (IntKind.i64.wrap (x48 + 1)) y0_0 y0_1 y1_0 y1_1 y3 y5 t8) else some y6
def qbG.f (k : Nat) (a0_0 : LI) (a0_1 : LI) (a1_0 : LI) (a1_1 : LI) (a2 : Int) : Option (Int × LI × LI) := (qby.f k a0_0 a0_1).bind fun t1 => if t1 = true then ((qby.f k a1_0 a1_1).bind fun t2 => if t2 = true then ((qc9.f k a0_0 a1_0 a2).bind fun t3 => if t3.1 = 0 then ((qa2.f k t3.2 0).bind fun t4 => (qbG.l0 k k a2 (IntKind.i64.wrap ((a0_0.length : Int) - 1)) (t4.2.length : Int) 0 a0_0 a0_1 a1_0 a1_1 t3.2 t4.1 t4.2).bind fun t9 => some (0,t4.1,t9)) else some (t3.1,[],[])) else some (13,[],[])) else some (13,[],[])
def qe5.f (a0 : Int) : Option (Bool) := if 1 ≤ a0 then (some (decide (a0 ≤ 4))) else some false
def qbx.l0 : Nat → LI → Int → Int → Int → Option (Unit ⊕ Bool)
 | 0,_,_,_,_ => none
 | n + 1,x0,x1,x7,x8 => if x8 < x7 then (if 0 ≤ x8 ∧ x8 < (x0.length : Int) then if x0.getD x8.toNat 0 < 0 then (some (.inr false)) else if x1 ≤ x0.getD x8.toNat 0 then (some (.inr false)) else if 0 < x8 then (if 0 ≤ IntKind.i64.wrap (x8 - 1) ∧ IntKind.i64.wrap (x8 - 1) < (x0.length : Int) then if x0.getD x8.toNat 0 ≤ x0.getD (IntKind.i64.wrap (x8 - 1)).toNat 0 then (some (.inr false)) else qbx.l0 n x0 x1 x7 (IntKind.i64.wrap (x8 + 1)) else none) else qbx.l0 n x0 x1 x7 (IntKind.i64.wrap (x8 + 1)) else none) else some (.inl ())
def qbx.f (k : Nat) (a0 : LI) (a1 : Int) : Option (Bool) := (qbx.l0 k a0 a1 (a0.length : Int) 0).bind fun t1 => Sum.elim (fun t1 => some true) (fun t1 => some t1) t1
def qcG.l0 : Nat → LI → Int → Int → Int → Option (Unit ⊕ Bool)
 | 0,_,_,_,_ => none
 | n + 1,x0,x1,x7,x8 => if x8 < x7 then (if 0 ≤ x8 ∧ x8 < (x0.length : Int) then if x0.getD x8.toNat 0 = x1 then (some (.inr true)) else qcG.l0 n x0 x1 x7 (IntKind.i64.wrap (x8 + 1)) else none) else some (.inl ())
def qcG.f (k : Nat) (a0 : LI) (a1 : Int) : Option (Bool) := (qcG.l0 k a0 a1 (a0.length : Int) 0).bind fun t1 => Sum.elim (fun t1 => some false) (fun t1 => some t1) t1
def qee.f (a0 : Int) : Option (Int) := if a0 = 2 then (some 1) else if a0 = 3 then (some 9223372036854775807) else if a0 = 4 then (some (-9223372036854775808)) else some 0
def qe4.f (a0 : Int) (a1 : Int) (a2 : Int) : Option (Int) := if a0 = 1 then (some (IntKind.i64.wrap (a1 + a2))) else if a0 = 2 then (some (IntKind.i64.wrap (a1 * a2))) else if a0 = 3 then (some (if a2 < a1 then a2 else a1)) else if a0 = 4 then (some (if a1 < a2 then a2 else a1)) else some 0
def qaS.l0 (k : Nat) : Nat → Int → LI → Int → Int → LI → LI → LI → Option (LI)
 | 0,_,_,_,_,_,_,_ => none
 | n + 1,x0,x2,x33,x34,y0_0,y0_1,y2 => if x34 < x33 then ((qcG.f k x2 x34).bind fun t4 => if t4 = true then (qaS.l0 k n x0 x2 x33 (IntKind.i64.wrap (x34 + 1)) y0_0 y0_1 y2) else if 0 ≤ x34 ∧ x34 < (y0_0.length : Int) then if y2.length + [y0_0.getD x34.toNat 0].length ≤ 281474976710656 ∧ (y2.length + [y0_0.getD x34.toNat 0].length) * 8 ≤ 140737488355328 then qaS.l0 k n x0 x2 x33 (IntKind.i64.wrap (x34 + 1)) y0_0 y0_1 (y2 ++ [y0_0.getD x34.toNat 0]) else none else none) else some y2
def qaS.l2 (k : Nat) : Nat → Int → LI → Int → Int → Int → Int → Int → LI → LI → LI → LI → LI → LI → LI → Option (LI)
 | 0,_,_,_,_,_,_,_,_,_,_,_,_,_,_ => none
 | n + 1,x0,x2,x11,x60,x61,x68,x69,y0_0,y0_1,y2,y4,y5,y6,y7 => if x69 < x68 then (if 0 ≤ x69 ∧ x69 < (y5.length : Int) then if x69.toNat < y5.length then (qcG.f k x2 x69).bind fun t10 => if t10 = true then (qaS.l2 k n x0 x2 x11 x60 x61 x68 (IntKind.i64.wrap (x69 + 1)) y0_0 y0_1 y2 y4 y5 y6 y7) else if y4.length + [y5.getD x69.toNat 0].length ≤ 281474976710656 ∧ (y4.length + [y5.getD x69.toNat 0].length) * 8 ≤ 140737488355328 then qaS.l2 k n x0 x2 x11 x60 x61 x68 (IntKind.i64.wrap (x69 + 1)) y0_0 y0_1 y2 (y4 ++ [y5.getD x69.toNat 0]) y5 y6 y7 else none else none else none) else some y4
def qaS.l1 (k : Nat) : Nat → Int → LI → Int → Int → LI → LI → LI → LI → LI → Option (LI)
 | 0,_,_,_,_,_,_,_,_,_ => none
 | n + 1,x0,x2,x60,x61,y0_0,y0_1,y2,y4,y5 => if x61 < x60 then ((qa7.f k y0_0 x61).bind fun t9 => (qaS.l2 k n x0 x2 x61 x60 x61 (t9.length : Int) 0 y0_0 y0_1 y2 [] t9 y4 y5).bind fun t11 => (qbD.f k y2 t11).bind fun t12 => if 0 ≤ t12 ∧ t12 < (y5.length : Int) then if t12.toNat < y5.length then if 0 ≤ x61 ∧ x61 < (y0_1.length : Int) then (qe4.f x0 (y5.getD t12.toNat 0) (y0_1.getD x61.toNat 0)).bind fun t13 => qaS.l1 k n x0 x2 x60 (IntKind.i64.wrap (x61 + 1)) y0_0 y0_1 y2 y4 (y5.set t12.toNat t13) else none else none else none) else some y5
def qaS.f (k : Nat) (a0 : Int) (a1_0 : LI) (a1_1 : LI) (a2 : LI) : Option (Int × LI × LI) := (qe5.f a0).bind fun t1 => if t1 = true then ((qby.f k a1_0 a1_1).bind fun t2 => if t2 = true then ((qbx.f k a2 (a1_0.length : Int)).bind fun t3 => if t3 = true then ((qaS.l0 k k a0 a2 (a1_0.length : Int) 0 a1_0 a1_1 []).bind fun t5 => (qaF.f k t5).bind fun t6 => if t6 = true then ((qee.f a0).bind fun t7 => (qa2.f k t5 t7).bind fun t8 => (qaS.l1 k k a0 a2 (a1_1.length : Int) 0 a1_0 a1_1 t5 t8.1 t8.2).bind fun t14 => some (0,t8.1,t14)) else some (13,[],[])) else some (1,[],[])) else some (13,[],[])) else some (1,[],[])
def qdo.f (a0 : Int) (a1 : Int) (a2 : Int) : Option (Int) := if a0 < 0 then (some 0) else if a1 < 1 then (some 0) else if a2 < 1 then (some 0) else if a0 < a1 then (some 0) else if a2 ≠ 0 then some (IntKind.i64.wrap ((IntKind.i64.wrap ((IntKind.i64.wrap (a0 - a1)).tdiv a2)) + 1)) else none
def qaV.l1 (k : Nat) : Nat → Int → Int → Int → Int → Int → Int → Int → Int → Int → LI → LI → LI → LI → LI → LI → Option (LI)
 | 0,_,_,_,_,_,_,_,_,_,_,_,_,_,_,_ => none
 | n + 1,x0,x2,x3,x4,x14,x16,x17,x72,x73,y0_0,y0_1,y2,y4,y5,y6 => if x17 < x3 then (if 0 ≤ x2 ∧ x2 < (y4.length : Int) then if x2.toNat < y4.length then if 0 ≤ x14 ∧ x14 < (y6.length : Int) then if x14.toNat < y6.length then (qch.f k y0_0 y0_1 (y4.set x2.toNat (IntKind.i64.wrap (x16 + x17)))).bind fun t7 => (qe4.f x0 (y6.getD x14.toNat 0) t7).bind fun t8 => qaV.l1 k n x0 x2 x3 x4 x14 x16 (IntKind.i64.wrap (x17 + 1)) x72 x73 y0_0 y0_1 y2 (y4.set x2.toNat (IntKind.i64.wrap (x16 + x17))) y5 (y6.set x14.toNat t8) else none else none else none else none) else some y6
def qaV.l0 (k : Nat) : Nat → Int → Int → Int → Int → Int → Int → LI → LI → LI → LI → LI → Option (LI)
 | 0,_,_,_,_,_,_,_,_,_,_,_ => none
 | n + 1,x0,x2,x3,x4,x72,x73,y0_0,y0_1,y2,y4,y5 => if x73 < x72 then ((qa7.f k y2 x73).bind fun t6 => if 0 ≤ x2 ∧ x2 < (t6.length : Int) then if x2.toNat < t6.length then (qaV.l1 k n x0 x2 x3 x4 x73 (IntKind.i64.wrap ((t6.getD x2.toNat 0) * x4)) 0 x72 x73 y0_0 y0_1 y2 t6 y4 y5).bind fun t9 => qaV.l0 k n x0 x2 x3 x4 x72 (IntKind.i64.wrap (x73 + 1)) y0_0 y0_1 y2 y4 t9 else none else none) else some y5
def qaV.f (k : Nat) (a0 : Int) (a1_0 : LI) (a1_1 : LI) (a2 : Int) (a3 : Int) (a4 : Int) : Option (Int × LI × LI) := (qe5.f a0).bind fun t1 => if t1 = true then (if a3 < 1 then (some (1,[],[])) else if 32 < a3 then (some (1,[],[])) else if a4 < 1 then (some (1,[],[])) else if 32 < a4 then (some (1,[],[])) else (qby.f k a1_0 a1_1).bind fun t2 => if t2 = true then (if a2 < 0 then (some (1,[],[])) else if (a1_0.length : Int) ≤ a2 then (some (1,[],[])) else if 0 + a1_0.length ≤ 281474976710656 ∧ (0 + a1_0.length) * 8 ≤ 140737488355328 then if 0 ≤ a2 ∧ a2 < (([] ++ a1_0).length : Int) then if a2.toNat < ([] ++ a1_0).length then (qdo.f (([] ++ a1_0).getD a2.toNat 0) a3 a4).bind fun t3 => (qee.f a0).bind fun t4 => (qa2.f k (([] ++ a1_0).set a2.toNat t3) t4).bind fun t5 => (qaV.l0 k k a0 a2 a3 a4 (t5.2.length : Int) 0 a1_0 a1_1 (([] ++ a1_0).set a2.toNat t3) t5.1 t5.2).bind fun t10 => some (0,t5.1,t10) else none else none else none) else some (13,[],[])) else some (1,[],[])
def qcP.l0 : Nat → Int → Int → Int → LI → LI → LI → LI → LI → LI → Option (LI)
 | 0,_,_,_,_,_,_,_,_,_ => none
 | n + 1,x0,x31,x32,y0_0,y0_1,y1_0,y1_1,y4,y5 => if x32 < x31 then (if 0 ≤ x32 ∧ x32 < (y0_1.length : Int) then if 0 ≤ x32 ∧ x32 < (y1_1.length : Int) then (qed.f x0 (y0_1.getD x32.toNat 0) (y1_1.getD x32.toNat 0)).bind fun t3 => if 0 ≤ x32 ∧ x32 < (y5.length : Int) then if x32.toNat < y5.length then qcP.l0 n x0 x31 (IntKind.i64.wrap (x32 + 1)) y0_0 y0_1 y1_0 y1_1 y4 (y5.set x32.toNat t3) else none else none else none else none) else some y5
def qcP.f (k : Nat) (a0 : Int) (a1_0 : LI) (a1_1 : LI) (a2_0 : LI) (a2_1 : LI) : Option (Int × LI × LI) := if a0 < 6 then (some (1,[],[])) else if 11 < a0 then (some (1,[],[])) else (qbR.f k [(a1_0,a1_1),(a2_0,a2_1)]).bind fun t1 => if t1 = 0 then ((qa2.f k a1_0 0).bind fun t2 => (qcP.l0 k a0 (t2.2.length : Int) 0 a1_0 a1_1 a2_0 a2_1 t2.1 t2.2).bind fun t4 => some (0,t2.1,t4)) else some (t1,[],[])
def qbm.f (k : Nat) (a0_0 : Int) (a0_1 : LI) (a0_2 : LI) (a0_3 : LI) (a0_4 : Int) (a0_5 : Int) (a0_6 : ByteArray) (a1 : List LT) : Option (Int × LI × LI) := if a0_0 = 2 then ((qaF.f k a0_2).bind fun t1 => if t1 = true then ((qa2.f k a0_2 a0_4).bind fun t2 => some (0,t2.1,t2.2)) else some (13,[],[])) else if a0_0 = 3 then ((qaF.f k a0_2).bind fun t3 => if t3 = true then ((qcr.f a0_0 a0_1 a0_2 a0_3 a0_4 a0_5 a0_6 1).bind fun t4 => if t4 = true then (if (0 : Int) ≤ 0 ∧ 0 < (a0_3.length : Int) then if a0_3.getD 0 0 < 0 then (some (1,[],[])) else if (a0_2.length : Int) ≤ a0_3.getD 0 0 then (some (1,[],[])) else (qcf.f k a0_2 (a0_3.getD 0 0)).bind fun t5 => some (0,t5.1,t5.2) else none) else some (1,[],[])) else some (13,[],[])) else if a0_0 = 4 then (if (0 : Int) ≤ 0 ∧ 0 < (a1.length : Int) then (qck.f k a0_0 (a1.getD 0 ([],[])).1 (a1.getD 0 ([],[])).2).bind fun t6 => some (t6.1,t6.2.1,t6.2.2) else none) else if a0_0 = 5 then (if (0 : Int) ≤ 0 ∧ 0 < (a1.length : Int) then (qck.f k a0_0 (a1.getD 0 ([],[])).1 (a1.getD 0 ([],[])).2).bind fun t7 => some (t7.1,t7.2.1,t7.2.2) else none) else if a0_0 = 12 then (if (0 : Int) ≤ 0 ∧ 0 < (a1.length : Int) then if (0 : Int) ≤ 1 ∧ 1 < (a1.length : Int) then if (0 : Int) ≤ 2 ∧ 2 < (a1.length : Int) then (qcd.f k (a1.getD 0 ([],[])).1 (a1.getD 0 ([],[])).2 (a1.getD 1 ([],[])).1 (a1.getD 1 ([],[])).2 (a1.getD 2 ([],[])).1 (a1.getD 2 ([],[])).2).bind fun t8 => some (t8.1,t8.2.1,t8.2.2) else none else none else none) else if a0_0 = 13 then (if (0 : Int) ≤ 0 ∧ 0 < (a1.length : Int) then (qaY.f k (a1.getD 0 ([],[])).1 (a1.getD 0 ([],[])).2 a0_3).bind fun t9 => some (t9.1,t9.2.1,t9.2.2) else none) else if a0_0 = 14 then (if (0 : Int) ≤ 0 ∧ 0 < (a1.length : Int) then (qax.f k (a1.getD 0 ([],[])).1 (a1.getD 0 ([],[])).2 a0_2 a0_3).bind fun t10 => some (t10.1,t10.2.1,t10.2.2) else none) else if a0_0 = 15 then (if (0 : Int) ≤ 0 ∧ 0 < (a1.length : Int) then (qcr.f a0_0 a0_1 a0_2 a0_3 a0_4 a0_5 a0_6 (IntKind.i64.wrap (2 * ((a1.getD 0 ([],[])).1.length : Int)))).bind fun t11 => if t11 = true then (if 0 ≤ ((0 : Nat) : Int) ∧ ((0 : Nat) : Int) ≤ ((a1.getD 0 ([],[])).1.length : Int) ∧ ((a1.getD 0 ([],[])).1.length : Int) ≤ (a0_3.length : Int) then if 0 ≤ ((a1.getD 0 ([],[])).1.length : Int) ∧ ((a1.getD 0 ([],[])).1.length : Int) ≤ (a0_3.length : Int) ∧ (a0_3.length : Int) ≤ (a0_3.length : Int) then (qaI.f k (a1.getD 0 ([],[])).1 (a1.getD 0 ([],[])).2 ((a0_3.take ((a1.getD 0 ([],[])).1.length : Int).toNat).drop 0) ((a0_3.take a0_3.length).drop ((a1.getD 0 ([],[])).1.length : Int).toNat)).bind fun t12 => some (t12.1,t12.2.1,t12.2.2) else none else none) else some (1,[],[]) else none) else if a0_0 = 16 then (if (0 : Int) ≤ 0 ∧ 0 < (a1.length : Int) then (qcr.f a0_0 a0_1 a0_2 a0_3 a0_4 a0_5 a0_6 (IntKind.i64.wrap (2 * ((a1.getD 0 ([],[])).1.length : Int)))).bind fun t13 => if t13 = true then (if 0 ≤ ((0 : Nat) : Int) ∧ ((0 : Nat) : Int) ≤ ((a1.getD 0 ([],[])).1.length : Int) ∧ ((a1.getD 0 ([],[])).1.length : Int) ≤ (a0_3.length : Int) then if 0 ≤ ((a1.getD 0 ([],[])).1.length : Int) ∧ ((a1.getD 0 ([],[])).1.length : Int) ≤ (a0_3.length : Int) ∧ (a0_3.length : Int) ≤ (a0_3.length : Int) then (qbc.f k (a1.getD 0 ([],[])).1 (a1.getD 0 ([],[])).2 ((a0_3.take ((a1.getD 0 ([],[])).1.length : Int).toNat).drop 0) ((a0_3.take a0_3.length).drop ((a1.getD 0 ([],[])).1.length : Int).toNat) a0_4).bind fun t14 => some (t14.1,t14.2.1,t14.2.2) else none else none) else some (1,[],[]) else none) else if a0_0 = 17 then ((qcr.f a0_0 a0_1 a0_2 a0_3 a0_4 a0_5 a0_6 1).bind fun t15 => if t15 = true then (if (0 : Int) ≤ 0 ∧ 0 < (a0_3.length : Int) then (qas.f k (a0_3.getD 0 0) a1).bind fun t16 => some (t16.1,t16.2.1,t16.2.2) else none) else some (1,[],[])) else if a0_0 = 19 then ((qcr.f a0_0 a0_1 a0_2 a0_3 a0_4 a0_5 a0_6 1).bind fun t17 => if t17 = true then (if (0 : Int) ≤ 0 ∧ 0 < (a1.length : Int) then if (0 : Int) ≤ 1 ∧ 1 < (a1.length : Int) then if (0 : Int) ≤ 0 ∧ 0 < (a0_3.length : Int) then (qbG.f k (a1.getD 0 ([],[])).1 (a1.getD 0 ([],[])).2 (a1.getD 1 ([],[])).1 (a1.getD 1 ([],[])).2 (a0_3.getD 0 0)).bind fun t18 => some (t18.1,t18.2.1,t18.2.2) else none else none else none) else some (1,[],[])) else if a0_0 = 18 then (if (0 : Int) ≤ 0 ∧ 0 < (a1.length : Int) then (qaS.f k a0_5 (a1.getD 0 ([],[])).1 (a1.getD 0 ([],[])).2 a0_3).bind fun t19 => some (t19.1,t19.2.1,t19.2.2) else none) else if a0_0 = 20 then ((qcr.f a0_0 a0_1 a0_2 a0_3 a0_4 a0_5 a0_6 3).bind fun t20 => if t20 = true then (if (0 : Int) ≤ 0 ∧ 0 < (a1.length : Int) then if (0 : Int) ≤ 0 ∧ 0 < (a0_3.length : Int) then if (0 : Int) ≤ 1 ∧ 1 < (a0_3.length : Int) then if (0 : Int) ≤ 2 ∧ 2 < (a0_3.length : Int) then (qaV.f k a0_5 (a1.getD 0 ([],[])).1 (a1.getD 0 ([],[])).2 (a0_3.getD 0 0) (a0_3.getD 1 0) (a0_3.getD 2 0)).bind fun t21 => some (t21.1,t21.2.1,t21.2.2) else none else none else none else none) else some (1,[],[])) else if (0 : Int) ≤ 0 ∧ 0 < (a1.length : Int) then if (0 : Int) ≤ 1 ∧ 1 < (a1.length : Int) then (qcP.f k a0_0 (a1.getD 0 ([],[])).1 (a1.getD 0 ([],[])).2 (a1.getD 1 ([],[])).1 (a1.getD 1 ([],[])).2).bind fun t22 => some (t22.1,t22.2.1,t22.2.2) else none else none
def qbh.l0 (k : Nat) : Nat → (List LI) → Int → Int → Int → LI → LI → LI → Int → Int → ByteArray → (List LT) → Option ((List LT) ⊕ Int)
 | 0,_,_,_,_,_,_,_,_,_,_,_ => none
 | n + 1,x1,x16,x17,y0_0,y0_1,y0_2,y0_3,y0_4,y0_5,y0_6,y1 => if x17 < x16 then (if 0 ≤ x17 ∧ x17 < (x1.length : Int) then (qaF.f k (x1.getD x17.toNat [])).bind fun t2 => if t2 = true then ((qa2.f k (x1.getD x17.toNat []) 0).bind fun t3 => if y1.length + [(t3.1,t3.2)].length ≤ 281474976710656 ∧ (y1.length + [(t3.1,t3.2)].length) * 48 ≤ 140737488355328 then qbh.l0 k n x1 x16 (IntKind.i64.wrap (x17 + 1)) y0_0 y0_1 y0_2 y0_3 y0_4 y0_5 y0_6 (y1 ++ [(t3.1,t3.2)]) else none) else some (.inr 13) else none) else some (.inl y1)
def qbh.f (k : Nat) (a0_0 : Int) (a0_1 : LI) (a0_2 : LI) (a0_3 : LI) (a0_4 : Int) (a0_5 : Int) (a0_6 : ByteArray) (a1 : List LI) : Option (Int × LI) := (qeg.f a0_0 a0_1 a0_2 a0_3 a0_4 a0_5 a0_6 (a1.length : Int)).bind fun t1 => if t1 = true then ((qbh.l0 k k a1 (a1.length : Int) 0 a0_0 a0_1 a0_2 a0_3 a0_4 a0_5 a0_6 []).bind fun t4 => Sum.elim (fun t4 => if a0_0 = 1 then ((qaF.f k a0_2).bind fun t5 => if t5 = true then (if 0 + a0_2.length ≤ 281474976710656 ∧ (0 + a0_2.length) * 8 ≤ 140737488355328 then some (0,[] ++ a0_2) else none) else some (13,[])) else (qbm.f k a0_0 a0_1 a0_2 a0_3 a0_4 a0_5 a0_6 t4).bind fun t6 => if t6.1 = 0 then (some (0,t6.2.1)) else some (t6.1,[])) (fun t4 => some (t4,[])) t4) else some (1,[])
def qao.l1 (k : Nat) : Nat → (List LI) → Int → LI → Int → Int → Int → LI → Int → Int → Int → Int → ByteArray → Option (Unit ⊕ (Int × Int × Int × ByteArray × LI × LI))
 | 0,_,_,_,_,_,_,_,_,_,_,_,_ => none
 | n + 1,x1,x2,x7,x8,x9,x10,y0_0,y0_1,y1_0,y1_1,y1_2,y1_3 => if x10 < 2 then (if 0 ≤ x9 ∧ x9 < (x1.length : Int) then (qbh.f k 19 ([0,1] : LI) [] [x10] 0 0 ByteArray.empty [x7,x1.getD x9.toNat []]).bind fun t2 => if t2.1 = 0 then ((qbU.f k t2.2).bind fun t3 => if t3 ≤ 300 then (some (.inr (19,0,0,ByteArray.empty,[x2,x9],[x10]))) else qao.l1 k n x1 x2 x7 x8 x9 (IntKind.i64.wrap (x10 + 1)) y0_0 y0_1 y1_0 y1_1 y1_2 y1_3) else qao.l1 k n x1 x2 x7 x8 x9 (IntKind.i64.wrap (x10 + 1)) y0_0 y0_1 y1_0 y1_1 y1_2 y1_3 else none) else some (.inl ())
def qao.l0 (k : Nat) : Nat → (List LI) → Int → LI → Int → LI → Int → Int → Int → Int → ByteArray → Option (Int ⊕ (Int × Int × Int × Int × ByteArray × LI × LI))
 | 0,_,_,_,_,_,_,_,_,_,_ => none
 | n + 1,x1,x2,x7,x8,y0_0,y0_1,y1_0,y1_1,y1_2,y1_3 => if x8 < (x1.length : Int) then ((qad.f 3 y0_0 y0_1).bind fun t1 => if (x1.length : Int) ≠ 0 then (qao.l1 k n x1 x2 x7 x8 ((IntKind.i64.wrap (x8 + t1.1)).tmod (x1.length : Int)) 0 y0_0 t1.2 y1_0 y1_1 y1_2 y1_3).bind fun t4 => Sum.elim (fun t4 => qao.l0 k n x1 x2 x7 (IntKind.i64.wrap (x8 + 1)) y0_0 t1.2 y1_0 y1_1 y1_2 y1_3) (fun t4 => some (.inr (t1.2,t4.1,t4.2.1,t4.2.2.1,t4.2.2.2.1,t4.2.2.2.2.1,t4.2.2.2.2.2))) t4 else none) else some (.inl y0_1)
def qao.f (k : Nat) (a1 : List LI) (a2 : Int) (o0_0 : LI) (o0_1 : Int) : Option (Int × Int × Int × ByteArray × Int × LI × LI) := if 0 ≤ a2 ∧ a2 < (a1.length : Int) then (qao.l0 k k a1 a2 (a1.getD a2.toNat []) 0 o0_0 o0_1 0 0 0 ByteArray.empty).bind fun t5 => Sum.elim (fun t5 => some (5,0,0,ByteArray.empty,t5,[a2],[])) (fun t5 => some (t5.2.1,t5.2.2.1,t5.2.2.2.1,t5.2.2.2.2.1,t5.1,t5.2.2.2.2.2.1,t5.2.2.2.2.2.2)) t5 else none
def qae.l0 : Nat → Int → Int → Int → LI → Int → Int → Int → Int → ByteArray → LI → Option (Int × LI)
 | 0,_,_,_,_,_,_,_,_,_,_ => none
 | n + 1,x7,x127,x128,y0_0,y0_1,y1_0,y1_1,y1_2,y1_3,y2 => if x128 < x127 then ((qad.f (IntKind.i64.wrap (x128 + 1)) y0_0 y0_1).bind fun t28 => if 0 ≤ ((0 : Nat) : Int) ∧ ((0 : Nat) : Int) ≤ t28.1 ∧ t28.1 ≤ (y2.length : Int) then if 0 + ((y2.take t28.1.toNat).drop 0).length ≤ 281474976710656 ∧ (0 + ((y2.take t28.1.toNat).drop 0).length) * 8 ≤ 140737488355328 then if ([] ++ ((y2.take t28.1.toNat).drop 0)).length + [x128].length ≤ 281474976710656 ∧ (([] ++ ((y2.take t28.1.toNat).drop 0)).length + [x128].length) * 8 ≤ 140737488355328 then if 0 ≤ t28.1 ∧ t28.1 ≤ (y2.length : Int) ∧ (y2.length : Int) ≤ (y2.length : Int) then if (([] ++ ((y2.take t28.1.toNat).drop 0)) ++ [x128]).length + ((y2.take y2.length).drop t28.1.toNat).length ≤ 281474976710656 ∧ ((([] ++ ((y2.take t28.1.toNat).drop 0)) ++ [x128]).length + ((y2.take y2.length).drop t28.1.toNat).length) * 8 ≤ 140737488355328 then qae.l0 n x7 x127 (IntKind.i64.wrap (x128 + 1)) y0_0 t28.2 y1_0 y1_1 y1_2 y1_3 ((([] ++ ((y2.take t28.1.toNat).drop 0)) ++ [x128]) ++ ((y2.take y2.length).drop t28.1.toNat)) else none else none else none else none else none) else some (y0_1,y2)
def qae.l1 : Nat → Int → Int → Int → Int → LI → Int → Int → Int → Int → ByteArray → LI → LI → Option (LI)
 | 0,_,_,_,_,_,_,_,_,_,_,_,_ => none
 | n + 1,x7,x14,x180,x181,y0_0,y0_1,y1_0,y1_1,y1_2,y1_3,y2,y3 => if x181 < x180 then (if x181 = x14 then (qae.l1 n x7 x14 x180 (IntKind.i64.wrap (x181 + 1)) y0_0 y0_1 y1_0 y1_1 y1_2 y1_3 y2 y3) else if y3.length + [x181].length ≤ 281474976710656 ∧ (y3.length + [x181].length) * 8 ≤ 140737488355328 then qae.l1 n x7 x14 x180 (IntKind.i64.wrap (x181 + 1)) y0_0 y0_1 y1_0 y1_1 y1_2 y1_3 y2 (y3 ++ [x181]) else none) else some y3
def qae.l2 : Nat → Int → LI → Int → Int → LI → Int → Int → Int → Int → ByteArray → LI → LI → Option (Int × LI × LI)
 | 0,_,_,_,_,_,_,_,_,_,_,_,_ => none
 | n + 1,x7,x8,x200,x201,y0_0,y0_1,y1_0,y1_1,y1_2,y1_3,y2,y3 => if x201 < x200 then (if 0 ≤ x201 ∧ x201 < (x8.length : Int) then (qad.f (IntKind.i64.wrap ((x8.getD x201.toNat 0) + 1)) y0_0 y0_1).bind fun t33 => if y2.length + [t33.1].length ≤ 281474976710656 ∧ (y2.length + [t33.1].length) * 8 ≤ 140737488355328 then (qad.f (IntKind.i64.wrap ((IntKind.i64.wrap ((x8.getD x201.toNat 0) - t33.1)) + 1)) y0_0 t33.2).bind fun t34 => if y3.length + [t34.1].length ≤ 281474976710656 ∧ (y3.length + [t34.1].length) * 8 ≤ 140737488355328 then qae.l2 n x7 x8 x200 (IntKind.i64.wrap (x201 + 1)) y0_0 t34.2 y1_0 y1_1 y1_2 y1_3 (y2 ++ [t33.1]) (y3 ++ [t34.1]) else none else none else none) else some (y0_1,y2,y3)
def qae.l3 : Nat → Int → Int → Int → LI → Int → Int → Int → Int → ByteArray → LI → LI → Option (Int × LI × LI)
 | 0,_,_,_,_,_,_,_,_,_,_,_ => none
 | n + 1,x7,x237,x238,y0_0,y0_1,y1_0,y1_1,y1_2,y1_3,y2,y3 => if x238 < x237 then ((qad.f 3 y0_0 y0_1).bind fun t36 => if y2.length + [t36.1].length ≤ 281474976710656 ∧ (y2.length + [t36.1].length) * 8 ≤ 140737488355328 then (qad.f 3 y0_0 t36.2).bind fun t37 => if y3.length + [t37.1].length ≤ 281474976710656 ∧ (y3.length + [t37.1].length) * 8 ≤ 140737488355328 then qae.l3 n x7 x237 (IntKind.i64.wrap (x238 + 1)) y0_0 t37.2 y1_0 y1_1 y1_2 y1_3 (y2 ++ [t36.1]) (y3 ++ [t37.1]) else none else none) else some (y0_1,y2,y3)
def qae.l4 : Nat → Int → Int → Int → LI → Int → Int → Int → Int → ByteArray → LI → Option (Int × LI)
 | 0,_,_,_,_,_,_,_,_,_,_ => none
 | n + 1,x7,x293,x294,y0_0,y0_1,y1_0,y1_1,y1_2,y1_3,y2 => if x294 < x293 then ((qad.f 2 y0_0 y0_1).bind fun t44 => if t44.1 = 0 then (if y2.length + [x294].length ≤ 281474976710656 ∧ (y2.length + [x294].length) * 8 ≤ 140737488355328 then qae.l4 n x7 x293 (IntKind.i64.wrap (x294 + 1)) y0_0 t44.2 y1_0 y1_1 y1_2 y1_3 (y2 ++ [x294]) else none) else qae.l4 n x7 x293 (IntKind.i64.wrap (x294 + 1)) y0_0 t44.2 y1_0 y1_1 y1_2 y1_3 y2) else some (y0_1,y2)
def qae.f (k : Nat) (a1 : List LI) (o0_0 : LI) (o0_1 : Int) : Option (Int × LI × LI × Int × Int × ByteArray × Int × LI) := if (a1.length : Int) = 0 then ((qad.f 4 o0_0 o0_1).bind fun t1 => if t1.1 = 0 then ((qaw.f k o0_0 t1.2).bind fun t2 => (qbf.f o0_0 t2.1).bind fun t3 => some (2,[],t2.2,t3.1,0,ByteArray.empty,t3.2,[])) else if t1.1 = 1 then ((qaw.f k o0_0 t1.2).bind fun t4 => if ([3] : LI).length + t4.2.length ≤ 281474976710656 ∧ (([3] : LI).length + t4.2.length) * 8 ≤ 140737488355328 then if 3 < ((([3] : LI) ++ t4.2).length : Int) then (if 0 ≤ ((0 : Nat) : Int) ∧ ((0 : Nat) : Int) ≤ 3 ∧ 3 ≤ ((([3] : LI) ++ t4.2).length : Int) then (qad.f ((3 - 0 : Nat) : Int) o0_0 t4.1).bind fun t5 => some (3,[],((([3] : LI) ++ t4.2).take 3).drop 0,0,0,ByteArray.empty,t5.2,[t5.1]) else none) else (qad.f ((([3] : LI) ++ t4.2).length : Int) o0_0 t4.1).bind fun t6 => some (3,[],([3] : LI) ++ t4.2,0,0,ByteArray.empty,t6.2,[t6.1]) else none) else (qaw.f k o0_0 t1.2).bind fun t7 => some (1,[],t7.2,0,0,ByteArray.empty,t7.1,[])) else (qad.f 5 o0_0 o0_1).bind fun t8 => if t8.1 = 0 then ((qad.f 4 o0_0 t8.2).bind fun t9 => if t9.1 = 0 then ((qaw.f k o0_0 t9.2).bind fun t10 => (qbf.f o0_0 t10.1).bind fun t11 => some (2,[],t10.2,t11.1,0,ByteArray.empty,t11.2,[])) else if t9.1 = 1 then ((qaw.f k o0_0 t9.2).bind fun t12 => if ([3] : LI).length + t12.2.length ≤ 281474976710656 ∧ (([3] : LI).length + t12.2.length) * 8 ≤ 140737488355328 then if 3 < ((([3] : LI) ++ t12.2).length : Int) then (if 0 ≤ ((0 : Nat) : Int) ∧ ((0 : Nat) : Int) ≤ 3 ∧ 3 ≤ ((([3] : LI) ++ t12.2).length : Int) then (qad.f ((3 - 0 : Nat) : Int) o0_0 t12.1).bind fun t13 => some (3,[],((([3] : LI) ++ t12.2).take 3).drop 0,0,0,ByteArray.empty,t13.2,[t13.1]) else none) else (qad.f ((([3] : LI) ++ t12.2).length : Int) o0_0 t12.1).bind fun t14 => some (3,[],([3] : LI) ++ t12.2,0,0,ByteArray.empty,t14.2,[t14.1]) else none) else (qaw.f k o0_0 t9.2).bind fun t15 => some (1,[],t15.2,0,0,ByteArray.empty,t15.1,[])) else (qad.f (a1.length : Int) o0_0 t8.2).bind fun t16 => if 0 ≤ t16.1 ∧ t16.1 < (a1.length : Int) then (qad.f 12 o0_0 t16.2).bind fun t17 => if t17.1 = 0 then ((qad.f 2 o0_0 t17.2).bind fun t18 => some (IntKind.i64.wrap (4 + t18.1),[t16.1],[],0,0,ByteArray.empty,t18.2,[])) else if t17.1 = 1 then ((qbI.f k a1 (a1.getD t16.1.toNat [])).bind fun t19 => (qad.f 6 o0_0 t17.2).bind fun t20 => (qad.f (t19.length : Int) o0_0 t20.2).bind fun t21 => if 0 ≤ t21.1 ∧ t21.1 < (t19.length : Int) then if t21.1.toNat < t19.length then some (IntKind.i64.wrap (6 + t20.1),[t16.1,t19.getD t21.1.toNat 0],[],0,0,ByteArray.empty,t21.2,[]) else none else none) else if t17.1 = 2 then ((qbI.f k a1 (a1.getD t16.1.toNat [])).bind fun t22 => (qad.f 6 o0_0 t17.2).bind fun t23 => (qad.f (t22.length : Int) o0_0 t23.2).bind fun t24 => if 0 ≤ t24.1 ∧ t24.1 < (t22.length : Int) then if t24.1.toNat < t22.length then some (IntKind.i64.wrap (6 + t23.1),[t16.1,t22.getD t24.1.toNat 0],[],0,0,ByteArray.empty,t24.2,[]) else none else none) else if t17.1 = 3 then ((qbI.f k a1 (a1.getD t16.1.toNat [])).bind fun t25 => (qad.f (t25.length : Int) o0_0 t17.2).bind fun t26 => if 0 ≤ t26.1 ∧ t26.1 < (t25.length : Int) then if t26.1.toNat < t25.length then (qad.f (t25.length : Int) o0_0 t26.2).bind fun t27 => if 0 ≤ t27.1 ∧ t27.1 < (t25.length : Int) then if t27.1.toNat < t25.length then some (12,[t16.1,t25.getD t26.1.toNat 0,t25.getD t27.1.toNat 0],[],0,0,ByteArray.empty,t27.2,[]) else none else none else none else none) else if t17.1 = 4 then ((qae.l0 k t16.1 ((a1.getD t16.1.toNat []).length : Int) 0 o0_0 t17.2 0 0 0 ByteArray.empty []).bind fun t29 => some (13,[t16.1],[],0,0,ByteArray.empty,t29.1,t29.2)) else if t17.1 = 5 then (if 2 < ((a1.getD t16.1.toNat []).length : Int) then (some (4,[t16.1],[],0,0,ByteArray.empty,t17.2,[])) else (qad.f (IntKind.i64.wrap (((a1.getD t16.1.toNat []).length : Int) + 1)) o0_0 t17.2).bind fun t30 => if 0 ≤ ((0 : Nat) : Int) ∧ ((0 : Nat) : Int) ≤ t30.1 ∧ t30.1 ≤ ((a1.getD t16.1.toNat []).length : Int) then if 0 + (((a1.getD t16.1.toNat []).take t30.1.toNat).drop 0).length ≤ 281474976710656 ∧ (0 + (((a1.getD t16.1.toNat []).take t30.1.toNat).drop 0).length) * 8 ≤ 140737488355328 then (qad.f 4 o0_0 t30.2).bind fun t31 => if ([] ++ (((a1.getD t16.1.toNat []).take t30.1.toNat).drop 0)).length + [IntKind.i64.wrap (1 + t31.1)].length ≤ 281474976710656 ∧ (([] ++ (((a1.getD t16.1.toNat []).take t30.1.toNat).drop 0)).length + [IntKind.i64.wrap (1 + t31.1)].length) * 8 ≤ 140737488355328 then if 0 ≤ t30.1 ∧ t30.1 ≤ ((a1.getD t16.1.toNat []).length : Int) ∧ ((a1.getD t16.1.toNat []).length : Int) ≤ ((a1.getD t16.1.toNat []).length : Int) then if (([] ++ (((a1.getD t16.1.toNat []).take t30.1.toNat).drop 0)) ++ [IntKind.i64.wrap (1 + t31.1)]).length + (((a1.getD t16.1.toNat []).take (a1.getD t16.1.toNat []).length).drop t30.1.toNat).length ≤ 281474976710656 ∧ ((([] ++ (((a1.getD t16.1.toNat []).take t30.1.toNat).drop 0)) ++ [IntKind.i64.wrap (1 + t31.1)]).length + (((a1.getD t16.1.toNat []).take (a1.getD t16.1.toNat []).length).drop t30.1.toNat).length) * 8 ≤ 140737488355328 then (qae.l1 k t16.1 t30.1 (((([] ++ (((a1.getD t16.1.toNat []).take t30.1.toNat).drop 0)) ++ [IntKind.i64.wrap (1 + t31.1)]) ++ (((a1.getD t16.1.toNat []).take (a1.getD t16.1.toNat []).length).drop t30.1.toNat)).length : Int) 0 o0_0 t31.2 0 0 0 ByteArray.empty ((([] ++ (((a1.getD t16.1.toNat []).take t30.1.toNat).drop 0)) ++ [IntKind.i64.wrap (1 + t31.1)]) ++ (((a1.getD t16.1.toNat []).take (a1.getD t16.1.toNat []).length).drop t30.1.toNat)) []).bind fun t32 => some (14,[t16.1],(([] ++ (((a1.getD t16.1.toNat []).take t30.1.toNat).drop 0)) ++ [IntKind.i64.wrap (1 + t31.1)]) ++ (((a1.getD t16.1.toNat []).take (a1.getD t16.1.toNat []).length).drop t30.1.toNat),0,0,ByteArray.empty,t31.2,t32) else none else none else none else none else none) else if t17.1 = 6 then ((qae.l2 k t16.1 (a1.getD t16.1.toNat []) ((a1.getD t16.1.toNat []).length : Int) 0 o0_0 t17.2 0 0 0 ByteArray.empty [] []).bind fun t35 => if t35.2.1.length + t35.2.2.length ≤ 281474976710656 ∧ (t35.2.1.length + t35.2.2.length) * 8 ≤ 140737488355328 then some (15,[t16.1],[],0,0,ByteArray.empty,t35.1,t35.2.1 ++ t35.2.2) else none) else if t17.1 = 7 then ((qae.l3 k t16.1 ((a1.getD t16.1.toNat []).length : Int) 0 o0_0 t17.2 0 0 0 ByteArray.empty [] []).bind fun t38 => if t38.2.1.length + t38.2.2.length ≤ 281474976710656 ∧ (t38.2.1.length + t38.2.2.length) * 8 ≤ 140737488355328 then (qbf.f o0_0 t38.1).bind fun t39 => some (16,[t16.1],[],t39.1,0,ByteArray.empty,t39.2,t38.2.1 ++ t38.2.2) else none) else if t17.1 = 8 then ((qbI.f k a1 (a1.getD t16.1.toNat [])).bind fun t40 => if ((a1.getD t16.1.toNat []).length : Int) = 0 then (some (5,[t16.1],[],0,0,ByteArray.empty,t17.2,[])) else (qad.f (t40.length : Int) o0_0 t17.2).bind fun t41 => if 0 ≤ t41.1 ∧ t41.1 < (t40.length : Int) then if t41.1.toNat < t40.length then (qad.f 2 o0_0 t41.2).bind fun t42 => if 0 ≤ ((0 : Nat) : Int) ∧ ((0 : Nat) : Int) ≤ IntKind.i64.wrap (2 + t42.1) ∧ IntKind.i64.wrap (2 + t42.1) ≤ ([t16.1,t40.getD t41.1.toNat 0,t16.1].length : Int) then (qad.f ((a1.getD t16.1.toNat []).length : Int) o0_0 t42.2).bind fun t43 => some (17,([t16.1,t40.getD t41.1.toNat 0,t16.1].take (IntKind.i64.wrap (2 + t42.1)).toNat).drop 0,[],0,0,ByteArray.empty,t43.2,[t43.1]) else none else none else none) else if t17.1 = 9 then ((qae.l4 k t16.1 ((a1.getD t16.1.toNat []).length : Int) 0 o0_0 t17.2 0 0 0 ByteArray.empty []).bind fun t45 => (qad.f 4 o0_0 t45.1).bind fun t46 => some (18,[t16.1],[],0,IntKind.i64.wrap (1 + t46.1),ByteArray.empty,t46.2,t45.2)) else if t17.1 = 10 then ((qao.f k a1 t16.1 o0_0 t17.2).bind fun t47 => some (t47.1,t47.2.2.2.2.2.1,[],t47.2.1,t47.2.2.1,t47.2.2.2.1,t47.2.2.2.2.1,t47.2.2.2.2.2.2)) else if ((a1.getD t16.1.toNat []).length : Int) = 0 then (some (4,[t16.1],[],0,0,ByteArray.empty,t17.2,[])) else (qad.f ((a1.getD t16.1.toNat []).length : Int) o0_0 t17.2).bind fun t48 => (qad.f 3 o0_0 t48.2).bind fun t49 => (qad.f 2 o0_0 t49.2).bind fun t50 => (qad.f 4 o0_0 t50.2).bind fun t51 => some (20,[t16.1],[],0,IntKind.i64.wrap (1 + t51.1),ByteArray.empty,t51.2,[t48.1,IntKind.i64.wrap (1 + t49.1),IntKind.i64.wrap (1 + t50.1)]) else none
def qbC.l0 : Nat → LI → ByteArray → Nat → Option (LI)
 | 0,_,_,_ => none
 | n + 1,y0,y1_0,y1_1 => if y1_1 < y1_0.size then (if y0.length + [(((Utf8.decode y1_0 y1_1).1 : Nat) : Int)].length ≤ 281474976710656 ∧ (y0.length + [(((Utf8.decode y1_0 y1_1).1 : Nat) : Int)].length) * 4 ≤ 140737488355328 then qbC.l0 n (y0 ++ [(((Utf8.decode y1_0 y1_1).1 : Nat) : Int)]) y1_0 (y1_1 + (Utf8.decode y1_0 y1_1).2) else none) else some y0
def qbC.f (k : Nat) (a0 : ByteArray) : Option (LI) := (qbC.l0 k [] a0 0).bind fun t1 => some t1
def qb0.l0 : Nat → LI → ByteArray → Int → Int → LI → Option (ByteArray)
 | 0,_,_,_,_,_ => none
 | n + 1,x1,x6,x11,x12,y0 => if x12 < x11 then (if 0 ≤ x12 ∧ x12 < (x1.length : Int) then if x1.getD x12.toNat 0 < 0 then (if x6.size + (ByteArray.mk #[46]).size ≤ 9223372036854775807 then qb0.l0 n x1 (x6 ++ (ByteArray.mk #[46])) x11 (IntKind.i64.wrap (x12 + 1)) y0 else none) else if (y0.length : Int) ≤ x1.getD x12.toNat 0 then (if x6.size + (ByteArray.mk #[46]).size ≤ 9223372036854775807 then qb0.l0 n x1 (x6 ++ (ByteArray.mk #[46])) x11 (IntKind.i64.wrap (x12 + 1)) y0 else none) else if 0 ≤ x1.getD x12.toNat 0 ∧ x1.getD x12.toNat 0 < (y0.length : Int) then if (x1.getD x12.toNat 0).toNat < y0.length then if x6.size + (Utf8.encode (y0.getD (x1.getD x12.toNat 0).toNat 0)).size ≤ 9223372036854775807 then qb0.l0 n x1 (x6 ++ (Utf8.encode (y0.getD (x1.getD x12.toNat 0).toNat 0))) x11 (IntKind.i64.wrap (x12 + 1)) y0 else none else none else none else none) else some x6
def qb0.f (k : Nat) (a0 : ByteArray) (a1 : LI) : Option (ByteArray) := (qbC.f k a0).bind fun t1 => (qb0.l0 k a1 ByteArray.empty (a1.length : Int) 0 t1).bind fun t2 => some t2
def qau.l1 : Nat → Int → LI → Int → Int → ByteArray → LI → Int → ByteArray → (List LI) → Int → LI → LI → Int → Int → ByteArray → (List LI) → LI → (List LN) → LI → Option ((List LI))
 | 0,_,_,_,_,_,_,_,_,_,_,_,_,_,_,_,_,_,_,_ => none
 | n + 1,x6,x35,x36,x37,y0,y1_0,y1_1,y2,y3,y4_0,y4_1,y4_2,y4_3,y4_4,y4_5,y5,y6,y7,y8 => if x37 < x36 then (if 0 ≤ x37 ∧ x37 < (x35.length : Int) then if 0 ≤ x35.getD x37.toNat 0 ∧ x35.getD x37.toNat 0 < (y3.length : Int) then if (x35.getD x37.toNat 0).toNat < y3.length then if y5.length + [y3.getD (x35.getD x37.toNat 0).toNat []].length ≤ 281474976710656 ∧ (y5.length + [y3.getD (x35.getD x37.toNat 0).toNat []].length) * 24 ≤ 140737488355328 then qau.l1 n x6 x35 x36 (IntKind.i64.wrap (x37 + 1)) y0 y1_0 y1_1 y2 y3 y4_0 y4_1 y4_2 y4_3 y4_4 y4_5 (y5 ++ [y3.getD (x35.getD x37.toNat 0).toNat []]) y6 y7 y8 else none else none else none else none) else some y5
def qau.l0 (k : Nat) : Nat → Int → ByteArray → LI → Int → ByteArray → (List LI) → LI → (List LN) → Option (Int × (List LI) × (List LN))
 | 0,_,_,_,_,_,_,_,_ => none
 | n + 1,x6,y0,y1_0,y1_1,y2,y3,y4,y5 => if 0 < x6 then ((qae.f k y3 y1_0 y1_1).bind fun t3 => (qau.l1 n x6 t3.2.1 (t3.2.1.length : Int) 0 y0 y1_0 t3.2.2.2.2.2.2.1 y2 y3 t3.1 t3.2.1 t3.2.2.1 t3.2.2.2.1 t3.2.2.2.2.1 t3.2.2.2.2.2.1 [] y4 y5 t3.2.2.2.2.2.2.2).bind fun t4 => (qbh.f k t3.1 t3.2.1 t3.2.2.1 t3.2.2.2.2.2.2.2 t3.2.2.2.1 t3.2.2.2.2.1 t3.2.2.2.2.2.1 t4).bind fun t5 => if t5.1 = 0 then ((qbU.f k t5.2).bind fun t6 => if 400 < t6 then (qau.l0 k n (IntKind.i64.wrap (x6 - 1)) y0 y1_0 t3.2.2.2.2.2.2.1 y2 y3 y4 y5) else (qad.f 3 y1_0 t3.2.2.2.2.2.2.1).bind fun t7 => if t7.1 = 0 then ((qaP.f k y4 (t5.2.length : Int) y1_0 t7.2).bind fun t8 => (qb0.f k y2 t8.2).bind fun t9 => if y5.length + [(t3.1,(t3.2.1,(t3.2.2.1,(t3.2.2.2.2.2.2.2,(t3.2.2.2.1,(t3.2.2.2.2.1,t9))))))].length ≤ 281474976710656 ∧ (y5.length + [(t3.1,(t3.2.1,(t3.2.2.1,(t3.2.2.2.2.2.2.2,(t3.2.2.2.1,(t3.2.2.2.2.1,t9))))))].length) * 112 ≤ 140737488355328 then if y3.length + [t5.2].length ≤ 281474976710656 ∧ (y3.length + [t5.2].length) * 24 ≤ 140737488355328 then qau.l0 k n (IntKind.i64.wrap (x6 - 1)) y0 y1_0 t8.1 y2 (y3 ++ [t5.2]) y4 (y5 ++ [(t3.1,(t3.2.1,(t3.2.2.1,(t3.2.2.2.2.2.2.2,(t3.2.2.2.1,(t3.2.2.2.2.1,t9))))))]) else none else none) else if y5.length + [(t3.1,(t3.2.1,(t3.2.2.1,(t3.2.2.2.2.2.2.2,(t3.2.2.2.1,(t3.2.2.2.2.1,t3.2.2.2.2.2.1))))))].length ≤ 281474976710656 ∧ (y5.length + [(t3.1,(t3.2.1,(t3.2.2.1,(t3.2.2.2.2.2.2.2,(t3.2.2.2.1,(t3.2.2.2.2.1,t3.2.2.2.2.2.1))))))].length) * 112 ≤ 140737488355328 then if y3.length + [t5.2].length ≤ 281474976710656 ∧ (y3.length + [t5.2].length) * 24 ≤ 140737488355328 then qau.l0 k n (IntKind.i64.wrap (x6 - 1)) y0 y1_0 t7.2 y2 (y3 ++ [t5.2]) y4 (y5 ++ [(t3.1,(t3.2.1,(t3.2.2.1,(t3.2.2.2.2.2.2.2,(t3.2.2.2.1,(t3.2.2.2.2.1,t3.2.2.2.2.2.1))))))]) else none else none) else qau.l0 k n (IntKind.i64.wrap (x6 - 1)) y0 y1_0 t3.2.2.2.2.2.2.1 y2 y3 y4 y5) else some (y1_1,y3,y5)
def qau.l2 : Nat → Int → ByteArray → LI → Int → ByteArray → (List LI) → LI → (List LN) → LI → Option (LI)
 | 0,_,_,_,_,_,_,_,_,_ => none
 | n + 1,x13,y0,y1_0,y1_1,y2,y3,y4,y5,y6 => if 0 < x13 then (if 0 < (y3.length : Int) then ((qad.f (y3.length : Int) y1_0 y1_1).bind fun t12 => (qad.f 2 y1_0 t12.2).bind fun t13 => if 0 ≤ t13.1 ∧ t13.1 < ([IntKind.i64.wrap ((y3.length : Int) - 1),t12.1].length : Int) then if t13.1.toNat < [IntKind.i64.wrap ((y3.length : Int) - 1),t12.1].length then if y6.length + [[IntKind.i64.wrap ((y3.length : Int) - 1),t12.1].getD t13.1.toNat 0].length ≤ 281474976710656 ∧ (y6.length + [[IntKind.i64.wrap ((y3.length : Int) - 1),t12.1].getD t13.1.toNat 0].length) * 8 ≤ 140737488355328 then qau.l2 n (IntKind.i64.wrap (x13 - 1)) y0 y1_0 t13.2 y2 y3 y4 y5 (y6 ++ [[IntKind.i64.wrap ((y3.length : Int) - 1),t12.1].getD t13.1.toNat 0]) else none else none else none) else some y6) else some y6
def qau.f (k : Nat) (a0 : LI) : Option (ByteArray × LI × (List LN) × LI) := (qcV.f a0 0).bind fun t1 => (qad.f 9 a0 t1.2.1).bind fun t2 => (qau.l0 k k (IntKind.i64.wrap (1 + t2.1)) ByteArray.empty a0 t2.2 t1.1 [] t1.2.2 []).bind fun t10 => (qad.f 3 a0 t10.1).bind fun t11 => (qau.l2 k (IntKind.i64.wrap (1 + t11.1)) ByteArray.empty a0 t11.2 t1.1 t10.2.1 t1.2.2 t10.2.2 []).bind fun t14 => some (t1.1,t1.2.2,t10.2.2,t14)
def qbi.l0 : Nat → LI → ByteArray → Nat → Option (LI)
 | 0,_,_,_ => none
 | n + 1,y0,y1_0,y1_1 => if y1_1 < y1_0.size then (if y0.length + [(((Utf8.decode y1_0 y1_1).1 : Nat) : Int)].length ≤ 281474976710656 ∧ (y0.length + [(((Utf8.decode y1_0 y1_1).1 : Nat) : Int)].length) * 4 ≤ 140737488355328 then qbi.l0 n (y0 ++ [(((Utf8.decode y1_0 y1_1).1 : Nat) : Int)]) y1_0 (y1_1 + (Utf8.decode y1_0 y1_1).2) else none) else some y0
def qbi.f (k : Nat) (a0 : ByteArray) : Option (LI) := (qbi.l0 k [] a0 0).bind fun t1 => some t1
def qeR.f (a0 : Int) : Option (Bool) := if a0 = 46 then (some false) else if a0 = 45 then (some false) else if a0 = 40 then (some false) else if a0 = 41 then (some false) else if a0 = 65533 then (some false) else some (decide (33 ≤ a0))
def qaH.l0 : Nat → LI → Int → Int → Int → Option (Unit ⊕ Int)
 | 0,_,_,_,_ => none
 | n + 1,x0,x1,x7,x8 => if x8 < x7 then (if 0 ≤ x8 ∧ x8 < (x0.length : Int) then if x1 = x0.getD x8.toNat 0 then (some (.inr x8)) else qaH.l0 n x0 x1 x7 (IntKind.i64.wrap (x8 + 1)) else none) else some (.inl ())
def qaH.f (k : Nat) (a0 : LI) (a1 : Int) : Option (Int) := (qaH.l0 k a0 a1 (a0.length : Int) 0).bind fun t1 => Sum.elim (fun t1 => some (-1)) (fun t1 => some t1) t1
def qbZ.f (k : Nat) (a0 : LI) (a1 : Int) : Option (Bool) := (qaH.f k a0 a1).bind fun t1 => some (decide (0 ≤ t1))
def qbA.l0 (k : Nat) : Nat → Int → Int → LI → Option (Unit ⊕ Bool)
 | 0,_,_,_ => none
 | n + 1,x19,x20,y0 => if x20 < x19 then (if 0 ≤ x20 ∧ x20 < (y0.length : Int) then if x20.toNat < y0.length then (qeR.f (y0.getD x20.toNat 0)).bind fun t2 => if t2 = true then (if 0 ≤ ((0 : Nat) : Int) ∧ ((0 : Nat) : Int) ≤ x20 ∧ x20 ≤ (y0.length : Int) then (qbZ.f k ((y0.take x20.toNat).drop 0) (y0.getD x20.toNat 0)).bind fun t3 => if t3 = true then (some (.inr false)) else qbA.l0 k n x19 (IntKind.i64.wrap (x20 + 1)) y0 else none) else some (.inr false) else none else none) else some (.inl ())
def qbA.f (k : Nat) (a0 : ByteArray) (a1 : Int) : Option (Bool) := (qbi.f k a0).bind fun t1 => if (t1.length : Int) = a1 then (if 3 < a1 then (some false) else (qbA.l0 k k (t1.length : Int) 0 t1).bind fun t4 => Sum.elim (fun t4 => some true) (fun t4 => some t4) t4) else some false
def qb6.l0 : Nat → Int → LI → Int → Int → LI → ByteArray → (List LN) → LI → Option (Int ⊕ Bool)
 | 0,_,_,_,_,_,_,_,_ => none
 | n + 1,x3,x11,x12,x13,y0_0,y0_1,y0_2,y0_3 => if x13 < x12 then (if 0 ≤ x13 ∧ x13 < (x11.length : Int) then if x11.getD x13.toNat 0 < 1 then (some (.inr false)) else if 8 < x11.getD x13.toNat 0 then (some (.inr false)) else qb6.l0 n (IntKind.i64.wrap (x3 * (x11.getD x13.toNat 0))) x11 x12 (IntKind.i64.wrap (x13 + 1)) y0_0 y0_1 y0_2 y0_3 else none) else some (.inl x3)
def qb6.f (k : Nat) (a0_0 : LI) (a0_1 : ByteArray) (a0_2 : List LN) (a0_3 : LI) : Option (Bool) := if 3 < (a0_0.length : Int) then (some false) else (qb6.l0 k 1 a0_0 (a0_0.length : Int) 0 a0_0 a0_1 a0_2 a0_3).bind fun t1 => Sum.elim (fun t1 => if t1 ≤ 8 then ((qbA.f k a0_1 (a0_0.length : Int)).bind fun t2 => some t2) else some false) (fun t1 => some t1) t1
def qej.f (a0 : Int) : Option (Int × Bool × Bool × Bool × Bool × Bool × Bool) := if a0 = 1 then (some (0,false,true,false,false,false,true)) else if a0 = 2 then (some (0,false,true,false,true,false,true)) else if a0 = 3 then (some (0,false,true,true,false,false,true)) else if a0 = 4 then (some (1,false,false,false,false,false,true)) else if a0 = 5 then (some (1,false,false,false,false,false,true)) else if a0 = 6 then (some (2,false,false,false,false,false,true)) else if a0 = 7 then (some (2,false,false,false,false,false,true)) else if a0 = 8 then (some (2,false,false,false,false,false,true)) else if a0 = 9 then (some (2,false,false,false,false,false,true)) else if a0 = 10 then (some (2,false,false,false,false,false,true)) else if a0 = 11 then (some (2,false,false,false,false,false,true)) else if a0 = 12 then (some (3,false,false,false,false,false,true)) else if a0 = 13 then (some (1,false,false,true,false,false,true)) else if a0 = 15 then (some (1,false,false,true,false,false,true)) else if a0 = 14 then (some (1,false,true,true,false,false,true)) else if a0 = 16 then (some (1,false,false,true,true,false,true)) else if a0 = 17 then (some (2,true,false,true,false,false,true)) else if a0 = 18 then (some (1,false,false,true,false,true,true)) else if a0 = 20 then (some (1,false,false,true,false,true,true)) else if a0 = 19 then (some (2,false,false,true,false,false,true)) else some (0,false,false,false,false,false,false)
def qdP.f (a0_0 : Int) (a0_1 : LI) (a0_2 : LI) (a0_3 : LI) (a0_4 : Int) (a0_5 : Int) (a0_6 : ByteArray) (a1 : Int) : Option (Bool) := (qej.f a0_0).bind fun t1 => if t1.2.2.2.2.2.2 = true then (if a1 < t1.1 then (some false) else if t1.1 < a1 then (if t1.2.1 = true then (if t1.2.2.1 = true then (if t1.2.2.2.1 = true then (if t1.2.2.2.2.1 = true then (if t1.2.2.2.2.2.1 = true then (some true) else some (decide (a0_5 = 0))) else if a0_4 = 0 then (if t1.2.2.2.2.2.1 = true then (some true) else some (decide (a0_5 = 0))) else some false) else if (a0_3.length : Int) = 0 then (if t1.2.2.2.2.1 = true then (if t1.2.2.2.2.2.1 = true then (some true) else some (decide (a0_5 = 0))) else if a0_4 = 0 then (if t1.2.2.2.2.2.1 = true then (some true) else some (decide (a0_5 = 0))) else some false) else some false) else if (a0_2.length : Int) = 0 then (if t1.2.2.2.1 = true then (if t1.2.2.2.2.1 = true then (if t1.2.2.2.2.2.1 = true then (some true) else some (decide (a0_5 = 0))) else if a0_4 = 0 then (if t1.2.2.2.2.2.1 = true then (some true) else some (decide (a0_5 = 0))) else some false) else if (a0_3.length : Int) = 0 then (if t1.2.2.2.2.1 = true then (if t1.2.2.2.2.2.1 = true then (some true) else some (decide (a0_5 = 0))) else if a0_4 = 0 then (if t1.2.2.2.2.2.1 = true then (some true) else some (decide (a0_5 = 0))) else some false) else some false) else some false) else some false) else if t1.2.2.1 = true then (if t1.2.2.2.1 = true then (if t1.2.2.2.2.1 = true then (if t1.2.2.2.2.2.1 = true then (some true) else some (decide (a0_5 = 0))) else if a0_4 = 0 then (if t1.2.2.2.2.2.1 = true then (some true) else some (decide (a0_5 = 0))) else some false) else if (a0_3.length : Int) = 0 then (if t1.2.2.2.2.1 = true then (if t1.2.2.2.2.2.1 = true then (some true) else some (decide (a0_5 = 0))) else if a0_4 = 0 then (if t1.2.2.2.2.2.1 = true then (some true) else some (decide (a0_5 = 0))) else some false) else some false) else if (a0_2.length : Int) = 0 then (if t1.2.2.2.1 = true then (if t1.2.2.2.2.1 = true then (if t1.2.2.2.2.2.1 = true then (some true) else some (decide (a0_5 = 0))) else if a0_4 = 0 then (if t1.2.2.2.2.2.1 = true then (some true) else some (decide (a0_5 = 0))) else some false) else if (a0_3.length : Int) = 0 then (if t1.2.2.2.2.1 = true then (if t1.2.2.2.2.2.1 = true then (some true) else some (decide (a0_5 = 0))) else if a0_4 = 0 then (if t1.2.2.2.2.2.1 = true then (some true) else some (decide (a0_5 = 0))) else some false) else some false) else some false) else some false
def qdA.f (k : Nat) (a0 : LI) : Option (Bool) := (qaU.f k a0).bind fun t1 => some (!t1)
def qag.l0 (k : Nat) : Nat → (List LI) → Int → Int → Option (Unit ⊕ Int)
 | 0,_,_,_ => none
 | n + 1,x0,x7,x8 => if x8 < x7 then (if 0 ≤ x8 ∧ x8 < (x0.length : Int) then (qdA.f k (x0.getD x8.toNat [])).bind fun t1 => if t1 = true then (some (.inr x8)) else qag.l0 k n x0 x7 (IntKind.i64.wrap (x8 + 1)) else none) else some (.inl ())
def qag.f (k : Nat) (a0 : List LI) : Option (Int) := (qag.l0 k k a0 (a0.length : Int) 0).bind fun t2 => Sum.elim (fun t2 => some (-1)) (fun t2 => some t2) t2
def qaC.f (k : Nat) (a0 : List LI) : Option (Bool) := (qag.f k a0).bind fun t1 => some (decide (0 ≤ t1))
def qc1.f (k : Nat) (a0_0 : Int) (a0_1 : LI) (a0_2 : LI) (a0_3 : LI) (a0_4 : Int) (a0_5 : Int) (a0_6 : ByteArray) : Option (LI × Int) := (qaU.f k a0_2).bind fun t1 => if t1 = true then (if a0_0 = 3 then (if (a0_3.length : Int) = 1 then (if (0 : Int) ≤ 0 ∧ 0 < (a0_3.length : Int) then if a0_3.getD 0 0 < 0 then (some ([],1)) else if (a0_2.length : Int) ≤ a0_3.getD 0 0 then (some ([],1)) else some (a0_2,0) else none) else some ([],1)) else some (a0_2,0)) else some ([],13)
def qei.f (k : Nat) (a0_0 : Int) (a0_1 : LI) (a0_2 : LI) (a0_3 : LI) (a0_4 : Int) (a0_5 : Int) (a0_6 : ByteArray) (a1 : LI) : Option (LI × Int) := if (a0_3.length : Int) = IntKind.i64.wrap (2 * (a1.length : Int)) then (if 0 ≤ ((0 : Nat) : Int) ∧ ((0 : Nat) : Int) ≤ (a1.length : Int) ∧ (a1.length : Int) ≤ (a0_3.length : Int) then if 0 ≤ (a1.length : Int) ∧ (a1.length : Int) ≤ (a0_3.length : Int) ∧ (a0_3.length : Int) ≤ (a0_3.length : Int) then if a0_0 = 15 then ((qbO.f k a1 ((a0_3.take (a1.length : Int).toNat).drop 0) ((a0_3.take a0_3.length).drop (a1.length : Int).toNat)).bind fun t1 => some ((a0_3.take a0_3.length).drop (a1.length : Int).toNat,t1)) else (qbP.f k a1 ((a0_3.take (a1.length : Int).toNat).drop 0) ((a0_3.take a0_3.length).drop (a1.length : Int).toNat)).bind fun t2 => some (t2.2,t2.1) else none else none) else some ([],1)
def qcI.f (a1 : Int) : Option (LI) := if a1 < 0 then (none) else if 0 < IntKind.i64.wrap (a1 - (IntKind.i64.wrap (0 - 0))) then (if ((0 : Nat) : Int) = 0 ∧ 0 = 0 then if 1 ≤ IntKind.i64.wrap (a1 - (IntKind.i64.wrap (0 - 0))) ∧ IntKind.i64.wrap (a1 - (IntKind.i64.wrap (0 - 0))) ≤ 281474976710656 ∧ ((8 : Nat) : Int) * (IntKind.i64.wrap (a1 - (IntKind.i64.wrap (0 - 0)))) ≤ 140737488355328 then if 0 ≤ ((0 : Nat) : Int) ∧ ((0 : Nat) : Int) ≤ 0 ∧ 0 ≤ ((List.replicate (IntKind.i64.wrap (a1 - (IntKind.i64.wrap (0 - 0)))).toNat (0 : Int)).length : Int) then some ((List.replicate (IntKind.i64.wrap (a1 - (IntKind.i64.wrap (0 - 0)))).toNat (0 : Int)).take 0) else none else none else none) else some []
def qan.l0 : Nat → (List LI) → Int → (List LI) → Int → Int → Option (Int)
 | 0,_,_,_,_,_ => none
 | n + 1,x0,x3,x9,x10,x11 => if x11 < x10 then (if 0 ≤ x11 ∧ x11 < (x9.length : Int) then if IntKind.i64.wrap (x3 + ((x9.getD x11.toNat []).length : Int)) < 0 then (none) else qan.l0 n x0 (IntKind.i64.wrap (x3 + ((x9.getD x11.toNat []).length : Int))) x9 x10 (IntKind.i64.wrap (x11 + 1)) else none) else some x3
def qan.l1 : Nat → (List LI) → Int → Int → LI → Option (LI)
 | 0,_,_,_,_ => none
 | n + 1,x25,x26,x27,y0 => if x27 < x26 then (if 0 ≤ x27 ∧ x27 < (x25.length : Int) then if y0.length + (x25.getD x27.toNat []).length ≤ 281474976710656 ∧ (y0.length + (x25.getD x27.toNat []).length) * 8 ≤ 140737488355328 then qan.l1 n x25 x26 (IntKind.i64.wrap (x27 + 1)) (y0 ++ (x25.getD x27.toNat [])) else none else none) else some y0
def qan.f (k : Nat) (a0 : List LI) : Option (LI) := (qan.l0 k a0 0 a0 (a0.length : Int) 0).bind fun t1 => (qcI.f t1).bind fun t2 => (qan.l1 k a0 (a0.length : Int) 0 t2).bind fun t3 => some t3
def qeZ.f (k : Nat) (a0 : LI) (a1 : LI) (a2 : Int) : Option (Int × LI) := if a2 < 0 then (some (1,[])) else if (a0.length : Int) ≤ a2 then (some (1,[])) else if (a1.length : Int) ≤ a2 then (some (1,[])) else (qaU.f k a0).bind fun t1 => if t1 = true then ((qaU.f k a1).bind fun t2 => if t2 = true then (if 0 ≤ ((0 : Nat) : Int) ∧ ((0 : Nat) : Int) ≤ a2 ∧ a2 ≤ (a0.length : Int) then if 0 ≤ ((0 : Nat) : Int) ∧ ((0 : Nat) : Int) ≤ a2 ∧ a2 ≤ (a1.length : Int) then (qdB.f k ((a0.take a2.toNat).drop 0) ((a1.take a2.toNat).drop 0)).bind fun t3 => if t3 = true then (if 0 ≤ IntKind.i64.wrap ((a0.length : Int) - 1) ∧ IntKind.i64.wrap ((a0.length : Int) - 1) < (a0.length : Int) then if 0 ≤ a2 ∧ a2 < (a1.length : Int) then if a0.getD (IntKind.i64.wrap ((a0.length : Int) - 1)).toNat 0 = a1.getD a2.toNat 0 then (if 0 ≤ ((0 : Nat) : Int) ∧ ((0 : Nat) : Int) ≤ IntKind.i64.wrap ((a0.length : Int) - 1) ∧ IntKind.i64.wrap ((a0.length : Int) - 1) ≤ (a0.length : Int) then if 0 ≤ IntKind.i64.wrap (a2 + 1) ∧ IntKind.i64.wrap (a2 + 1) ≤ (a1.length : Int) ∧ (a1.length : Int) ≤ (a1.length : Int) then (qan.f k [(a0.take (IntKind.i64.wrap ((a0.length : Int) - 1)).toNat).drop 0,(a1.take a1.length).drop (IntKind.i64.wrap (a2 + 1)).toNat]).bind fun t4 => (qaU.f k t4).bind fun t5 => if t5 = true then (some (0,t4)) else some (13,[]) else none else none) else some (13,[]) else none else none) else some (13,[]) else none else none) else some (13,[])) else some (13,[])
def qdF.f (a0 : Int) : Option (Bool) := if 1 ≤ a0 then (some (decide (a0 ≤ 4))) else some false
def qbV.l0 : Nat → LI → LI → Int → Int → LI → Option (LI)
 | 0,_,_,_,_,_ => none
 | n + 1,x1,x14,x15,x16,y0 => if x16 < x15 then (if 0 ≤ x16 ∧ x16 < (x14.length : Int) then if 0 < (x1.length : Int) then (if (0 : Int) ≤ 0 ∧ 0 < (x1.length : Int) then if x1.getD 0 0 = x16 then (if (0 : Int) ≤ 1 ∧ 1 ≤ (x1.length : Int) ∧ (x1.length : Int) ≤ (x1.length : Int) then qbV.l0 n ((x1.take x1.length).drop 1) x14 x15 (IntKind.i64.wrap (x16 + 1)) y0 else none) else if y0.length + [x14.getD x16.toNat 0].length ≤ 281474976710656 ∧ (y0.length + [x14.getD x16.toNat 0].length) * 8 ≤ 140737488355328 then qbV.l0 n x1 x14 x15 (IntKind.i64.wrap (x16 + 1)) (y0 ++ [x14.getD x16.toNat 0]) else none else none) else if y0.length + [x14.getD x16.toNat 0].length ≤ 281474976710656 ∧ (y0.length + [x14.getD x16.toNat 0].length) * 8 ≤ 140737488355328 then qbV.l0 n x1 x14 x15 (IntKind.i64.wrap (x16 + 1)) (y0 ++ [x14.getD x16.toNat 0]) else none else none) else some y0
def qbV.f (k : Nat) (a0 : LI) (a1 : LI) : Option (Int × LI) := (qa5.f k a1 (a0.length : Int)).bind fun t1 => if t1 = true then ((qbV.l0 k a1 a0 (a0.length : Int) 0 []).bind fun t2 => some (0,t2)) else some (1,[])
def qd2.f (k : Nat) (a0_0 : Int) (a0_1 : LI) (a0_2 : LI) (a0_3 : LI) (a0_4 : Int) (a0_5 : Int) (a0_6 : ByteArray) (a1 : LI) : Option (Int × LI) := (qdF.f a0_5).bind fun t1 => if t1 = true then ((qbV.f k a1 a0_3).bind fun t2 => if t2.1 = 0 then ((qaU.f k t2.2).bind fun t3 => if t3 = true then (some (t2.1,t2.2)) else some (13,t2.2)) else some (t2.1,t2.2)) else some (1,[])
def qc3.f (a0 : Int) : Option (Bool) := if 1 ≤ a0 then (some (decide (a0 ≤ 32))) else some false
def qea.f (a0 : Int) (a1 : Int) (a2 : Int) : Option (Bool) := (qdF.f a0).bind fun t1 => if t1 = true then ((qc3.f a1).bind fun t2 => if t2 = true then ((qc3.f a2).bind fun t3 => some t3) else some false) else some false
def qd9.f (a0 : Int) (a1 : Int) (a2 : Int) : Option (Int) := if a0 < 0 then (some 0) else if a1 < 1 then (some 0) else if a2 < 1 then (some 0) else if a0 < a1 then (some 0) else if a2 ≠ 0 then some (IntKind.i64.wrap ((IntKind.i64.wrap ((IntKind.i64.wrap (a0 - a1)).tdiv a2)) + 1)) else none
def qey.f (a0_0 : Int) (a0_1 : LI) (a0_2 : LI) (a0_3 : LI) (a0_4 : Int) (a0_5 : Int) (a0_6 : ByteArray) (a1 : LI) : Option (Int × LI) := if (a0_3.length : Int) = 3 then (if (0 : Int) ≤ 1 ∧ 1 < (a0_3.length : Int) then if (0 : Int) ≤ 2 ∧ 2 < (a0_3.length : Int) then (qea.f a0_5 (a0_3.getD 1 0) (a0_3.getD 2 0)).bind fun t1 => if t1 = true then (if (0 : Int) ≤ 0 ∧ 0 < (a0_3.length : Int) then if a0_3.getD 0 0 < 0 then (some (1,[])) else if (a1.length : Int) ≤ a0_3.getD 0 0 then (some (1,[])) else (qbF.f a1).bind fun t2 => if 0 ≤ a0_3.getD 0 0 ∧ a0_3.getD 0 0 < (a1.length : Int) then (qd9.f (a1.getD (a0_3.getD 0 0).toNat 0) (a0_3.getD 1 0) (a0_3.getD 2 0)).bind fun t3 => if 0 ≤ a0_3.getD 0 0 ∧ a0_3.getD 0 0 < (t2.length : Int) then if (a0_3.getD 0 0).toNat < t2.length then some (0,t2.set (a0_3.getD 0 0).toNat t3) else none else none else none else none) else some (1,[]) else none else none) else some (1,[])
def qdz.f (k : Nat) (a0 : LI) (o0 : List LI) : Option (Bool) := if (0 : Int) ≤ 0 ∧ 0 < (o0.length : Int) then (qdB.f k a0 (o0.getD 0 [])).bind fun t1 => some (!t1) else none
def qaf.l0 (k : Nat) : Nat → (List LI) → Int → Int → (List LI) → Option (Unit ⊕ Int)
 | 0,_,_,_,_ => none
 | n + 1,x0,x7,x8,y0 => if x8 < x7 then (if 0 ≤ x8 ∧ x8 < (x0.length : Int) then (qdz.f k (x0.getD x8.toNat []) y0).bind fun t1 => if t1 = true then (some (.inr x8)) else qaf.l0 k n x0 x7 (IntKind.i64.wrap (x8 + 1)) y0 else none) else some (.inl ())
def qaf.f (k : Nat) (a0 : List LI) (o0 : List LI) : Option (Int) := (qaf.l0 k k a0 (a0.length : Int) 0 o0).bind fun t2 => Sum.elim (fun t2 => some (-1)) (fun t2 => some t2) t2
def qaQ.f (k : Nat) (a0 : List LI) (o0 : List LI) : Option (Bool) := (qaf.f k a0 o0).bind fun t1 => some (decide (0 ≤ t1))
def qdQ.f (k : Nat) (a0 : List LI) : Option (LI × Int) := (qaQ.f k a0 a0).bind fun t1 => if t1 = true then (some ([],13)) else if (0 : Int) ≤ 0 ∧ 0 < (a0.length : Int) then some (a0.getD 0 [],0) else none
def qaZ.f (k : Nat) (a0_0 : Int) (a0_1 : LI) (a0_2 : LI) (a0_3 : LI) (a0_4 : Int) (a0_5 : Int) (a0_6 : ByteArray) (a1 : List LI) : Option (LI × Int) := if a0_0 = 1 then ((qc1.f k a0_0 a0_1 a0_2 a0_3 a0_4 a0_5 a0_6).bind fun t1 => some (t1.1,t1.2)) else if a0_0 = 2 then ((qc1.f k a0_0 a0_1 a0_2 a0_3 a0_4 a0_5 a0_6).bind fun t2 => some (t2.1,t2.2)) else if a0_0 = 3 then ((qc1.f k a0_0 a0_1 a0_2 a0_3 a0_4 a0_5 a0_6).bind fun t3 => some (t3.1,t3.2)) else if a0_0 = 13 then (if (0 : Int) ≤ 0 ∧ 0 < (a1.length : Int) then (qbN.f k (a1.getD 0 []) a0_3).bind fun t4 => some (t4.2,t4.1) else none) else if a0_0 = 14 then (if (0 : Int) ≤ 0 ∧ 0 < (a1.length : Int) then (qb7.f k (a1.getD 0 []) a0_2 a0_3).bind fun t5 => some (a0_2,t5) else none) else if a0_0 = 15 then (if (0 : Int) ≤ 0 ∧ 0 < (a1.length : Int) then (qei.f k a0_0 a0_1 a0_2 a0_3 a0_4 a0_5 a0_6 (a1.getD 0 [])).bind fun t6 => some (t6.1,t6.2) else none) else if a0_0 = 16 then (if (0 : Int) ≤ 0 ∧ 0 < (a1.length : Int) then (qei.f k a0_0 a0_1 a0_2 a0_3 a0_4 a0_5 a0_6 (a1.getD 0 [])).bind fun t7 => some (t7.1,t7.2) else none) else if a0_0 = 17 then (if (a0_3.length : Int) = 1 then (if (0 : Int) ≤ 0 ∧ 0 < (a0_3.length : Int) then (qaW.f k (a0_3.getD 0 0) a1).bind fun t8 => some (t8.2,t8.1) else none) else some ([],1)) else if a0_0 = 19 then (if (a0_3.length : Int) = 1 then (if (0 : Int) ≤ 0 ∧ 0 < (a1.length : Int) then if (0 : Int) ≤ 1 ∧ 1 < (a1.length : Int) then if (0 : Int) ≤ 0 ∧ 0 < (a0_3.length : Int) then (qeZ.f k (a1.getD 0 []) (a1.getD 1 []) (a0_3.getD 0 0)).bind fun t9 => some (t9.2,t9.1) else none else none else none) else some ([],1)) else if a0_0 = 18 then (if (0 : Int) ≤ 0 ∧ 0 < (a1.length : Int) then (qd2.f k a0_0 a0_1 a0_2 a0_3 a0_4 a0_5 a0_6 (a1.getD 0 [])).bind fun t10 => some (t10.2,t10.1) else none) else if a0_0 = 20 then (if (0 : Int) ≤ 0 ∧ 0 < (a1.length : Int) then (qey.f a0_0 a0_1 a0_2 a0_3 a0_4 a0_5 a0_6 (a1.getD 0 [])).bind fun t11 => some (t11.2,t11.1) else none) else (qdQ.f k a1).bind fun t12 => some (t12.1,t12.2)
def qdR.f (k : Nat) (a0_0 : Int) (a0_1 : LI) (a0_2 : LI) (a0_3 : LI) (a0_4 : Int) (a0_5 : Int) (a0_6 : ByteArray) (a1 : List LI) : Option (Int × LI) := (qdP.f a0_0 a0_1 a0_2 a0_3 a0_4 a0_5 a0_6 (a1.length : Int)).bind fun t1 => if t1 = true then ((qaC.f k a1).bind fun t2 => if t2 = true then (some (13,[])) else (qaZ.f k a0_0 a0_1 a0_2 a0_3 a0_4 a0_5 a0_6 a1).bind fun t3 => if t3.2 = 0 then ((qbF.f t3.1).bind fun t4 => some (0,t4)) else some (t3.2,[])) else some (1,[])
def qeh.f (k : Nat) (a0 : ByteArray) (a1 : Int) : Option (Int) := (qbi.f k a0).bind fun t1 => (qaH.f k t1 a1).bind fun t2 => some t2
def qbE.l0 (k : Nat) : Nat → ByteArray → Int → Int → Int → LI → LI → Option (LI ⊕ (Bool × Int))
 | 0,_,_,_,_,_,_ => none
 | n + 1,x0,x2,x20,x21,y0,y1 => if x21 < x20 then (if 0 ≤ x21 ∧ x21 < (y1.length : Int) then if x21.toNat < y1.length then (qeh.f k x0 (y1.getD x21.toNat 0)).bind fun t2 => if y1.getD x21.toNat 0 = 32 then (qbE.l0 k n x0 x2 x20 (IntKind.i64.wrap (x21 + 1)) y0 y1) else if y1.getD x21.toNat 0 = 46 then (if y0.length + ([-1] : LI).length ≤ 281474976710656 ∧ (y0.length + ([-1] : LI).length) * 8 ≤ 140737488355328 then qbE.l0 k n x0 x2 x20 (IntKind.i64.wrap (x21 + 1)) (y0 ++ ([-1] : LI)) y1 else none) else if t2 < 0 then (some (.inr (false,14))) else (qb8.f k y0 t2).bind fun t3 => if t3 = true then (some (.inr (false,14))) else if y0.length + [t2].length ≤ 281474976710656 ∧ (y0.length + [t2].length) * 8 ≤ 140737488355328 then qbE.l0 k n x0 x2 x20 (IntKind.i64.wrap (x21 + 1)) (y0 ++ [t2]) y1 else none else none else none) else some (.inl y0)
def qbE.f (k : Nat) (a0 : ByteArray) (a1 : ByteArray) (a2 : Int) : Option (Bool × Int × LI) := (qbi.f k a1).bind fun t1 => if 16 < (t1.length : Int) then (some (false,14,[])) else (qbE.l0 k k a0 a2 (t1.length : Int) 0 [] t1).bind fun t4 => Sum.elim (fun t4 => if (t4.length : Int) = 0 then (some (false,0,[])) else if (t4.length : Int) = a2 then (some (true,0,t4)) else some (false,14,[])) (fun t4 => some (t4.1,t4.2,[])) t4
def qbX.l0 : Nat → (List LI) → LI → Int → Int → LI → ByteArray → (List LN) → LI → Int → LI → LI → LI → Int → Int → ByteArray → (List LI) → Option ((List LI) ⊕ Int)
 | 0,_,_,_,_,_,_,_,_,_,_,_,_,_,_,_,_ => none
 | n + 1,x2,x14,x15,x16,y0_0,y0_1,y0_2,y0_3,y1_0,y1_1,y1_2,y1_3,y1_4,y1_5,y1_6,y2 => if x16 < x15 then (if 0 ≤ x16 ∧ x16 < (x14.length : Int) then if x14.getD x16.toNat 0 < 0 then (some (.inr 23)) else if (x2.length : Int) ≤ x14.getD x16.toNat 0 then (some (.inr 23)) else if 0 ≤ x14.getD x16.toNat 0 ∧ x14.getD x16.toNat 0 < (x2.length : Int) then if y2.length + [x2.getD (x14.getD x16.toNat 0).toNat []].length ≤ 281474976710656 ∧ (y2.length + [x2.getD (x14.getD x16.toNat 0).toNat []].length) * 24 ≤ 140737488355328 then qbX.l0 n x2 x14 x15 (IntKind.i64.wrap (x16 + 1)) y0_0 y0_1 y0_2 y0_3 y1_0 y1_1 y1_2 y1_3 y1_4 y1_5 y1_6 (y2 ++ [x2.getD (x14.getD x16.toNat 0).toNat []]) else none else none else none) else some (.inl y2)
def qbX.f (k : Nat) (a0_0 : LI) (a0_1 : ByteArray) (a0_2 : List LN) (a0_3 : LI) (a1_0 : Int) (a1_1 : LI) (a1_2 : LI) (a1_3 : LI) (a1_4 : Int) (a1_5 : Int) (a1_6 : ByteArray) (a2 : List LI) : Option (Int × LI) := (qbX.l0 k a2 a1_1 (a1_1.length : Int) 0 a0_0 a0_1 a0_2 a0_3 a1_0 a1_1 a1_2 a1_3 a1_4 a1_5 a1_6 []).bind fun t1 => Sum.elim (fun t1 => (qdR.f k a1_0 a1_1 a1_2 a1_3 a1_4 a1_5 a1_6 t1).bind fun t2 => if t2.1 = 0 then ((qbE.f k a0_1 a1_6 (t2.2.length : Int)).bind fun t3 => some (t3.2.1,t2.2)) else some (t2.1,[])) (fun t1 => some (t1,[])) t1
def qcW.f (a0 : Int) (o1 : List LI) : Option (Bool) := if a0 < 0 then (some true) else some (decide ((o1.length : Int) ≤ a0))
def qai.l0 : Nat → LI → Int → Int → (List LI) → Option (Unit ⊕ Int)
 | 0,_,_,_,_ => none
 | n + 1,x0,x7,x8,y1 => if x8 < x7 then (if 0 ≤ x8 ∧ x8 < (x0.length : Int) then (qcW.f (x0.getD x8.toNat 0) y1).bind fun t1 => if t1 = true then (some (.inr x8)) else qai.l0 n x0 x7 (IntKind.i64.wrap (x8 + 1)) y1 else none) else some (.inl ())
def qai.f (k : Nat) (a0 : LI) (o1 : List LI) : Option (Int) := (qai.l0 k a0 (a0.length : Int) 0 o1).bind fun t2 => Sum.elim (fun t2 => some (-1)) (fun t2 => some t2) t2
def qaG.f (k : Nat) (a0 : LI) (o1 : List LI) : Option (Bool) := (qai.f k a0 o1).bind fun t1 => some (decide (0 ≤ t1))
def qbk.l0 (k : Nat) : Nat → (List LN) → Int → Int → LI → ByteArray → (List LN) → LI → (List LI) → Option ((List LI) ⊕ Int)
 | 0,_,_,_,_,_,_,_,_ => none
 | n + 1,x25,x26,x27,y0_0,y0_1,y0_2,y0_3,y2 => if x27 < x26 then (if 0 ≤ x27 ∧ x27 < (x25.length : Int) then (qbX.f k y0_0 y0_1 y0_2 y0_3 (x25.getD x27.toNat ln0).1 (x25.getD x27.toNat ln0).2.1 (x25.getD x27.toNat ln0).2.2.1 (x25.getD x27.toNat ln0).2.2.2.1 (x25.getD x27.toNat ln0).2.2.2.2.1 (x25.getD x27.toNat ln0).2.2.2.2.2.1 (x25.getD x27.toNat ln0).2.2.2.2.2.2 y2).bind fun t2 => if t2.1 = 0 then (if y2.length + [t2.2].length ≤ 281474976710656 ∧ (y2.length + [t2.2].length) * 24 ≤ 140737488355328 then qbk.l0 k n x25 x26 (IntKind.i64.wrap (x27 + 1)) y0_0 y0_1 y0_2 y0_3 (y2 ++ [t2.2]) else none) else some (.inr t2.1) else none) else some (.inl y2)
def qbk.f (k : Nat) (a0_0 : LI) (a0_1 : ByteArray) (a0_2 : List LN) (a0_3 : LI) : Option (Int × (List LI)) := (qb6.f k a0_0 a0_1 a0_2 a0_3).bind fun t1 => if t1 = true then (if 48 < (a0_2.length : Int) then (some (3,[])) else if 48 < (a0_3.length : Int) then (some (3,[])) else (qbk.l0 k k a0_2 (a0_2.length : Int) 0 a0_0 a0_1 a0_2 a0_3 []).bind fun t3 => Sum.elim (fun t3 => (qaG.f k a0_3 t3).bind fun t4 => if t4 = true then (some (23,[])) else some (0,t3)) (fun t3 => some (t3,[])) t3) else some (15,[])
def qdS.f (k : Nat) (a0_0 : LI) (a0_1 : ByteArray) (a0_2 : List LN) (a0_3 : LI) : Option (Int) := (qbk.f k a0_0 a0_1 a0_2 a0_3).bind fun t1 => some t1.1
def qcc.l0 : Nat → Int → Int → Int → LI → Option (Unit ⊕ Int)
 | 0,_,_,_,_ => none
 | n + 1,x1,x9,x10,y0 => if x10 < x9 then (if 0 ≤ x10 ∧ x10 < (y0.length : Int) then if x10.toNat < y0.length then if y0.getD x10.toNat 0 = x1 then (some (.inr x10)) else qcc.l0 n x1 x9 (IntKind.i64.wrap (x10 + 1)) y0 else none else none) else some (.inl ())
def qcc.f (k : Nat) (a0 : ByteArray) (a1 : Int) : Option (Int) := (qbC.f k a0).bind fun t1 => (qcc.l0 k a1 (t1.length : Int) 0 t1).bind fun t2 => Sum.elim (fun t2 => some (-1)) (fun t2 => some t2) t2
def qbW.l0 (k : Nat) : Nat → ByteArray → Int → Int → LI → Option (Unit ⊕ Bool)
 | 0,_,_,_,_ => none
 | n + 1,x0,x23,x24,y0 => if x24 < x23 then (if 0 ≤ x24 ∧ x24 < (y0.length : Int) then if x24.toNat < y0.length then if y0.getD x24.toNat 0 < 33 then (some (.inr false)) else if y0.getD x24.toNat 0 = 65533 then (some (.inr false)) else if y0.getD x24.toNat 0 = 46 then (some (.inr false)) else if y0.getD x24.toNat 0 = 45 then (some (.inr false)) else if y0.getD x24.toNat 0 = 40 then (some (.inr false)) else if y0.getD x24.toNat 0 = 41 then (some (.inr false)) else (qcc.f k x0 (y0.getD x24.toNat 0)).bind fun t2 => if t2 = x24 then (qbW.l0 k n x0 x23 (IntKind.i64.wrap (x24 + 1)) y0) else some (.inr false) else none else none) else some (.inl ())
def qbW.f (k : Nat) (a0 : ByteArray) (a1 : Int) : Option (Bool) := (qbC.f k a0).bind fun t1 => if a1 < 0 then (some false) else if 3 < a1 then (some false) else if (t1.length : Int) = a1 then ((qbW.l0 k k a0 (t1.length : Int) 0 t1).bind fun t3 => Sum.elim (fun t3 => some true) (fun t3 => some t3) t3) else some false
def qb3.l0 : Nat → Int → Int → Int → LI → ByteArray → (List LN) → LI → Option (Int ⊕ Bool)
 | 0,_,_,_,_,_,_,_ => none
 | n + 1,x3,x7,x8,y0_0,y0_1,y0_2,y0_3 => if x8 < x7 then (if 0 ≤ x8 ∧ x8 < (y0_0.length : Int) then if y0_0.getD x8.toNat 0 < 1 then (some (.inr false)) else if 8 < y0_0.getD x8.toNat 0 then (some (.inr false)) else if 3 ≤ x8 then (some (.inr false)) else qb3.l0 n (IntKind.i64.wrap (x3 * (y0_0.getD x8.toNat 0))) x7 (IntKind.i64.wrap (x8 + 1)) y0_0 y0_1 y0_2 y0_3 else none) else some (.inl x3)
def qb3.f (k : Nat) (a0_0 : LI) (a0_1 : ByteArray) (a0_2 : List LN) (a0_3 : LI) : Option (Bool) := (qb3.l0 k 1 (a0_0.length : Int) 0 a0_0 a0_1 a0_2 a0_3).bind fun t1 => Sum.elim (fun t1 => if t1 ≤ 8 then ((qbW.f k a0_1 (a0_0.length : Int)).bind fun t2 => some t2) else some false) (fun t1 => some t1) t1
def qa6.l1 : Nat → ByteArray → Int → Int → Int → Int → Int → Int → LI → LI → Option (Unit ⊕ (Bool × Int))
 | 0,_,_,_,_,_,_,_,_,_ => none
 | n + 1,x0,x2,x13,x21,x22,x36,x37,y0,y1 => if x37 < x36 then (if 0 ≤ x37 ∧ x37 < (y0.length : Int) then if x37.toNat < y0.length then if y0.getD x37.toNat 0 = x13 then (some (.inr (false,14))) else qa6.l1 n x0 x2 x13 x21 x22 x36 (IntKind.i64.wrap (x37 + 1)) y0 y1 else none else none) else some (.inl ())
def qa6.l0 (k : Nat) : Nat → ByteArray → Int → Int → Int → LI → LI → Option (LI ⊕ (Bool × Int))
 | 0,_,_,_,_,_,_ => none
 | n + 1,x0,x2,x21,x22,y0,y1 => if x22 < x21 then (if 0 ≤ x22 ∧ x22 < (y1.length : Int) then if x22.toNat < y1.length then if y1.getD x22.toNat 0 = 32 then (qa6.l0 k n x0 x2 x21 (IntKind.i64.wrap (x22 + 1)) y0 y1) else if y1.getD x22.toNat 0 = 46 then (if y0.length + ([-1] : LI).length ≤ 281474976710656 ∧ (y0.length + ([-1] : LI).length) * 8 ≤ 140737488355328 then qa6.l0 k n x0 x2 x21 (IntKind.i64.wrap (x22 + 1)) (y0 ++ ([-1] : LI)) y1 else none) else (qcc.f k x0 (y1.getD x22.toNat 0)).bind fun t2 => if t2 < 0 then (some (.inr (false,14))) else (qa6.l1 n x0 x2 t2 x21 x22 (y0.length : Int) 0 y0 y1).bind fun t3 => Sum.elim (fun t3 => if y0.length + [t2].length ≤ 281474976710656 ∧ (y0.length + [t2].length) * 8 ≤ 140737488355328 then qa6.l0 k n x0 x2 x21 (IntKind.i64.wrap (x22 + 1)) (y0 ++ [t2]) y1 else none) (fun t3 => some (.inr (t3.1,t3.2))) t3 else none else none) else some (.inl y0)
def qa6.f (k : Nat) (a0 : ByteArray) (a1 : ByteArray) (a2 : Int) : Option (Bool × Int × LI) := (qbC.f k a1).bind fun t1 => if 16 < (t1.length : Int) then (some (false,14,[])) else (qa6.l0 k k a0 a2 (t1.length : Int) 0 [] t1).bind fun t4 => Sum.elim (fun t4 => if (t4.length : Int) = 0 then (some (false,0,[])) else if (t4.length : Int) = a2 then (some (true,0,t4)) else some (false,14,[])) (fun t4 => some (t4.1,t4.2,[])) t4
def qaq.l1 : Nat → Int → (List LN) → Int → Int → LI → Int → Int → LI → ByteArray → (List LN) → LI → (List LI) → Int → LI → LI → LI → Int → Int → ByteArray → (List LI) → Option ((List LI) ⊕ Int)
 | 0,_,_,_,_,_,_,_,_,_,_,_,_,_,_,_,_,_,_,_,_ => none
 | n + 1,x5,x31,x32,x33,x39,x40,x41,y0_0,y0_1,y0_2,y0_3,y1,y2_0,y2_1,y2_2,y2_3,y2_4,y2_5,y2_6,y3 => if x41 < x40 then (if 0 ≤ x41 ∧ x41 < (x39.length : Int) then if x39.getD x41.toNat 0 < 0 then (some (.inr 23)) else if x5 ≤ x39.getD x41.toNat 0 then (some (.inr 23)) else if 0 ≤ x39.getD x41.toNat 0 ∧ x39.getD x41.toNat 0 < (y1.length : Int) then if (x39.getD x41.toNat 0).toNat < y1.length then if y3.length + [y1.getD (x39.getD x41.toNat 0).toNat []].length ≤ 281474976710656 ∧ (y3.length + [y1.getD (x39.getD x41.toNat 0).toNat []].length) * 24 ≤ 140737488355328 then qaq.l1 n x5 x31 x32 x33 x39 x40 (IntKind.i64.wrap (x41 + 1)) y0_0 y0_1 y0_2 y0_3 y1 y2_0 y2_1 y2_2 y2_3 y2_4 y2_5 y2_6 (y3 ++ [y1.getD (x39.getD x41.toNat 0).toNat []]) else none else none else none else none) else some (.inl y3)
def qaq.l0 (k : Nat) : Nat → (List LN) → Int → Int → LI → ByteArray → (List LN) → LI → (List LI) → Option ((List LI) ⊕ Int)
 | 0,_,_,_,_,_,_,_,_ => none
 | n + 1,x31,x32,x33,y0_0,y0_1,y0_2,y0_3,y1 => if x33 < x32 then (if 0 ≤ x33 ∧ x33 < (x31.length : Int) then (qaq.l1 n x33 x31 x32 x33 (x31.getD x33.toNat ln0).2.1 ((x31.getD x33.toNat ln0).2.1.length : Int) 0 y0_0 y0_1 y0_2 y0_3 y1 (x31.getD x33.toNat ln0).1 (x31.getD x33.toNat ln0).2.1 (x31.getD x33.toNat ln0).2.2.1 (x31.getD x33.toNat ln0).2.2.2.1 (x31.getD x33.toNat ln0).2.2.2.2.1 (x31.getD x33.toNat ln0).2.2.2.2.2.1 (x31.getD x33.toNat ln0).2.2.2.2.2.2 []).bind fun t2 => Sum.elim (fun t2 => (qbh.f k (x31.getD x33.toNat ln0).1 (x31.getD x33.toNat ln0).2.1 (x31.getD x33.toNat ln0).2.2.1 (x31.getD x33.toNat ln0).2.2.2.1 (x31.getD x33.toNat ln0).2.2.2.2.1 (x31.getD x33.toNat ln0).2.2.2.2.2.1 (x31.getD x33.toNat ln0).2.2.2.2.2.2 t2).bind fun t3 => if t3.1 = 0 then ((qa6.f k y0_1 (x31.getD x33.toNat ln0).2.2.2.2.2.2 (t3.2.length : Int)).bind fun t4 => if t4.2.1 = 0 then (if y1.length + [t3.2].length ≤ 281474976710656 ∧ (y1.length + [t3.2].length) * 24 ≤ 140737488355328 then qaq.l0 k n x31 x32 (IntKind.i64.wrap (x33 + 1)) y0_0 y0_1 y0_2 y0_3 (y1 ++ [t3.2]) else none) else some (.inr t4.2.1)) else some (.inr t3.1)) (fun t2 => some (.inr t2)) t2 else none) else some (.inl y1)
def qaq.l2 : Nat → LI → Int → Int → LI → ByteArray → (List LN) → LI → (List LI) → Option (Unit ⊕ Int)
 | 0,_,_,_,_,_,_,_,_ => none
 | n + 1,x89,x90,x91,y0_0,y0_1,y0_2,y0_3,y1 => if x91 < x90 then (if 0 ≤ x91 ∧ x91 < (x89.length : Int) then if x89.getD x91.toNat 0 < 0 then (some (.inr 23)) else if (y0_2.length : Int) ≤ x89.getD x91.toNat 0 then (some (.inr 23)) else qaq.l2 n x89 x90 (IntKind.i64.wrap (x91 + 1)) y0_0 y0_1 y0_2 y0_3 y1 else none) else some (.inl ())
def qaq.f (k : Nat) (a0_0 : LI) (a0_1 : ByteArray) (a0_2 : List LN) (a0_3 : LI) : Option (Int × (List LI)) := (qb3.f k a0_0 a0_1 a0_2 a0_3).bind fun t1 => if t1 = true then (if 48 < (a0_2.length : Int) then (some (3,[])) else if 48 < (a0_3.length : Int) then (some (3,[])) else (qaq.l0 k k a0_2 (a0_2.length : Int) 0 a0_0 a0_1 a0_2 a0_3 []).bind fun t5 => Sum.elim (fun t5 => (qaq.l2 k a0_3 (a0_3.length : Int) 0 a0_0 a0_1 a0_2 a0_3 t5).bind fun t6 => Sum.elim (fun t6 => some (0,t5)) (fun t6 => some (t6,[])) t6) (fun t5 => some (t5,[])) t5) else some (15,[])
def qdK.f (k : Nat) (a0_0 : Int) (a0_1 : LI) (a0_2 : LI) (a0_3 : LI) (a0_4 : Int) (a0_5 : Int) (a0_6 : ByteArray) (a1_0 : Int) (a1_1 : LI) (a1_2 : LI) (a1_3 : LI) (a1_4 : Int) (a1_5 : Int) (a1_6 : ByteArray) : Option (Bool) := if a0_0 = a1_0 then ((qbs.f k a0_1 a1_1).bind fun t1 => if t1 = true then ((qbs.f k a0_2 a1_2).bind fun t2 => if t2 = true then ((qbs.f k a0_3 a1_3).bind fun t3 => if t3 = true then (if a0_4 = a1_4 then (if a0_5 = a1_5 then (some (a0_6.toList == a1_6.toList)) else some false) else some false) else some false) else some false) else some false) else some false
def qb4.l0 (k : Nat) : Nat → Int → Int → LI → ByteArray → (List LN) → LI → LI → ByteArray → (List LN) → LI → Option (Unit ⊕ Bool)
 | 0,_,_,_,_,_,_,_,_,_,_ => none
 | n + 1,x38,x39,y0_0,y0_1,y0_2,y0_3,y1_0,y1_1,y1_2,y1_3 => if x39 < x38 then (if 0 ≤ x39 ∧ x39 < (y0_2.length : Int) then if 0 ≤ x39 ∧ x39 < (y1_2.length : Int) then (qdK.f k (y0_2.getD x39.toNat ln0).1 (y0_2.getD x39.toNat ln0).2.1 (y0_2.getD x39.toNat ln0).2.2.1 (y0_2.getD x39.toNat ln0).2.2.2.1 (y0_2.getD x39.toNat ln0).2.2.2.2.1 (y0_2.getD x39.toNat ln0).2.2.2.2.2.1 (y0_2.getD x39.toNat ln0).2.2.2.2.2.2 (y1_2.getD x39.toNat ln0).1 (y1_2.getD x39.toNat ln0).2.1 (y1_2.getD x39.toNat ln0).2.2.1 (y1_2.getD x39.toNat ln0).2.2.2.1 (y1_2.getD x39.toNat ln0).2.2.2.2.1 (y1_2.getD x39.toNat ln0).2.2.2.2.2.1 (y1_2.getD x39.toNat ln0).2.2.2.2.2.2).bind fun t3 => if t3 = true then (qb4.l0 k n x38 (IntKind.i64.wrap (x39 + 1)) y0_0 y0_1 y0_2 y0_3 y1_0 y1_1 y1_2 y1_3) else some (.inr false) else none else none) else some (.inl ())
def qb4.f (k : Nat) (a0_0 : LI) (a0_1 : ByteArray) (a0_2 : List LN) (a0_3 : LI) (a1_0 : LI) (a1_1 : ByteArray) (a1_2 : List LN) (a1_3 : LI) : Option (Bool) := (qbs.f k a0_0 a1_0).bind fun t1 => if t1 = true then (if (a0_1.toList == a1_1.toList) = true then (if (a0_2.length : Int) = (a1_2.length : Int) then ((qbs.f k a0_3 a1_3).bind fun t2 => if t2 = true then ((qb4.l0 k k (a0_2.length : Int) 0 a0_0 a0_1 a0_2 a0_3 a1_0 a1_1 a1_2 a1_3).bind fun t4 => Sum.elim (fun t4 => some true) (fun t4 => some t4) t4) else some false) else some false) else some false) else some false
end Go.Pf

namespace Go.Pf
open Go
def qcu.f (a0 : ByteArray) : Option (ByteArray) := if (a0.toList == ByteArray.empty.toList) = true then (some (ByteArray.mk #[45])) else some a0
def qcH.f (a0 : Int) : Option (ByteArray) := (strconv_FormatInt.f a0 10).bind fun t1 => some t1
def qbd.l0 : Nat → LI → Int → Int → (List ByteArray) → Option ((List ByteArray))
 | 0,_,_,_,_ => none
 | n + 1,x6,x7,x8,y0 => if x8 < x7 then (if 0 ≤ x8 ∧ x8 < (x6.length : Int) then (qcH.f (x6.getD x8.toNat 0)).bind fun t1 => if y0.length + [t1].length ≤ 281474976710656 ∧ (y0.length + [t1].length) * 16 ≤ 140737488355328 then qbd.l0 n x6 x7 (IntKind.i64.wrap (x8 + 1)) (y0 ++ [t1]) else none else none) else some y0
def qbd.f (k : Nat) (a0 : LI) : Option ((List ByteArray)) := (qbd.l0 k a0 (a0.length : Int) 0 []).bind fun t2 => some t2
def qd8.f (a0 : Int) : Option (ByteArray) := if a0 < 1 then (some ByteArray.empty) else if 20 < a0 then (some ByteArray.empty) else if 0 ≤ IntKind.i64.wrap (a0 - 1) ∧ IntKind.i64.wrap (a0 - 1) < ([(ByteArray.mk #[112,97,114,97,109]),(ByteArray.mk #[102,105,108,108]),(ByteArray.mk #[105,111,116,97]),(ByteArray.mk #[110,101,103]),(ByteArray.mk #[110,111,116]),(ByteArray.mk #[97,100,100]),(ByteArray.mk #[115,117,98]),(ByteArray.mk #[109,117,108]),(ByteArray.mk #[109,105,110]),(ByteArray.mk #[109,97,120]),(ByteArray.mk #[108,101,115,115]),(ByteArray.mk #[115,101,108,101,99,116]),(ByteArray.mk #[116,117,114,110]),(ByteArray.mk #[115,112,114,101,97,100]),(ByteArray.mk #[115,108,105,99,101]),(ByteArray.mk #[112,97,100]),(ByteArray.mk #[106,111,105,110]),(ByteArray.mk #[102,111,108,100]),(ByteArray.mk #[100,111,116]),(ByteArray.mk #[119,105,110,100,111,119])].length : Int) then if (IntKind.i64.wrap (a0 - 1)).toNat < [(ByteArray.mk #[112,97,114,97,109]),(ByteArray.mk #[102,105,108,108]),(ByteArray.mk #[105,111,116,97]),(ByteArray.mk #[110,101,103]),(ByteArray.mk #[110,111,116]),(ByteArray.mk #[97,100,100]),(ByteArray.mk #[115,117,98]),(ByteArray.mk #[109,117,108]),(ByteArray.mk #[109,105,110]),(ByteArray.mk #[109,97,120]),(ByteArray.mk #[108,101,115,115]),(ByteArray.mk #[115,101,108,101,99,116]),(ByteArray.mk #[116,117,114,110]),(ByteArray.mk #[115,112,114,101,97,100]),(ByteArray.mk #[115,108,105,99,101]),(ByteArray.mk #[112,97,100]),(ByteArray.mk #[106,111,105,110]),(ByteArray.mk #[102,111,108,100]),(ByteArray.mk #[100,111,116]),(ByteArray.mk #[119,105,110,100,111,119])].length then some ([(ByteArray.mk #[112,97,114,97,109]),(ByteArray.mk #[102,105,108,108]),(ByteArray.mk #[105,111,116,97]),(ByteArray.mk #[110,101,103]),(ByteArray.mk #[110,111,116]),(ByteArray.mk #[97,100,100]),(ByteArray.mk #[115,117,98]),(ByteArray.mk #[109,117,108]),(ByteArray.mk #[109,105,110]),(ByteArray.mk #[109,97,120]),(ByteArray.mk #[108,101,115,115]),(ByteArray.mk #[115,101,108,101,99,116]),(ByteArray.mk #[116,117,114,110]),(ByteArray.mk #[115,112,114,101,97,100]),(ByteArray.mk #[115,108,105,99,101]),(ByteArray.mk #[112,97,100]),(ByteArray.mk #[106,111,105,110]),(ByteArray.mk #[102,111,108,100]),(ByteArray.mk #[100,111,116]),(ByteArray.mk #[119,105,110,100,111,119])].getD (IntKind.i64.wrap (a0 - 1)).toNat ByteArray.empty) else none else none
def qbM.l0 : Nat → LI → Int → Int → LI → LI → Option (LI)
 | 0,_,_,_,_,_ => none
 | n + 1,x11,x12,x13,y0,y1 => if x13 < x12 then (if 0 ≤ x13 ∧ x13 < (x11.length : Int) then if 0 ≤ x11.getD x13.toNat 0 then (if x11.getD x13.toNat 0 < (y0.length : Int) then (if 0 ≤ x11.getD x13.toNat 0 ∧ x11.getD x13.toNat 0 < (y0.length : Int) then if (x11.getD x13.toNat 0).toNat < y0.length then if y1.length + [y0.getD (x11.getD x13.toNat 0).toNat 0].length ≤ 281474976710656 ∧ (y1.length + [y0.getD (x11.getD x13.toNat 0).toNat 0].length) * 4 ≤ 140737488355328 then qbM.l0 n x11 x12 (IntKind.i64.wrap (x13 + 1)) y0 (y1 ++ [y0.getD (x11.getD x13.toNat 0).toNat 0]) else none else none else none) else if y1.length + ([46] : LI).length ≤ 281474976710656 ∧ (y1.length + ([46] : LI).length) * 4 ≤ 140737488355328 then qbM.l0 n x11 x12 (IntKind.i64.wrap (x13 + 1)) y0 (y1 ++ ([46] : LI)) else none) else if y1.length + ([46] : LI).length ≤ 281474976710656 ∧ (y1.length + ([46] : LI).length) * 4 ≤ 140737488355328 then qbM.l0 n x11 x12 (IntKind.i64.wrap (x13 + 1)) y0 (y1 ++ ([46] : LI)) else none else none) else some y1
def qbM.f (k : Nat) (a0 : ByteArray) (a1 : LI) : Option (ByteArray) := (qbi.f k a0).bind fun t1 => (qbM.l0 k a1 (a1.length : Int) 0 t1 []).bind fun t2 => some (runesBytes t2)
def qcb.l0 (k : Nat) : Nat → Int → Int → Int → LI → ByteArray → (List LN) → LI → Int → LI → LI → LI → Int → Int → ByteArray → (List ByteArray) → (List LI) → Option ((List ByteArray))
 | 0,_,_,_,_,_,_,_,_,_,_,_,_,_,_,_,_ => none
 | n + 1,x2,x24,x25,y0_0,y0_1,y0_2,y0_3,y1_0,y1_1,y1_2,y1_3,y1_4,y1_5,y1_6,y2,y3 => if x25 < x24 then (if 0 ≤ x25 ∧ x25 < (y3.length : Int) then if x25.toNat < y3.length then if y2.length + [(ByteArray.mk #[40])].length ≤ 281474976710656 ∧ (y2.length + [(ByteArray.mk #[40])].length) * 16 ≤ 140737488355328 then (qbd.f k (y3.getD x25.toNat [])).bind fun t2 => if (y2 ++ [(ByteArray.mk #[40])]).length + t2.length ≤ 281474976710656 ∧ ((y2 ++ [(ByteArray.mk #[40])]).length + t2.length) * 16 ≤ 140737488355328 then if ((y2 ++ [(ByteArray.mk #[40])]) ++ t2).length + [(ByteArray.mk #[41])].length ≤ 281474976710656 ∧ (((y2 ++ [(ByteArray.mk #[40])]) ++ t2).length + [(ByteArray.mk #[41])].length) * 16 ≤ 140737488355328 then qcb.l0 k n x2 x24 (IntKind.i64.wrap (x25 + 1)) y0_0 y0_1 y0_2 y0_3 y1_0 y1_1 y1_2 y1_3 y1_4 y1_5 y1_6 (((y2 ++ [(ByteArray.mk #[40])]) ++ t2) ++ [(ByteArray.mk #[41])]) y3 else none else none else none else none else none) else some y2
def qcb.f (k : Nat) (a0_0 : LI) (a0_1 : ByteArray) (a0_2 : List LN) (a0_3 : LI) (a1_0 : Int) (a1_1 : LI) (a1_2 : LI) (a1_3 : LI) (a1_4 : Int) (a1_5 : Int) (a1_6 : ByteArray) (a2 : Int) : Option ((List ByteArray)) := (qd8.f a1_0).bind fun t1 => (qcb.l0 k k a2 ([a1_1,a1_2,a1_3].length : Int) 0 a0_0 a0_1 a0_2 a0_3 a1_0 a1_1 a1_2 a1_3 a1_4 a1_5 a1_6 [t1] [a1_1,a1_2,a1_3]).bind fun t3 => (qbE.f k a0_1 a1_6 a2).bind fun t4 => (qcH.f a1_4).bind fun t5 => (qcH.f a1_5).bind fun t6 => (qbM.f k a0_1 t4.2.2).bind fun t7 => (qcu.f t7).bind fun t8 => if t3.length + [t5,t6,t8].length ≤ 281474976710656 ∧ (t3.length + [t5,t6,t8].length) * 16 ≤ 140737488355328 then some (t3 ++ [t5,t6,t8]) else none
def qaK.f (a1 : ByteArray) (o1 : LI) : Option (Int × LI) := (qcT.f).bind fun t1 => if o1.length + (a1.data.toList.map fun b => (b.toNat : Int)).length ≤ 281474976710656 ∧ (o1.length + (a1.data.toList.map fun b => (b.toNat : Int)).length) * 1 ≤ 140737488355328 then some ((a1.size : Int),o1 ++ (a1.data.toList.map fun b => (b.toNat : Int))) else none
def qbK.f (o1 : LI) : Option (Int) := some (o1.length : Int)
def qbe.l0 (k : Nat) : Nat → (List LN) → Int → Int → LI → ByteArray → (List LN) → LI → (List LI) → (List (List ByteArray)) → Option ((List (List ByteArray)))
 | 0,_,_,_,_,_,_,_,_,_ => none
 | n + 1,x30,x31,x32,y0_0,y0_1,y0_2,y0_3,y1,y2 => if x32 < x31 then (if 0 ≤ x32 ∧ x32 < (x30.length : Int) then if 0 ≤ x32 ∧ x32 < (y1.length : Int) then if x32.toNat < y1.length then (qcb.f k y0_0 y0_1 y0_2 y0_3 (x30.getD x32.toNat ln0).1 (x30.getD x32.toNat ln0).2.1 (x30.getD x32.toNat ln0).2.2.1 (x30.getD x32.toNat ln0).2.2.2.1 (x30.getD x32.toNat ln0).2.2.2.2.1 (x30.getD x32.toNat ln0).2.2.2.2.2.1 (x30.getD x32.toNat ln0).2.2.2.2.2.2 ((y1.getD x32.toNat []).length : Int)).bind fun t4 => if y2.length + [t4].length ≤ 281474976710656 ∧ (y2.length + [t4].length) * 24 ≤ 140737488355328 then qbe.l0 k n x30 x31 (IntKind.i64.wrap (x32 + 1)) y0_0 y0_1 y0_2 y0_3 y1 (y2 ++ [t4]) else none else none else none else none) else some y2
def qbe.l1 : Nat → Int → Int → (List (List ByteArray)) → LI → Option (LI)
 | 0,_,_,_,_ => none
 | n + 1,x58,x59,y1,y2 => if x59 < x58 then (if 0 ≤ x59 ∧ x59 < (y1.length : Int) then if x59.toNat < y1.length then (strings_Join.f (y1.getD x59.toNat []) (ByteArray.mk #[32])).bind fun t7 => (qaK.f t7 y2).bind fun t8 => (qaK.f (ByteArray.mk #[10]) t8.2).bind fun t9 => qbe.l1 n x58 (IntKind.i64.wrap (x59 + 1)) y1 t9.2 else none else none) else some y2
def qbe.f (k : Nat) (a0_0 : LI) (a0_1 : ByteArray) (a0_2 : List LN) (a0_3 : LI) : Option (ByteArray × Int) := (qbk.f k a0_0 a0_1 a0_2 a0_3).bind fun t1 => if t1.1 = 0 then ((qcu.f a0_1).bind fun t2 => (qbd.f k a0_0).bind fun t3 => if [(ByteArray.mk #[109,101,115,104]),t2].length + t3.length ≤ 281474976710656 ∧ ([(ByteArray.mk #[109,101,115,104]),t2].length + t3.length) * 16 ≤ 140737488355328 then (qbe.l0 k k a0_2 (a0_2.length : Int) 0 a0_0 a0_1 a0_2 a0_3 t1.2 [[(ByteArray.mk #[109,101,115,104]),t2] ++ t3]).bind fun t5 => (qbd.f k a0_3).bind fun t6 => if [(ByteArray.mk #[111,117,116,115])].length + t6.length ≤ 281474976710656 ∧ ([(ByteArray.mk #[111,117,116,115])].length + t6.length) * 16 ≤ 140737488355328 then if t5.length + [[(ByteArray.mk #[111,117,116,115])] ++ t6].length ≤ 281474976710656 ∧ (t5.length + [[(ByteArray.mk #[111,117,116,115])] ++ t6].length) * 24 ≤ 140737488355328 then (qbe.l1 k ((t5 ++ [[(ByteArray.mk #[111,117,116,115])] ++ t6]).length : Int) 0 (t5 ++ [[(ByteArray.mk #[111,117,116,115])] ++ t6]) []).bind fun t10 => (qbK.f t10).bind fun t11 => if 65536 < t11 then (some (ByteArray.empty,3)) else (strings_Builder_String.f t10).bind fun t12 => some (t12,0) else none else none else none) else some (ByteArray.empty,t1.1)
def qaE.l0 : Nat → Int → ByteArray → Int → Option (ByteArray)
 | 0,_,_,_ => none
 | n + 1,x0,x3,x4 => if x4 = 0 then (some x3) else if 10 ≠ 0 then if x4.tmod 10 < 0 then (if (Utf8.encode (IntKind.i32.wrap (IntKind.i64.wrap (48 + (IntKind.i64.wrap (0 - (x4.tmod 10))))))).size + x3.size ≤ 9223372036854775807 then qaE.l0 n x0 ((Utf8.encode (IntKind.i32.wrap (IntKind.i64.wrap (48 + (IntKind.i64.wrap (0 - (x4.tmod 10))))))) ++ x3) (IntKind.i64.wrap (x4.tdiv 10)) else none) else if (Utf8.encode (IntKind.i32.wrap (IntKind.i64.wrap (48 + (x4.tmod 10))))).size + x3.size ≤ 9223372036854775807 then qaE.l0 n x0 ((Utf8.encode (IntKind.i32.wrap (IntKind.i64.wrap (48 + (x4.tmod 10))))) ++ x3) (IntKind.i64.wrap (x4.tdiv 10)) else none else none
def qaE.f (k : Nat) (a0 : Int) : Option (ByteArray) := if a0 = 0 then (some (ByteArray.mk #[48])) else (qaE.l0 k a0 ByteArray.empty a0).bind fun t1 => if a0 < 0 then (if (ByteArray.mk #[45]).size + t1.size ≤ 9223372036854775807 then some ((ByteArray.mk #[45]) ++ t1) else none) else some t1
def qcZ.f : Option ((List ByteArray)) := some [ByteArray.empty,(ByteArray.mk #[112,97,114,97,109]),(ByteArray.mk #[102,105,108,108]),(ByteArray.mk #[105,111,116,97]),(ByteArray.mk #[110,101,103]),(ByteArray.mk #[110,111,116]),(ByteArray.mk #[97,100,100]),(ByteArray.mk #[115,117,98]),(ByteArray.mk #[109,117,108]),(ByteArray.mk #[109,105,110]),(ByteArray.mk #[109,97,120]),(ByteArray.mk #[108,101,115,115]),(ByteArray.mk #[115,101,108,101,99,116]),(ByteArray.mk #[116,117,114,110]),(ByteArray.mk #[115,112,114,101,97,100]),(ByteArray.mk #[115,108,105,99,101]),(ByteArray.mk #[112,97,100]),(ByteArray.mk #[106,111,105,110]),(ByteArray.mk #[102,111,108,100]),(ByteArray.mk #[100,111,116]),(ByteArray.mk #[119,105,110,100,111,119])]
def qdD.f (a0 : Int) : Option (ByteArray) := if a0 < 1 then (some ByteArray.empty) else if 20 < a0 then (some ByteArray.empty) else (qcZ.f).bind fun t1 => if 0 ≤ a0 ∧ a0 < (t1.length : Int) then if a0.toNat < t1.length then some (t1.getD a0.toNat ByteArray.empty) else none else none
def qbl.l0 (k : Nat) : Nat → LI → ByteArray → Int → Int → Option (ByteArray)
 | 0,_,_,_,_ => none
 | n + 1,x0,x3,x6,x7 => if x7 < x6 then (if x3.size + (ByteArray.mk #[32]).size ≤ 9223372036854775807 then if 0 ≤ x7 ∧ x7 < (x0.length : Int) then (qaE.f k (x0.getD x7.toNat 0)).bind fun t1 => if (x3 ++ (ByteArray.mk #[32])).size + t1.size ≤ 9223372036854775807 then qbl.l0 k n x0 ((x3 ++ (ByteArray.mk #[32])) ++ t1) x6 (IntKind.i64.wrap (x7 + 1)) else none else none else none) else some x3
def qbl.f (k : Nat) (a0 : LI) : Option (ByteArray) := (qbl.l0 k k a0 (ByteArray.mk #[32,40]) (a0.length : Int) 0).bind fun t2 => if t2.size + (ByteArray.mk #[32,41]).size ≤ 9223372036854775807 then some (t2 ++ (ByteArray.mk #[32,41])) else none
def qdC.f (k : Nat) (a0_0 : LI) (a0_1 : ByteArray) (a0_2 : List LN) (a0_3 : LI) (a1_0 : Int) (a1_1 : LI) (a1_2 : LI) (a1_3 : LI) (a1_4 : Int) (a1_5 : Int) (a1_6 : ByteArray) (a2 : Int) : Option (ByteArray) := (qa6.f k a0_1 a1_6 a2).bind fun t1 => if t1.1 = true then ((qb0.f k a0_1 t1.2.2).bind fun t2 => some t2) else some (ByteArray.mk #[45])
def qar.l0 (k : Nat) : Nat → ByteArray → Int → Int → LI → ByteArray → (List LN) → LI → (List LI) → Option (ByteArray)
 | 0,_,_,_,_,_,_,_,_ => none
 | n + 1,x6,x27,x28,y0_0,y0_1,y0_2,y0_3,y1 => if x28 < x27 then (if x6.size + (ByteArray.mk #[32]).size ≤ 9223372036854775807 then if 0 ≤ x28 ∧ x28 < (y0_0.length : Int) then (qaE.f k (y0_0.getD x28.toNat 0)).bind fun t2 => if (x6 ++ (ByteArray.mk #[32])).size + t2.size ≤ 9223372036854775807 then qar.l0 k n ((x6 ++ (ByteArray.mk #[32])) ++ t2) x27 (IntKind.i64.wrap (x28 + 1)) y0_0 y0_1 y0_2 y0_3 y1 else none else none else none) else some x6
def qar.l1 (k : Nat) : Nat → ByteArray → (List LN) → Int → Int → LI → ByteArray → (List LN) → LI → (List LI) → Option (ByteArray)
 | 0,_,_,_,_,_,_,_,_,_ => none
 | n + 1,x6,x44,x45,x46,y0_0,y0_1,y0_2,y0_3,y1 => if x46 < x45 then (if 0 ≤ x46 ∧ x46 < (x44.length : Int) then (qdD.f (x44.getD x46.toNat ln0).1).bind fun t4 => if x6.size + t4.size ≤ 9223372036854775807 then (qbl.f k (x44.getD x46.toNat ln0).2.1).bind fun t5 => if (x6 ++ t4).size + t5.size ≤ 9223372036854775807 then (qbl.f k (x44.getD x46.toNat ln0).2.2.1).bind fun t6 => if ((x6 ++ t4) ++ t5).size + t6.size ≤ 9223372036854775807 then (qbl.f k (x44.getD x46.toNat ln0).2.2.2.1).bind fun t7 => if (((x6 ++ t4) ++ t5) ++ t6).size + t7.size ≤ 9223372036854775807 then if ((((x6 ++ t4) ++ t5) ++ t6) ++ t7).size + (ByteArray.mk #[32]).size ≤ 9223372036854775807 then (qaE.f k (x44.getD x46.toNat ln0).2.2.2.2.1).bind fun t8 => if (((((x6 ++ t4) ++ t5) ++ t6) ++ t7) ++ (ByteArray.mk #[32])).size + t8.size ≤ 9223372036854775807 then if ((((((x6 ++ t4) ++ t5) ++ t6) ++ t7) ++ (ByteArray.mk #[32])) ++ t8).size + (ByteArray.mk #[32]).size ≤ 9223372036854775807 then (qaE.f k (x44.getD x46.toNat ln0).2.2.2.2.2.1).bind fun t9 => if (((((((x6 ++ t4) ++ t5) ++ t6) ++ t7) ++ (ByteArray.mk #[32])) ++ t8) ++ (ByteArray.mk #[32])).size + t9.size ≤ 9223372036854775807 then if ((((((((x6 ++ t4) ++ t5) ++ t6) ++ t7) ++ (ByteArray.mk #[32])) ++ t8) ++ (ByteArray.mk #[32])) ++ t9).size + (ByteArray.mk #[32]).size ≤ 9223372036854775807 then if 0 ≤ x46 ∧ x46 < (y1.length : Int) then if x46.toNat < y1.length then (qdC.f k y0_0 y0_1 y0_2 y0_3 (x44.getD x46.toNat ln0).1 (x44.getD x46.toNat ln0).2.1 (x44.getD x46.toNat ln0).2.2.1 (x44.getD x46.toNat ln0).2.2.2.1 (x44.getD x46.toNat ln0).2.2.2.2.1 (x44.getD x46.toNat ln0).2.2.2.2.2.1 (x44.getD x46.toNat ln0).2.2.2.2.2.2 ((y1.getD x46.toNat []).length : Int)).bind fun t10 => if (((((((((x6 ++ t4) ++ t5) ++ t6) ++ t7) ++ (ByteArray.mk #[32])) ++ t8) ++ (ByteArray.mk #[32])) ++ t9) ++ (ByteArray.mk #[32])).size + t10.size ≤ 9223372036854775807 then if ((((((((((x6 ++ t4) ++ t5) ++ t6) ++ t7) ++ (ByteArray.mk #[32])) ++ t8) ++ (ByteArray.mk #[32])) ++ t9) ++ (ByteArray.mk #[32])) ++ t10).size + (ByteArray.mk #[10]).size ≤ 9223372036854775807 then qar.l1 k n (((((((((((x6 ++ t4) ++ t5) ++ t6) ++ t7) ++ (ByteArray.mk #[32])) ++ t8) ++ (ByteArray.mk #[32])) ++ t9) ++ (ByteArray.mk #[32])) ++ t10) ++ (ByteArray.mk #[10])) x44 x45 (IntKind.i64.wrap (x46 + 1)) y0_0 y0_1 y0_2 y0_3 y1 else none else none else none else none else none else none else none else none else none else none else none else none else none else none) else some x6
def qar.l2 (k : Nat) : Nat → ByteArray → Int → Int → LI → ByteArray → (List LN) → LI → Option (ByteArray)
 | 0,_,_,_,_,_,_,_ => none
 | n + 1,x6,x94,x95,y0_0,y0_1,y0_2,y0_3 => if x95 < x94 then (if x6.size + (ByteArray.mk #[32]).size ≤ 9223372036854775807 then if 0 ≤ x95 ∧ x95 < (y0_3.length : Int) then (qaE.f k (y0_3.getD x95.toNat 0)).bind fun t12 => if (x6 ++ (ByteArray.mk #[32])).size + t12.size ≤ 9223372036854775807 then qar.l2 k n ((x6 ++ (ByteArray.mk #[32])) ++ t12) x94 (IntKind.i64.wrap (x95 + 1)) y0_0 y0_1 y0_2 y0_3 else none else none else none) else some x6
def qar.f (k : Nat) (a0_0 : LI) (a0_1 : ByteArray) (a0_2 : List LN) (a0_3 : LI) : Option (ByteArray × Int) := (qaq.f k a0_0 a0_1 a0_2 a0_3).bind fun t1 => if t1.1 = 0 then (if (a0_1.toList == ByteArray.empty.toList) = true then ((qar.l0 k k (ByteArray.mk #[109,101,115,104,32,45]) (a0_0.length : Int) 0 a0_0 a0_1 a0_2 a0_3 t1.2).bind fun t14 => if t14.size + (ByteArray.mk #[10]).size ≤ 9223372036854775807 then (qar.l1 k k (t14 ++ (ByteArray.mk #[10])) a0_2 (a0_2.length : Int) 0 a0_0 a0_1 a0_2 a0_3 t1.2).bind fun t15 => if t15.size + (ByteArray.mk #[111,117,116,115]).size ≤ 9223372036854775807 then (qar.l2 k k (t15 ++ (ByteArray.mk #[111,117,116,115])) (a0_3.length : Int) 0 a0_0 a0_1 a0_2 a0_3).bind fun t16 => if t16.size + (ByteArray.mk #[10]).size ≤ 9223372036854775807 then if 65536 < ((t16 ++ (ByteArray.mk #[10])).size : Int) then (some (ByteArray.empty,3)) else some (t16 ++ (ByteArray.mk #[10]),0) else none else none else none) else if (ByteArray.mk #[109,101,115,104,32]).size + a0_1.size ≤ 9223372036854775807 then (qar.l0 k k ((ByteArray.mk #[109,101,115,104,32]) ++ a0_1) (a0_0.length : Int) 0 a0_0 a0_1 a0_2 a0_3 t1.2).bind fun t3 => if t3.size + (ByteArray.mk #[10]).size ≤ 9223372036854775807 then (qar.l1 k k (t3 ++ (ByteArray.mk #[10])) a0_2 (a0_2.length : Int) 0 a0_0 a0_1 a0_2 a0_3 t1.2).bind fun t11 => if t11.size + (ByteArray.mk #[111,117,116,115]).size ≤ 9223372036854775807 then (qar.l2 k k (t11 ++ (ByteArray.mk #[111,117,116,115])) (a0_3.length : Int) 0 a0_0 a0_1 a0_2 a0_3).bind fun t13 => if t13.size + (ByteArray.mk #[10]).size ≤ 9223372036854775807 then if 65536 < ((t13 ++ (ByteArray.mk #[10])).size : Int) then (some (ByteArray.empty,3)) else some (t13 ++ (ByteArray.mk #[10]),0) else none else none else none else none) else some (ByteArray.empty,t1.1)
end Go.Pf

namespace Go.Pf
open Go
def qb5.l0 : Nat → Int → Int → LI → Option (LI)
 | 0,_,_,_ => none
 | n + 1,x0,x4,y0 => if x4 < 200 then (if 211 ≠ 0 then if y0.length + [(IntKind.i64.wrap ((IntKind.i64.wrap ((IntKind.i64.wrap ((IntKind.i64.wrap (x4 * x4)) * 7)) + (IntKind.i64.wrap (x0 * 37)))) + (IntKind.i64.wrap (x4 * x0)))).tmod 211].length ≤ 281474976710656 ∧ (y0.length + [(IntKind.i64.wrap ((IntKind.i64.wrap ((IntKind.i64.wrap ((IntKind.i64.wrap (x4 * x4)) * 7)) + (IntKind.i64.wrap (x0 * 37)))) + (IntKind.i64.wrap (x4 * x0)))).tmod 211].length) * 8 ≤ 140737488355328 then qb5.l0 n x0 (IntKind.i64.wrap (x4 + 1)) (y0 ++ [(IntKind.i64.wrap ((IntKind.i64.wrap ((IntKind.i64.wrap ((IntKind.i64.wrap (x4 * x4)) * 7)) + (IntKind.i64.wrap (x0 * 37)))) + (IntKind.i64.wrap (x4 * x0)))).tmod 211]) else none else none) else some y0
def qb5.f (k : Nat) (a0 : Int) : Option (LI) := (qb5.l0 k a0 0 []).bind fun t1 => some t1
def qa0.l0 : Nat → ByteArray → Int → Int → (List ByteArray) → ByteArray → Nat → Option (Int × (List ByteArray))
 | 0,_,_,_,_,_,_ => none
 | n + 1,x0,x1,x6,y0,y1_0,y1_1 => if y1_1 < y1_0.size then (if (((Utf8.decode y1_0 y1_1).1 : Nat) : Int) = x1 then (if 0 ≤ x6 ∧ x6 ≤ ((y1_1 : Nat) : Int) ∧ ((y1_1 : Nat) : Int) ≤ (x0.size : Int) then if y0.length + [x0.extract x6.toNat ((y1_1 : Nat) : Int).toNat].length ≤ 281474976710656 ∧ (y0.length + [x0.extract x6.toNat ((y1_1 : Nat) : Int).toNat].length) * 16 ≤ 140737488355328 then qa0.l0 n x0 x1 (IntKind.i64.wrap (((y1_1 : Nat) : Int) + 1)) (y0 ++ [x0.extract x6.toNat ((y1_1 : Nat) : Int).toNat]) y1_0 (y1_1 + (Utf8.decode y1_0 y1_1).2) else none else none) else qa0.l0 n x0 x1 x6 y0 y1_0 (y1_1 + (Utf8.decode y1_0 y1_1).2)) else some (x6,y0)
def qa0.f (k : Nat) (a0 : ByteArray) (a1 : Int) : Option ((List ByteArray)) := (qa0.l0 k a0 a1 0 [] a0 0).bind fun t1 => if 0 ≤ t1.1 ∧ t1.1 ≤ (a0.size : Int) ∧ (a0.size : Int) ≤ (a0.size : Int) then if t1.2.length + [a0.extract t1.1.toNat (a0.size : Int).toNat].length ≤ 281474976710656 ∧ (t1.2.length + [a0.extract t1.1.toNat (a0.size : Int).toNat].length) * 16 ≤ 140737488355328 then some (t1.2 ++ [a0.extract t1.1.toNat (a0.size : Int).toNat]) else none else none
def qci.f (k : Nat) (a0 : ByteArray) : Option ((List ByteArray)) := (qa0.f k a0 32).bind fun t1 => some t1
def qbn.f (o0_0 : List ByteArray) (o0_1 : Bool) : Option (ByteArray × (List ByteArray) × Bool) := if (o0_0.length : Int) = 0 then (some (ByteArray.empty,o0_0,true)) else if (0 : Int) ≤ 0 ∧ 0 < (o0_0.length : Int) then if ((o0_0.getD 0 ByteArray.empty).toList == ByteArray.empty.toList) = true then (some (ByteArray.empty,o0_0,true)) else if (0 : Int) ≤ 1 ∧ 1 ≤ (o0_0.length : Int) ∧ (o0_0.length : Int) ≤ (o0_0.length : Int) then some (o0_0.getD 0 ByteArray.empty,(o0_0.take o0_0.length).drop 1,o0_1) else none else none
def qbv.f (a1 : ByteArray) (o0_0 : List ByteArray) (o0_1 : Bool) : Option ((List ByteArray) × Bool) := (qbn.f o0_0 o0_1).bind fun t1 => if (t1.1.toList == a1.toList) = true then (some (t1.2.1,t1.2.2)) else some (t1.2.1,true)
def qcv.f (o0_0 : List ByteArray) (o0_1 : Bool) : Option (ByteArray × (List ByteArray) × Bool) := (qbn.f o0_0 o0_1).bind fun t1 => if (t1.1.toList == (ByteArray.mk #[45]).toList) = true then (some (ByteArray.empty,t1.2.1,t1.2.2)) else some (t1.1,t1.2.1,t1.2.2)
def qdG.f (a0 : ByteArray) : Option (Int × Bool) := (strconv_ParseInt.f a0 10 64).bind fun t1 => if t1.2 = true then (some (0,false)) else (qcH.f t1.1).bind fun t2 => if (t2.toList == a0.toList) = true then (some (t1.1,true)) else some (0,false)
def qcp.f (a0 : ByteArray) : Option (Int × Bool) := (qdG.f a0).bind fun t1 => some (t1.1,t1.2)
def qcw.f (o0_0 : List ByteArray) (o0_1 : Bool) : Option (Int × (List ByteArray) × Bool) := (qbn.f o0_0 o0_1).bind fun t1 => (qcp.f t1.1).bind fun t2 => if t1.2.2 = true then (some (t2.1,t1.2.1,true)) else some (t2.1,t1.2.1,!t2.2)
def qbY.f (o0_0 : List ByteArray) (o0_1 : Bool) : Option (Int × (List ByteArray) × Bool) := (qcw.f o0_0 o0_1).bind fun t1 => if t1.2.2 = true then (some (t1.1,t1.2.1,true)) else some (t1.1,t1.2.1,!(decide (t1.1 = t1.1)))
def qaJ.l0 : Nat → (List ByteArray) → Bool → LI → Option ((List ByteArray) × Bool × LI)
 | 0,_,_,_ => none
 | n + 1,y0_0,y0_1,y1 => if 0 < (y0_0.length : Int) then (if y0_1 = true then (some (y0_0,y0_1,y1)) else (qbY.f y0_0 y0_1).bind fun t1 => if y1.length + [t1.1].length ≤ 281474976710656 ∧ (y1.length + [t1.1].length) * 8 ≤ 140737488355328 then qaJ.l0 n t1.2.1 t1.2.2 (y1 ++ [t1.1]) else none) else some (y0_0,y0_1,y1)
def qaJ.f (k : Nat) (o0_0 : List ByteArray) (o0_1 : Bool) : Option ((List ByteArray) × Bool × LI) := (qaJ.l0 k o0_0 o0_1 []).bind fun t2 => some (t2.1,t2.2.1,t2.2.2)
def qbu.l0 : Nat → ByteArray → Int → (List ByteArray) → Bool → Option (Unit ⊕ Int)
 | 0,_,_,_,_ => none
 | n + 1,x3,x4,y0_0,y0_1 => if x4 ≤ 20 then ((qd8.f x4).bind fun t2 => if (t2.toList == x3.toList) = true then (some (.inr x4)) else qbu.l0 n x3 (IntKind.i64.wrap (x4 + 1)) y0_0 y0_1) else some (.inl ())
def qbu.f (k : Nat) (o0_0 : List ByteArray) (o0_1 : Bool) : Option (Int × (List ByteArray) × Bool) := (qbn.f o0_0 o0_1).bind fun t1 => (qbu.l0 k t1.1 1 t1.2.1 t1.2.2).bind fun t3 => Sum.elim (fun t3 => some (0,t1.2.1,true)) (fun t3 => some (t3,t1.2.1,t1.2.2)) t3
def qaO.l0 : Nat → (List ByteArray) → Bool → LI → Option ((List ByteArray) × Bool × LI)
 | 0,_,_,_ => none
 | n + 1,y0_0,y0_1,y1 => if y0_1 = true then (some (y0_0,y0_1,y1)) else if 0 < (y0_0.length : Int) then (if (0 : Int) ≤ 0 ∧ 0 < (y0_0.length : Int) then if ((y0_0.getD 0 ByteArray.empty).toList == (ByteArray.mk #[41]).toList) = true then (some (y0_0,y0_1,y1)) else (qbY.f y0_0 y0_1).bind fun t2 => if y1.length + [t2.1].length ≤ 281474976710656 ∧ (y1.length + [t2.1].length) * 8 ≤ 140737488355328 then qaO.l0 n t2.2.1 t2.2.2 (y1 ++ [t2.1]) else none else none) else some (y0_0,y0_1,y1)
def qaO.f (k : Nat) (o0_0 : List ByteArray) (o0_1 : Bool) : Option ((List ByteArray) × Bool × LI) := (qbv.f (ByteArray.mk #[40]) o0_0 o0_1).bind fun t1 => (qaO.l0 k t1.1 t1.2 []).bind fun t3 => (qbv.f (ByteArray.mk #[41]) t3.1 t3.2.1).bind fun t4 => some (t4.1,t4.2,t3.2.2)
def qcU.f (k : Nat) (o0_0 : List ByteArray) (o0_1 : Bool) : Option (Int × Int × Int × ByteArray × (List ByteArray) × Bool × LI × LI × LI) := (qbu.f k o0_0 o0_1).bind fun t1 => (qaO.f k t1.2.1 t1.2.2).bind fun t2 => (qaO.f k t2.1 t2.2.1).bind fun t3 => (qaO.f k t3.1 t3.2.1).bind fun t4 => (qcw.f t4.1 t4.2.1).bind fun t5 => (qbY.f t5.2.1 t5.2.2).bind fun t6 => (qcv.f t6.2.1 t6.2.2).bind fun t7 => if t7.2.2 = true then (some (t1.1,t5.1,t6.1,t7.1,t7.2.1,true,t2.2.2,t3.2.2,t4.2.2)) else some (t1.1,t5.1,t6.1,t7.1,t7.2.1,decide (0 < (t7.2.1.length : Int)),t2.2.2,t3.2.2,t4.2.2)
def qbt.l0 (k : Nat) : Nat → Bool → (List ByteArray) → Int → Int → ByteArray → ByteArray → (List ByteArray) → Bool → (List ByteArray) → Bool → LI → (List LN) → Option (Bool × (List LN))
 | 0,_,_,_,_,_,_,_,_,_,_,_,_ => none
 | n + 1,x8,x68,x69,x70,y0,y1,y2_0,y2_1,y3_0,y3_1,y4,y5 => if x70 < x69 then (if 0 ≤ x70 ∧ x70 < (x68.length : Int) then (qci.f k (x68.getD x70.toNat ByteArray.empty)).bind fun t7 => (qcU.f k t7 false).bind fun t8 => if y5.length + [(t8.1,(t8.2.2.2.2.2.2.1,(t8.2.2.2.2.2.2.2.1,(t8.2.2.2.2.2.2.2.2,(t8.2.1,(t8.2.2.1,t8.2.2.2.1))))))].length ≤ 281474976710656 ∧ (y5.length + [(t8.1,(t8.2.2.2.2.2.2.1,(t8.2.2.2.2.2.2.2.1,(t8.2.2.2.2.2.2.2.2,(t8.2.1,(t8.2.2.1,t8.2.2.2.1))))))].length) * 112 ≤ 140737488355328 then if x8 = true then (qbt.l0 k n true x68 x69 (IntKind.i64.wrap (x70 + 1)) y0 y1 y2_0 y2_1 y3_0 y3_1 y4 (y5 ++ [(t8.1,(t8.2.2.2.2.2.2.1,(t8.2.2.2.2.2.2.2.1,(t8.2.2.2.2.2.2.2.2,(t8.2.1,(t8.2.2.1,t8.2.2.2.1))))))])) else qbt.l0 k n t8.2.2.2.2.2.1 x68 x69 (IntKind.i64.wrap (x70 + 1)) y0 y1 y2_0 y2_1 y3_0 y3_1 y4 (y5 ++ [(t8.1,(t8.2.2.2.2.2.2.1,(t8.2.2.2.2.2.2.2.1,(t8.2.2.2.2.2.2.2.2,(t8.2.1,(t8.2.2.1,t8.2.2.2.1))))))]) else none else none) else some (x8,y5)
def qbt.f (k : Nat) (a0 : ByteArray) : Option (ByteArray × Bool × LI × (List LN) × LI) := (qa0.f k a0 10).bind fun t1 => if (t1.length : Int) < 3 then (some (ByteArray.empty,false,[],[],[])) else if 0 ≤ IntKind.i64.wrap ((t1.length : Int) - 1) ∧ IntKind.i64.wrap ((t1.length : Int) - 1) < (t1.length : Int) then if ((t1.getD (IntKind.i64.wrap ((t1.length : Int) - 1)).toNat ByteArray.empty).toList == ByteArray.empty.toList) = true then (if 0 ≤ ((0 : Nat) : Int) ∧ ((0 : Nat) : Int) ≤ IntKind.i64.wrap ((t1.length : Int) - 1) ∧ IntKind.i64.wrap ((t1.length : Int) - 1) ≤ (t1.length : Int) then if (0 : Int) ≤ 0 ∧ 0 < (((t1.take (IntKind.i64.wrap ((t1.length : Int) - 1)).toNat).drop 0).length : Int) then (qci.f k (((t1.take (IntKind.i64.wrap ((t1.length : Int) - 1)).toNat).drop 0).getD 0 ByteArray.empty)).bind fun t2 => if 0 ≤ IntKind.i64.wrap ((((t1.take (IntKind.i64.wrap ((t1.length : Int) - 1)).toNat).drop 0).length : Int) - 1) ∧ IntKind.i64.wrap ((((t1.take (IntKind.i64.wrap ((t1.length : Int) - 1)).toNat).drop 0).length : Int) - 1) < (((t1.take (IntKind.i64.wrap ((t1.length : Int) - 1)).toNat).drop 0).length : Int) then (qci.f k (((t1.take (IntKind.i64.wrap ((t1.length : Int) - 1)).toNat).drop 0).getD (IntKind.i64.wrap ((((t1.take (IntKind.i64.wrap ((t1.length : Int) - 1)).toNat).drop 0).length : Int) - 1)).toNat ByteArray.empty)).bind fun t3 => (qbv.f (ByteArray.mk #[109,101,115,104]) t2 false).bind fun t4 => (qcv.f t4.1 t4.2).bind fun t5 => (qaJ.f k t5.2.1 t5.2.2).bind fun t6 => if (t5.1.toList == ByteArray.empty.toList) = true then (if (0 : Int) ≤ 1 ∧ 1 ≤ IntKind.i64.wrap ((((t1.take (IntKind.i64.wrap ((t1.length : Int) - 1)).toNat).drop 0).length : Int) - 1) ∧ IntKind.i64.wrap ((((t1.take (IntKind.i64.wrap ((t1.length : Int) - 1)).toNat).drop 0).length : Int) - 1) ≤ (((t1.take (IntKind.i64.wrap ((t1.length : Int) - 1)).toNat).drop 0).length : Int) then (qbt.l0 k k (decide (0 < (t6.2.2.length : Int))) ((((t1.take (IntKind.i64.wrap ((t1.length : Int) - 1)).toNat).drop 0).take (IntKind.i64.wrap ((((t1.take (IntKind.i64.wrap ((t1.length : Int) - 1)).toNat).drop 0).length : Int) - 1)).toNat).drop 1) (((((t1.take (IntKind.i64.wrap ((t1.length : Int) - 1)).toNat).drop 0).take (IntKind.i64.wrap ((((t1.take (IntKind.i64.wrap ((t1.length : Int) - 1)).toNat).drop 0).length : Int) - 1)).toNat).drop 1).length : Int) 0 ByteArray.empty t5.1 t6.1 t6.2.1 t3 false t6.2.2 []).bind fun t9 => (qbv.f (ByteArray.mk #[111,117,116,115]) t3 false).bind fun t10 => (qaJ.f k t10.1 t10.2).bind fun t11 => if t9.1 = true then (some (t5.1,false,t6.2.2,t9.2,t11.2.2)) else if t6.2.1 = true then (some (t5.1,false,t6.2.2,t9.2,t11.2.2)) else some (t5.1,!t11.2.1,t6.2.2,t9.2,t11.2.2) else none) else if (0 : Int) ≤ 1 ∧ 1 ≤ IntKind.i64.wrap ((((t1.take (IntKind.i64.wrap ((t1.length : Int) - 1)).toNat).drop 0).length : Int) - 1) ∧ IntKind.i64.wrap ((((t1.take (IntKind.i64.wrap ((t1.length : Int) - 1)).toNat).drop 0).length : Int) - 1) ≤ (((t1.take (IntKind.i64.wrap ((t1.length : Int) - 1)).toNat).drop 0).length : Int) then (qbt.l0 k k false ((((t1.take (IntKind.i64.wrap ((t1.length : Int) - 1)).toNat).drop 0).take (IntKind.i64.wrap ((((t1.take (IntKind.i64.wrap ((t1.length : Int) - 1)).toNat).drop 0).length : Int) - 1)).toNat).drop 1) (((((t1.take (IntKind.i64.wrap ((t1.length : Int) - 1)).toNat).drop 0).take (IntKind.i64.wrap ((((t1.take (IntKind.i64.wrap ((t1.length : Int) - 1)).toNat).drop 0).length : Int) - 1)).toNat).drop 1).length : Int) 0 ByteArray.empty t5.1 t6.1 t6.2.1 t3 false t6.2.2 []).bind fun t12 => (qbv.f (ByteArray.mk #[111,117,116,115]) t3 false).bind fun t13 => (qaJ.f k t13.1 t13.2).bind fun t14 => if t12.1 = true then (some (t5.1,false,t6.2.2,t12.2,t14.2.2)) else if t6.2.1 = true then (some (t5.1,false,t6.2.2,t12.2,t14.2.2)) else some (t5.1,!t14.2.1,t6.2.2,t12.2,t14.2.2) else none else none else none else none) else some (ByteArray.empty,false,[],[],[]) else none
def qc0.f (k : Nat) (a0 : ByteArray) : Option (LI × ByteArray × (List LN) × LI × Int) := if 65536 < (a0.size : Int) then (some ([],ByteArray.empty,[],[],3)) else (qbt.f k a0).bind fun t1 => if t1.2.1 = true then ((qdS.f k t1.2.2.1 t1.1 t1.2.2.2.1 t1.2.2.2.2).bind fun t2 => if t2 = 0 then ((qbe.f k t1.2.2.1 t1.1 t1.2.2.2.1 t1.2.2.2.2).bind fun t3 => if t3.2 = 0 then (if (t3.1.toList == a0.toList) = true then (some (t1.2.2.1,t1.1,t1.2.2.2.1,t1.2.2.2.2,0)) else some ([],ByteArray.empty,[],[],12)) else some ([],ByteArray.empty,[],[],12)) else some ([],ByteArray.empty,[],[],t2)) else some ([],ByteArray.empty,[],[],12)
def qbL.l0 : Nat → ByteArray → Int → Int → (List ByteArray) → Option (Int × (List ByteArray))
 | 0,_,_,_,_ => none
 | n + 1,x0,x5,x6,y0 => if x6 < (x0.size : Int) then (if 0 ≤ x6 ∧ x6 < (x0.size : Int) then if ((x0.data.getD x6.toNat 0).toNat : Int) = 10 then (if 0 ≤ x5 ∧ x5 ≤ x6 ∧ x6 ≤ (x0.size : Int) then if y0.length + [x0.extract x5.toNat x6.toNat].length ≤ 281474976710656 ∧ (y0.length + [x0.extract x5.toNat x6.toNat].length) * 16 ≤ 140737488355328 then qbL.l0 n x0 (IntKind.i64.wrap (x6 + 1)) (IntKind.i64.wrap (x6 + 1)) (y0 ++ [x0.extract x5.toNat x6.toNat]) else none else none) else qbL.l0 n x0 x5 (IntKind.i64.wrap (x6 + 1)) y0 else none) else some (x5,y0)
def qbL.f (k : Nat) (a0 : ByteArray) : Option (Bool × (List ByteArray)) := (qbL.l0 k a0 0 0 []).bind fun t1 => some (decide (t1.1 = (a0.size : Int)),t1.2)
def qa9.l0 : Nat → ByteArray → Int → Int → (List ByteArray) → Option (Int × (List ByteArray))
 | 0,_,_,_,_ => none
 | n + 1,x0,x4,x5,y0 => if x5 < (x0.size : Int) then (if 0 ≤ x5 ∧ x5 < (x0.size : Int) then if ((x0.data.getD x5.toNat 0).toNat : Int) = 32 then (if 0 ≤ x4 ∧ x4 ≤ x5 ∧ x5 ≤ (x0.size : Int) then if y0.length + [x0.extract x4.toNat x5.toNat].length ≤ 281474976710656 ∧ (y0.length + [x0.extract x4.toNat x5.toNat].length) * 16 ≤ 140737488355328 then qa9.l0 n x0 (IntKind.i64.wrap (x5 + 1)) (IntKind.i64.wrap (x5 + 1)) (y0 ++ [x0.extract x4.toNat x5.toNat]) else none else none) else qa9.l0 n x0 x4 (IntKind.i64.wrap (x5 + 1)) y0 else none) else some (x4,y0)
def qa9.f (k : Nat) (a0 : ByteArray) : Option ((List ByteArray)) := (qa9.l0 k a0 0 0 []).bind fun t1 => if 0 ≤ t1.1 ∧ t1.1 ≤ (a0.size : Int) ∧ (a0.size : Int) ≤ (a0.size : Int) then if t1.2.length + [a0.extract t1.1.toNat (a0.size : Int).toNat].length ≤ 281474976710656 ∧ (t1.2.length + [a0.extract t1.1.toNat (a0.size : Int).toNat].length) * 16 ≤ 140737488355328 then some (t1.2 ++ [a0.extract t1.1.toNat (a0.size : Int).toNat]) else none else none
def qaB.f (o0_0 : List ByteArray) (o0_1 : Bool) : Option (ByteArray × (List ByteArray) × Bool) := if (o0_0.length : Int) = 0 then (some (ByteArray.empty,o0_0,true)) else if (0 : Int) ≤ 0 ∧ 0 < (o0_0.length : Int) then if (0 : Int) ≤ 1 ∧ 1 ≤ (o0_0.length : Int) ∧ (o0_0.length : Int) ≤ (o0_0.length : Int) then some (o0_0.getD 0 ByteArray.empty,(o0_0.take o0_0.length).drop 1,o0_1) else none else none
def qaA.l0 : Nat → ByteArray → Int → Int → Option (Int ⊕ (Int × Bool))
 | 0,_,_,_ => none
 | n + 1,x0,x4,x5 => if x5 < (x0.size : Int) then (if x5 = 0 then (if (0 : Int) ≤ 0 ∧ 0 < (x0.size : Int) then if ((x0.data.getD 0 0).toNat : Int) = 45 then (qaA.l0 n x0 x4 (IntKind.i64.wrap (x5 + 1))) else if 0 ≤ x5 ∧ x5 < (x0.size : Int) then if ((x0.data.getD x5.toNat 0).toNat : Int) < 48 then (some (.inr (0,false))) else if 57 < ((x0.data.getD x5.toNat 0).toNat : Int) then (some (.inr (0,false))) else qaA.l0 n x0 (IntKind.i64.wrap ((IntKind.i64.wrap (x4 * 10)) - (IntKind.i64.wrap (IntKind.u8.wrap (((x0.data.getD x5.toNat 0).toNat : Int) - 48))))) (IntKind.i64.wrap (x5 + 1)) else none else none) else if 0 ≤ x5 ∧ x5 < (x0.size : Int) then if ((x0.data.getD x5.toNat 0).toNat : Int) < 48 then (some (.inr (0,false))) else if 57 < ((x0.data.getD x5.toNat 0).toNat : Int) then (some (.inr (0,false))) else qaA.l0 n x0 (IntKind.i64.wrap ((IntKind.i64.wrap (x4 * 10)) - (IntKind.i64.wrap (IntKind.u8.wrap (((x0.data.getD x5.toNat 0).toNat : Int) - 48))))) (IntKind.i64.wrap (x5 + 1)) else none) else some (.inl x4)
def qaA.f (k : Nat) (a0 : ByteArray) : Option (Int × Bool) := if (a0.size : Int) < 1 then (some (0,false)) else if 20 < (a0.size : Int) then (some (0,false)) else (qaA.l0 k a0 0 0).bind fun t1 => Sum.elim (fun t1 => if (0 : Int) ≤ 0 ∧ 0 < (a0.size : Int) then if ((a0.data.getD 0 0).toNat : Int) = 45 then ((qaE.f k t1).bind fun t3 => if (t3.toList == a0.toList) = true then (some (t1,true)) else some (0,false)) else (qaE.f k (IntKind.i64.wrap (0 - t1))).bind fun t2 => if (t2.toList == a0.toList) = true then (some (IntKind.i64.wrap (0 - t1),true)) else some (0,false) else none) (fun t1 => some (t1.1,t1.2)) t1
def qbp.f (k : Nat) (o0_0 : List ByteArray) (o0_1 : Bool) : Option (Int × (List ByteArray) × Bool) := (qaB.f o0_0 o0_1).bind fun t1 => (qaA.f k t1.1).bind fun t2 => if t1.2.2 = true then (some (t2.1,t1.2.1,true)) else some (t2.1,t1.2.1,!t2.2)
def qap.l0 (k : Nat) : Nat → (List ByteArray) → Bool → LI → Option ((List ByteArray) × Bool × LI)
 | 0,_,_,_ => none
 | n + 1,y0_0,y0_1,y1 => if 0 < (y0_0.length : Int) then (if y0_1 = true then (some (y0_0,y0_1,y1)) else (qbp.f k y0_0 y0_1).bind fun t1 => if y1.length + [t1.1].length ≤ 281474976710656 ∧ (y1.length + [t1.1].length) * 8 ≤ 140737488355328 then qap.l0 k n t1.2.1 t1.2.2 (y1 ++ [t1.1]) else none) else some (y0_0,y0_1,y1)
def qap.f (k : Nat) (o0_0 : List ByteArray) (o0_1 : Bool) : Option ((List ByteArray) × Bool × LI) := (qap.l0 k k o0_0 o0_1 []).bind fun t2 => some (t2.1,t2.2.1,t2.2.2)
def qcq.l0 : Nat → ByteArray → Int → Int → (List ByteArray) → Option (Unit ⊕ Int)
 | 0,_,_,_,_ => none
 | n + 1,x0,x6,x7,y0 => if x7 < x6 then (if 0 ≤ x7 ∧ x7 < (y0.length : Int) then if x7.toNat < y0.length then if 0 < x7 then (if ((y0.getD x7.toNat ByteArray.empty).toList == x0.toList) = true then (some (.inr x7)) else qcq.l0 n x0 x6 (IntKind.i64.wrap (x7 + 1)) y0) else qcq.l0 n x0 x6 (IntKind.i64.wrap (x7 + 1)) y0 else none else none) else some (.inl ())
def qcq.f (k : Nat) (a0 : ByteArray) : Option (Int) := (qcZ.f).bind fun t1 => (qcq.l0 k a0 (t1.length : Int) 0 t1).bind fun t2 => Sum.elim (fun t2 => some 0) (fun t2 => some t2) t2
def qat.l0 (k : Nat) : Nat → (List ByteArray) → Bool → LI → Option ((List ByteArray) × Bool × LI)
 | 0,_,_,_ => none
 | n + 1,y0_0,y0_1,y1 => if y0_1 = true then (some (y0_0,y0_1,y1)) else (qaB.f y0_0 y0_1).bind fun t2 => if (t2.1.toList == (ByteArray.mk #[41]).toList) = true then (some (t2.2.1,t2.2.2,y1)) else (qaA.f k t2.1).bind fun t3 => if t2.2.2 = true then (if y1.length + [t3.1].length ≤ 281474976710656 ∧ (y1.length + [t3.1].length) * 8 ≤ 140737488355328 then qat.l0 k n t2.2.1 true (y1 ++ [t3.1]) else none) else if y1.length + [t3.1].length ≤ 281474976710656 ∧ (y1.length + [t3.1].length) * 8 ≤ 140737488355328 then qat.l0 k n t2.2.1 (!t3.2) (y1 ++ [t3.1]) else none
def qat.f (k : Nat) (o0_0 : List ByteArray) (o0_1 : Bool) : Option ((List ByteArray) × Bool × LI) := (qaB.f o0_0 o0_1).bind fun t1 => if (t1.1.toList == (ByteArray.mk #[40]).toList) = true then ((qat.l0 k k t1.2.1 t1.2.2 []).bind fun t5 => some (t5.1,t5.2.1,t5.2.2)) else (qat.l0 k k t1.2.1 true []).bind fun t4 => some (t4.1,t4.2.1,t4.2.2)
def qef.f (k : Nat) (a0 : ByteArray) : Option (Int × Int × Int × ByteArray × Bool × LI × LI × LI) := (qa9.f k a0).bind fun t1 => (qaB.f t1 false).bind fun t2 => (qcq.f k t2.1).bind fun t3 => (qat.f k t2.2.1 t2.2.2).bind fun t4 => (qat.f k t4.1 t4.2.1).bind fun t5 => (qat.f k t5.1 t5.2.1).bind fun t6 => (qbp.f k t6.1 t6.2.1).bind fun t7 => (qbp.f k t7.2.1 t7.2.2).bind fun t8 => (qaB.f t8.2.1 t8.2.2).bind fun t9 => if t9.2.2 = true then (if (t9.1.toList == (ByteArray.mk #[45]).toList) = true then (if 0 < t3 then (some (t3,t7.1,t8.1,ByteArray.empty,false,t4.2.2,t5.2.2,t6.2.2)) else some (t3,t7.1,t8.1,ByteArray.empty,false,t4.2.2,t5.2.2,t6.2.2)) else if 0 < t3 then (some (t3,t7.1,t8.1,t9.1,false,t4.2.2,t5.2.2,t6.2.2)) else some (t3,t7.1,t8.1,t9.1,false,t4.2.2,t5.2.2,t6.2.2)) else if (t9.1.toList == (ByteArray.mk #[45]).toList) = true then (if 0 < t3 then (if (t9.1.toList == ByteArray.empty.toList) = true then (some (t3,t7.1,t8.1,ByteArray.empty,false,t4.2.2,t5.2.2,t6.2.2)) else some (t3,t7.1,t8.1,ByteArray.empty,decide ((t9.2.1.length : Int) = 0),t4.2.2,t5.2.2,t6.2.2)) else some (t3,t7.1,t8.1,ByteArray.empty,false,t4.2.2,t5.2.2,t6.2.2)) else if 0 < t3 then (if (t9.1.toList == ByteArray.empty.toList) = true then (some (t3,t7.1,t8.1,t9.1,false,t4.2.2,t5.2.2,t6.2.2)) else some (t3,t7.1,t8.1,t9.1,decide ((t9.2.1.length : Int) = 0),t4.2.2,t5.2.2,t6.2.2)) else some (t3,t7.1,t8.1,t9.1,false,t4.2.2,t5.2.2,t6.2.2)
def qdf.f (k : Nat) (a0_0 : LI) (a0_1 : ByteArray) (a0_2 : List LN) (a0_3 : LI) : Option (Int) := (qaq.f k a0_0 a0_1 a0_2 a0_3).bind fun t1 => some t1.1
def qbg.l0 (k : Nat) : Nat → ByteArray → Int → ByteArray → (List ByteArray) → ByteArray → LI → (List LN) → Option ((List LN) ⊕ (Int × ByteArray))
 | 0,_,_,_,_,_,_,_ => none
 | n + 1,x0,x8,y0,y1,y2,y3,y4 => if x8 < IntKind.i64.wrap ((y1.length : Int) - 1) then (if 0 ≤ x8 ∧ x8 < (y1.length : Int) then if x8.toNat < y1.length then (qef.f k (y1.getD x8.toNat ByteArray.empty)).bind fun t6 => if t6.2.2.2.2.1 = true then (if y4.length + [(t6.1,(t6.2.2.2.2.2.1,(t6.2.2.2.2.2.2.1,(t6.2.2.2.2.2.2.2,(t6.2.1,(t6.2.2.1,t6.2.2.2.1))))))].length ≤ 281474976710656 ∧ (y4.length + [(t6.1,(t6.2.2.2.2.2.1,(t6.2.2.2.2.2.2.1,(t6.2.2.2.2.2.2.2,(t6.2.1,(t6.2.2.1,t6.2.2.2.1))))))].length) * 112 ≤ 140737488355328 then qbg.l0 k n x0 (IntKind.i64.wrap (x8 + 1)) y0 y1 y2 y3 (y4 ++ [(t6.1,(t6.2.2.2.2.2.1,(t6.2.2.2.2.2.2.1,(t6.2.2.2.2.2.2.2,(t6.2.1,(t6.2.2.1,t6.2.2.2.1))))))]) else none) else some (.inr (12,ByteArray.empty)) else none else none) else some (.inl y4)
def qbg.f (k : Nat) (a0 : ByteArray) : Option (ByteArray × Int × LI × (List LN) × LI) := if 65536 < (a0.size : Int) then (some (ByteArray.empty,3,[],[],[])) else (qbL.f k a0).bind fun t1 => if t1.1 = true then (if (t1.2.length : Int) < 2 then (some (ByteArray.empty,12,[],[],[])) else if (0 : Int) ≤ 0 ∧ 0 < (t1.2.length : Int) then if 0 < t1.2.length then (qa9.f k (t1.2.getD 0 ByteArray.empty)).bind fun t2 => (qaB.f t2 false).bind fun t3 => (qaB.f t3.2.1 t3.2.2).bind fun t4 => if (t3.1.toList == (ByteArray.mk #[109,101,115,104]).toList) = true then ((qap.f k t4.2.1 t4.2.2).bind fun t5 => if (t4.1.toList == (ByteArray.mk #[45]).toList) = true then (if (t4.1.toList == ByteArray.empty.toList) = true then (some (ByteArray.empty,12,[],[],[])) else if (t5.2.2.length : Int) = 0 then (if t5.2.1 = true then (some (ByteArray.empty,12,[],[],[])) else (qbg.l0 k k a0 1 ByteArray.empty t1.2 ByteArray.empty t5.2.2 []).bind fun t7 => Sum.elim (fun t7 => if 0 ≤ IntKind.i64.wrap ((t1.2.length : Int) - 1) ∧ IntKind.i64.wrap ((t1.2.length : Int) - 1) < (t1.2.length : Int) then if (IntKind.i64.wrap ((t1.2.length : Int) - 1)).toNat < t1.2.length then (qa9.f k (t1.2.getD (IntKind.i64.wrap ((t1.2.length : Int) - 1)).toNat ByteArray.empty)).bind fun t8 => (qaB.f t8 false).bind fun t9 => if (t9.1.toList == (ByteArray.mk #[111,117,116,115]).toList) = true then ((qap.f k t9.2.1 t9.2.2).bind fun t10 => if t10.2.1 = true then (some (ByteArray.empty,12,[],[],[])) else (qdf.f k t5.2.2 ByteArray.empty t7 t10.2.2).bind fun t11 => if t11 = 0 then ((qar.f k t5.2.2 ByteArray.empty t7 t10.2.2).bind fun t12 => if (t12.1.toList == a0.toList) = true then (some (ByteArray.empty,0,t5.2.2,t7,t10.2.2)) else some (ByteArray.empty,12,[],[],[])) else some (ByteArray.empty,t11,[],[],[])) else some (ByteArray.empty,12,[],[],[]) else none else none) (fun t7 => some (t7.2,t7.1,[],[],[])) t7) else some (ByteArray.empty,12,[],[],[])) else if (!(t4.1.toList == ByteArray.empty.toList)) = true then (if t5.2.1 = true then (some (ByteArray.empty,12,[],[],[])) else (qbg.l0 k k a0 1 ByteArray.empty t1.2 t4.1 t5.2.2 []).bind fun t13 => Sum.elim (fun t13 => if 0 ≤ IntKind.i64.wrap ((t1.2.length : Int) - 1) ∧ IntKind.i64.wrap ((t1.2.length : Int) - 1) < (t1.2.length : Int) then if (IntKind.i64.wrap ((t1.2.length : Int) - 1)).toNat < t1.2.length then (qa9.f k (t1.2.getD (IntKind.i64.wrap ((t1.2.length : Int) - 1)).toNat ByteArray.empty)).bind fun t14 => (qaB.f t14 false).bind fun t15 => if (t15.1.toList == (ByteArray.mk #[111,117,116,115]).toList) = true then ((qap.f k t15.2.1 t15.2.2).bind fun t16 => if t16.2.1 = true then (some (ByteArray.empty,12,[],[],[])) else (qdf.f k t5.2.2 t4.1 t13 t16.2.2).bind fun t17 => if t17 = 0 then ((qar.f k t5.2.2 t4.1 t13 t16.2.2).bind fun t18 => if (t18.1.toList == a0.toList) = true then (some (t4.1,0,t5.2.2,t13,t16.2.2)) else some (ByteArray.empty,12,[],[],[])) else some (ByteArray.empty,t17,[],[],[])) else some (ByteArray.empty,12,[],[],[]) else none else none) (fun t13 => some (t13.2,t13.1,[],[],[])) t13) else some (ByteArray.empty,12,[],[],[])) else (qap.f k t4.2.1 t4.2.2).bind fun t19 => if (t4.1.toList == (ByteArray.mk #[45]).toList) = true then (some (ByteArray.empty,12,[],[],[])) else some (ByteArray.empty,12,[],[],[]) else none else none) else some (ByteArray.empty,12,[],[],[])
def qc5.f (k : Nat) (a0 : ByteArray) : Option (Bool) := (qc0.f k a0).bind fun t1 => (qbg.f k a0).bind fun t2 => if t1.2.2.2.2 = t2.2.1 then ((qb4.f k t1.1 t1.2.1 t1.2.2.1 t1.2.2.2.1 t2.2.2.1 t2.1 t2.2.2.2.1 t2.2.2.2.2).bind fun t3 => some t3) else some false
def qbB.l0 : Nat → (List ByteArray) → (List ByteArray) → Int → Int → Option (Unit ⊕ Bool)
 | 0,_,_,_,_ => none
 | n + 1,x3,x4,x40,x41 => if x41 < x40 then (if 0 ≤ x41 ∧ x41 < (x3.length : Int) then if 0 ≤ x41 ∧ x41 < (x4.length : Int) then if ((x3.getD x41.toNat ByteArray.empty).toList == (x4.getD x41.toNat ByteArray.empty).toList) = true then (qbB.l0 n x3 x4 x40 (IntKind.i64.wrap (x41 + 1))) else some (.inr false) else none else none) else some (.inl ())
def qbB.f (k : Nat) (a0 : ByteArray) : Option (Bool) := (qci.f k a0).bind fun t1 => (qa9.f k a0).bind fun t2 => (qcp.f a0).bind fun t3 => (qaA.f k a0).bind fun t4 => if (t1.length : Int) = (t2.length : Int) then (if t3.1 = t4.1 then (if (t3.2 == t4.2) = true then ((qbB.l0 k t1 t2 (t1.length : Int) 0).bind fun t5 => Sum.elim (fun t5 => some true) (fun t5 => some t5) t5) else some false) else some false) else some false
def qdO.f (k : Nat) : Option (Bool) := (qc0.f k (ByteArray.mk #[109,101,115,104,32,45,10,111,117,116,115,10])).bind fun t1 => (qc0.f k ByteArray.empty).bind fun t2 => (qcp.f (ByteArray.mk #[45,55])).bind fun t3 => (qcp.f (ByteArray.mk #[48,49])).bind fun t4 => if t1.2.2.2.2 = 0 then (if (t1.2.2.1.length : Int) = 0 then (if t2.2.2.2.2 = 12 then (if t3.1 = -7 then (if t3.2 = true then (if t4.2 = true then (some false) else (qci.f k (ByteArray.mk #[97,32,32,98])).bind fun t5 => if (t5.length : Int) = 3 then ((qci.f k ByteArray.empty).bind fun t6 => some (decide ((t6.length : Int) = 1))) else some false) else some false) else some false) else some false) else some false) else some false
def qac.l2 (k : Nat) : Nat → Int → ByteArray → Int → Int → Int → (List ByteArray) → Option (Unit ⊕ Bool)
 | 0,_,_,_,_,_,_ => none
 | n + 1,x1,x2,x4,x53,x54,y0 => if x54 < x53 then (if 0 ≤ x54 ∧ x54 < (y0.length : Int) then if x54.toNat < y0.length then if 0 ≤ ((0 : Nat) : Int) ∧ ((0 : Nat) : Int) ≤ x4 ∧ x4 ≤ (x2.size : Int) then if (x2.extract ((0 : Nat) : Int).toNat x4.toNat).size + (y0.getD x54.toNat ByteArray.empty).size ≤ 9223372036854775807 then if 0 ≤ IntKind.i64.wrap (x4 + 1) ∧ IntKind.i64.wrap (x4 + 1) ≤ (x2.size : Int) ∧ (x2.size : Int) ≤ (x2.size : Int) then if ((x2.extract ((0 : Nat) : Int).toNat x4.toNat) ++ (y0.getD x54.toNat ByteArray.empty)).size + (x2.extract (IntKind.i64.wrap (x4 + 1)).toNat (x2.size : Int).toNat).size ≤ 9223372036854775807 then (qc5.f k (((x2.extract ((0 : Nat) : Int).toNat x4.toNat) ++ (y0.getD x54.toNat ByteArray.empty)) ++ (x2.extract (IntKind.i64.wrap (x4 + 1)).toNat (x2.size : Int).toNat))).bind fun t5 => if t5 = true then (qac.l2 k n x1 x2 x4 x53 (IntKind.i64.wrap (x54 + 1)) y0) else some (.inr false) else none else none else none else none else none else none) else some (.inl ())
def qac.l1 (k : Nat) : Nat → Int → ByteArray → Int → Option (Unit ⊕ Bool)
 | 0,_,_,_ => none
 | n + 1,x1,x2,x4 => if x4 ≤ (x2.size : Int) then (if x4 < 400 then (if 0 ≤ ((0 : Nat) : Int) ∧ ((0 : Nat) : Int) ≤ x4 ∧ x4 ≤ (x2.size : Int) then (qc5.f k (x2.extract ((0 : Nat) : Int).toNat x4.toNat)).bind fun t4 => if t4 = true then (if x4 = (x2.size : Int) then (some (.inl ())) else if 0 ≤ x4 ∧ x4 ≤ IntKind.i64.wrap (x4 + 1) ∧ IntKind.i64.wrap (x4 + 1) ≤ (x2.size : Int) then if (x2.extract x4.toNat (IntKind.i64.wrap (x4 + 1)).toNat).size + (x2.extract x4.toNat (IntKind.i64.wrap (x4 + 1)).toNat).size ≤ 9223372036854775807 then (qac.l2 k n x1 x2 x4 ([ByteArray.empty,(ByteArray.mk #[32]),(ByteArray.mk #[10]),(ByteArray.mk #[40]),(ByteArray.mk #[48]),(ByteArray.mk #[45]),(ByteArray.mk #[120]),(x2.extract x4.toNat (IntKind.i64.wrap (x4 + 1)).toNat) ++ (x2.extract x4.toNat (IntKind.i64.wrap (x4 + 1)).toNat)].length : Int) 0 [ByteArray.empty,(ByteArray.mk #[32]),(ByteArray.mk #[10]),(ByteArray.mk #[40]),(ByteArray.mk #[48]),(ByteArray.mk #[45]),(ByteArray.mk #[120]),(x2.extract x4.toNat (IntKind.i64.wrap (x4 + 1)).toNat) ++ (x2.extract x4.toNat (IntKind.i64.wrap (x4 + 1)).toNat)]).bind fun t6 => Sum.elim (fun t6 => qac.l1 k n x1 x2 (IntKind.i64.wrap (x4 + 1))) (fun t6 => some (.inr t6)) t6 else none else none) else some (.inr false) else none) else some (.inl ())) else some (.inl ())
def qac.l0 (k : Nat) : Nat → Int → Option (Unit ⊕ Bool)
 | 0,_ => none
 | n + 1,x1 => if x1 < 4 then ((qb5.f k x1).bind fun t1 => (qau.f k t1).bind fun t2 => (qar.f k t2.2.1 t2.1 t2.2.2.1 t2.2.2.2).bind fun t3 => (qac.l1 k n x1 t3.1 0).bind fun t7 => Sum.elim (fun t7 => qac.l0 k n (IntKind.i64.wrap (x1 + 1))) (fun t7 => some (.inr t7)) t7) else some (.inl ())
def qac.l3 (k : Nat) : Nat → Int → Int → (List ByteArray) → Option (Unit ⊕ Bool)
 | 0,_,_,_ => none
 | n + 1,x72,x73,y0 => if x73 < x72 then (if 0 ≤ x73 ∧ x73 < (y0.length : Int) then if x73.toNat < y0.length then (qbB.f k (y0.getD x73.toNat ByteArray.empty)).bind fun t9 => if t9 = true then (qac.l3 k n x72 (IntKind.i64.wrap (x73 + 1)) y0) else some (.inr false) else none else none) else some (.inl ())
def qac.l4 (k : Nat) : Nat → Int → Int → (List ByteArray) → Option (Unit ⊕ Bool)
 | 0,_,_,_ => none
 | n + 1,x82,x83,y0 => if x83 < x82 then (if 0 ≤ x83 ∧ x83 < (y0.length : Int) then if x83.toNat < y0.length then (qc5.f k (y0.getD x83.toNat ByteArray.empty)).bind fun t11 => if t11 = true then (qac.l4 k n x82 (IntKind.i64.wrap (x83 + 1)) y0) else some (.inr false) else none else none) else some (.inl ())
def qac.f (k : Nat) : Option (Bool) := (qac.l0 k k 0).bind fun t8 => Sum.elim (fun t8 => (qac.l3 k k ([ByteArray.empty,(ByteArray.mk #[48]),(ByteArray.mk #[45,48]),(ByteArray.mk #[45]),(ByteArray.mk #[48,48]),(ByteArray.mk #[57,50,50,51,51,55,50,48,51,54,56,53,52,55,55,53,56,48,55]),(ByteArray.mk #[57,50,50,51,51,55,50,48,51,54,56,53,52,55,55,53,56,48,56]),(ByteArray.mk #[45,57,50,50,51,51,55,50,48,51,54,56,53,52,55,55,53,56,48,56]),(ByteArray.mk #[45,57,50,50,51,51,55,50,48,51,54,56,53,52,55,55,53,56,48,57]),(ByteArray.mk #[57,57,57,57,57,57,57,57,57,57,57,57,57,57,57,57,57,57,57,57]),(ByteArray.mk #[49,56,52,52,54,55,52,52,48,55,51,55,48,57,53,53,49,54,49,54]),(ByteArray.mk #[49,120]),(ByteArray.mk #[43,49]),(ByteArray.mk #[32,49]),(ByteArray.mk #[45,45,49]),(ByteArray.mk #[97,32,98]),(ByteArray.mk #[32,97]),(ByteArray.mk #[97,32]),(ByteArray.mk #[32,32])].length : Int) 0 [ByteArray.empty,(ByteArray.mk #[48]),(ByteArray.mk #[45,48]),(ByteArray.mk #[45]),(ByteArray.mk #[48,48]),(ByteArray.mk #[57,50,50,51,51,55,50,48,51,54,56,53,52,55,55,53,56,48,55]),(ByteArray.mk #[57,50,50,51,51,55,50,48,51,54,56,53,52,55,55,53,56,48,56]),(ByteArray.mk #[45,57,50,50,51,51,55,50,48,51,54,56,53,52,55,55,53,56,48,56]),(ByteArray.mk #[45,57,50,50,51,51,55,50,48,51,54,56,53,52,55,55,53,56,48,57]),(ByteArray.mk #[57,57,57,57,57,57,57,57,57,57,57,57,57,57,57,57,57,57,57,57]),(ByteArray.mk #[49,56,52,52,54,55,52,52,48,55,51,55,48,57,53,53,49,54,49,54]),(ByteArray.mk #[49,120]),(ByteArray.mk #[43,49]),(ByteArray.mk #[32,49]),(ByteArray.mk #[45,45,49]),(ByteArray.mk #[97,32,98]),(ByteArray.mk #[32,97]),(ByteArray.mk #[97,32]),(ByteArray.mk #[32,32])]).bind fun t10 => Sum.elim (fun t10 => (qac.l4 k k ([(ByteArray.mk #[109,101,115,104,32,45,32,50,10,111,117,116,115,10]),(ByteArray.mk #[109,101,115,104,32,120,32,50,10,111,117,116,115,10]),(ByteArray.mk #[109,101,115,104,32,32,10,111,117,116,115,10]),(ByteArray.mk #[109,101,115,104,10,111,117,116,115,10]),(ByteArray.mk #[109,101,115,104,32,45,10,111,117,116,115]),(ByteArray.mk #[109,101,115,104,32,45,10]),(ByteArray.mk #[111,117,116,115,10,109,101,115,104,32,45,10]),(ByteArray.mk #[109,101,115,104,32,45,10,111,117,116,115,32,48,10]),(ByteArray.mk #[109,101,115,104,32,120,32,50,10,102,105,108,108,32,40,32,41,32,40,32,41,32,40,32,41,32,48,32,48,32,10,111,117,116,115,10]),(ByteArray.mk #[109,101,115,104,32,120,32,50,10,102,105,108,108,32,40,32,41,32,40,32,50,32,41,32,40,32,41,32,48,32,48,32,46,10,111,117,116,115,32,48,10]),(ByteArray.mk #[109,101,115,104,32,120,32,50,10,102,105,108,108,32,40,32,41,32,40,32,50,32,41,32,40,32,41,32,48,32,48,32,122,10,111,117,116,115,32,48,10])].length : Int) 0 [(ByteArray.mk #[109,101,115,104,32,45,32,50,10,111,117,116,115,10]),(ByteArray.mk #[109,101,115,104,32,120,32,50,10,111,117,116,115,10]),(ByteArray.mk #[109,101,115,104,32,32,10,111,117,116,115,10]),(ByteArray.mk #[109,101,115,104,10,111,117,116,115,10]),(ByteArray.mk #[109,101,115,104,32,45,10,111,117,116,115]),(ByteArray.mk #[109,101,115,104,32,45,10]),(ByteArray.mk #[111,117,116,115,10,109,101,115,104,32,45,10]),(ByteArray.mk #[109,101,115,104,32,45,10,111,117,116,115,32,48,10]),(ByteArray.mk #[109,101,115,104,32,120,32,50,10,102,105,108,108,32,40,32,41,32,40,32,41,32,40,32,41,32,48,32,48,32,10,111,117,116,115,10]),(ByteArray.mk #[109,101,115,104,32,120,32,50,10,102,105,108,108,32,40,32,41,32,40,32,50,32,41,32,40,32,41,32,48,32,48,32,46,10,111,117,116,115,32,48,10]),(ByteArray.mk #[109,101,115,104,32,120,32,50,10,102,105,108,108,32,40,32,41,32,40,32,50,32,41,32,40,32,41,32,48,32,48,32,122,10,111,117,116,115,32,48,10])]).bind fun t12 => Sum.elim (fun t12 => if (0 : Int) ≤ 65537 ∧ (65537 : Int) ≤ 281474976710656 ∧ ((1 : Nat) : Int) * 65537 ≤ 140737488355328 then (qc5.f k (strOfNums (List.replicate 65537 (0 : Int)))).bind fun t13 => if t13 = true then ((qdO.f k).bind fun t14 => some t14) else some false else none) (fun t12 => some t12) t12) (fun t10 => some t10) t10) (fun t8 => some t8) t8
end Go.Pf

namespace Go.Proofs
open Go.Shelf
def Tryz.lays156_ren : Go.Shelf.Ren := ⟨fun | 156 => 71 | 165 => 108 | 166 => 70 | 169 => 73 | 240 => 107 | 241 => 132 | 276 => 131 | 277 => 150 | n => n,fun | 31 => 32 | 9 => 9 | 3 => 3 | 4 => 4 | 0 => 0 | 20 => 20 | 72 => 119 | 76 => 122 | 70 => 117 | 37 => 33 | 75 => 121 | 127 => 148 | 164 => 160 | 5 => 5 | 80 => 103 | n => n,fun | n => n⟩
theorem Tryz.lays156 : Go.Proofs.Lays.n156 Tryz.prog Tryz.lays156_ren := {
 mixed := by kernel_rfl
 f156 := Tryz.func71.trans (congrArg some (by kernel_rfl))
 f165 := Tryz.func108.trans (congrArg some (by kernel_rfl))
 f166 := Tryz.func70.trans (congrArg some (by kernel_rfl))
 f169 := Tryz.func73.trans (congrArg some (by kernel_rfl))
 f240 := Tryz.func107.trans (congrArg some (by kernel_rfl))
 f241 := Tryz.func132.trans (congrArg some (by kernel_rfl))
 f276 := Tryz.func131.trans (congrArg some (by kernel_rfl))
 f277 := Tryz.func150.trans (congrArg some (by kernel_rfl))
 t0 := Tryz.underlying0
 a0 := Tryz.isAgg0
 z0 := Tryz.sizeOf0
 v0 := Tryz.zeroValue0
 t3 := Tryz.underlying3
 a3 := Tryz.isAgg3
 z3 := Tryz.sizeOf3
 v3 := Tryz.zeroValue3
 t4 := Tryz.underlying4
 a4 := Tryz.isAgg4
 z4 := Tryz.sizeOf4
 v4 := Tryz.zeroValue4
 t9 := Tryz.underlying9
 a9 := Tryz.isAgg9
 z9 := Tryz.sizeOf9
 v9 := Tryz.zeroValue9
 t20 := Tryz.underlying20
 a20 := Tryz.isAgg20
 z20 := Tryz.sizeOf20
 v20 := Tryz.zeroValue20
 t31 := Tryz.underlying32
 a31 := Tryz.isAgg32
 z31 := Tryz.sizeOf32
 v31 := Tryz.zeroValue32
 t37 := Tryz.underlying33
 a37 := Tryz.isAgg33
 z37 := Tryz.sizeOf33
 v37 := Tryz.zeroValue33
 t70 := Tryz.underlying117
 a70 := Tryz.isAgg117
 z70 := Tryz.sizeOf117
 v70 := Tryz.zeroValue117
 t72 := Tryz.underlying119
 a72 := Tryz.isAgg119
 z72 := Tryz.sizeOf119
 v72 := Tryz.zeroValue119
 t75 := Tryz.underlying121
 a75 := Tryz.isAgg121
 z75 := Tryz.sizeOf121
 v75 := Tryz.zeroValue121
 t76 := Tryz.underlying122
 a76 := Tryz.isAgg122
 z76 := Tryz.sizeOf122
 v76 := Tryz.zeroValue122
 t127 := Tryz.underlying148
 a127 := Tryz.isAgg148
 z127 := Tryz.sizeOf148
 v127 := Tryz.zeroValue148
 t164 := Tryz.underlying160
 a164 := Tryz.isAgg160
 z164 := Tryz.sizeOf160
 v164 := Tryz.zeroValue160 }
theorem Tryz.Builder_Extra_156 : Builder.Extra Tryz.prog Tryz.lays156_ren := {
 sizeBuilder := by kernel_rfl
 liesBuilder := by kernel_rfl
 t5 := Tryz.underlying5
 a5 := Tryz.isAgg5
 z5 := Tryz.sizeOf5
 v5 := Tryz.zeroValue5
 infoByte := by kernel_rfl
 cellsByte := by kernel_rfl
 sizeByte := by kernel_rfl
 neB5 := by decide }
def Tryz.laysM173_ren : Go.Shelf.Ren := ⟨fun | 173 => 111 | 246 => 138 | 283 => 156 | 284 => 157 | 285 => 158 | 286 => 159 | 129 => 173 | 317 => 172 | 318 => 174 | 319 => 175 | 320 => 176 | 337 => 187 | 338 => 188 | n => n,fun | 2 => 2 | 3 => 3 | 9 => 9 | 4 => 4 | 171 => 182 | 0 => 0 | 53 => 163 | 37 => 33 | 5 => 5 | 173 => 185 | 212 => 202 | 51 => 203 | 20 => 20 | 213 => 204 | 46 => 166 | 232 => 210 | 233 => 211 | n => n,fun | 17 => 3 | 18 => 4 | 19 => 5 | n => n⟩
theorem Tryz.laysM173 : Go.Proofs.LaysM.n173 Tryz.prog Tryz.laysM173_ren := {
 mixed := by kernel_rfl
 f129 := Tryz.func173.trans (congrArg some (by kernel_rfl))
 f173 := Tryz.func111.trans (congrArg some (by kernel_rfl))
 f246 := Tryz.func138.trans (congrArg some (by kernel_rfl))
 f283 := Tryz.func156.trans (congrArg some (by kernel_rfl))
 f284 := Tryz.func157.trans (congrArg some (by kernel_rfl))
 f285 := Tryz.func158.trans (congrArg some (by kernel_rfl))
 f286 := Tryz.func159.trans (congrArg some (by kernel_rfl))
 f317 := Tryz.func172.trans (congrArg some (by kernel_rfl))
 f318 := Tryz.func174.trans (congrArg some (by kernel_rfl))
 f319 := Tryz.func175.trans (congrArg some (by kernel_rfl))
 f320 := Tryz.func176.trans (congrArg some (by kernel_rfl))
 f337 := Tryz.func187.trans (congrArg some (by kernel_rfl))
 f338 := Tryz.func188.trans (congrArg some (by kernel_rfl))
 t0 := Tryz.underlying0
 a0 := Tryz.isAgg0
 z0 := Tryz.sizeOf0
 v0 := Tryz.zeroValue0
 t2 := Tryz.underlying2
 a2 := Tryz.isAgg2
 z2 := Tryz.sizeOf2
 v2 := Tryz.zeroValue2
 t3 := Tryz.underlying3
 a3 := Tryz.isAgg3
 z3 := Tryz.sizeOf3
 v3 := Tryz.zeroValue3
 t4 := Tryz.underlying4
 a4 := Tryz.isAgg4
 z4 := Tryz.sizeOf4
 v4 := Tryz.zeroValue4
 t5 := Tryz.underlying5
 a5 := Tryz.isAgg5
 z5 := Tryz.sizeOf5
 v5 := Tryz.zeroValue5
 t9 := Tryz.underlying9
 a9 := Tryz.isAgg9
 z9 := Tryz.sizeOf9
 v9 := Tryz.zeroValue9
 t20 := Tryz.underlying20
 a20 := Tryz.isAgg20
 z20 := Tryz.sizeOf20
 v20 := Tryz.zeroValue20
 t37 := Tryz.underlying33
 a37 := Tryz.isAgg33
 z37 := Tryz.sizeOf33
 v37 := Tryz.zeroValue33
 t46 := Tryz.underlying166
 a46 := Tryz.isAgg166
 z46 := Tryz.sizeOf166
 v46 := Tryz.zeroValue166
 t51 := Tryz.underlying203
 a51 := Tryz.isAgg203
 z51 := Tryz.sizeOf203
 v51 := Tryz.zeroValue203
 t53 := Tryz.underlying163
 a53 := Tryz.isAgg163
 z53 := Tryz.sizeOf163
 v53 := Tryz.zeroValue163
 t171 := Tryz.underlying182
 a171 := Tryz.isAgg182
 z171 := Tryz.sizeOf182
 v171 := Tryz.zeroValue182
 t173 := Tryz.underlying185
 a173 := Tryz.isAgg185
 z173 := Tryz.sizeOf185
 v173 := Tryz.zeroValue185
 t212 := Tryz.underlying202
 a212 := Tryz.isAgg202
 z212 := Tryz.sizeOf202
 v212 := Tryz.zeroValue202
 t213 := Tryz.underlying204
 a213 := Tryz.isAgg204
 z213 := Tryz.sizeOf204
 t232 := Tryz.underlying210
 a232 := Tryz.isAgg210
 z232 := Tryz.sizeOf210
 v232 := Tryz.zeroValue210
 t233 := Tryz.underlying211
 a233 := Tryz.isAgg211
 z233 := Tryz.sizeOf211
 v233 := Tryz.zeroValue211
 g17 := by kernel_rfl
 g18 := by kernel_rfl
 g19 := by kernel_rfl
 i0 := by kernel_rfl
 i2 := by kernel_rfl
 i3 := by kernel_rfl
 i4 := by kernel_rfl
 i5 := by kernel_rfl
 i9 := by kernel_rfl
 i20 := by kernel_rfl
 i37 := by kernel_rfl
 i46 := by kernel_rfl
 i51 := by kernel_rfl
 i53 := by kernel_rfl
 i171 := by kernel_rfl
 i173 := by kernel_rfl
 i212 := by kernel_rfl
 i232 := by kernel_rfl
 i233 := by kernel_rfl
 m17 := by kernel_rfl
 m18 := by kernel_rfl
 m19 := by kernel_rfl }
def Tryz.laysC174_ren : Go.Shelf.Ren := ⟨fun | 174 => 74 | 247 => 109 | 245 => 110 | 287 => 133 | 279 => 134 | 280 => 135 | 281 => 136 | 282 => 137 | 321 => 151 | 322 => 152 | 316 => 153 | 171 => 155 | 205 => 154 | 243 => 171 | 246 => 138 | 283 => 156 | 284 => 157 | 285 => 158 | 286 => 159 | 129 => 173 | 317 => 172 | 318 => 174 | 319 => 175 | 320 => 176 | 337 => 187 | 338 => 188 | n => n,fun | 9 => 9 | 3 => 3 | 2 => 2 | 75 => 121 | 85 => 126 | 4 => 4 | 167 => 162 | 5 => 5 | 53 => 163 | 175 => 164 | 46 => 166 | 168 => 167 | 37 => 33 | 0 => 0 | 210 => 180 | 21 => 21 | 127 => 148 | 145 => 200 | 143 => 198 | 171 => 182 | 173 => 185 | 212 => 202 | 51 => 203 | 20 => 20 | 213 => 204 | 232 => 210 | 233 => 211 | 80 => 103 | n => n,fun | 15 => 0 | 16 => 1 | 17 => 3 | 18 => 4 | 19 => 5 | n => n⟩
theorem Tryz.laysC174 : Go.Proofs.LaysC.n174 Tryz.prog Tryz.laysC174_ren := {
 mixed := by kernel_rfl
 f129 := Tryz.func173.trans (congrArg some (by kernel_rfl))
 f171 := Tryz.func155.trans (congrArg some (by kernel_rfl))
 f174 := Tryz.func74.trans (congrArg some (by kernel_rfl))
 f205 := Tryz.func154.trans (congrArg some (by kernel_rfl))
 f243 := Tryz.func171.trans (congrArg some (by kernel_rfl))
 f245 := Tryz.func110.trans (congrArg some (by kernel_rfl))
 f246 := Tryz.func138.trans (congrArg some (by kernel_rfl))
 f247 := Tryz.func109.trans (congrArg some (by kernel_rfl))
 f279 := Tryz.func134.trans (congrArg some (by kernel_rfl))
 f280 := Tryz.func135.trans (congrArg some (by kernel_rfl))
 f281 := Tryz.func136.trans (congrArg some (by kernel_rfl))
 f282 := Tryz.func137.trans (congrArg some (by kernel_rfl))
 f283 := Tryz.func156.trans (congrArg some (by kernel_rfl))
 f284 := Tryz.func157.trans (congrArg some (by kernel_rfl))
 f285 := Tryz.func158.trans (congrArg some (by kernel_rfl))
 f286 := Tryz.func159.trans (congrArg some (by kernel_rfl))
 f287 := Tryz.func133.trans (congrArg some (by kernel_rfl))
 f316 := Tryz.func153.trans (congrArg some (by kernel_rfl))
 f317 := Tryz.func172.trans (congrArg some (by kernel_rfl))
 f318 := Tryz.func174.trans (congrArg some (by kernel_rfl))
 f319 := Tryz.func175.trans (congrArg some (by kernel_rfl))
 f320 := Tryz.func176.trans (congrArg some (by kernel_rfl))
 f321 := Tryz.func151.trans (congrArg some (by kernel_rfl))
 f322 := Tryz.func152.trans (congrArg some (by kernel_rfl))
 f337 := Tryz.func187.trans (congrArg some (by kernel_rfl))
 f338 := Tryz.func188.trans (congrArg some (by kernel_rfl))
 t0 := Tryz.underlying0
 a0 := Tryz.isAgg0
 z0 := Tryz.sizeOf0
 v0 := Tryz.zeroValue0
 t2 := Tryz.underlying2
 a2 := Tryz.isAgg2
 z2 := Tryz.sizeOf2
 v2 := Tryz.zeroValue2
 t3 := Tryz.underlying3
 a3 := Tryz.isAgg3
 z3 := Tryz.sizeOf3
 v3 := Tryz.zeroValue3
 t4 := Tryz.underlying4
 a4 := Tryz.isAgg4
 z4 := Tryz.sizeOf4
 v4 := Tryz.zeroValue4
 t5 := Tryz.underlying5
 a5 := Tryz.isAgg5
 z5 := Tryz.sizeOf5
 v5 := Tryz.zeroValue5
 t9 := Tryz.underlying9
 a9 := Tryz.isAgg9
 z9 := Tryz.sizeOf9
 v9 := Tryz.zeroValue9
 t20 := Tryz.underlying20
 a20 := Tryz.isAgg20
 z20 := Tryz.sizeOf20
 v20 := Tryz.zeroValue20
 t21 := Tryz.underlying21
 a21 := Tryz.isAgg21
 z21 := Tryz.sizeOf21
 v21 := Tryz.zeroValue21
 t37 := Tryz.underlying33
 a37 := Tryz.isAgg33
 z37 := Tryz.sizeOf33
 v37 := Tryz.zeroValue33
 t46 := Tryz.underlying166
 a46 := Tryz.isAgg166
 z46 := Tryz.sizeOf166
 v46 := Tryz.zeroValue166
 t51 := Tryz.underlying203
 a51 := Tryz.isAgg203
 z51 := Tryz.sizeOf203
 v51 := Tryz.zeroValue203
 t53 := Tryz.underlying163
 a53 := Tryz.isAgg163
 z53 := Tryz.sizeOf163
 v53 := Tryz.zeroValue163
 t75 := Tryz.underlying121
 a75 := Tryz.isAgg121
 z75 := Tryz.sizeOf121
 v75 := Tryz.zeroValue121
 t85 := Tryz.underlying126
 a85 := Tryz.isAgg126
 z85 := Tryz.sizeOf126
 v85 := Tryz.zeroValue126
 t127 := Tryz.underlying148
 a127 := Tryz.isAgg148
 z127 := Tryz.sizeOf148
 v127 := Tryz.zeroValue148
 t143 := Tryz.underlying198
 a143 := Tryz.isAgg198
 z143 := Tryz.sizeOf198
 v143 := Tryz.zeroValue198
 t145 := Tryz.underlying200
 a145 := Tryz.isAgg200
 z145 := Tryz.sizeOf200
 v145 := Tryz.zeroValue200
 t167 := Tryz.underlying162
 a167 := Tryz.isAgg162
 z167 := Tryz.sizeOf162
 v167 := Tryz.zeroValue162
 t168 := Tryz.underlying167
 a168 := Tryz.isAgg167
 z168 := Tryz.sizeOf167
 v168 := Tryz.zeroValue167
 t171 := Tryz.underlying182
 a171 := Tryz.isAgg182
 z171 := Tryz.sizeOf182
 v171 := Tryz.zeroValue182
 t173 := Tryz.underlying185
 a173 := Tryz.isAgg185
 z173 := Tryz.sizeOf185
 v173 := Tryz.zeroValue185
 t175 := Tryz.underlying164
 a175 := Tryz.isAgg164
 z175 := Tryz.sizeOf164
 v175 := Tryz.zeroValue164
 t210 := Tryz.underlying180
 a210 := Tryz.isAgg180
 z210 := Tryz.sizeOf180
 v210 := Tryz.zeroValue180
 t212 := Tryz.underlying202
 a212 := Tryz.isAgg202
 z212 := Tryz.sizeOf202
 v212 := Tryz.zeroValue202
 t213 := Tryz.underlying204
 a213 := Tryz.isAgg204
 z213 := Tryz.sizeOf204
 t232 := Tryz.underlying210
 a232 := Tryz.isAgg210
 z232 := Tryz.sizeOf210
 v232 := Tryz.zeroValue210
 t233 := Tryz.underlying211
 a233 := Tryz.isAgg211
 z233 := Tryz.sizeOf211
 v233 := Tryz.zeroValue211
 g15 := by kernel_rfl
 g16 := by kernel_rfl
 g17 := by kernel_rfl
 g18 := by kernel_rfl
 g19 := by kernel_rfl
 t80 := Tryz.underlying103
 a80 := Tryz.isAgg103
 z80 := Tryz.sizeOf103
 v80 := Tryz.zeroValue103
 i0 := by kernel_rfl
 i2 := by kernel_rfl
 i3 := by kernel_rfl
 i4 := by kernel_rfl
 i5 := by kernel_rfl
 i9 := by kernel_rfl
 i20 := by kernel_rfl
 i21 := by kernel_rfl
 i37 := by kernel_rfl
 i46 := by kernel_rfl
 i51 := by kernel_rfl
 i53 := by kernel_rfl
 i75 := by kernel_rfl
 i80 := by kernel_rfl
 i85 := by kernel_rfl
 i127 := by kernel_rfl
 i143 := by kernel_rfl
 i145 := by kernel_rfl
 i167 := by kernel_rfl
 i168 := by kernel_rfl
 i171 := by kernel_rfl
 i173 := by kernel_rfl
 i175 := by kernel_rfl
 i210 := by kernel_rfl
 i212 := by kernel_rfl
 i232 := by kernel_rfl
 i233 := by kernel_rfl
 m15 := by kernel_rfl
 m16 := by kernel_rfl
 m17 := by kernel_rfl
 m18 := by kernel_rfl
 m19 := by kernel_rfl
 c0 := by kernel_rfl
 c2 := by kernel_rfl
 c3 := by kernel_rfl
 c4 := by kernel_rfl
 c5 := by kernel_rfl
 c9 := by kernel_rfl
 c20 := by kernel_rfl
 c21 := by kernel_rfl
 c37 := by kernel_rfl
 c46 := by kernel_rfl
 c51 := by kernel_rfl
 c53 := by kernel_rfl
 c75 := by kernel_rfl
 c80 := by kernel_rfl
 c85 := by kernel_rfl
 c127 := by kernel_rfl
 c143 := by kernel_rfl
 c145 := by kernel_rfl
 c167 := by kernel_rfl
 c168 := by kernel_rfl
 c171 := by kernel_rfl
 c173 := by kernel_rfl
 c175 := by kernel_rfl
 c210 := by kernel_rfl
 c212 := by kernel_rfl
 c213 := by kernel_rfl
 c232 := by kernel_rfl
 c233 := by kernel_rfl }
theorem Tryz.Builder_X72_156 : Builder.X72 Tryz.prog Tryz.lays156_ren where
 sizeBuilder := by kernel_rfl
 liesBuilder := by kernel_rfl
end Go.Proofs

namespace Go.Pf
open Go Go.Vm
theorem qak {n : Int} (h1 : -9223372036854775808 ≤ n) (h2 : n < 9223372036854775808) : IntKind.i64.wrap n = n := by rw [IntKind.wrap_i64]; omega
theorem qmk (n : Int) : -9223372036854775808 ≤ IntKind.i64.wrap n ∧ IntKind.i64.wrap n < 9223372036854775808 := by rw [IntKind.wrap_i64]; omega
theorem qaj {α : Type} {l : List α} {i : Nat} (h : i < l.length) (d : α) : l.drop i = l.getD i d :: l.drop (i + 1) := by
 rw [List.drop_eq_getElem_cons h,gDg,List.getElem?_eq_getElem h]; rfl
theorem qal {α : Type} {l : List α} {i : Nat} (h : i < l.length) (d : α) : l.getD i d ∈ l := by
 rw [gDg,List.getElem?_eq_getElem h]; exact List.getElem_mem h
end Go.Pf

namespace Go.Pf
open Go Go.Vm
def pd : LI → Int
 | [] => 1
 | x :: r => x * pd r
def okD (x : Int) : Bool := decide (1 ≤ x) && decide (x ≤ 8)
def mR (l : LI) : Bool := decide (l.length ≤ 3) && l.all okD && decide (pd l ≤ 8)
theorem qfF {x : Int} : okD x = true ↔ 1 ≤ x ∧ x ≤ 8 := by simp [okD]
theorem qqL : ∀ (l : LI),l.all okD = true → 1 ≤ pd l ∧ pd l ≤ 8 ^ l.length
 | [],_ => by simp [pd]
 | x :: r,h => by
  simp only [List.all_cons,bAt,qfF] at h
  obtain ⟨⟨h1,h2⟩,h3⟩ := h
  obtain ⟨h4,h5⟩ := qqL r h3
  show 1 ≤ x * pd r ∧ x * pd r ≤ 8 ^ (r.length + 1)
  constructor
  ·have := Int.mul_le_mul h1 h4 (by omega) (by omega); simpa using this
  ·have := Int.mul_le_mul h2 h5 (by omega) (by omega)
   rw [Int.pow_succ]; rw [Int.mul_comm] at this; simpa [Int.mul_comm] using this
theorem qjy {l : LI} (h : mR l = true) : l.length ≤ 3 ∧ l.all okD = true ∧ 1 ≤ pd l ∧ pd l ≤ 8 := by
 unfold mR at h
 simp only [bAt,decide_eq_true_eq] at h
 exact ⟨h.1.1,h.1.2,(qqL l h.1.2).1,h.2⟩
theorem p8 {i : Nat} (h : i ≤ 3) : (1 : Int) ≤ 8 ^ i ∧ (8 : Int) ^ i ≤ 512 := by
 rcases (show i = 0 ∨ i = 1 ∨ i = 2 ∨ i = 3 by omega) with e | e | e | e <;> subst e <;> decide
theorem ql9 {p x : Int} {i : Nat} (h1 : 1 ≤ p) (h2 : p ≤ 8 ^ i) (hx : 1 ≤ x ∧ x ≤ 8) : 1 ≤ p * x ∧ p * x ≤ 8 ^ (i + 1) := by
 constructor
 ·have := Int.mul_le_mul h1 hx.1 (by omega) (by omega); simpa using this
 ·rw [Int.pow_succ]; exact Int.mul_le_mul h2 hx.2 (by omega) (by omega)
end Go.Pf

namespace Go.Pf
open Go Go.Vm
theorem n0 : ((0 : Nat) : Int) = 0 := rfl
theorem drop0 {α : Type} (l : List α) : l.drop 0 = l := rfl
theorem qeI (xs : LI) (v : Int) (hl : xs.length ≤ 4611686018427387904) : ∀ (d i n : Nat),xs.length = i + d → d < n →
  ∃ r,qa1.l0 n xs v xs.length i = some r ∧ ((r = .inl () ∧ v ∉ xs.drop i) ∨ ∃ j : Int,r = .inr j ∧ 0 ≤ j ∧ v ∈ xs.drop i)
 | 0,i,n,hi,hn => by
  obtain ⟨n,rfl⟩ := sun (n := n)
  rw [qa1.l0,ifq,dNl (by omega)]
  exact ⟨_,rfl,.inl ⟨rfl,by simp⟩⟩
 | d + 1,i,n,hi,hn => by
  obtain ⟨n,rfl⟩ := sun (n := n)
  rw [qa1.l0,ifp,ifp,tNc,qaj (show i < xs.length by omega) 0]
  by_cases c : v = xs.getD i 0
  ·rw [if_pos c]
   exact ⟨_,rfl,.inr ⟨_,rfl,by omega,by rw [c]; simp⟩⟩
  ·rw [if_neg c,qak (by omega) (by omega),show (i : Int) + 1 = ((i + 1 : Nat) : Int) by omega]
   obtain ⟨r,h1,h2⟩ := qeI xs v hl d (i + 1) n (by omega) (by omega)
   refine ⟨r,h1,?_⟩
   rcases h2 with ⟨h2,h3⟩ | ⟨j,h2,h3,h4⟩
   ·exact .inl ⟨h2,by simp only [List.mem_cons]; exact fun h => h.elim c h3⟩
   ·exact .inr ⟨j,h2,h3,mCm _ h4⟩
theorem qgq (xs : LI) (v : Int) (hl : xs.length ≤ 4611686018427387904) (k : Nat) (hk : xs.length < k) : qb8.f k xs v = some (decide (v ∈ xs)) := by
 unfold qb8.f qa1.f
 obtain ⟨r,h1,h2⟩ := qeI xs v hl xs.length 0 k (by omega) hk
 rw [n0] at h1
 rw [h1,obs]
 rw [drop0] at h2
 rcases h2 with ⟨rfl,h3⟩ | ⟨j,rfl,h3,h4⟩
 ·simp [h3]
 ·simp [h3,h4]
def okGo (m : Int) : LI → LI → Bool
 | _,[] => true
 | pre,k :: r => decide (-1 ≤ k) && decide (k < m) && (decide (k = -1) || !decide (k ∈ pre)) && okGo m (pre ++ [k]) r
theorem qdn {l : LI} {i : Nat} (h : i < l.length) : l.take (i + 1) = l.take i ++ [l.getD i 0] := by
 rw [List.take_add_one,gDg,List.getElem?_eq_getElem h]; rfl
theorem qdm (n : Int) (L : LI) (hL : L.length ≤ 17592186044415) (hw : ∀ x ∈ L,-9223372036854775808 ≤ x ∧ x < 9223372036854775808) (p : Int) (h0 : 0 ≤ p) (hp : p ≤ 17592186044415) (hn : 1 ≤ n) : ∃ r q,qad.f n L p = some (r,q) ∧ 0 ≤ r ∧ r < n ∧ 0 ≤ q ∧ q ≤ 17592186044415 ∧ p ≤ q ∧ q ≤ p + 1 := by
 unfold qad.f
 by_cases c : (L.length : Int) ≤ p
 ·rw [if_pos c]; exact ⟨_,_,rfl,by omega,by omega,h0,hp,by omega,by omega⟩
 rw [if_neg c,ifq,qak (n := p + 1) (by omega) (by omega),show p + 1 - 1 = p by omega,qak (n := p) (by omega) (by omega),if_pos ⟨h0,by omega⟩]
 have hx := hw _ (qal (show p.toNat < L.length by omega) 0)
 generalize L.getD p.toNat 0 = x at hx
 have key : ∃ r,qdV.f x 0 1073741824 = some r ∧ 0 ≤ r := by
  unfold qdV.f
  rw [qak (n := 1073741824 - 0) (by omega) (by omega),qak (n := 1073741824 - 0 + 1) (by omega) (by omega)]
  have t2 := Int.lt_tmod_of_pos x (show (0 : Int) < 1073741824 - 0 + 1 by omega)
  have t3 := Int.tmod_lt_of_pos x (show (0 : Int) < 1073741824 - 0 + 1 by omega)
  have k2 : ∃ r,(if (1073741824 - 0 + 1 : Int) ≠ 0 then if x.tmod (1073741824 - 0 + 1) < 0 then some (IntKind.i64.wrap (0 + (IntKind.i64.wrap ((IntKind.i64.wrap ((IntKind.i64.wrap ((x.tmod (1073741824 - 0 + 1)) + 1073741824)) - 0)) + 1)))) else some (IntKind.i64.wrap (0 + (x.tmod (1073741824 - 0 + 1)))) else none) = some r ∧ 0 ≤ r := by
   rw [ifp]
   split
   ·rw [qak (n := x.tmod (1073741824 - 0 + 1) + 1073741824) (by omega) (by omega),qak (n := x.tmod (1073741824 - 0 + 1) + 1073741824 - 0) (by omega) (by omega),qak (n := x.tmod (1073741824 - 0 + 1) + 1073741824 - 0 + 1) (by omega) (by omega),qak (by omega) (by omega)]
    exact ⟨_,rfl,by omega⟩
   ·rw [qak (by omega) (by omega)]
    exact ⟨_,rfl,by omega⟩
  split
  ·split
   ·exact ⟨_,rfl,by omega⟩
   ·exact k2
  ·exact k2
 obtain ⟨r,hr,hr0⟩ := key
 rw [hr,obs,ifp]
 refine ⟨_,_,rfl,?_,?_,by omega,by omega,by omega,by omega⟩
 ·rw [Int.tmod_eq_emod_of_nonneg hr0]; exact Int.emod_nonneg _ (by omega)
 ·rw [Int.tmod_eq_emod_of_nonneg hr0]; exact Int.emod_lt_of_pos _ (by omega)
theorem qhY {m : Int} (x : Int) : ∀ (r pre : LI),okGo m pre (r ++ [x]) = (okGo m pre r && (decide (-1 ≤ x) && decide (x < m) && (decide (x = -1) || !decide (x ∈ pre ++ r))))
 | [],pre => by simp [okGo]
 | k :: r,pre => by
  show (decide (-1 ≤ k) && decide (k < m) && (decide (k = -1) || !decide (k ∈ pre)) && okGo m (pre ++ [k]) (r ++ [x])) = (decide (-1 ≤ k) && decide (k < m) && (decide (k = -1) || !decide (k ∈ pre)) && okGo m (pre ++ [k]) r && _)
  rw [qhY x r (pre ++ [k]),aAs]
  simp only [List.singleton_append,Bool.and_assoc]
theorem qka (m : LI) (hm : m.length ≤ 3) (L : LI) (hL : L.length ≤ 17592186044415) (hw : ∀ x ∈ L,-9223372036854775808 ≤ x ∧ x < 9223372036854775808) (N : Nat) (hN : N ≤ 5) : ∀ (d i : Nat) (p : Int) (y1 : LI) (y2 : List Bool) (n : Nat),N = i + d → 0 ≤ p → p ≤ 17592186000000 - 2 * d → y1.length = N → y2.length = m.length → okGo m.length [] (y1.take i) = true → (∀ j : Nat,j < m.length → (y2.getD j false = true ↔ (j : Int) ∈ y1.take i)) → d < n →
    ∃ q s,qaP.l0 n m N i L p y1 y2 = some (q,s) ∧ s.length = N ∧ okGo m.length [] s = true ∧ 0 ≤ q ∧ q ≤ p + 2 * d := by
  intro d
  induction d with
  | zero =>
    intro i p y1 y2 n hi h0 hp h1 h2 hok hu hn
    obtain ⟨n,rfl⟩ := sun (n := n)
    rw [qaP.l0,ifq]
    rw [List.take_of_length_le (by omega)] at hok
    exact ⟨_,_,rfl,h1,hok,h0,by omega⟩
  | succ d IH =>
    intro i p y1 y2 n hi h0 hp h1 h2 hok hu hn
    obtain ⟨n,rfl⟩ := sun (n := n)
    have htake : ∀ x : Int,(y1.set i x).take (i + 1) = y1.take i ++ [x] := fun x => by
      rw [List.take_set,List.take_add_one,List.getElem?_eq_getElem (by omega)]
      have : (y1.take i).length = i := by simp; omega
      rw [List.set_append,ifq,this,Nat.sub_self]; rfl
    have hidx : (i : Int) + 1 = ((i + 1 : Nat) : Int) := by omega
    rw [qaP.l0,ifp,ifp,tNc,ifp,qak (n := (i : Int) + 1) (by omega) (by omega),hidx]
    -- without an axis
    have stay : ∀ q,0 ≤ q → q ≤ p + 2 → ∃ q' s,qaP.l0 n m N ((i + 1 : Nat) : Int) L q (y1.set i (-1)) y2 = some (q',s) ∧ s.length = N ∧ okGo m.length [] s = true ∧ 0 ≤ q' ∧ q' ≤ q + 2 * d := fun q hq hq2 => by
      refine IH (i + 1) q (y1.set i (-1)) y2 n (by omega) hq (by omega) (by simpa using h1) h2 ?_ (fun j hj => ?_) (by omega)
      · rw [htake,qhY,hok]; simp; omega
      · rw [htake,List.mem_append,hu j hj]; simp
    by_cases c0 : 0 < (m.length : Int)
    · rw [if_pos c0]
      obtain ⟨r,q,e1,r0,r1,q0,q1,q2,q3⟩ := qdm 2 L hL hw p h0 (by omega) (by omega)
      rw [e1,obs]
      dsimp only
      by_cases c1 : r = 0
      · rw [if_pos c1]
        obtain ⟨r',q',e1',r0',r1',q0',q1',q2',q3'⟩ := qdm m.length L hL hw q q0 (by omega) (by omega)
        rw [e1',obs]
        dsimp only
        rw [if_pos ⟨r0',by omega⟩,ifp]
        by_cases c2 : y2.getD r'.toNat false = true
        · rw [if_pos c2]
          obtain ⟨q'',s,g1,g2,g3,g4,g5⟩ := stay q' q0' (by omega)
          exact ⟨q'',s,g1,g2,g3,g4,by omega⟩
        · rw [if_neg c2,if_pos (by simp; omega),if_pos (by simp; omega),List.set_set]
          have hnot : r' ∉ y1.take i := fun h => c2 ((hu r'.toNat (by omega)).2 (by rw [show ((r'.toNat : Nat) : Int) = r' by omega]; exact h))
          obtain ⟨q'',s,g1,g2,g3,g4,g5⟩ := IH (i + 1) q' (y1.set i r') (y2.set r'.toNat true) n (by omega) q0' (by omega) (by simpa using h1) (by simpa using h2) (by
            rw [htake,qhY,hok]; simp [hnot]; omega) (fun j hj => by
            rw [htake,List.mem_append,← hu j hj,gDg,gDg,List.getElem?_set]
            by_cases hjr : r'.toNat = j
            · subst hjr
              rw [if_pos rfl,ifp]
              simp; omega
            · rw [if_neg hjr]
              simp
              omega) (by omega)
          exact ⟨q'',s,g1,g2,g3,g4,by omega⟩
      · rw [if_neg c1]
        obtain ⟨q'',s,g1,g2,g3,g4,g5⟩ := stay q q0 (by omega)
        exact ⟨q'',s,g1,g2,g3,g4,by omega⟩
    · rw [if_neg c0]
      obtain ⟨q'',s,g1,g2,g3,g4,g5⟩ := stay p h0 (by omega)
      exact ⟨q'',s,g1,g2,g3,g4,by omega⟩
theorem qnA (m : LI) (hm : m.length ≤ 3) (L : LI) (hL : L.length ≤ 17592186044415) (hw : ∀ x ∈ L,-9223372036854775808 ≤ x ∧ x < 9223372036854775808) (N : Int) (hN0 : 0 ≤ N) (hN : N ≤ 5) (p : Int) (h0 : 0 ≤ p) (hp : p ≤ 17592185999000) (k : Nat) (hk : 10 ≤ k) :
  ∃ q s,qaP.f k m N L p = some (q,s) ∧ (s.length : Int) = N ∧ okGo m.length [] s = true ∧ 0 ≤ q ∧ q ≤ p + 10 := by
 unfold qaP.f
 obtain ⟨q,s,g1,g2,g3,g4,g5⟩ := qka m hm L hL hw N.toNat (by omega) N.toNat 0 p (List.replicate N.toNat 0) (List.replicate m.length false) k (by omega) h0 (by omega) (by simp) (by simp) rfl (fun j hj => by
  rw [gDg,List.getElem?_replicate]; simp [hj]) (by omega)
 rw [n0] at g1
 rw [ifp,ifp,tNc,List.length_replicate,g1,obs]
 exact ⟨q,s,rfl,by omega,g3,g4,by omega⟩
end Go.Pf

namespace Go.Pf
open Go Go.Vm
def pr : LI → Int
 | [] => 1
 | x :: r => x * pr r
def sm : LI → Int
 | [] => 0
 | x :: r => x + sm r
def okS (x : Int) : Bool := decide (0 ≤ x) && decide (x ≤ 32)
def mSR (l : LI) : Bool := decide (l.length ≤ 4) && l.all okS && decide (pr l ≤ 4096)
theorem qdc {x : Int} : okS x = true ↔ 0 ≤ x ∧ x ≤ 32 := by simp [okS]
theorem p32 {i : Nat} (h : i ≤ 4) : (1 : Int) ≤ 32 ^ i ∧ (32 : Int) ^ i ≤ 1048576 := by
 rcases (show i = 0 ∨ i = 1 ∨ i = 2 ∨ i = 3 ∨ i = 4 by omega) with e | e | e | e | e <;> subst e <;> decide
theorem qfe (l : LI) (hl : l.length ≤ 4) : ∀ (d i : Nat) (p : Int) (n : Nat),l.length = i + d → 0 ≤ p → p ≤ 32 ^ i → d < n →
  qaU.l0 n p l l.length i = some (if (l.drop i).all okS = true then .inl (p * pr (l.drop i)) else .inr false)
 | 0,i,p,n,hi,h1,h2,hn => by
  obtain ⟨n,rfl⟩ := sun (n := n)
  rw [qaU.l0,ifq,dNl (by omega)]
  simp [pr]
 | d + 1,i,p,n,hi,h1,h2,hn => by
  obtain ⟨n,rfl⟩ := sun (n := n)
  rw [qaU.l0,ifp,ifp,tNc,qaj (show i < l.length by omega) 0]
  generalize l.getD i 0 = x
  by_cases c1 : x < 0
  ·rw [if_pos c1]; simp [qdc]; omega
  by_cases c2 : 32 < x
  ·rw [if_neg c1,if_pos c2]; simp [qdc]; omega
  have hx : okS x = true := qdc.2 (by omega)
  have h8 := p32 (show i + 1 ≤ 4 by omega)
  have e8 : (32 : Int) ^ (i + 1) = 32 ^ i * 32 := Int.pow_succ ..
  have hm : 0 ≤ p * x ∧ p * x ≤ 32 ^ (i + 1) := ⟨Int.mul_nonneg h1 (by omega),by rw [e8]; exact Int.mul_le_mul h2 (by omega) (by omega) (by omega)⟩
  rw [if_neg c1,if_neg c2,qak (n := p * x) (by omega) (by omega),qak (n := (i : Int) + 1) (by omega) (by omega)]
  have := qfe l hl d (i + 1) (p * x) n (by omega) hm.1 hm.2 (by omega)
  rw [show (i : Int) + 1 = ((i + 1 : Nat) : Int) by omega,this]
  simp [hx,pr,Int.mul_assoc]
theorem qb1 (l : LI) (k : Nat) (hk : 10 ≤ k) : qaU.f k l = some (mSR l) := by
 unfold qaU.f
 by_cases h : 4 < (l.length : Int)
 ·rw [if_pos h]; simp [mSR]; omega
 ·have := qfe l (by omega) l.length 0 1 k (by omega) (by omega) (by simp) (by omega)
  rw [if_neg h,show (0 : Int) = ((0 : Nat) : Int) from rfl,this]
  have hl : l.length ≤ 4 := by omega
  by_cases ha : l.all okS = true
  ·simp [ha,mSR,hl]
  ·simp [ha,mSR]
theorem qam {l : LI} (h : mSR l = true) : l.length ≤ 4 ∧ (∀ x ∈ l,0 ≤ x ∧ x ≤ 32) ∧ pr l ≤ 4096 := by
 unfold mSR at h
 simp only [bAt,decide_eq_true_eq] at h
 exact ⟨h.1.1,fun x hx => qdc.1 (List.all_eq_true.1 h.1.2 x hx),h.2⟩
def T8 : LI := [1,2,3,4,5,0,7,2]
theorem T8_bd : ∀ x ∈ T8,0 ≤ x ∧ x ≤ 7 := by decide
theorem qjb (L : LI) (hL : L.length ≤ 17592186044415) (hw : ∀ x ∈ L,-9223372036854775808 ≤ x ∧ x < 9223372036854775808) : ∀ (d : Nat) (p : Int) (y : LI) (n : Nat),0 ≤ p → p ≤ 17592186000000 - d → y.length + d ≤ 3 → (∀ x ∈ y,0 ≤ x ∧ x ≤ 7) → d < n →
  ∃ q s,qaw.l0 n d L p y = some (q,s) ∧ s.length = y.length + d ∧ (∀ x ∈ s,0 ≤ x ∧ x ≤ 7) ∧ 0 ≤ q ∧ q ≤ p + d := by
 intro d
 induction d with
 | zero =>
  intro p y n h0 hp hy hb hn
  obtain ⟨n,rfl⟩ := sun (n := n)
  rw [qaw.l0,ifq]
  exact ⟨_,_,rfl,rfl,hb,h0,by omega⟩
 | succ d ih =>
  intro p y n h0 hp hy hb hn
  obtain ⟨n,rfl⟩ := sun (n := n)
  obtain ⟨r,q,e,r0,r1,q0,_,_,q1⟩ := qdm 8 L hL hw p h0 (by omega) (by omega)
  have hl : T8.length = 8 := rfl
  rw [qaw.l0,ifp,e,obs,show ([1,2,3,4,5,0,7,2] : LI) = T8 from rfl]
  dsimp only
  rw [ifp,ifp,if_pos (by simp only [lSi]; omega),qak (by omega) (by omega),show (((d + 1 : Nat) : Int) - 1) = (d : Int) by omega]
  have hx := T8_bd _ (qal (show r.toNat < T8.length by omega) 0)
  obtain ⟨q',s,e2,h1,h2,h3,h4⟩ := ih q (y ++ [T8.getD r.toNat 0]) n q0 (by omega) (by simp only [lAp,lSi]; omega) (fun x hx' => by
   rcases List.mem_append.1 hx' with h | h
   ·exact hb x h
   ·rw [List.mem_singleton.1 h]; exact hx) (by omega)
  exact ⟨q',s,e2,by simp only [lAp,lSi] at h1; omega,h2,h3,by omega⟩
theorem qmG (L : LI) (hL : L.length ≤ 17592186044415) (hw : ∀ x ∈ L,-9223372036854775808 ≤ x ∧ x < 9223372036854775808) (p : Int) (h0 : 0 ≤ p) (hp : p ≤ 17592185990000) (k : Nat) (hk : 10 ≤ k) :
  ∃ q s,qaw.f k L p = some (q,s) ∧ s.length ≤ 3 ∧ (∀ x ∈ s,0 ≤ x ∧ x ≤ 7) ∧ 0 ≤ q ∧ q ≤ p + 4 := by
 unfold qaw.f
 obtain ⟨r,q,e,r0,r1,q0,_,_,q1⟩ := qdm 4 L hL hw p h0 (by omega) (by omega)
 rw [e,obs]
 dsimp only
 obtain ⟨q',s,e2,h1,h2,h3,h4⟩ := qjb L hL hw r.toNat q [] k q0 (by omega) (by simp only [List.length_nil]; omega) (fun x hx => by cases hx) (by omega)
 rw [show ((r.toNat : Nat) : Int) = r by omega] at e2
 rw [e2,obs]
 exact ⟨q',s,rfl,by simp only [List.length_nil] at h1; omega,h2,h3,by omega⟩
end Go.Pf

namespace Go.Pf
open Go Go.Vm
def zSz (s : LI) : Int := if mSR s = true then pr s else 0
theorem qpi {a b : Bool} (h : a = true ↔ b = true) : a = b := by cases a <;> cases b <;> simp_all
theorem qf3 (l : LI) : ∀ (d i : Nat) (p : Int) (n : Nat),l.length = i + d → i ≤ 4 → 0 ≤ p → p ≤ 32 ^ i → d < n →
  qaF.l0 n l p i = some (if (l.drop i).all okS = true ∧ l.length ≤ 4 then .inl (p * pr (l.drop i)) else .inr false)
 | 0,i,p,n,hi,h4,h1,h2,hn => by
  obtain ⟨n,rfl⟩ := sun (n := n)
  rw [qaF.l0,ifq,dNl (by omega)]
  simp [pr]; omega
 | d + 1,i,p,n,hi,h4,h1,h2,hn => by
  obtain ⟨n,rfl⟩ := sun (n := n)
  rw [qaF.l0,ifp,ifp,tNc,qaj (show i < l.length by omega) 0]
  generalize l.getD i 0 = x
  by_cases c1 : x < 0
  ·rw [if_pos c1]; simp [qdc]; omega
  by_cases c2 : 32 < x
  ·rw [if_neg c1,if_pos c2]; simp [qdc]; omega
  have hx : okS x = true := qdc.2 (by omega)
  rw [if_neg c1,if_neg c2]
  by_cases c3 : 4 ≤ (i : Int)
  ·rw [if_pos c3]; simp; omega
  rw [if_neg c3]
  have h8 := p32 (show i + 1 ≤ 4 by omega)
  have e8 : (32 : Int) ^ (i + 1) = 32 ^ i * 32 := Int.pow_succ ..
  have hm : 0 ≤ p * x ∧ p * x ≤ 32 ^ (i + 1) := ⟨Int.mul_nonneg h1 (by omega),by rw [e8]; exact Int.mul_le_mul h2 (by omega) (by omega) (by omega)⟩
  rw [qak (n := p * x) (by omega) (by omega),qak (n := (i : Int) + 1) (by omega) (by omega)]
  have := qf3 l d (i + 1) (p * x) n (by omega) (by omega) hm.1 hm.2 (by omega)
  rw [show (i : Int) + 1 = ((i + 1 : Nat) : Int) by omega,this]
  simp [hx,pr,Int.mul_assoc]
theorem qeD (l : LI) : ∀ (d i : Nat) (p : Int) (n : Nat),4 = i + d → 4 < l.length → 0 ≤ p → p ≤ 32 ^ i → d < n →
  qaF.l0 n l p i = some (.inr false)
 | 0,i,p,n,hi,h4,h1,h2,hn => by
  obtain ⟨n,rfl⟩ := sun (n := n)
  rw [qaF.l0,ifp,ifp]
  repeat' split
  all_goals first | rfl | omega
 | d + 1,i,p,n,hi,h4,h1,h2,hn => by
  obtain ⟨n,rfl⟩ := sun (n := n)
  rw [qaF.l0,ifp,ifp,tNc]
  generalize l.getD i 0 = x
  by_cases c1 : x < 0
  ·rw [if_pos c1]
  by_cases c2 : 32 < x
  ·rw [if_neg c1,if_pos c2]
  rw [if_neg c1,if_neg c2,ifq]
  have h8 := p32 (show i + 1 ≤ 4 by omega)
  have e8 : (32 : Int) ^ (i + 1) = 32 ^ i * 32 := Int.pow_succ ..
  have hm : 0 ≤ p * x ∧ p * x ≤ 32 ^ (i + 1) := ⟨Int.mul_nonneg h1 (by omega),by rw [e8]; exact Int.mul_le_mul h2 (by omega) (by omega) (by omega)⟩
  rw [qak (n := p * x) (by omega) (by omega),qak (n := (i : Int) + 1) (by omega) (by omega)]
  have := qeD l d (i + 1) (p * x) n (by omega) (by omega) hm.1 hm.2 (by omega)
  rw [show (i : Int) + 1 = ((i + 1 : Nat) : Int) by omega,this]
theorem qbj (l : LI) (k : Nat) (hk : 10 ≤ k) : qaF.f k l = some (mSR l) := by
 unfold qaF.f
 by_cases h4 : l.length ≤ 4
 ·have := qf3 l l.length 0 1 k (by omega) (by omega) (by omega) (by simp) (by omega)
  rw [show (0 : Int) = ((0 : Nat) : Int) from rfl,this]
  by_cases ha : l.all okS = true
  ·simp [ha,mSR,h4]
  ·simp [ha,mSR]
 ·have := qeD l 4 0 1 k (by omega) (by omega) (by omega) (by simp) (by omega)
  rw [show (0 : Int) = ((0 : Nat) : Int) from rfl,this]
  simp [mSR]; omega
theorem qcL : ∀ {l : LI},(∀ x ∈ l,0 ≤ x) → 0 ≤ pr l
 | [],_ => by decide
 | x :: r,h => Int.mul_nonneg (h x (List.mem_cons_self ..)) (qcL fun y hy => h y (mCm _ hy))
theorem qgW (l : LI) (h : ∀ x ∈ l,0 ≤ x ∧ x ≤ 32) (hl : l.length ≤ 4) : ∀ (d i : Nat) (p : Int) (n : Nat),l.length = i + d → 0 ≤ p → p ≤ 32 ^ i → d < n →
  qbU.l0 n l p i = some (p * pr (l.drop i))
 | 0,i,p,n,hi,h1,h2,hn => by
  obtain ⟨n,rfl⟩ := sun (n := n)
  rw [qbU.l0,ifq,dNl (by omega)]
  simp [pr]
 | d + 1,i,p,n,hi,h1,h2,hn => by
  obtain ⟨n,rfl⟩ := sun (n := n)
  have hx := h _ (qal (show i < l.length by omega) 0)
  rw [qbU.l0,ifp,ifp,tNc,qaj (show i < l.length by omega) 0]
  generalize l.getD i 0 = x at hx ⊢
  have h8 := p32 (show i + 1 ≤ 4 by omega)
  have e8 : (32 : Int) ^ (i + 1) = 32 ^ i * 32 := Int.pow_succ ..
  have hm : 0 ≤ p * x ∧ p * x ≤ 32 ^ (i + 1) := ⟨Int.mul_nonneg h1 (by omega),by rw [e8]; exact Int.mul_le_mul h2 (by omega) (by omega) (by omega)⟩
  rw [qak (n := p * x) (by omega) (by omega),qak (n := (i : Int) + 1) (by omega) (by omega)]
  have := qgW l h hl d (i + 1) (p * x) n (by omega) hm.1 hm.2 (by omega)
  rw [show (i : Int) + 1 = ((i + 1 : Nat) : Int) by omega,this]
  simp [pr,Int.mul_assoc]
theorem qde (l : LI) (k : Nat) (hk : 10 ≤ k) : qbU.f k l = some (zSz l) := by
 unfold qbU.f zSz
 rw [qbj l k hk,obs]
 by_cases h : mSR l = true
 ·obtain ⟨h1,h2,_⟩ := qam h
  have := qgW l h2 h1 l.length 0 1 k (by omega) (by omega) (by simp) (by omega)
  rw [if_pos h,if_pos h,show (0 : Int) = ((0 : Nat) : Int) from rfl,this]
  simp
 ·rw [if_neg h,if_neg h]
def zT (s d : LI) : Bool := mSR s && decide ((d.length : Int) = pr s)
theorem qbS (s d : LI) (k : Nat) (hk : 10 ≤ k) : qby.f k s d = some (zT s d) := by
 unfold qby.f zT
 rw [qbj s k hk,obs,qde s k hk,obs]
 by_cases h : mSR s = true
 ·simp [h,zSz]
 ·simp [h]
theorem qbo {s d : LI} (h : zT s d = true) : mSR s = true ∧ (d.length : Int) = pr s := by
 unfold zT at h
 simpa using h
def pl : LI → Int → LI
 | [],_ => []
 | a :: r,x => (x / pr r) % a :: pl r x
theorem qc4 : ∀ (s : LI) (x : Int),(pl s x).length = s.length
 | [],_ => rfl
 | _ :: r,x => by simp [pl,qc4 r x]
def ix : LI → LI → Int
 | a :: s,b :: p => b * pr s + ix s p
 | _,_ => 0
def mIn : LI → LI → Bool
 | [],[] => true
 | a :: s,b :: p => decide (0 ≤ b) && decide (b < a) && mIn s p
 | _,_ => false
theorem qeS : ∀ {s p : LI},mIn s p = true → p.length = s.length
 | [],[],_ => rfl
 | _ :: s,_ :: p,h => by
  simp only [mIn,bAt] at h
  simp [qeS h.2]
 | [],_ :: _,h => by simp [mIn] at h
 | _ :: _,[],h => by simp [mIn] at h
theorem qix : ∀ {s p : LI},mIn s p = true → 0 ≤ ix s p ∧ ix s p < pr s
 | [],[],_ => by decide
 | a :: s,b :: p,h => by
  simp only [mIn,bAt,decide_eq_true_eq] at h
  obtain ⟨h1,h2⟩ := qix h.2
  have h3 : b * pr s + pr s ≤ a * pr s := by
   have := Int.mul_le_mul_of_nonneg_right (show b + 1 ≤ a by omega) (show 0 ≤ pr s by omega)
   rw [Int.add_mul,Int.one_mul] at this; exact this
  have h4 : 0 ≤ b * pr s := Int.mul_nonneg h.1.1 (by omega)
  exact ⟨by show 0 ≤ b * pr s + ix s p; omega,by show b * pr s + ix s p < a * pr s; omega⟩
 | [],_ :: _,h => by simp [mIn] at h
 | _ :: _,[],h => by simp [mIn] at h
theorem qiv : ∀ {s : LI},(∀ a ∈ s,0 < a) → ∀ (x : Int),mIn s (pl s x) = true
 | [],_,_ => rfl
 | a :: s,h,x => by
  have ha := h a (List.mem_cons_self ..)
  have := qiv (s := s) (fun b hb => h b (mCm _ hb)) x
  simp only [pl,mIn,bAt,decide_eq_true_eq]
  exact ⟨⟨Int.emod_nonneg _ (by omega),Int.emod_lt_of_pos _ ha⟩,this⟩
theorem ql4 : ∀ {l : LI},(∀ x ∈ l,0 < x) → 0 < pr l
 | [],_ => by decide
 | x :: r,h => Int.mul_pos (h x (List.mem_cons_self ..)) (ql4 fun y hy => h y (mCm _ hy))
theorem qhW : ∀ {l : LI},(∀ x ∈ l,0 ≤ x) → 0 < pr l → ∀ x ∈ l,0 < x
 | [],_,_,_,h => by cases h
 | y :: r,h0,hp,x,hx => by
  have h1 := h0 y (List.mem_cons_self ..)
  have hr := qcL (l := r) fun z hz => h0 z (mCm _ hz)
  have hp : 0 < y * pr r := hp
  have hy : y ≠ 0 := fun e => by rw [e,Int.zero_mul] at hp; omega
  have hr' : pr r ≠ 0 := fun e => by rw [e,Int.mul_zero] at hp; omega
  rcases List.mem_cons.1 hx with e | hx
  ·omega
  ·exact qhW (fun z hz => h0 z (mCm _ hz)) (by omega) x hx
theorem qkF : ∀ {s : LI},(∀ a ∈ s,0 < a) → ∀ (x : Int),ix s (pl s x) = x % pr s
 | [],_,x => by show (0 : Int) = x % 1; omega
 | a :: s,h,x => by
  have ha := h a (List.mem_cons_self ..)
  have hs : ∀ b ∈ s,0 < b := fun b hb => h b (mCm _ hb)
  have hp := ql4 hs
  show (x / pr s) % a * pr s + ix s (pl s x) = x % (a * pr s)
  rw [qkF hs x]
  have e1 := Int.mul_ediv_add_emod x (pr s)
  have e2 := Int.mul_ediv_add_emod (x / pr s) a
  have m1 := Int.emod_nonneg x (show pr s ≠ 0 by omega)
  have m2 := Int.emod_lt_of_pos x hp
  have m3 := Int.emod_nonneg (x / pr s) (show a ≠ 0 by omega)
  have m4 := Int.emod_lt_of_pos (x / pr s) ha
  generalize x / pr s = q at *
  generalize x % pr s = r at *
  generalize q / a = q2 at *
  generalize q % a = r2 at *
  generalize pr s = p at *
  have e3 : x = (r2 * p + r) + (a * p) * q2 := by
   rw [← e1,← e2]
   simp only [Int.mul_add,Int.add_mul,Int.mul_comm,Int.mul_left_comm,Int.mul_assoc,Int.add_comm,Int.add_left_comm]
  have h5 : 0 ≤ r2 * p := Int.mul_nonneg m3 (by omega)
  have h6 : r2 * p + p ≤ a * p := by
   have := Int.mul_le_mul_of_nonneg_right (show r2 + 1 ≤ a by omega) (show 0 ≤ p by omega)
   rw [Int.add_mul,Int.one_mul] at this; exact this
  rw [e3,Int.add_mul_emod_self_left]
  exact (Int.emod_eq_of_lt (by omega) (by omega)).symm
theorem qo5 {s : LI} (h : ∀ a ∈ s,0 ≤ a) {x : Int} (h0 : 0 ≤ x) (h1 : x < pr s) : ix s (pl s x) = x := by
 rw [qkF (qhW h (by omega))]
 exact Int.emod_eq_of_lt h0 h1
end Go.Pf

namespace Go.Pf
open Go Go.Vm
theorem qpy : ∀ {s : LI},(∀ a ∈ s,0 < a) → ∀ (x m : Int),pl s (x + m * pr s) = pl s x
 | [],_,_,_ => rfl
 | a :: s,h,x,m => by
  have hs : ∀ b ∈ s,0 < b := fun b hb => h b (mCm _ hb)
  have hp := ql4 hs
  have e : x + m * pr (a :: s) = x + (m * a) * pr s := by show x + m * (a * pr s) = _; rw [Int.mul_assoc]
  rw [e]
  show ((x + m * a * pr s) / pr s) % a :: pl s (x + m * a * pr s) = (x / pr s) % a :: pl s x
  rw [qpy hs,Int.add_mul_ediv_right _ _ (by omega),Int.add_mul_emod_self_right]
theorem qnW : ∀ {s p : LI},mIn s p = true → pl s (ix s p) = p
 | [],[],_ => rfl
 | a :: s,b :: p,h => by
  have h' := h
  simp only [mIn,bAt,decide_eq_true_eq] at h
  have hb := qix h.2
  have hs : ∀ x ∈ s,0 < x := by
   have : ∀ {s p : LI},mIn s p = true → ∀ x ∈ s,0 < x := fun {s} => by
    induction s with
    | nil => intro p _ x hx; cases hx
    | cons y s ih =>
     intro p hh x hx
     cases p with
     | nil => simp [mIn] at hh
     | cons z p =>
      simp only [mIn,bAt,decide_eq_true_eq] at hh
      rcases List.mem_cons.1 hx with e | hx
      ·omega
      ·exact ih hh.2 x hx
   exact this h.2
  show ((b * pr s + ix s p) / pr s) % a :: pl s (b * pr s + ix s p) = b :: p
  rw [Int.add_comm (b * pr s),qpy hs,qnW h.2,Int.add_mul_ediv_right _ _ (by omega),Int.ediv_eq_zero_of_lt hb.1 hb.2,Int.zero_add,Int.emod_eq_of_lt h.1.1 h.1.2]
 | [],_ :: _,h => by simp [mIn] at h
 | _ :: _,[],h => by simp [mIn] at h
theorem qez {α : Type} (l : List α) (i j : Nat) (x d : α) : (l.set i x).getD j d = if i = j ∧ i < l.length then x else l.getD j d := by
 simp only [gDg,List.getElem?_set]
 by_cases h : i = j
 ·subst h
  by_cases h2 : i < l.length
  ·simp [h2]
  ·simp [h2]
 ·simp [h]
theorem qp2 {i : Nat} {x : Int} {r : LI} : (List.replicate (i + 1) (0 : Int) ++ r).set i x = List.replicate i 0 ++ x :: r := by
 rw [List.set_append,if_pos (by simp)]
 have : List.replicate (i + 1) (0 : Int) = List.replicate i 0 ++ [0] := List.replicate_succ'
 rw [this,List.set_append,if_neg (by simp)]
 simp
theorem qf4 (s : LI) (hs : ∀ a ∈ s,0 < a ∧ a ≤ 32) (hl : s.length ≤ 4) (x : Int) (hx : 0 ≤ x) (hx2 : x ≤ 1048576) : ∀ (i n : Nat),i ≤ s.length → i < n →
  qa7.l0 n s (x / pr (s.drop i)) ((i : Int) - 1) (List.replicate i 0 ++ pl (s.drop i) x) = some (pl s x)
 | 0,n,hi,hn => by
  obtain ⟨n,rfl⟩ := sun (n := n)
  rw [qa7.l0,ifq]; simp
 | i + 1,n,hi,hn => by
  obtain ⟨n,rfl⟩ := sun (n := n)
  have ha := hs _ (qal (show i < s.length by omega) 0)
  have hd := qaj (show i < s.length by omega) (0 : Int)
  have hp : 0 < pr (s.drop (i + 1)) := ql4 fun b hb => (hs b (List.mem_of_mem_drop hb)).1
  have ih := qf4 s hs hl x hx hx2 i n (by omega) (by omega)
  rw [hd] at ih
  have hlen : (List.replicate (i + 1) (0 : Int) ++ pl (s.drop (i + 1)) x).length = s.length := by
   rw [lAp,qc4,List.length_replicate,List.length_drop]; omega
  have hq : 0 ≤ x / pr (s.drop (i + 1)) := Int.ediv_nonneg hx (by omega)
  have hq2 : x / pr (s.drop (i + 1)) ≤ x := Int.ediv_le_self _ hx
  rw [qa7.l0,show ((i + 1 : Nat) : Int) - 1 = (i : Int) by omega,ifp,ifp,tNc,ifp,if_pos (by rw [hlen]; omega),if_pos (by rw [hlen]; omega),qak (n := (i : Int) - 1) (by omega) (by omega),qp2]
  generalize s.getD i 0 = a at ha ih ⊢
  rw [Int.tdiv_eq_ediv_of_nonneg hq,Int.tmod_eq_emod_of_nonneg hq]
  have hq3 : 0 ≤ x / pr (s.drop (i + 1)) / a := Int.ediv_nonneg hq (by omega)
  have hq4 : x / pr (s.drop (i + 1)) / a ≤ x / pr (s.drop (i + 1)) := Int.ediv_le_self _ hq
  rw [qak (by omega) (by omega),Int.ediv_ediv_of_nonneg (by omega)]
  rw [show pr (a :: s.drop (i + 1)) = a * pr (s.drop (i + 1)) from rfl,Int.mul_comm] at ih
  exact ih
theorem qdh {s : LI} (h : mSR s = true) (hp : 0 < pr s) : ∀ a ∈ s,0 < a ∧ a ≤ 32 := fun a ha =>
 ⟨qhW (fun b hb => ((qam h).2.1 b hb).1) hp a ha,((qam h).2.1 a ha).2⟩
theorem qce {s : LI} (h : mSR s = true) {x : Int} (h0 : 0 ≤ x) (h1 : x < pr s) (k : Nat) (hk : 20 ≤ k) : qa7.f k s x = some (pl s x) := by
 obtain ⟨hl,_,hb⟩ := qam h
 have := qf4 s (qdh h (by omega)) hl x h0 (by omega) s.length k (Nat.le_refl _) (by omega)
 rw [List.drop_length] at this
 unfold qa7.f
 rw [ifq,qde s k (by omega),obs,zSz,if_pos h,ifq,ifp,qak (n := (s.length : Int) - 1) (by omega) (by omega),tNc]
 rw [show x / pr ([] : LI) = x from Int.ediv_one x,show pl ([] : LI) x = [] from rfl,List.append_nil] at this
 rw [this,obs]
def zIx (s p : LI) : Int := if mSR s = true ∧ mIn s p = true then ix s p else -1
theorem qbH {a b : Int} {s p : LI} : mIn (a :: s) (b :: p) = true ↔ (0 ≤ b ∧ b < a) ∧ mIn s p = true := by
 simp only [mIn,bAt,decide_eq_true_eq]
theorem qf5 (s p : LI) (hs : ∀ a ∈ s,0 ≤ a ∧ a ≤ 32) (hl : s.length ≤ 4) (hp : p.length = s.length) : ∀ (d i : Nat) (q : Int) (n : Nat),s.length = i + d → 0 ≤ q → q < 32 ^ i → d < n →
  qbD.l0 n s p q i = some (if mIn (s.drop i) (p.drop i) = true then .inl (q * pr (s.drop i) + ix (s.drop i) (p.drop i)) else .inr (-1))
 | 0,i,q,n,hi,h0,h1,hn => by
  obtain ⟨n,rfl⟩ := sun (n := n)
  rw [qbD.l0,ifq,dNl (by omega),dNl (by omega)]
  simp [mIn,pr,ix]
 | d + 1,i,q,n,hi,h0,h1,hn => by
  obtain ⟨n,rfl⟩ := sun (n := n)
  have ha := hs _ (qal (show i < s.length by omega) 0)
  rw [qbD.l0,ifp,ifp,tNc,qaj (show i < s.length by omega) (0 : Int),qaj (show i < p.length by omega) (0 : Int)]
  generalize s.getD i 0 = a at ha ⊢
  generalize p.getD i 0 = b
  by_cases c1 : b < 0
  ·rw [if_pos c1,if_neg (by rw [qbH]; omega)]
  rw [if_neg c1,ifp]
  by_cases c2 : a ≤ b
  ·rw [if_pos c2,if_neg (by rw [qbH]; omega)]
  rw [if_neg c2]
  have h8 := p32 (show i + 1 ≤ 4 by omega)
  have e8 : (32 : Int) ^ (i + 1) = 32 ^ i * 32 := Int.pow_succ ..
  have hm0 : 0 ≤ q * a := Int.mul_nonneg h0 (by omega)
  have hm1 : q * a + a ≤ 32 ^ (i + 1) := by
   have := Int.mul_le_mul_of_nonneg_right (show q + 1 ≤ 32 ^ i by omega) (show 0 ≤ a by omega)
   rw [Int.add_mul,Int.one_mul] at this
   have h3 : (32 : Int) ^ i * a ≤ 32 ^ i * 32 := Int.mul_le_mul_of_nonneg_left (by omega) (by omega)
   omega
  rw [qak (n := q * a) (by omega) (by omega),qak (n := q * a + b) (by omega) (by omega),qak (n := (i : Int) + 1) (by omega) (by omega)]
  have := qf5 s p hs hl hp d (i + 1) (q * a + b) n (by omega) (by omega) (by omega) (by omega)
  rw [show (i : Int) + 1 = ((i + 1 : Nat) : Int) by omega,this]
  by_cases c : mIn (s.drop (i + 1)) (p.drop (i + 1)) = true
  ·rw [if_pos c,if_pos (qbH.2 ⟨by omega,c⟩)]
   show some (Sum.inl ((q * a + b) * pr (s.drop (i + 1)) + ix (s.drop (i + 1)) (p.drop (i + 1)))) = some (Sum.inl (q * (a * pr (s.drop (i + 1))) + (b * pr (s.drop (i + 1)) + ix (s.drop (i + 1)) (p.drop (i + 1)))))
   rw [Int.add_mul,Int.mul_assoc,Int.add_assoc]
  ·rw [if_neg c,if_neg (by rw [qbH]; exact fun h => c h.2)]
theorem qdY (s p : LI) (k : Nat) (hk : 20 ≤ k) : qbD.f k s p = some (zIx s p) := by
 unfold qbD.f zIx
 rw [qbj s k (by omega),obs]
 by_cases h : mSR s = true
 ·obtain ⟨hl,h2,_⟩ := qam h
  rw [if_pos h]
  by_cases hp : p.length = s.length
  ·have := qf5 s p h2 hl hp s.length 0 0 k (by omega) (by omega) (by simp) (by omega)
   rw [n0,dZr,dZr] at this
   rw [ifp,this]
   by_cases c : mIn s p = true
   ·rw [if_pos c,if_pos ⟨h,c⟩]; simp
   ·rw [if_neg c,if_neg (fun hh => c hh.2)]; simp
  ·rw [ifq,if_neg (fun hh => hp (qeS hh.2))]
 ·rw [if_neg h,if_neg (fun hh => h hh.1)]
theorem qcO {s d p : LI} (h : zT s d = true) (c : mIn s p = true) (k : Nat) (hk : 20 ≤ k) : qch.f k s d p = some (d.getD (ix s p).toNat 0) := by
 obtain ⟨h1,h2⟩ := qbo h
 have hb := qix c
 unfold qch.f
 have hz : zIx s p = ix s p := if_pos ⟨h1,c⟩
 rw [qdY s p k hk,obs,hz,ifp]
end Go.Pf

namespace Go.Pf
open Go Go.Vm
theorem setL {α : Type} (L r : List α) (x v : α) : (L ++ x :: r).set L.length v = (L ++ [v]) ++ r := by
 rw [List.set_append,ifq,Nat.sub_self]; simp
theorem getL {α : Type} (L r : List α) (x d : α) : (L ++ x :: r).getD L.length d = x := by
 simp [gDg]
theorem qhr (g : Nat → Int) (i d : Nat) (c : Int) : ((List.range i).map g ++ List.replicate (d + 1) c).set i (g i) = (List.range (i + 1)).map g ++ List.replicate d c := by
 have := setL ((List.range i).map g) (List.replicate d c) c (g i)
 rw [List.length_map,List.length_range] at this
 rw [List.replicate_succ,this,List.range_succ,List.map_append]; rfl
theorem qgX (s : LI) (c : Int) (k : Nat) (hk : 10 ≤ k) (hz : zSz s ≤ 4096) : ∀ (d i n : Nat),(zSz s).toNat = i + d → d < n →
  qa2.l0 k n s c i ([] ++ s) (List.replicate i c) = some (List.replicate (i + d) c)
 | 0,i,n,hi,hn => by
  obtain ⟨n,rfl⟩ := sun (n := n)
  rw [qa2.l0,qde s k hk,obs,ifq]; rfl
 | d + 1,i,n,hi,hn => by
  obtain ⟨n,rfl⟩ := sun (n := n)
  rw [qa2.l0,qde s k hk,obs,ifp,if_pos (by simp only [List.length_replicate,lSi]; omega),qak (n := (i : Int) + 1) (by omega) (by omega)]
  have := qgX s c k hk hz d (i + 1) n (by omega) (by omega)
  rw [show (i : Int) + 1 = ((i + 1 : Nat) : Int) by omega,show List.replicate i c ++ [c] = List.replicate (i + 1) c from List.replicate_succ'.symm,this]
  congr 2; omega
theorem qqA (s : LI) : 0 ≤ zSz s ∧ zSz s ≤ 4096 := by
 unfold zSz
 by_cases h : mSR s = true
 ·rw [if_pos h]; exact ⟨qcL fun x hx => ((qam h).2.1 x hx).1,(qam h).2.2⟩
 ·rw [if_neg h]; omega
theorem qbz (s : LI) (c : Int) (h : s.length ≤ 1000) (k : Nat) (hk : 120000 ≤ k) : qa2.f k s c = some (s,List.replicate (zSz s).toNat c) := by
 have hz := qqA s
 have := qgX s c k (by omega) hz.2 (zSz s).toNat 0 k (by omega) (by omega)
 unfold qa2.f
 rw [n0,Nat.zero_add] at this
 rw [ifp,show ([] : LI) = List.replicate 0 c from rfl,show (List.replicate 0 c ++ s) = [] ++ s from rfl,this,obs]
 rfl
theorem qc7 (s : LI) (h : s.length ≤ 1000000) : qbF.f s = some s := by
 unfold qbF.f
 rw [ifp]; rfl
def made (s : LI) (f : LI → Int) : LI := (List.range (pr s).toNat).map fun (i : Nat) => f (pl s i)
theorem qmU {s : LI} (h : mSR s = true) {f g : LI → Int} (hfg : ∀ p,mIn s p = true → f p = g p) : made s f = made s g := by
 unfold made
 apply List.map_congr_left
 intro i hi
 rw [List.mem_range] at hi
 exact hfg _ (qiv (fun a ha => (qdh h (by omega) a ha).1) _)
def zAdd : LI → LI → LI := List.zipWith (· + ·)
def zSl : LI → LI → LI → Bool
 | [],[],[] => true
 | a :: s,f :: fr,z :: sz => decide (0 ≤ f ∧ f ≤ a ∧ 0 ≤ z ∧ z ≤ a - f) && zSl s fr sz
 | _,_,_ => false
theorem qb9 {a f z : Int} {s fr sz : LI} : zSl (a :: s) (f :: fr) (z :: sz) = true ↔ (0 ≤ f ∧ f ≤ a ∧ 0 ≤ z ∧ z ≤ a - f) ∧ zSl s fr sz = true := by
 simp only [zSl,bAt,decide_eq_true_eq]
theorem qfw : ∀ {s f z : LI},zSl s f z = true → f.length = s.length ∧ z.length = s.length
 | [],[],[],_ => ⟨rfl,rfl⟩
 | _ :: s,_ :: f,_ :: z,h => by
  have := qfw (qb9.1 h).2
  simp [this.1,this.2]
 | [],_ :: _,_,h => by simp [zSl] at h
 | [],[],_ :: _,h => by simp [zSl] at h
 | _ :: _,[],_,h => by simp [zSl] at h
 | _ :: _,_ :: _,[],h => by simp [zSl] at h
theorem qfr (s f z : LI) (hs : ∀ a ∈ s,0 ≤ a ∧ a ≤ 32) (hl : s.length ≤ 4) (hf : f.length = s.length) (hz : z.length = s.length) : ∀ (d i n : Nat),s.length = i + d → d < n →
  qbO.l0 n f z s s.length i = some (if zSl (s.drop i) (f.drop i) (z.drop i) = true then .inl () else .inr 1)
 | 0,i,n,hi,hn => by
  obtain ⟨n,rfl⟩ := sun (n := n)
  rw [qbO.l0,ifq,dNl (by omega),dNl (by omega),dNl (by omega)]; rfl
 | d + 1,i,n,hi,hn => by
  obtain ⟨n,rfl⟩ := sun (n := n)
  have ha := hs _ (qal (show i < s.length by omega) 0)
  have ih := qfr s f z hs hl hf hz d (i + 1) n (by omega) (by omega)
  rw [qbO.l0,ifp,ifp,ifp,if_pos (show 0 ≤ (i : Int) ∧ (i : Int) < (z.length : Int) by omega),tNc,qaj (show i < s.length by omega) (0 : Int),qaj (show i < f.length by omega) (0 : Int),qaj (show i < z.length by omega) (0 : Int)]
  generalize s.getD i 0 = a at ha ⊢
  generalize f.getD i 0 = b
  generalize z.getD i 0 = c
  by_cases c1 : b < 0
  ·rw [if_pos c1,if_neg (by rw [qb9]; omega)]
  by_cases c2 : a < b
  ·rw [if_neg c1,if_pos c2,if_neg (by rw [qb9]; omega)]
  by_cases c3 : c < 0
  ·rw [if_neg c1,if_neg c2,if_pos c3,if_neg (by rw [qb9]; omega)]
  rw [if_neg c1,if_neg c2,if_neg c3,qak (n := a - b) (by omega) (by omega)]
  by_cases c4 : a - b < c
  ·rw [if_pos c4,if_neg (by rw [qb9]; omega)]
  rw [if_neg c4,qak (n := (i : Int) + 1) (by omega) (by omega),show (i : Int) + 1 = ((i + 1 : Nat) : Int) by omega,ih]
  by_cases c : zSl (s.drop (i + 1)) (f.drop (i + 1)) (z.drop (i + 1)) = true
  ·rw [if_pos c,if_pos (qb9.2 ⟨by omega,c⟩)]
  ·rw [if_neg c,if_neg (fun hh => c (qb9.1 hh).2)]
theorem qjS {s : LI} (h : mSR s = true) (f z : LI) (k : Nat) (hk : 10 ≤ k) : qbO.f k s f z = some (if zSl s f z = true then 0 else 1) := by
 obtain ⟨hl,hs,_⟩ := qam h
 unfold qbO.f
 by_cases hf : f.length = s.length
 ·by_cases hz : z.length = s.length
  ·have := qfr s f z hs hl hf hz s.length 0 k (by omega) (by omega)
   rw [n0,dZr,dZr,dZr] at this
   rw [ifp,ifp,this]
   by_cases c : zSl s f z = true
   ·rw [if_pos c,if_pos c]; rfl
   ·rw [if_neg c,if_neg c]; rfl
  ·rw [ifp,ifq,if_neg (fun hh => hz (qfw hh).2)]
 ·rw [ifq,if_neg (fun hh => hf (qfw hh).1)]
theorem qf0 (f : LI) (p : LI) (hf : ∀ a ∈ f,0 ≤ a ∧ a ≤ 32) (hp : ∀ a ∈ p,0 ≤ a ∧ a ≤ 32) (hl : f.length ≤ 4) (hlen : p.length = f.length) (x2 : LI) (x10 x84 x85 : Int) (y1 y2 y4 y5 : LI) : ∀ (d : Nat) (L : LI) (n : Nat),f.length = L.length + d → d < n →
  qaI.l2 n f x2 x10 x84 x85 p.length L.length y1 y2 (L ++ p.drop L.length) y4 y5 = some (L ++ zAdd (p.drop L.length) (f.drop L.length))
 | 0,L,n,hi,hn => by
  obtain ⟨n,rfl⟩ := sun (n := n)
  rw [qaI.l2,ifq,dNl (by omega)]; rfl
 | d + 1,L,n,hi,hn => by
  obtain ⟨n,rfl⟩ := sun (n := n)
  have ha := hf _ (qal (show L.length < f.length by omega) 0)
  have hb := hp _ (qal (show L.length < p.length by omega) 0)
  have ih := qf0 f p hf hp hl hlen x2 x10 x84 x85 y1 y2 y4 y5 d (L ++ [p.getD L.length 0 + f.getD L.length 0]) n (by simp; omega) (by omega)
  have hL : (L ++ p.drop L.length).length = f.length := by rw [lAp,List.length_drop]; omega
  rw [qaI.l2,ifp,if_pos (by rw [hL]; omega),if_pos (by rw [hL]; omega),ifp,tNc,qaj (show L.length < p.length by omega) (0 : Int),qaj (show L.length < f.length by omega) (0 : Int),getL,setL,qak (n := p.getD L.length 0 + f.getD L.length 0) (by omega) (by omega),qak (n := (L.length : Int) + 1) (by omega) (by omega)]
  rw [lAp,lSi] at ih
  rw [show (L.length : Int) + 1 = ((L.length + 1 : Nat) : Int) by omega,ih]
  simp [zAdd]
theorem qqK {s : LI} (h : mSR s = true) (hp : 0 < pr s) (x : Int) : ∀ a ∈ pl s x,0 ≤ a ∧ a ≤ 32 := by
 have hs := qdh h hp
 clear h hp
 induction s with
 | nil => intro a ha; cases ha
 | cons b s ih =>
  have hb := hs b (List.mem_cons_self ..)
  intro a ha
  rcases List.mem_cons.1 ha with e | ha
  ·have h1 := Int.emod_nonneg (x / pr s) (show b ≠ 0 by omega)
   have h2 := Int.emod_lt_of_pos (x / pr s) hb.1
   omega
  ·exact ih (fun c hc => hs c (mCm _ hc)) a ha
theorem qlJ : ∀ {s f z : LI},(∀ a ∈ s,0 ≤ a ∧ a ≤ 32) → zSl s f z = true → (∀ a ∈ f,0 ≤ a ∧ a ≤ 32) ∧ (∀ a ∈ z,0 ≤ a ∧ a ≤ 32) ∧ 0 ≤ pr z ∧ pr z ≤ pr s
 | [],[],[],_,_ => ⟨(by intro a ha; cases ha),(by intro a ha; cases ha),by decide,by decide⟩
 | a :: s,f :: fr,z :: sz,hs,h => by
  obtain ⟨h1,h2⟩ := qb9.1 h
  have ha := hs a (List.mem_cons_self ..)
  obtain ⟨i1,i2,i3,i4⟩ := qlJ (fun b hb => hs b (mCm _ hb)) h2
  refine ⟨fun b hb => ?_,fun b hb => ?_,Int.mul_nonneg (by omega) i3,?_⟩
  ·rcases List.mem_cons.1 hb with e | hb
   ·omega
   ·exact i1 b hb
  ·rcases List.mem_cons.1 hb with e | hb
   ·omega
   ·exact i2 b hb
  ·show z * pr sz ≤ a * pr s
   exact Int.mul_le_mul (by omega) i4 i3 (by omega)
 | [],_ :: _,_,_,h => by simp [zSl] at h
 | [],[],_ :: _,_,h => by simp [zSl] at h
 | _ :: _,[],_,_,h => by simp [zSl] at h
 | _ :: _,_ :: _,[],_,h => by simp [zSl] at h
theorem qoC {s f z : LI} (h : mSR s = true) (hc : zSl s f z = true) : mSR z = true := by
 obtain ⟨h1,h2,h3⟩ := qam h
 obtain ⟨_,i2,_,i4⟩ := qlJ h2 hc
 have hl := (qfw hc).2
 unfold mSR
 simp only [bAt,decide_eq_true_eq,List.all_eq_true]
 exact ⟨⟨by omega,fun x hx => qdc.2 (i2 x hx)⟩,by omega⟩
theorem qpp : ∀ {s f z p : LI},zSl s f z = true → mIn z p = true → mIn s (zAdd p f) = true
 | [],[],[],[],_,_ => rfl
 | a :: s,f :: fr,z :: sz,b :: p,h,hp => by
  obtain ⟨h1,h2⟩ := qb9.1 h
  obtain ⟨h3,h4⟩ := qbH.1 hp
  exact qbH.2 ⟨by show 0 ≤ b + f ∧ b + f < a; omega,qpp h2 h4⟩
 | [],_ :: _,_,_,h,_ => by simp [zSl] at h
 | [],[],_ :: _,_,h,_ => by simp [zSl] at h
 | _ :: _,[],_,_,h,_ => by simp [zSl] at h
 | _ :: _,_ :: _,[],_,h,_ => by simp [zSl] at h
 | [],[],[],_ :: _,_,h => by simp [mIn] at h
 | _ :: _,_ :: _,_ :: _,[],_,h => by simp [mIn] at h
def zCut (s d f z : LI) : LI := made z fun p => d.getD (ix s (zAdd p f)).toNat 0
end Go.Pf

namespace Go.Pf
open Go Go.Vm
theorem qf2 (s d f z : LI) (hs : ∀ a ∈ s,0 ≤ a ∧ a ≤ 32) (hl : s.length ≤ 4) (hf : f.length = s.length) (hz : z.length = s.length) : ∀ (e i n : Nat),s.length = i + e → e < n →
  qaI.l0 n f z f.length i s d = some (if zSl (s.drop i) (f.drop i) (z.drop i) = true then .inl () else .inr 1)
 | 0,i,n,hi,hn => by
  obtain ⟨n,rfl⟩ := sun (n := n)
  rw [qaI.l0,ifq,dNl (by omega),dNl (by omega),dNl (by omega)]; rfl
 | e + 1,i,n,hi,hn => by
  obtain ⟨n,rfl⟩ := sun (n := n)
  have ha := hs _ (qal (show i < s.length by omega) 0)
  have ih := qf2 s d f z hs hl hf hz e (i + 1) n (by omega) (by omega)
  rw [qaI.l0,ifp,ifp,if_pos (show 0 ≤ (i : Int) ∧ (i : Int) < (z.length : Int) by omega),if_pos (show 0 ≤ (i : Int) ∧ (i : Int) < (s.length : Int) by omega),tNc,qaj (show i < s.length by omega) (0 : Int),qaj (show i < f.length by omega) (0 : Int),qaj (show i < z.length by omega) (0 : Int)]
  generalize s.getD i 0 = a at ha ⊢
  generalize f.getD i 0 = b
  generalize z.getD i 0 = c
  by_cases c1 : b < 0
  ·rw [if_pos c1,if_neg (by rw [qb9]; omega)]
  by_cases c3 : c < 0
  ·rw [if_neg c1,if_pos c3,if_neg (by rw [qb9]; omega)]
  by_cases c2 : a < b
  ·rw [if_neg c1,if_neg c3,if_pos c2,if_neg (by rw [qb9]; omega)]
  rw [if_neg c1,if_neg c3,if_neg c2,qak (n := a - b) (by omega) (by omega)]
  by_cases c4 : a - b < c
  ·rw [if_pos c4,if_neg (by rw [qb9]; omega)]
  rw [if_neg c4,qak (n := (i : Int) + 1) (by omega) (by omega),show (i : Int) + 1 = ((i + 1 : Nat) : Int) by omega,ih]
  by_cases c : zSl (s.drop (i + 1)) (f.drop (i + 1)) (z.drop (i + 1)) = true
  ·rw [if_pos c,if_pos (qb9.2 ⟨by omega,c⟩)]
  ·rw [if_neg c,if_neg (fun hh => c (qb9.1 hh).2)]
theorem qf1 {s d f z : LI} (h : zT s d = true) (hc : zSl s f z = true) (k : Nat) (hk : 20 ≤ k) (y3 : LI) : ∀ (e i n : Nat),(pr z).toNat = i + e → e + 10 < n →
  qaI.l1 k n f z (pr z) i s d y3 ((List.range i).map (fun (i : Nat) => d.getD (ix s (zAdd (pl z i) f)).toNat 0) ++ List.replicate e 0) = some (zCut s d f z)
 | 0,i,n,hi,hn => by
  obtain ⟨n,rfl⟩ := sun (n := n)
  have hz := (qlJ (qam (qbo h).1).2.1 hc).2.2.1
  rw [qaI.l1,ifq]
  unfold zCut made
  rw [hi]; simp
 | e + 1,i,n,hi,hn => by
  obtain ⟨n,rfl⟩ := sun (n := n)
  have hr := qoC (qbo h).1 hc
  have hb := (qam hr).2.2
  have hl := qfw hc
  have h4 := (qam (qbo h).1).1
  have ih := qf1 h hc k hk y3 e (i + 1) n (by omega) (by omega)
  have l2 := qf0 f (pl z i) (qlJ (qam (qbo h).1).2.1 hc).1 (qqK hr (by omega) i) (by omega) (by rw [qc4]; omega) z i (pr z) i s d y3 ((List.range i).map (fun (i : Nat) => d.getD (ix s (zAdd (pl z i) f)).toNat 0) ++ List.replicate (e + 1) 0) f.length [] n (by simp) (by omega)
  rw [List.length_nil,n0,dZr,dZr,nAp,nAp] at l2
  rw [qaI.l1,ifp,qce hr (by omega) (by omega) k hk,obs,l2,obs,qcO h (qpp hc (qiv (fun a ha => (qdh hr (by omega) a ha).1) i)) k hk,obs,
   if_pos (by simp; omega),if_pos (by simp),tNc,qhr (fun (i : Nat) => d.getD (ix s (zAdd (pl z i) f)).toNat 0),qak (n := (i : Int) + 1) (by omega) (by omega),show (i : Int) + 1 = ((i + 1 : Nat) : Int) by omega]
  exact ih
theorem qkm (s d f z : LI) (k : Nat) (hk : 120000 ≤ k) : qaI.f k s d f z = some (if zT s d = true then (if zSl s f z = true then (0,z,zCut s d f z) else (1,[],[])) else (13,[],[])) := by
 unfold qaI.f
 rw [qbS s d k (by omega),obs]
 by_cases h : zT s d = true
 ·obtain ⟨hr,_⟩ := qbo h
  obtain ⟨hl,hs,_⟩ := qam hr
  rw [if_pos h,if_pos h]
  by_cases hf : f.length = s.length
  ·by_cases hz : z.length = s.length
   ·have l0 := qf2 s d f z hs hl hf hz s.length 0 k (by omega) (by omega)
    rw [n0,dZr,dZr,dZr] at l0
    rw [ifp,ifp,l0,obs]
    by_cases hc : zSl s f z = true
    ·have hz := qoC hr hc
     have hb := qam hz
     have h0 := qcL fun x hx => (hb.2.1 x hx).1
     have := qf1 h hc k (by omega) z (pr z).toNat 0 k (by omega) (by omega)
     rw [if_pos hc,if_pos hc,Sum.elim_inl,qbz z 0 (by omega) k hk,obs,zSz,if_pos hz,List.length_replicate,show (((pr z).toNat : Nat) : Int) = pr z by omega]
     rw [n0] at this
     rw [show List.replicate (pr z).toNat (0 : Int) = (List.range 0).map (fun (i : Nat) => d.getD (ix s (zAdd (pl z i) f)).toNat 0) ++ List.replicate (pr z).toNat 0 from rfl,this]
     rfl
    ·rw [if_neg hc,if_neg hc]; rfl
   ·rw [ifp,ifq,if_neg (fun hh => hz (qfw hh).2)]
  ·rw [ifq,if_neg (fun hh => hf (qfw hh).1)]
 ·rw [if_neg h,if_neg h]
end Go.Pf

namespace Go.Pf
open Go Go.Vm
def zWi (o : LI) : Int → LI → LI → Bool
 | _,[],[] => true
 | last,x :: s,k :: a => decide (last < k ∧ k < (o.length : Int) ∧ o.getD k.toNat 0 = x) && zWi o k s a
 | _,_,_ => false
theorem qdi {o : LI} {l x k : Int} {s a : LI} : zWi o l (x :: s) (k :: a) = true ↔ (l < k ∧ k < (o.length : Int) ∧ o.getD k.toNat 0 = x) ∧ zWi o k s a = true := by
 simp only [zWi,bAt,decide_eq_true_eq]
theorem qi5 {o : LI} : ∀ {l : Int} {s a : LI},zWi o l s a = true → a.length = s.length
 | _,[],[],_ => rfl
 | _,_ :: s,_ :: a,h => by have := qi5 (qdi.1 h).2; simp [this]
 | _,[],_ :: _,h => by simp [zWi] at h
 | _,_ :: _,[],h => by simp [zWi] at h
def zRi (m : Int) : Int → LI → Bool
 | _,[] => true
 | last,k :: a => decide (last < k ∧ k < m) && zRi m k a
theorem qcF {m l k : Int} {a : LI} : zRi m l (k :: a) = true ↔ (l < k ∧ k < m) ∧ zRi m k a = true := by
 simp only [zRi,bAt,decide_eq_true_eq]
def zEq (o : LI) : LI → LI → Bool
 | x :: s,k :: a => decide (o.getD k.toNat 0 = x) && zEq o s a
 | _,_ => true
theorem qhi {o : LI} {x k : Int} {s a : LI} : zEq o (x :: s) (k :: a) = true ↔ o.getD k.toNat 0 = x ∧ zEq o s a = true := by
 simp only [zEq,bAt,decide_eq_true_eq]
theorem qht {o : LI} : ∀ {l : Int} {s a : LI},a.length = s.length → (zWi o l s a = true ↔ zRi o.length l a = true ∧ zEq o s a = true)
 | _,[],[],_ => by simp [zWi,zRi,zEq]
 | l,x :: s,k :: a,h => by
  rw [qdi,qcF,qhi,qht (by simpa using h)]
  exact ⟨fun ⟨⟨h1,h2,h3⟩,h4,h5⟩ => ⟨⟨⟨h1,h2⟩,h4⟩,h3,h5⟩,fun ⟨⟨⟨h1,h2⟩,h4⟩,h3,h5⟩ => ⟨⟨h1,h2,h3⟩,h4,h5⟩⟩
 | _,[],_ :: _,h => by simp at h
 | _,_ :: _,[],h => by simp at h
theorem qkX {m : Int} : ∀ {l : Int} {a : LI},zRi m l a = true → ∀ k ∈ a,l < k ∧ k < m
 | _,[],_,k,h => by cases h
 | l,b :: a,h,k,hk => by
  obtain ⟨h1,h2⟩ := qcF.1 h
  rcases List.mem_cons.1 hk with e | hk
  ·omega
  ·have := qkX h2 k hk; omega
theorem qfs (m : Int) (a : LI) (hl : a.length ≤ 1000) : ∀ (d i : Nat) (l : Int) (n : Nat),a.length = i + d → d < n →
  qa5.l0 n m l a a.length i = some (if zRi m l (a.drop i) = true then .inl () else .inr false)
 | 0,i,l,n,hi,hn => by
  obtain ⟨n,rfl⟩ := sun (n := n)
  rw [qa5.l0,ifq,dNl (by omega)]; rfl
 | d + 1,i,l,n,hi,hn => by
  obtain ⟨n,rfl⟩ := sun (n := n)
  have ih := qfs m a hl d (i + 1) (a.getD i 0) n (by omega) (by omega)
  rw [qa5.l0,ifp,ifp,tNc,qaj (show i < a.length by omega) (0 : Int)]
  generalize a.getD i 0 = b at ih ⊢
  by_cases c1 : b ≤ l
  ·rw [if_pos c1,if_neg (by rw [qcF]; omega)]
  by_cases c2 : m ≤ b
  ·rw [if_neg c1,if_pos c2,if_neg (by rw [qcF]; omega)]
  rw [if_neg c1,if_neg c2,qak (n := (i : Int) + 1) (by omega) (by omega),show (i : Int) + 1 = ((i + 1 : Nat) : Int) by omega,ih]
  by_cases c : zRi m b (a.drop (i + 1)) = true
  ·rw [if_pos c,if_pos (qcF.2 ⟨by omega,c⟩)]
  ·rw [if_neg c,if_neg (fun hh => c (qcF.1 hh).2)]
theorem qgn (s o a : LI) (hl : s.length ≤ 4) (ha : a.length = s.length) (hr : ∀ k ∈ a,0 ≤ k ∧ k < (o.length : Int)) : ∀ (d i n : Nat),a.length = i + d → d < n →
  qb7.l0 n s o a a.length i = some (if zEq o (s.drop i) (a.drop i) = true then .inl () else .inr 1)
 | 0,i,n,hi,hn => by
  obtain ⟨n,rfl⟩ := sun (n := n)
  rw [qb7.l0,ifq,dNl (by omega),dNl (by omega)]; rfl
 | d + 1,i,n,hi,hn => by
  obtain ⟨n,rfl⟩ := sun (n := n)
  have ih := qgn s o a hl ha hr d (i + 1) n (by omega) (by omega)
  have hk := hr _ (qal (show i < a.length by omega) 0)
  rw [qb7.l0,ifp,ifp,tNc,if_pos hk,ifp,qaj (show i < a.length by omega) (0 : Int),qaj (show i < s.length by omega) (0 : Int)]
  generalize a.getD i 0 = b
  generalize s.getD i 0 = x
  by_cases c1 : o.getD b.toNat 0 = x
  ·rw [if_pos c1,qak (n := (i : Int) + 1) (by omega) (by omega),show (i : Int) + 1 = ((i + 1 : Nat) : Int) by omega,ih]
   by_cases c : zEq o (s.drop (i + 1)) (a.drop (i + 1)) = true
   ·rw [if_pos c,if_pos (qhi.2 ⟨c1,c⟩)]
   ·rw [if_neg c,if_neg (fun hh => c (qhi.1 hh).2)]
  ·rw [if_neg c1,if_neg (fun hh => c1 (qhi.1 hh).1)]
theorem qkT {s : LI} (hl : s.length ≤ 4) (o a : LI) (k : Nat) (hk : 10 ≤ k) : qb7.f k s o a = some (if mSR o = true then (if zWi o (-1) s a = true then 0 else 1) else 13) := by
  unfold qb7.f
  rw [qb1 o k hk,obs]
  by_cases ho : mSR o = true
  · rw [if_pos ho,if_pos ho]
    by_cases ha : a.length = s.length
    · have e1 := qfs o.length a (by omega) a.length 0 (-1) k (by omega) (by omega)
      rw [n0,dZr] at e1
      rw [ifp]
      unfold qa5.f
      rw [e1]
      by_cases hr : zRi o.length (-1) a = true
      · have e2 := qgn s o a hl ha (fun k hk => by have := qkX hr k hk; omega) a.length 0 k (by omega) (by omega)
        rw [n0,dZr,dZr] at e2
        rw [if_pos hr,obs,Sum.elim_inl,obs,if_pos rfl,e2]
        by_cases c : zEq o s a = true
        · rw [if_pos c,if_pos ((qht ha).2 ⟨hr,c⟩)]; rfl
        · rw [if_neg c,if_neg (fun hh => c ((qht ha).1 hh).2)]; rfl
      · rw [if_neg hr,if_neg (fun hh => hr ((qht ha).1 hh).1)]; rfl
    · rw [ifq,if_neg (fun hh => ha (qi5 hh))]
  · rw [if_neg ho,if_neg ho]
def pick (p a : LI) : LI := a.map fun k => p.getD k.toNat 0
theorem qp6 {o p : LI} (hp : mIn o p = true) : ∀ {l : Int} {s a : LI},-1 ≤ l → zWi o l s a = true → mIn s (pick p a) = true := by
 have hg : ∀ {o p : LI},mIn o p = true → ∀ j,j < o.length → 0 ≤ p.getD j 0 ∧ p.getD j 0 < o.getD j 0 := fun {o} => by
  induction o with
  | nil => intro p _ j hj; cases hj
  | cons x o ih =>
   intro p h j hj
   cases p with
   | nil => simp [mIn] at h
   | cons y p =>
    obtain ⟨h1,h2⟩ := qbH.1 h
    cases j with
    | zero => exact h1
    | succ j => exact ih h2 j (by simpa using hj)
 intro l s
 induction s generalizing l with
 | nil =>
  intro a _ h
  cases a with
  | nil => rfl
  | cons _ _ => simp [zWi] at h
 | cons x s ih =>
  intro a hl h
  cases a with
  | nil => simp [zWi] at h
  | cons k a =>
   obtain ⟨⟨h1,h2,h3⟩,h4⟩ := qdi.1 h
   have := hg hp k.toNat (by omega)
   exact qbH.2 ⟨by show 0 ≤ p.getD k.toNat 0 ∧ p.getD k.toNat 0 < x; omega,ih (by omega) h4⟩
def zSpr (s d o a : LI) : LI := made o fun p => d.getD (ix s (pick p a)).toNat 0
theorem qff (p a : LI) (hl : a.length ≤ 4) (hr : ∀ k ∈ a,0 ≤ k ∧ k < (p.length : Int)) (x1 : LI) (x10 x86 x87 : Int) (s d y5 y6 : LI) : ∀ (e : Nat) (L : LI) (n : Nat),a.length = L.length + e → e < n →
  qax.l2 n x1 a x10 x86 x87 a.length L.length s d p L y5 y6 = some (L ++ pick p (a.drop L.length))
 | 0,L,n,hi,hn => by
  obtain ⟨n,rfl⟩ := sun (n := n)
  rw [qax.l2,ifq,dNl (by omega)]
  simp [pick]
 | e + 1,L,n,hi,hn => by
  obtain ⟨n,rfl⟩ := sun (n := n)
  have hk := hr _ (qal (show L.length < a.length by omega) 0)
  have ih := qff p a hl hr x1 x10 x86 x87 s d y5 y6 e (L ++ [p.getD (a.getD L.length 0).toNat 0]) n (by simp; omega) (by omega)
  rw [qax.l2,ifp,ifp,tNc,if_pos hk,ifp,if_pos (by simp only [lSi]; omega),qak (n := (L.length : Int) + 1) (by omega) (by omega)]
  rw [lAp,lSi] at ih
  rw [show (L.length : Int) + 1 = ((L.length + 1 : Nat) : Int) by omega,ih,qaj (show L.length < a.length by omega) (0 : Int)]
  simp [pick]
theorem qfh (s d o a : LI) (hl : s.length ≤ 4) (ha : a.length = s.length) : ∀ (e i n : Nat),a.length = i + e → e < n → ∀ (l : Int),(i = 0 → l = -1) → (0 < i → l = a.getD (i - 1) 0 ∧ 0 ≤ l) →
  qax.l0 n o a a.length i s d = some (if zWi o l (s.drop i) (a.drop i) = true then .inl () else .inr 1)
 | 0,i,n,hi,hn,l,l0,l1 => by
  obtain ⟨n,rfl⟩ := sun (n := n)
  rw [qax.l0,ifq,dNl (by omega),dNl (by omega)]; rfl
 | e + 1,i,n,hi,hn,l,l0,l1 => by
  obtain ⟨n,rfl⟩ := sun (n := n)
  have ih := qfh s d o a hl ha e (i + 1) n (by omega) (by omega) (a.getD i 0) (by omega)
  rw [Nat.add_sub_cancel] at ih
  rw [qax.l0,ifp,ifp,tNc,qaj (show i < a.length by omega) (0 : Int),qaj (show i < s.length by omega) (0 : Int)]
  rw [qak (n := (i : Int) + 1) (by omega) (by omega),show (i : Int) + 1 = ((i + 1 : Nat) : Int) by omega]
  rw [show IntKind.i64.wrap ((i : Int) - 1) = (i : Int) - 1 from qak (by omega) (by omega),show ((i : Int) - 1).toNat = i - 1 by omega]
  generalize a.getD i 0 = b at ih ⊢
  generalize s.getD i 0 = x
  by_cases c1 : b < 0
  ·rw [if_pos c1,if_neg (fun hh => by
    have hlb := (qdi.1 hh).1.1
    rcases Nat.eq_zero_or_pos i with e | e
    ·have := l0 e; omega
    ·have := (l1 e).2; omega)]
  by_cases c2 : (o.length : Int) ≤ b
  ·rw [if_neg c1,if_pos c2,if_neg (by rw [qdi]; omega)]
  rw [if_neg c1,if_neg c2]
  have tail : ∀ (hlb : l < b),(if 0 ≤ b ∧ b < (o.length : Int) then if 0 ≤ (i : Int) ∧ (i : Int) < (s.length : Int) then if o.getD b.toNat 0 = x then (qax.l0 n o a a.length ((i + 1 : Nat) : Int) s d) else some (.inr 1) else none else none) = some (if zWi o l (x :: s.drop (i + 1)) (b :: a.drop (i + 1)) = true then .inl () else .inr 1) := by
   intro hlb
   rw [ifp,ifp]
   by_cases c3 : o.getD b.toNat 0 = x
   ·rw [if_pos c3,ih (fun _=>⟨rfl,by omega⟩)]
    by_cases c : zWi o b (s.drop (i + 1)) (a.drop (i + 1)) = true
    ·rw [if_pos c,if_pos (qdi.2 ⟨⟨hlb,by omega,c3⟩,c⟩)]
    ·rw [if_neg c,if_neg (fun hh => c (qdi.1 hh).2)]
   ·rw [if_neg c3,if_neg (fun hh => c3 (qdi.1 hh).1.2.2)]
  by_cases ci : 0 < (i : Int)
  ·obtain ⟨e1,e2⟩ := l1 (by omega)
   rw [if_pos ci,ifp,← e1]
   by_cases c3 : b ≤ l
   ·rw [if_pos c3,if_neg (by rw [qdi]; omega)]
   ·rw [if_neg c3]; exact tail (by omega)
  ·rw [if_neg ci]
   have := l0 (by omega)
   exact tail (by omega)
theorem qfg {s d o a : LI} (h : zT s d = true) (ho : mSR o = true) (hc : zWi o (-1) s a = true) (k : Nat) (hk : 20 ≤ k) (y3 : LI) : ∀ (e i n : Nat),(pr o).toNat = i + e → e + 10 < n →
  qax.l1 k n o a (pr o) i s d y3 ((List.range i).map (fun (i : Nat) => d.getD (ix s (pick (pl o i) a)).toNat 0) ++ List.replicate e 0) = some (zSpr s d o a)
 | 0,i,n,hi,hn => by
  obtain ⟨n,rfl⟩ := sun (n := n)
  rw [qax.l1,ifq]
  unfold zSpr made
  rw [hi]; simp
 | e + 1,i,n,hi,hn => by
  obtain ⟨n,rfl⟩ := sun (n := n)
  have hb := (qam ho).2.2
  have ha := qi5 hc
  have hr := ((qht ha).1 hc).1
  have h4 := (qam (qbo h).1).1
  have ih := qfg h ho hc k hk y3 e (i + 1) n (by omega) (by omega)
  have l2 := qff (pl o i) a (by omega) (fun k hk => by rw [qc4]; have := qkX hr k hk; omega) o i (pr o) i s d y3 ((List.range i).map (fun (i : Nat) => d.getD (ix s (pick (pl o i) a)).toNat 0) ++ List.replicate (e + 1) 0) a.length [] n (by simp) (by omega)
  rw [List.length_nil,n0,dZr,nAp] at l2
  rw [qax.l1,ifp,qce ho (by omega) (by omega) k hk,obs,l2,obs,qcO h (qp6 (qiv (fun b hb => (qdh ho (by omega) b hb).1) i) (by omega) hc) k hk,obs,
   if_pos (by simp; omega),if_pos (by simp),tNc,qhr (fun (i : Nat) => d.getD (ix s (pick (pl o i) a)).toNat 0),qak (n := (i : Int) + 1) (by omega) (by omega),show (i : Int) + 1 = ((i + 1 : Nat) : Int) by omega]
  exact ih
theorem qjr (s d o a : LI) (k : Nat) (hk : 120000 ≤ k) : qax.f k s d o a = some (if zT s d = true then (if mSR o = true then (if zWi o (-1) s a = true then (0,o,zSpr s d o a) else (1,[],[])) else (13,[],[])) else (13,[],[])) := by
  unfold qax.f
  rw [qbS s d k (by omega),obs]
  by_cases h : zT s d = true
  · obtain ⟨hr,_⟩ := qbo h
    have h4 := (qam hr).1
    rw [if_pos h,if_pos h,qbj o k (by omega),obs]
    by_cases ho : mSR o = true
    · rw [if_pos ho,if_pos ho]
      by_cases ha : a.length = s.length
      · have l0 := qfh s d o a h4 ha a.length 0 k (by omega) (by omega) (-1) (fun _=>rfl) (by omega)
        rw [n0,dZr,dZr] at l0
        rw [ifp,l0,obs]
        by_cases hc : zWi o (-1) s a = true
        · have hb := qam ho
          have h0 := qcL fun x hx => (hb.2.1 x hx).1
          have this := qfg h ho hc k (by omega) o (pr o).toNat 0 k (by omega) (by omega)
          rw [if_pos hc,if_pos hc,Sum.elim_inl,qbz o 0 (by omega) k hk,obs,zSz,if_pos ho,List.length_replicate,show (((pr o).toNat : Nat) : Int) = pr o by omega]
          rw [n0] at this
          rw [show List.replicate (pr o).toNat (0 : Int) = (List.range 0).map (fun (i : Nat) => d.getD (ix s (pick (pl o i) a)).toNat 0) ++ List.replicate (pr o).toNat 0 from rfl,this]
          rfl
        · rw [if_neg hc,if_neg hc]; rfl
      · rw [ifq,if_neg (fun hh => ha (qi5 hh))]
    · rw [if_neg ho,if_neg ho]
  · rw [if_neg h,if_neg h]
end Go.Pf
