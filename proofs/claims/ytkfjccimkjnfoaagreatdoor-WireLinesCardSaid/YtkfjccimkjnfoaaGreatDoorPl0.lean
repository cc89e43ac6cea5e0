/- Own texts put together: P14, P16, P5 .. -/
import Derived.Test.YtkfjccimkjnfoaaGreatDoorVm1
import Derived.Shelf.Strings.Builder1
import Derived.Shelf.Strings.Builder2
import Derived.Shelf.Strings.OnBuilder
import Derived.Shelf.Strings.BuilderF
import Derived.Shelf.Strconv.Itoa0
import Derived.Shelf.Strconv.Itoa1
import Derived.Shelf.LaysM
import Derived.Shelf.Strconv.Itoa2
import Derived.Shelf.Strconv.Itoa3
import Derived.Shelf.Strconv.Itoa4
import Derived.Test.YtkfjccimkjnfoaaGreatDoorProg
namespace Go.Pf
abbrev LI := List Int
abbrev LN := Int × LI × LI × LI × Int × Int × ByteArray
abbrev ln0 : LN := (0,([],([],([],(0,(0,ByteArray.empty))))))
abbrev LT := LI × LI
theorem obs {α β : Type} (a : α) (f : α → Option β) : (some a).bind f = f a := rfl
theorem ifp {c : Prop} [Decidable c] {α : Type} {a b : α} (h : c := by omega) : (if c then a else b) = a := if_pos h
theorem ifq {c : Prop} [Decidable c] {α : Type} {a b : α} (h : ¬ c := by omega) : (if c then a else b) = b := if_neg h
theorem sun {n : Nat} (h : 0 < n := by omega) : ∃ m, n = m + 1 := ⟨n - 1,by omega⟩
end Go.Pf

set_option linter.unusedVariables false
set_option linter.unusedSimpArgs false
namespace Go.Pf
open Go
def qdm.f (a0 : Int) (a1 : Int) (a2 : Int) : Option (Int) := if a1 ≤ a0 then (if a0 ≤ a2 then (some a0) else if IntKind.i64.wrap ((IntKind.i64.wrap (a2 - a1)) + 1) ≠ 0 then if a0.tmod (IntKind.i64.wrap ((IntKind.i64.wrap (a2 - a1)) + 1)) < 0 then (some (IntKind.i64.wrap (a1 + (IntKind.i64.wrap ((IntKind.i64.wrap ((IntKind.i64.wrap ((a0.tmod (IntKind.i64.wrap ((IntKind.i64.wrap (a2 - a1)) + 1))) + a2)) - a1)) + 1))))) else some (IntKind.i64.wrap (a1 + (a0.tmod (IntKind.i64.wrap ((IntKind.i64.wrap (a2 - a1)) + 1))))) else none) else if IntKind.i64.wrap ((IntKind.i64.wrap (a2 - a1)) + 1) ≠ 0 then if a0.tmod (IntKind.i64.wrap ((IntKind.i64.wrap (a2 - a1)) + 1)) < 0 then (some (IntKind.i64.wrap (a1 + (IntKind.i64.wrap ((IntKind.i64.wrap ((IntKind.i64.wrap ((a0.tmod (IntKind.i64.wrap ((IntKind.i64.wrap (a2 - a1)) + 1))) + a2)) - a1)) + 1))))) else some (IntKind.i64.wrap (a1 + (a0.tmod (IntKind.i64.wrap ((IntKind.i64.wrap (a2 - a1)) + 1))))) else none
end Go.Pf

namespace Go.Pf
open Go
def qaM.l0 : Nat → Int → LI → Int → Int → Option (Int ⊕ Bool)
 | 0,_,_,_,_ => none
 | n + 1,x3,x9,x10,x11 => if x11 < x10 then (if 0 ≤ x11 ∧ x11 < (x9.length : Int) then if x9.getD x11.toNat 0 < 0 then (some (.inr false)) else if 32 < x9.getD x11.toNat 0 then (some (.inr false)) else qaM.l0 n (IntKind.i64.wrap (x3 * (x9.getD x11.toNat 0))) x9 x10 (IntKind.i64.wrap (x11 + 1)) else none) else some (.inl x3)
def qaM.f (k : Nat) (a0 : LI) : Option (Bool) := if 4 < (a0.length : Int) then (some false) else (qaM.l0 k 1 a0 (a0.length : Int) 0).bind fun t1 => Sum.elim (fun t1 => some (decide (t1 ≤ 4096))) (fun t1 => some t1) t1
def qaU.l0 : Nat → LI → Int → Int → Int → Option (Unit ⊕ Int)
 | 0,_,_,_,_ => none
 | n + 1,x0,x1,x7,x8 => if x8 < x7 then (if 0 ≤ x8 ∧ x8 < (x0.length : Int) then if x1 = x0.getD x8.toNat 0 then (some (.inr x8)) else qaU.l0 n x0 x1 x7 (IntKind.i64.wrap (x8 + 1)) else none) else some (.inl ())
def qaU.f (k : Nat) (a0 : LI) (a1 : Int) : Option (Int) := (qaU.l0 k a0 a1 (a0.length : Int) 0).bind fun t1 => Sum.elim (fun t1 => some (-1)) (fun t1 => some t1) t1
def qbP.f (k : Nat) (a0 : LI) (a1 : Int) : Option (Bool) := (qaU.f k a0 a1).bind fun t1 => some (decide (0 ≤ t1))
def qac.f (a1 : Int) (o0_0 : LI) (o0_1 : Int) : Option (Int × Int) := if (o0_0.length : Int) ≤ o0_1 then (some (0,o0_1)) else if a1 < 1 then (some (0,o0_1)) else if 0 ≤ IntKind.i64.wrap ((IntKind.i64.wrap (o0_1 + 1)) - 1) ∧ IntKind.i64.wrap ((IntKind.i64.wrap (o0_1 + 1)) - 1) < (o0_0.length : Int) then (qdm.f (o0_0.getD (IntKind.i64.wrap ((IntKind.i64.wrap (o0_1 + 1)) - 1)).toNat 0) 0 1073741824).bind fun t1 => if a1 ≠ 0 then some (t1.tmod a1,IntKind.i64.wrap (o0_1 + 1)) else none else none
def qav.l0 : Nat → Int → LI → Int → LI → Option (Int × LI)
 | 0,_,_,_,_ => none
 | n + 1,x4,y0_0,y0_1,y1 => if 0 < x4 then ((qac.f 8 y0_0 y0_1).bind fun t2 => if 0 ≤ t2.1 ∧ t2.1 < (([1,2,3,4,5,0,7,2] : LI).length : Int) then if t2.1.toNat < ([1,2,3,4,5,0,7,2] : LI).length then if y1.length + [([1,2,3,4,5,0,7,2] : LI).getD t2.1.toNat 0].length ≤ 281474976710656 ∧ (y1.length + [([1,2,3,4,5,0,7,2] : LI).getD t2.1.toNat 0].length) * 8 ≤ 140737488355328 then qav.l0 n (IntKind.i64.wrap (x4 - 1)) y0_0 t2.2 (y1 ++ [([1,2,3,4,5,0,7,2] : LI).getD t2.1.toNat 0]) else none else none else none) else some (y0_1,y1)
def qav.f (k : Nat) (o0_0 : LI) (o0_1 : Int) : Option (Int × LI) := (qac.f 4 o0_0 o0_1).bind fun t1 => (qav.l0 k t1.1 o0_0 t1.2 []).bind fun t3 => some (t3.1,t3.2)
def qaH.l0 : Nat → LI → Int → Int → LI → Int → LI → (List Bool) → Option (Int × LI)
 | 0,_,_,_,_,_,_,_ => none
 | n + 1,x1,x17,x18,y0_0,y0_1,y1,y2 => if x18 < x17 then (if 0 ≤ x18 ∧ x18 < (y1.length : Int) then if x18.toNat < y1.length then if 0 < (x1.length : Int) then ((qac.f 2 y0_0 y0_1).bind fun t1 => if t1.1 = 0 then ((qac.f (x1.length : Int) y0_0 t1.2).bind fun t2 => if 0 ≤ t2.1 ∧ t2.1 < (y2.length : Int) then if t2.1.toNat < y2.length then if (y2.getD t2.1.toNat false) = true then (qaH.l0 n x1 x17 (IntKind.i64.wrap (x18 + 1)) y0_0 t2.2 (y1.set x18.toNat (-1)) y2) else if 0 ≤ x18 ∧ x18 < ((y1.set x18.toNat (-1)).length : Int) then if x18.toNat < (y1.set x18.toNat (-1)).length then qaH.l0 n x1 x17 (IntKind.i64.wrap (x18 + 1)) y0_0 t2.2 ((y1.set x18.toNat (-1)).set x18.toNat t2.1) (y2.set t2.1.toNat true) else none else none else none else none) else qaH.l0 n x1 x17 (IntKind.i64.wrap (x18 + 1)) y0_0 t1.2 (y1.set x18.toNat (-1)) y2) else qaH.l0 n x1 x17 (IntKind.i64.wrap (x18 + 1)) y0_0 y0_1 (y1.set x18.toNat (-1)) y2 else none else none) else some (y0_1,y1)
def qaH.f (k : Nat) (a1 : LI) (a2 : Int) (o0_0 : LI) (o0_1 : Int) : Option (Int × LI) := if 0 ≤ a2 ∧ a2 ≤ 281474976710656 ∧ ((8 : Nat) : Int) * a2 ≤ 140737488355328 then if 0 ≤ (a1.length : Int) ∧ (a1.length : Int) ≤ 281474976710656 ∧ ((1 : Nat) : Int) * (a1.length : Int) ≤ 140737488355328 then (qaH.l0 k a1 ((List.replicate a2.toNat (0 : Int)).length : Int) 0 o0_0 o0_1 (List.replicate a2.toNat (0 : Int)) (List.replicate (a1.length : Int).toNat (false : Bool))).bind fun t3 => some (t3.1,t3.2) else none else none
end Go.Pf

namespace Go.Pf
open Go
def qaB.l0 : Nat → LI → Int → Int → Option (Int ⊕ Bool)
 | 0,_,_,_ => none
 | n + 1,x0,x3,x4 => if x4 < (x0.length : Int) then (if 0 ≤ x4 ∧ x4 < (x0.length : Int) then if x0.getD x4.toNat 0 < 0 then (some (.inr false)) else if 32 < x0.getD x4.toNat 0 then (some (.inr false)) else if 4 ≤ x4 then (some (.inr false)) else qaB.l0 n x0 (IntKind.i64.wrap (x3 * (x0.getD x4.toNat 0))) (IntKind.i64.wrap (x4 + 1)) else none) else some (.inl x3)
def qaB.f (k : Nat) (a0 : LI) : Option (Bool) := (qaB.l0 k a0 1 0).bind fun t1 => Sum.elim (fun t1 => some (decide (t1 ≤ 4096))) (fun t1 => some t1) t1
def qbA.l0 : Nat → LI → Int → Int → Option (Int)
 | 0,_,_,_ => none
 | n + 1,x0,x3,x4 => if x4 < (x0.length : Int) then (if 0 ≤ x4 ∧ x4 < (x0.length : Int) then qbA.l0 n x0 (IntKind.i64.wrap (x3 * (x0.getD x4.toNat 0))) (IntKind.i64.wrap (x4 + 1)) else none) else some x3
def qbA.f (k : Nat) (a0 : LI) : Option (Int) := (qaB.f k a0).bind fun t1 => if t1 = true then ((qbA.l0 k a0 1 0).bind fun t2 => some t2) else some 0
def qaV.l0 (k : Nat) : Nat → LI → Int → Int → LI → LI → Option (LI)
 | 0,_,_,_,_,_ => none
 | n + 1,x0,x1,x6,y2,y3 => (qbA.f k x0).bind fun t1 => if x6 < t1 then (if y3.length + [x1].length ≤ 281474976710656 ∧ (y3.length + [x1].length) * 8 ≤ 140737488355328 then qaV.l0 k n x0 x1 (IntKind.i64.wrap (x6 + 1)) y2 (y3 ++ [x1]) else none) else some y3
def qaV.f (k : Nat) (a0 : LI) (a1 : Int) : Option LT := if 0 + a0.length ≤ 281474976710656 ∧ (0 + a0.length) * 8 ≤ 140737488355328 then (qaV.l0 k k a0 a1 0 ([] ++ a0) []).bind fun t2 => some ([] ++ a0,t2) else none
def qa6.f (o0_0 : LI) (o0_1 : Int) : Option (Int × Int) := (qac.f 9 o0_0 o0_1).bind fun t1 => if t1.1 = 0 then ((qac.f 6 o0_0 t1.2).bind fun t2 => if 0 ≤ t2.1 ∧ t2.1 < (([9223372036854775807,-9223372036854775808,4611686018427387904,-1099511627776,8589934592,3037000500] : LI).length : Int) then if t2.1.toNat < ([9223372036854775807,-9223372036854775808,4611686018427387904,-1099511627776,8589934592,3037000500] : LI).length then some (([9223372036854775807,-9223372036854775808,4611686018427387904,-1099511627776,8589934592,3037000500] : LI).getD t2.1.toNat 0,t2.2) else none else none) else if t1.1 = 1 then (some (0,t1.2)) else (qac.f 19 o0_0 t1.2).bind fun t3 => some (IntKind.i64.wrap (t3.1 - 9),t3.2)
def qbn.f (a0 : LI) : Option (LI) := if 0 + a0.length ≤ 281474976710656 ∧ (0 + a0.length) * 8 ≤ 140737488355328 then some ([] ++ a0) else none
def qaO.l1 : Nat → Int → LI → (List LI) → Int → Int → LI → Int → Int → LI → Option (Unit ⊕ Int)
 | 0,_,_,_,_,_,_,_,_,_ => none
 | n + 1,x0,x8,x33,x34,x35,x44,x45,x46,y0 => if x46 < x45 then (if 0 ≤ x46 ∧ x46 < (x44.length : Int) then if x46 = x0 then (qaO.l1 n x0 x8 x33 x34 x35 x44 x45 (IntKind.i64.wrap (x46 + 1)) y0) else if 0 ≤ x46 ∧ x46 < (y0.length : Int) then if x46.toNat < y0.length then if x44.getD x46.toNat 0 = y0.getD x46.toNat 0 then (qaO.l1 n x0 x8 x33 x34 x35 x44 x45 (IntKind.i64.wrap (x46 + 1)) y0) else some (.inr 13) else none else none else none) else some (.inl ())
def qaO.l0 (k : Nat) : Nat → Int → (List LI) → Int → Int → LI → Option (LI ⊕ Int)
 | 0,_,_,_,_,_ => none
 | n + 1,x0,x33,x34,x35,y0 => if x35 < x34 then (if 0 ≤ x35 ∧ x35 < (x33.length : Int) then if ((x33.getD x35.toNat []).length : Int) = (y0.length : Int) then ((qaO.l1 n x0 (x33.getD x35.toNat []) x33 x34 x35 (x33.getD x35.toNat []) ((x33.getD x35.toNat []).length : Int) 0 y0).bind fun t2 => Sum.elim (fun t2 => if 0 ≤ x0 ∧ x0 < (y0.length : Int) then if x0.toNat < y0.length then if 0 ≤ x0 ∧ x0 < ((x33.getD x35.toNat []).length : Int) then if 0 ≤ x0 ∧ x0 < ((y0.set x0.toNat (IntKind.i64.wrap ((y0.getD x0.toNat 0) + ((x33.getD x35.toNat []).getD x0.toNat 0)))).length : Int) then if x0.toNat < (y0.set x0.toNat (IntKind.i64.wrap ((y0.getD x0.toNat 0) + ((x33.getD x35.toNat []).getD x0.toNat 0)))).length then if 32 < (y0.set x0.toNat (IntKind.i64.wrap ((y0.getD x0.toNat 0) + ((x33.getD x35.toNat []).getD x0.toNat 0)))).getD x0.toNat 0 then (some (.inr 13)) else qaO.l0 k n x0 x33 x34 (IntKind.i64.wrap (x35 + 1)) (y0.set x0.toNat (IntKind.i64.wrap ((y0.getD x0.toNat 0) + ((x33.getD x35.toNat []).getD x0.toNat 0)))) else none else none else none else none else none) (fun t2 => some (.inr t2)) t2) else some (.inr 13) else none) else some (.inl y0)
def qaO.f (k : Nat) (a0 : Int) (a1 : List LI) : Option (Int × LI) := if (a1.length : Int) = 0 then (some (1,[])) else if a0 < 0 then (some (1,[])) else if (0 : Int) ≤ 0 ∧ 0 < (a1.length : Int) then if ((a1.getD 0 []).length : Int) ≤ a0 then (some (1,[])) else (qbn.f (a1.getD 0 [])).bind fun t1 => if 0 ≤ a0 ∧ a0 < (t1.length : Int) then if a0.toNat < t1.length then (qaO.l0 k k a0 a1 (a1.length : Int) 0 (t1.set a0.toNat 0)).bind fun t3 => Sum.elim (fun t3 => (qaM.f k t3).bind fun t4 => if t4 = true then (some (0,t3)) else some (13,[])) (fun t3 => some (t3,[])) t3 else none else none else none
def qjW.l0 : Nat → LI → Int → Int → LI → Option (LI)
 | 0,_,_,_,_ => none
 | n + 1,x0,x1,x6,y0 => if 0 ≤ x6 then (if 0 ≤ x6 ∧ x6 < (x0.length : Int) then if x0.getD x6.toNat 0 ≠ 0 then if 0 ≤ x6 ∧ x6 < (y0.length : Int) then if x6.toNat < y0.length then qjW.l0 n x0 (IntKind.i64.wrap (x1.tdiv (x0.getD x6.toNat 0))) (IntKind.i64.wrap (x6 - 1)) (y0.set x6.toNat (x1.tmod (x0.getD x6.toNat 0))) else none else none else none else none) else some y0
def qbv.l0 : Nat → LI → LI → Int → Int → LI → (List Bool) → Option (LI ⊕ Int)
 | 0,_,_,_,_,_,_ => none
 | n + 1,x0,x21,x22,x23,y0,y1 => if x23 < x22 then (if 0 ≤ x23 ∧ x23 < (x21.length : Int) then if x21.getD x23.toNat 0 < 0 then (some (.inr 1)) else if (x0.length : Int) ≤ x21.getD x23.toNat 0 then (some (.inr 1)) else if 0 ≤ x21.getD x23.toNat 0 ∧ x21.getD x23.toNat 0 < (y1.length : Int) then if (x21.getD x23.toNat 0).toNat < y1.length then if (y1.getD (x21.getD x23.toNat 0).toNat false) = true then (some (.inr 1)) else if 0 ≤ x21.getD x23.toNat 0 ∧ x21.getD x23.toNat 0 < (x0.length : Int) then if 0 ≤ x23 ∧ x23 < (y0.length : Int) then if x23.toNat < y0.length then qbv.l0 n x0 x21 x22 (IntKind.i64.wrap (x23 + 1)) (y0.set x23.toNat (x0.getD (x21.getD x23.toNat 0).toNat 0)) (y1.set (x21.getD x23.toNat 0).toNat true) else none else none else none else none else none else none) else some (.inl y0)
def qbv.f (k : Nat) (a0 : LI) (a1 : LI) : Option (Int × LI) := if (a1.length : Int) = (a0.length : Int) then (if 0 ≤ (a0.length : Int) ∧ (a0.length : Int) ≤ 281474976710656 ∧ ((8 : Nat) : Int) * (a0.length : Int) ≤ 140737488355328 then if 0 ≤ (a0.length : Int) ∧ (a0.length : Int) ≤ 281474976710656 ∧ ((1 : Nat) : Int) * (a0.length : Int) ≤ 140737488355328 then (qbv.l0 k a0 a1 (a1.length : Int) 0 (List.replicate (a0.length : Int).toNat (0 : Int)) (List.replicate (a0.length : Int).toNat (false : Bool))).bind fun t1 => Sum.elim (fun t1 => some (0,t1)) (fun t1 => some (t1,[])) t1 else none else none) else some (1,[])
def qkp.l0 : Nat → LI → Int → Int → LI → LI → LI → LI → LI → Option (LI)
 | 0,_,_,_,_,_,_,_,_ => none
 | n + 1,x8,x9,x10,y0,y1,y3_0,y3_1,y4 => if x10 < x9 then (if 0 ≤ x10 ∧ x10 < (x8.length : Int) then if 0 ≤ x10 ∧ x10 < (y0.length : Int) then if x10.toNat < y0.length then if 0 ≤ x8.getD x10.toNat 0 ∧ x8.getD x10.toNat 0 < (y4.length : Int) then if (x8.getD x10.toNat 0).toNat < y4.length then qkp.l0 n x8 x9 (IntKind.i64.wrap (x10 + 1)) y0 y1 y3_0 y3_1 (y4.set (x8.getD x10.toNat 0).toNat (y0.getD x10.toNat 0)) else none else none else none else none else none) else some y4
def qbw.l0 : Nat → LI → LI → LI → Int → Int → Option (Unit ⊕ Int)
 | 0,_,_,_,_,_ => none
 | n + 1,x1,x2,x21,x22,x23 => if x23 < x22 then (if 0 ≤ x23 ∧ x23 < (x21.length : Int) then if 0 ≤ x23 ∧ x23 < (x1.length : Int) then if x1.getD x23.toNat 0 < 0 then (some (.inr 1)) else if x21.getD x23.toNat 0 < x1.getD x23.toNat 0 then (some (.inr 1)) else if 0 ≤ x23 ∧ x23 < (x2.length : Int) then if x2.getD x23.toNat 0 < 0 then (some (.inr 1)) else if IntKind.i64.wrap ((x21.getD x23.toNat 0) - (x1.getD x23.toNat 0)) < x2.getD x23.toNat 0 then (some (.inr 1)) else qbw.l0 n x1 x2 x21 x22 (IntKind.i64.wrap (x23 + 1)) else none else none else none) else some (.inl ())
def qbw.f (k : Nat) (a0 : LI) (a1 : LI) (a2 : LI) : Option (Int) := if (a1.length : Int) = (a0.length : Int) then (if (a2.length : Int) = (a0.length : Int) then ((qbw.l0 k a1 a2 a0 (a0.length : Int) 0).bind fun t1 => Sum.elim (fun t1 => some 0) (fun t1 => some t1) t1) else some 1) else some 1
def qjL.l0 : Nat → LI → Int → Int → LI → LI → LI → LI → Option (LI)
 | 0,_,_,_,_,_,_,_ => none
 | n + 1,x7,x8,x9,y0,y1,y2_0,y2_1 => if x9 < x8 then (if 0 ≤ x9 ∧ x9 < (x7.length : Int) then if 0 ≤ x9 ∧ x9 < (y0.length : Int) then if x9.toNat < y0.length then qjL.l0 n x7 x8 (IntKind.i64.wrap (x9 + 1)) (y0.set x9.toNat (IntKind.i64.wrap ((y0.getD x9.toNat 0) + (x7.getD x9.toNat 0)))) y1 y2_0 y2_1 else none else none else none) else some y0
def qbQ.l0 : Nat → LI → LI → Int → Option (Unit ⊕ Bool)
 | 0,_,_,_ => none
 | n + 1,x0,x1,x5 => if x5 < (x0.length : Int) then (if 0 ≤ x5 ∧ x5 < (x0.length : Int) then if 0 ≤ x5 ∧ x5 < (x1.length : Int) then if x0.getD x5.toNat 0 = x1.getD x5.toNat 0 then (qbQ.l0 n x0 x1 (IntKind.i64.wrap (x5 + 1))) else some (.inr false) else none else none) else some (.inl ())
def qbQ.f (k : Nat) (a0 : LI) (a1 : LI) : Option (Bool) := if (a0.length : Int) = (a1.length : Int) then ((qbQ.l0 k a0 a1 0).bind fun t1 => Sum.elim (fun t1 => some true) (fun t1 => some t1) t1) else some false
def qcn.f (a0 : Int) : Option (Bool) := if 0 ≤ a0 then (some (decide (a0 ≤ 32))) else some false
def qbx.l0 : Nat → LI → LI → LI → Int → Int → LI → Option (LI ⊕ Int)
 | 0,_,_,_,_,_,_ => none
 | n + 1,x1,x2,x27,x28,x29,y0 => if x29 < x28 then (if 0 ≤ x29 ∧ x29 < (x27.length : Int) then if 0 ≤ x29 ∧ x29 < (x1.length : Int) then (qcn.f (x1.getD x29.toNat 0)).bind fun t1 => if t1 = true then (if 0 ≤ x29 ∧ x29 < (x2.length : Int) then (qcn.f (x2.getD x29.toNat 0)).bind fun t2 => if t2 = true then (if 0 ≤ x29 ∧ x29 < (y0.length : Int) then if x29.toNat < y0.length then qbx.l0 n x1 x2 x27 x28 (IntKind.i64.wrap (x29 + 1)) (y0.set x29.toNat (IntKind.i64.wrap ((IntKind.i64.wrap ((x1.getD x29.toNat 0) + (x27.getD x29.toNat 0))) + (x2.getD x29.toNat 0)))) else none else none) else some (.inr 1) else none) else some (.inr 1) else none else none) else some (.inl y0)
def qbx.f (k : Nat) (a0 : LI) (a1 : LI) (a2 : LI) : Option (Int × LI) := if (a1.length : Int) = (a0.length : Int) then (if (a2.length : Int) = (a0.length : Int) then (if 0 ≤ (a0.length : Int) ∧ (a0.length : Int) ≤ 281474976710656 ∧ ((8 : Nat) : Int) * (a0.length : Int) ≤ 140737488355328 then (qbx.l0 k a1 a2 a0 (a0.length : Int) 0 (List.replicate (a0.length : Int).toNat (0 : Int))).bind fun t3 => Sum.elim (fun t3 => (qaM.f k t3).bind fun t4 => if t4 = true then (some (0,t3)) else some (13,[])) (fun t3 => some (t3,[])) t3 else none) else some (1,[])) else some (1,[])
def qaY.l0 : Nat → Int → Int → LI → Int → Int → Option (Unit ⊕ Bool)
 | 0,_,_,_,_,_ => none
 | n + 1,x1,x5,x8,x9,x10 => if x10 < x9 then (if 0 ≤ x10 ∧ x10 < (x8.length : Int) then if x8.getD x10.toNat 0 ≤ x5 then (some (.inr false)) else if x1 ≤ x8.getD x10.toNat 0 then (some (.inr false)) else qaY.l0 n x1 (x8.getD x10.toNat 0) x8 x9 (IntKind.i64.wrap (x10 + 1)) else none) else some (.inl ())
def qaY.f (k : Nat) (a0 : LI) (a1 : Int) : Option (Bool) := (qaY.l0 k a1 (-1) a0 (a0.length : Int) 0).bind fun t1 => Sum.elim (fun t1 => some true) (fun t1 => some t1) t1
def qbM.l0 : Nat → LI → LI → LI → Int → Int → Option (Unit ⊕ Int)
 | 0,_,_,_,_,_ => none
 | n + 1,x0,x1,x24,x25,x26 => if x26 < x25 then (if 0 ≤ x26 ∧ x26 < (x24.length : Int) then if 0 ≤ x24.getD x26.toNat 0 ∧ x24.getD x26.toNat 0 < (x1.length : Int) then if 0 ≤ x26 ∧ x26 < (x0.length : Int) then if x1.getD (x24.getD x26.toNat 0).toNat 0 = x0.getD x26.toNat 0 then (qbM.l0 n x0 x1 x24 x25 (IntKind.i64.wrap (x26 + 1))) else some (.inr 1) else none else none else none) else some (.inl ())
def qbM.f (k : Nat) (a0 : LI) (a1 : LI) (a2 : LI) : Option (Int) := (qaM.f k a1).bind fun t1 => if t1 = true then (if (a2.length : Int) = (a0.length : Int) then ((qaY.f k a2 (a1.length : Int)).bind fun t2 => if t2 = true then ((qbM.l0 k a0 a1 a2 (a2.length : Int) 0).bind fun t3 => Sum.elim (fun t3 => some 0) (fun t3 => some t3) t3) else some 1) else some 1) else some 13
def qbh.f (k : Nat) (a0_0 : LI) (a0_1 : LI) : Option (Bool) := (qaB.f k a0_0).bind fun t1 => if t1 = true then ((qbA.f k a0_0).bind fun t2 => some (decide ((a0_1.length : Int) = t2))) else some false
def qa1.l0 : Nat → LI → Int → Int → LI → Option (LI)
 | 0,_,_,_,_ => none
 | n + 1,x0,x1,x6,y0 => if 0 ≤ x6 then (if 0 ≤ x6 ∧ x6 < (x0.length : Int) then if x0.getD x6.toNat 0 ≠ 0 then if 0 ≤ x6 ∧ x6 < (y0.length : Int) then if x6.toNat < y0.length then qa1.l0 n x0 (IntKind.i64.wrap (x1.tdiv (x0.getD x6.toNat 0))) (IntKind.i64.wrap (x6 - 1)) (y0.set x6.toNat (x1.tmod (x0.getD x6.toNat 0))) else none else none else none else none) else some y0
def qa1.f (k : Nat) (a0 : LI) (a1 : Int) : Option (LI) := if a1 < 0 then (some []) else (qbA.f k a0).bind fun t1 => if t1 ≤ a1 then (some []) else if 0 ≤ (a0.length : Int) ∧ (a0.length : Int) ≤ 281474976710656 ∧ ((8 : Nat) : Int) * (a0.length : Int) ≤ 140737488355328 then (qa1.l0 k a0 a1 (IntKind.i64.wrap ((a0.length : Int) - 1)) (List.replicate (a0.length : Int).toNat (0 : Int))).bind fun t2 => some t2 else none
def qbl.l0 : Nat → LI → LI → Int → Int → Option (Int ⊕ Int)
 | 0,_,_,_,_ => none
 | n + 1,x0,x1,x5,x6 => if x6 < (x0.length : Int) then (if 0 ≤ x6 ∧ x6 < (x1.length : Int) then if x1.getD x6.toNat 0 < 0 then (some (.inr (-1))) else if 0 ≤ x6 ∧ x6 < (x0.length : Int) then if x0.getD x6.toNat 0 ≤ x1.getD x6.toNat 0 then (some (.inr (-1))) else qbl.l0 n x0 x1 (IntKind.i64.wrap ((IntKind.i64.wrap (x5 * (x0.getD x6.toNat 0))) + (x1.getD x6.toNat 0))) (IntKind.i64.wrap (x6 + 1)) else none else none) else some (.inl x5)
def qbl.f (k : Nat) (a0 : LI) (a1 : LI) : Option (Int) := (qaB.f k a0).bind fun t1 => if t1 = true then (if (a1.length : Int) = (a0.length : Int) then ((qbl.l0 k a0 a1 0 0).bind fun t2 => Sum.elim (fun t2 => some t2) (fun t2 => some t2) t2) else some (-1)) else some (-1)
def qbZ.f (k : Nat) (a0_0 : LI) (a0_1 : LI) (a1 : LI) : Option (Int) := (qbl.f k a0_0 a1).bind fun t1 => if 0 ≤ t1 ∧ t1 < (a0_1.length : Int) then some (a0_1.getD t1.toNat 0) else none
def qaQ.l0 : Nat → LI → Int → Int → LI → LI → LI → LI → Option (LI ⊕ Int)
 | 0,_,_,_,_,_,_,_ => none
 | n + 1,x1,x29,x30,y0_0,y0_1,y2,y3 => if x30 < x29 then (if 0 ≤ x30 ∧ x30 < (x1.length : Int) then if x1.getD x30.toNat 0 < 0 then (some (.inr 1)) else if (y2.length : Int) ≤ x1.getD x30.toNat 0 then (some (.inr 1)) else if 0 ≤ x1.getD x30.toNat 0 ∧ x1.getD x30.toNat 0 < (y2.length : Int) then if (x1.getD x30.toNat 0).toNat < y2.length then if 0 < y2.getD (x1.getD x30.toNat 0).toNat 0 then (some (.inr 1)) else if 0 ≤ x1.getD x30.toNat 0 ∧ x1.getD x30.toNat 0 < (y0_0.length : Int) then if y3.length + [y0_0.getD (x1.getD x30.toNat 0).toNat 0].length ≤ 281474976710656 ∧ (y3.length + [y0_0.getD (x1.getD x30.toNat 0).toNat 0].length) * 8 ≤ 140737488355328 then qaQ.l0 n x1 x29 (IntKind.i64.wrap (x30 + 1)) y0_0 y0_1 (y2.set (x1.getD x30.toNat 0).toNat (IntKind.i64.wrap ((y2.getD (x1.getD x30.toNat 0).toNat 0) + 1))) (y3 ++ [y0_0.getD (x1.getD x30.toNat 0).toNat 0]) else none else none else none else none else none) else some (.inl y3)
def qaQ.l2 : Nat → LI → Int → Int → Int → Int → Int → LI → LI → LI → LI → LI → LI → LI → Option (LI)
 | 0,_,_,_,_,_,_,_,_,_,_,_,_,_ => none
 | n + 1,x1,x10,x83,x84,x94,x95,y0_0,y0_1,y2,y4,y5,y6,y7 => if x95 < x94 then (if 0 ≤ x95 ∧ x95 < (x1.length : Int) then if 0 ≤ x95 ∧ x95 < (y4.length : Int) then if x95.toNat < y4.length then if 0 ≤ x1.getD x95.toNat 0 ∧ x1.getD x95.toNat 0 < (y5.length : Int) then if (x1.getD x95.toNat 0).toNat < y5.length then qaQ.l2 n x1 x10 x83 x84 x94 (IntKind.i64.wrap (x95 + 1)) y0_0 y0_1 y2 y4 (y5.set (x1.getD x95.toNat 0).toNat (y4.getD x95.toNat 0)) y6 y7 else none else none else none else none else none) else some y5
def qaQ.l1 (k : Nat) : Nat → LI → Int → Int → LI → LI → LI → LI → LI → Option (LI)
 | 0,_,_,_,_,_,_,_,_ => none
 | n + 1,x1,x83,x84,y0_0,y0_1,y2,y4,y5 => if x84 < x83 then ((qa1.f k y2 x84).bind fun t4 => if 0 ≤ (t4.length : Int) ∧ (t4.length : Int) ≤ 281474976710656 ∧ ((8 : Nat) : Int) * (t4.length : Int) ≤ 140737488355328 then (qaQ.l2 n x1 x84 x83 x84 (t4.length : Int) 0 y0_0 y0_1 y2 t4 (List.replicate (t4.length : Int).toNat (0 : Int)) y4 y5).bind fun t5 => (qbZ.f k y0_0 y0_1 t5).bind fun t6 => if 0 ≤ x84 ∧ x84 < (y5.length : Int) then if x84.toNat < y5.length then qaQ.l1 k n x1 x83 (IntKind.i64.wrap (x84 + 1)) y0_0 y0_1 y2 y4 (y5.set x84.toNat t6) else none else none else none) else some y5
def qaQ.f (k : Nat) (a0_0 : LI) (a0_1 : LI) (a1 : LI) : Option (Int × LI × LI) := (qbh.f k a0_0 a0_1).bind fun t1 => if t1 = true then (if 0 ≤ (a0_0.length : Int) ∧ (a0_0.length : Int) ≤ 281474976710656 ∧ ((8 : Nat) : Int) * (a0_0.length : Int) ≤ 140737488355328 then if (a1.length : Int) = ((List.replicate (a0_0.length : Int).toNat (0 : Int)).length : Int) then ((qaQ.l0 k a1 (a1.length : Int) 0 a0_0 a0_1 (List.replicate (a0_0.length : Int).toNat (0 : Int)) []).bind fun t2 => Sum.elim (fun t2 => (qaV.f k t2 0).bind fun t3 => (qaQ.l1 k k a1 (t3.2.length : Int) 0 a0_0 a0_1 t2 t3.1 t3.2).bind fun t7 => some (0,t3.1,t7)) (fun t2 => some (t2,[],[])) t2) else some (1,[],[]) else none) else some (13,[],[])
def qaw.l0 : Nat → LI → LI → Int → Int → LI → LI → Option (Unit ⊕ Int)
 | 0,_,_,_,_,_,_ => none
 | n + 1,x1,x2,x31,x32,y0_0,y0_1 => if x32 < x31 then (if 0 ≤ x32 ∧ x32 < (x2.length : Int) then if x2.getD x32.toNat 0 < 0 then (some (.inr 1)) else if (x1.length : Int) ≤ x2.getD x32.toNat 0 then (some (.inr 1)) else if 0 < x32 then (if 0 ≤ IntKind.i64.wrap (x32 - 1) ∧ IntKind.i64.wrap (x32 - 1) < (x2.length : Int) then if x2.getD x32.toNat 0 ≤ x2.getD (IntKind.i64.wrap (x32 - 1)).toNat 0 then (some (.inr 1)) else if 0 ≤ x2.getD x32.toNat 0 ∧ x2.getD x32.toNat 0 < (x1.length : Int) then if 0 ≤ x32 ∧ x32 < (y0_0.length : Int) then if x1.getD (x2.getD x32.toNat 0).toNat 0 = y0_0.getD x32.toNat 0 then (qaw.l0 n x1 x2 x31 (IntKind.i64.wrap (x32 + 1)) y0_0 y0_1) else some (.inr 1) else none else none else none) else if 0 ≤ x2.getD x32.toNat 0 ∧ x2.getD x32.toNat 0 < (x1.length : Int) then if 0 ≤ x32 ∧ x32 < (y0_0.length : Int) then if x1.getD (x2.getD x32.toNat 0).toNat 0 = y0_0.getD x32.toNat 0 then (qaw.l0 n x1 x2 x31 (IntKind.i64.wrap (x32 + 1)) y0_0 y0_1) else some (.inr 1) else none else none else none) else some (.inl ())
def qaw.l2 : Nat → LI → LI → Int → Int → Int → Int → Int → LI → LI → LI → LI → LI → LI → Option (LI)
 | 0,_,_,_,_,_,_,_,_,_,_,_,_,_ => none
 | n + 1,x1,x2,x10,x86,x87,x94,x95,y0_0,y0_1,y3,y4,y5,y6 => if x95 < x94 then (if 0 ≤ x95 ∧ x95 < (x2.length : Int) then if 0 ≤ x2.getD x95.toNat 0 ∧ x2.getD x95.toNat 0 < (y3.length : Int) then if (x2.getD x95.toNat 0).toNat < y3.length then if y4.length + [y3.getD (x2.getD x95.toNat 0).toNat 0].length ≤ 281474976710656 ∧ (y4.length + [y3.getD (x2.getD x95.toNat 0).toNat 0].length) * 8 ≤ 140737488355328 then qaw.l2 n x1 x2 x10 x86 x87 x94 (IntKind.i64.wrap (x95 + 1)) y0_0 y0_1 y3 (y4 ++ [y3.getD (x2.getD x95.toNat 0).toNat 0]) y5 y6 else none else none else none else none) else some y4
def qaw.l1 (k : Nat) : Nat → LI → LI → Int → Int → LI → LI → LI → LI → Option (LI)
 | 0,_,_,_,_,_,_,_,_ => none
 | n + 1,x1,x2,x86,x87,y0_0,y0_1,y3,y4 => if x87 < x86 then ((qa1.f k x1 x87).bind fun t5 => (qaw.l2 n x1 x2 x87 x86 x87 (x2.length : Int) 0 y0_0 y0_1 t5 [] y3 y4).bind fun t6 => (qbZ.f k y0_0 y0_1 t6).bind fun t7 => if 0 ≤ x87 ∧ x87 < (y4.length : Int) then if x87.toNat < y4.length then qaw.l1 k n x1 x2 x86 (IntKind.i64.wrap (x87 + 1)) y0_0 y0_1 y3 (y4.set x87.toNat t7) else none else none) else some y4
def qaw.f (k : Nat) (a0_0 : LI) (a0_1 : LI) (a1 : LI) (a2 : LI) : Option (Int × LI × LI) := (qbh.f k a0_0 a0_1).bind fun t1 => if t1 = true then ((qaB.f k a1).bind fun t2 => if t2 = true then (if (a2.length : Int) = (a0_0.length : Int) then ((qaw.l0 k a1 a2 (a2.length : Int) 0 a0_0 a0_1).bind fun t3 => Sum.elim (fun t3 => (qaV.f k a1 0).bind fun t4 => (qaw.l1 k k a1 a2 (t4.2.length : Int) 0 a0_0 a0_1 t4.1 t4.2).bind fun t8 => some (0,t4.1,t8)) (fun t3 => some (t3,[],[])) t3) else some (1,[],[])) else some (13,[],[])) else some (13,[],[])
def qaE.l0 : Nat → LI → LI → Int → Int → LI → LI → Option (Unit ⊕ Int)
 | 0,_,_,_,_,_,_ => none
 | n + 1,x1,x2,x33,x34,y0_0,y0_1 => if x34 < x33 then (if 0 ≤ x34 ∧ x34 < (x1.length : Int) then if x1.getD x34.toNat 0 < 0 then (some (.inr 1)) else if 0 ≤ x34 ∧ x34 < (x2.length : Int) then if x2.getD x34.toNat 0 < 0 then (some (.inr 1)) else if 0 ≤ x34 ∧ x34 < (y0_0.length : Int) then if y0_0.getD x34.toNat 0 < x1.getD x34.toNat 0 then (some (.inr 1)) else if IntKind.i64.wrap ((y0_0.getD x34.toNat 0) - (x1.getD x34.toNat 0)) < x2.getD x34.toNat 0 then (some (.inr 1)) else qaE.l0 n x1 x2 x33 (IntKind.i64.wrap (x34 + 1)) y0_0 y0_1 else none else none else none) else some (.inl ())
def qaE.l2 : Nat → LI → LI → Int → Int → Int → Int → Int → LI → LI → LI → LI → LI → Option (LI)
 | 0,_,_,_,_,_,_,_,_,_,_,_,_ => none
 | n + 1,x1,x2,x10,x84,x85,x92,x93,y0_0,y0_1,y3,y4,y5 => if x93 < x92 then (if 0 ≤ x93 ∧ x93 < (y3.length : Int) then if x93.toNat < y3.length then if 0 ≤ x93 ∧ x93 < (x1.length : Int) then qaE.l2 n x1 x2 x10 x84 x85 x92 (IntKind.i64.wrap (x93 + 1)) y0_0 y0_1 (y3.set x93.toNat (IntKind.i64.wrap ((y3.getD x93.toNat 0) + (x1.getD x93.toNat 0)))) y4 y5 else none else none else none) else some y3
def qaE.l1 (k : Nat) : Nat → LI → LI → Int → Int → LI → LI → LI → LI → Option (LI)
 | 0,_,_,_,_,_,_,_,_ => none
 | n + 1,x1,x2,x84,x85,y0_0,y0_1,y3,y4 => if x85 < x84 then ((qa1.f k x2 x85).bind fun t4 => (qaE.l2 n x1 x2 x85 x84 x85 (t4.length : Int) 0 y0_0 y0_1 t4 y3 y4).bind fun t5 => (qbZ.f k y0_0 y0_1 t5).bind fun t6 => if 0 ≤ x85 ∧ x85 < (y4.length : Int) then if x85.toNat < y4.length then qaE.l1 k n x1 x2 x84 (IntKind.i64.wrap (x85 + 1)) y0_0 y0_1 y3 (y4.set x85.toNat t6) else none else none) else some y4
def qaE.f (k : Nat) (a0_0 : LI) (a0_1 : LI) (a1 : LI) (a2 : LI) : Option (Int × LI × LI) := (qbh.f k a0_0 a0_1).bind fun t1 => if t1 = true then (if (a1.length : Int) = (a0_0.length : Int) then (if (a2.length : Int) = (a0_0.length : Int) then ((qaE.l0 k a1 a2 (a1.length : Int) 0 a0_0 a0_1).bind fun t2 => Sum.elim (fun t2 => (qaV.f k a2 0).bind fun t3 => (qaE.l1 k k a1 a2 (t3.2.length : Int) 0 a0_0 a0_1 t3.1 t3.2).bind fun t7 => some (0,t3.1,t7)) (fun t2 => some (t2,[],[])) t2) else some (1,[],[])) else some (1,[],[])) else some (13,[],[])
def qa3.l0 : Nat → LI → LI → Int → Int → Int → LI → LI → LI → Option (LI ⊕ Int)
 | 0,_,_,_,_,_,_,_,_ => none
 | n + 1,x1,x2,x3,x36,x37,y0_0,y0_1,y2 => if x37 < x36 then (if 0 ≤ x37 ∧ x37 < (x1.length : Int) then if x1.getD x37.toNat 0 < 0 then (some (.inr 1)) else if 0 ≤ x37 ∧ x37 < (x2.length : Int) then if x2.getD x37.toNat 0 < 0 then (some (.inr 1)) else if 32 < x1.getD x37.toNat 0 then (some (.inr 1)) else if 32 < x2.getD x37.toNat 0 then (some (.inr 1)) else if 0 ≤ x37 ∧ x37 < (y0_0.length : Int) then if y2.length + [IntKind.i64.wrap ((IntKind.i64.wrap ((x1.getD x37.toNat 0) + (y0_0.getD x37.toNat 0))) + (x2.getD x37.toNat 0))].length ≤ 281474976710656 ∧ (y2.length + [IntKind.i64.wrap ((IntKind.i64.wrap ((x1.getD x37.toNat 0) + (y0_0.getD x37.toNat 0))) + (x2.getD x37.toNat 0))].length) * 8 ≤ 140737488355328 then qa3.l0 n x1 x2 x3 x36 (IntKind.i64.wrap (x37 + 1)) y0_0 y0_1 (y2 ++ [IntKind.i64.wrap ((IntKind.i64.wrap ((x1.getD x37.toNat 0) + (y0_0.getD x37.toNat 0))) + (x2.getD x37.toNat 0))]) else none else none else none else none) else some (.inl y2)
def qa3.l2 : Nat → LI → Int → Int → Int → Int → Int → LI → LI → LI → LI → LI → LI → Option (LI)
 | 0,_,_,_,_,_,_,_,_,_,_,_,_ => none
 | n + 1,x1,x13,x95,x96,x104,x105,y0_0,y0_1,y2,y4,y5,y6 => if x105 < x104 then (if 0 ≤ x105 ∧ x105 < (y4.length : Int) then if x105.toNat < y4.length then if 0 ≤ x105 ∧ x105 < (x1.length : Int) then qa3.l2 n x1 x13 x95 x96 x104 (IntKind.i64.wrap (x105 + 1)) y0_0 y0_1 y2 (y4.set x105.toNat (IntKind.i64.wrap ((y4.getD x105.toNat 0) + (x1.getD x105.toNat 0)))) y5 y6 else none else none else none) else some y4
def qa3.l1 (k : Nat) : Nat → LI → Int → Int → LI → LI → LI → LI → LI → Option (LI)
 | 0,_,_,_,_,_,_,_,_ => none
 | n + 1,x1,x95,x96,y0_0,y0_1,y2,y4,y5 => if x96 < x95 then ((qa1.f k y0_0 x96).bind fun t5 => (qa3.l2 n x1 x96 x95 x96 (t5.length : Int) 0 y0_0 y0_1 y2 t5 y4 y5).bind fun t6 => (qbl.f k y2 t6).bind fun t7 => if 0 ≤ x96 ∧ x96 < (y0_1.length : Int) then if 0 ≤ t7 ∧ t7 < (y5.length : Int) then if t7.toNat < y5.length then qa3.l1 k n x1 x95 (IntKind.i64.wrap (x96 + 1)) y0_0 y0_1 y2 y4 (y5.set t7.toNat (y0_1.getD x96.toNat 0)) else none else none else none) else some y5
def qa3.f (k : Nat) (a0_0 : LI) (a0_1 : LI) (a1 : LI) (a2 : LI) (a3 : Int) : Option (Int × LI × LI) := (qbh.f k a0_0 a0_1).bind fun t1 => if t1 = true then (if (a1.length : Int) = (a0_0.length : Int) then (if (a2.length : Int) = (a0_0.length : Int) then ((qa3.l0 k a1 a2 a3 (a1.length : Int) 0 a0_0 a0_1 []).bind fun t2 => Sum.elim (fun t2 => (qaB.f k t2).bind fun t3 => if t3 = true then ((qaV.f k t2 a3).bind fun t4 => (qa3.l1 k k a1 (a0_1.length : Int) 0 a0_0 a0_1 t2 t4.1 t4.2).bind fun t8 => some (0,t4.1,t8)) else some (13,[],[])) (fun t2 => some (t2,[],[])) t2) else some (1,[],[])) else some (1,[],[])) else some (13,[],[])
def qat.l0 (k : Nat) : Nat → Int → (List LT) → Int → Int → Option (Unit ⊕ Int)
 | 0,_,_,_,_ => none
 | n + 1,x0,x1,x16,x17 => if x17 < x16 then (if 0 ≤ x17 ∧ x17 < (x1.length : Int) then (qbh.f k (x1.getD x17.toNat ([],[])).1 (x1.getD x17.toNat ([],[])).2).bind fun t1 => if t1 = true then (qat.l0 k n x0 x1 x16 (IntKind.i64.wrap (x17 + 1))) else some (.inr 13) else none) else some (.inl ())
def qat.l2 : Nat → Int → (List LT) → Int → Int → Int → Int → Int → LI → Option (Unit ⊕ Int)
 | 0,_,_,_,_,_,_,_,_ => none
 | n + 1,x0,x1,x8,x55,x56,x70,x71,y1 => if x71 < x70 then (if x71 = x0 then (qat.l2 n x0 x1 x8 x55 x56 x70 (IntKind.i64.wrap (x71 + 1)) y1) else if 0 ≤ x8 ∧ x8 < (x1.length : Int) then if 0 ≤ x71 ∧ x71 < ((x1.getD x8.toNat ([],[])).1.length : Int) then if 0 ≤ x71 ∧ x71 < (y1.length : Int) then if x71.toNat < y1.length then if (x1.getD x8.toNat ([],[])).1.getD x71.toNat 0 = y1.getD x71.toNat 0 then (qat.l2 n x0 x1 x8 x55 x56 x70 (IntKind.i64.wrap (x71 + 1)) y1) else some (.inr 13) else none else none else none else none) else some (.inl ())
def qat.l1 (k : Nat) : Nat → Int → (List LT) → Int → Int → LI → Option (LI ⊕ Int)
 | 0,_,_,_,_,_ => none
 | n + 1,x0,x1,x55,x56,y1 => if x56 < x55 then (if 0 ≤ x56 ∧ x56 < (x1.length : Int) then if ((x1.getD x56.toNat ([],[])).1.length : Int) = (y1.length : Int) then ((qat.l2 n x0 x1 x56 x55 x56 (y1.length : Int) 0 y1).bind fun t3 => Sum.elim (fun t3 => if 0 ≤ x0 ∧ x0 < (y1.length : Int) then if x0.toNat < y1.length then if 0 ≤ x0 ∧ x0 < ((x1.getD x56.toNat ([],[])).1.length : Int) then if 0 ≤ x0 ∧ x0 < ((y1.set x0.toNat (IntKind.i64.wrap ((y1.getD x0.toNat 0) + ((x1.getD x56.toNat ([],[])).1.getD x0.toNat 0)))).length : Int) then if x0.toNat < (y1.set x0.toNat (IntKind.i64.wrap ((y1.getD x0.toNat 0) + ((x1.getD x56.toNat ([],[])).1.getD x0.toNat 0)))).length then if 32 < (y1.set x0.toNat (IntKind.i64.wrap ((y1.getD x0.toNat 0) + ((x1.getD x56.toNat ([],[])).1.getD x0.toNat 0)))).getD x0.toNat 0 then (some (.inr 13)) else qat.l1 k n x0 x1 x55 (IntKind.i64.wrap (x56 + 1)) (y1.set x0.toNat (IntKind.i64.wrap ((y1.getD x0.toNat 0) + ((x1.getD x56.toNat ([],[])).1.getD x0.toNat 0)))) else none else none else none else none else none) (fun t3 => some (.inr t3)) t3) else some (.inr 13) else none) else some (.inl y1)
def qat.l4 (k : Nat) : Nat → Int → (List LT) → Int → Int → Int → Int → Int → Int → LI → LI → LI → Option (LI)
 | 0,_,_,_,_,_,_,_,_,_,_,_ => none
 | n + 1,x0,x1,x11,x12,x124,x125,x133,x134,y1,y3,y4 => if x134 < x133 then (if 0 ≤ x12 ∧ x12 < (x1.length : Int) then (qa1.f k (x1.getD x12.toNat ([],[])).1 x134).bind fun t7 => if 0 ≤ x0 ∧ x0 < (t7.length : Int) then if x0.toNat < t7.length then (qbl.f k y1 (t7.set x0.toNat (IntKind.i64.wrap ((t7.getD x0.toNat 0) + x11)))).bind fun t8 => if 0 ≤ x134 ∧ x134 < ((x1.getD x12.toNat ([],[])).2.length : Int) then if 0 ≤ t8 ∧ t8 < (y4.length : Int) then if t8.toNat < y4.length then qat.l4 k n x0 x1 x11 x12 x124 x125 x133 (IntKind.i64.wrap (x134 + 1)) y1 y3 (y4.set t8.toNat ((x1.getD x12.toNat ([],[])).2.getD x134.toNat 0)) else none else none else none else none else none else none) else some y4
def qat.l3 (k : Nat) : Nat → Int → (List LT) → Int → Int → Int → LI → LI → LI → Option (LI)
 | 0,_,_,_,_,_,_,_,_ => none
 | n + 1,x0,x1,x11,x124,x125,y1,y3,y4 => if x125 < x124 then (if 0 ≤ x125 ∧ x125 < (x1.length : Int) then (qat.l4 k n x0 x1 x11 x125 x124 x125 ((x1.getD x125.toNat ([],[])).2.length : Int) 0 y1 y3 y4).bind fun t9 => if 0 ≤ x0 ∧ x0 < ((x1.getD x125.toNat ([],[])).1.length : Int) then qat.l3 k n x0 x1 (IntKind.i64.wrap (x11 + ((x1.getD x125.toNat ([],[])).1.getD x0.toNat 0))) x124 (IntKind.i64.wrap (x125 + 1)) y1 y3 t9 else none else none) else some y4
def qat.f (k : Nat) (a0 : Int) (a1 : List LT) : Option (Int × LI × LI) := (qat.l0 k k a0 a1 (a1.length : Int) 0).bind fun t2 => Sum.elim (fun t2 => if (a1.length : Int) = 0 then (some (1,[],[])) else if a0 < 0 then (some (1,[],[])) else if (0 : Int) ≤ 0 ∧ 0 < (a1.length : Int) then if ((a1.getD 0 ([],[])).1.length : Int) ≤ a0 then (some (1,[],[])) else if 0 + (a1.getD 0 ([],[])).1.length ≤ 281474976710656 ∧ (0 + (a1.getD 0 ([],[])).1.length) * 8 ≤ 140737488355328 then if 0 ≤ a0 ∧ a0 < (([] ++ (a1.getD 0 ([],[])).1).length : Int) then if a0.toNat < ([] ++ (a1.getD 0 ([],[])).1).length then (qat.l1 k k a0 a1 (a1.length : Int) 0 (([] ++ (a1.getD 0 ([],[])).1).set a0.toNat 0)).bind fun t4 => Sum.elim (fun t4 => (qaB.f k t4).bind fun t5 => if t5 = true then ((qaV.f k t4 0).bind fun t6 => (qat.l3 k k a0 a1 0 (a1.length : Int) 0 t4 t6.1 t6.2).bind fun t10 => some (0,t6.1,t10)) else some (13,[],[])) (fun t4 => some (t4,[],[])) t4 else none else none else none else none) (fun t2 => some (t2,[],[])) t2
end Go.Pf

namespace Go.Pf
open Go
def qaP.l0 : Nat → LI → LI → Int → Int → Option (Unit ⊕ Bool)
 | 0,_,_,_,_ => none
 | n + 1,x0,x1,x12,x13 => if x13 < x12 then (if 0 ≤ x13 ∧ x13 < (x0.length : Int) then if 0 ≤ x13 ∧ x13 < (x1.length : Int) then if x0.getD x13.toNat 0 = x1.getD x13.toNat 0 then (qaP.l0 n x0 x1 x12 (IntKind.i64.wrap (x13 + 1))) else some (.inr false) else none else none) else some (.inl ())
def qaP.f (k : Nat) (a0 : LI) (a1 : LI) : Option (Bool) := if (a0.length : Int) = (a1.length : Int) then ((qaP.l0 k a0 a1 (a0.length : Int) 0).bind fun t1 => Sum.elim (fun t1 => some true) (fun t1 => some t1) t1) else some false
end Go.Pf

namespace Go.Pf
open Go
def qc7.f (k : Nat) (a0 : LI) (a1 : LI) : Option (Bool) := (qaP.f k a0 a1).bind fun t1 => some t1
end Go.Pf

namespace Go.Pf
open Go
def qb1.f (o0_0 : LI) (o0_1 : Int) : Option (ByteArray × Int × LI) := (qac.f 10 o0_0 o0_1).bind fun t1 => if 0 ≤ t1.1 ∧ t1.1 < ([([2] : LI),([3] : LI),([2,2] : LI),([4] : LI),([2,3] : LI),[],([2,2,2] : LI),([5] : LI),([1,3] : LI),([8] : LI)].length : Int) then if t1.1.toNat < [([2] : LI),([3] : LI),([2,2] : LI),([4] : LI),([2,3] : LI),[],([2,2,2] : LI),([5] : LI),([1,3] : LI),([8] : LI)].length then if 0 ≤ (if IntKind.i64.wrap ((([([2] : LI),([3] : LI),([2,2] : LI),([4] : LI),([2,3] : LI),[],([2,2,2] : LI),([5] : LI),([1,3] : LI),([8] : LI)].getD t1.1.toNat []).length : Int) - 1) < 0 then 0 else IntKind.i64.wrap ((([([2] : LI),([3] : LI),([2,2] : LI),([4] : LI),([2,3] : LI),[],([2,2,2] : LI),([5] : LI),([1,3] : LI),([8] : LI)].getD t1.1.toNat []).length : Int) - 1)) ∧ (if IntKind.i64.wrap ((([([2] : LI),([3] : LI),([2,2] : LI),([4] : LI),([2,3] : LI),[],([2,2,2] : LI),([5] : LI),([1,3] : LI),([8] : LI)].getD t1.1.toNat []).length : Int) - 1) < 0 then 0 else IntKind.i64.wrap ((([([2] : LI),([3] : LI),([2,2] : LI),([4] : LI),([2,3] : LI),[],([2,2,2] : LI),([5] : LI),([1,3] : LI),([8] : LI)].getD t1.1.toNat []).length : Int) - 1)) < ([(ByteArray.mk #[120]),(ByteArray.mk #[121,195,169]),(ByteArray.mk #[97,98,228,184,150])].length : Int) then if (if IntKind.i64.wrap ((([([2] : LI),([3] : LI),([2,2] : LI),([4] : LI),([2,3] : LI),[],([2,2,2] : LI),([5] : LI),([1,3] : LI),([8] : LI)].getD t1.1.toNat []).length : Int) - 1) < 0 then 0 else IntKind.i64.wrap ((([([2] : LI),([3] : LI),([2,2] : LI),([4] : LI),([2,3] : LI),[],([2,2,2] : LI),([5] : LI),([1,3] : LI),([8] : LI)].getD t1.1.toNat []).length : Int) - 1)).toNat < [(ByteArray.mk #[120]),(ByteArray.mk #[121,195,169]),(ByteArray.mk #[97,98,228,184,150])].length then if (([([2] : LI),([3] : LI),([2,2] : LI),([4] : LI),([2,3] : LI),[],([2,2,2] : LI),([5] : LI),([1,3] : LI),([8] : LI)].getD t1.1.toNat []).length : Int) = 0 then (if (([([2] : LI),([3] : LI),([2,2] : LI),([4] : LI),([2,3] : LI),[],([2,2,2] : LI),([5] : LI),([1,3] : LI),([8] : LI)].getD t1.1.toNat []).length : Int) = 2 then (if 0 + ([([2] : LI),([3] : LI),([2,2] : LI),([4] : LI),([2,3] : LI),[],([2,2,2] : LI),([5] : LI),([1,3] : LI),([8] : LI)].getD t1.1.toNat []).length ≤ 281474976710656 ∧ (0 + ([([2] : LI),([3] : LI),([2,2] : LI),([4] : LI),([2,3] : LI),[],([2,2,2] : LI),([5] : LI),([1,3] : LI),([8] : LI)].getD t1.1.toNat []).length) * 8 ≤ 140737488355328 then some ((ByteArray.mk #[121,195,169]),t1.2,[] ++ ([([2] : LI),([3] : LI),([2,2] : LI),([4] : LI),([2,3] : LI),[],([2,2,2] : LI),([5] : LI),([1,3] : LI),([8] : LI)].getD t1.1.toNat [])) else none) else if 0 + ([([2] : LI),([3] : LI),([2,2] : LI),([4] : LI),([2,3] : LI),[],([2,2,2] : LI),([5] : LI),([1,3] : LI),([8] : LI)].getD t1.1.toNat []).length ≤ 281474976710656 ∧ (0 + ([([2] : LI),([3] : LI),([2,2] : LI),([4] : LI),([2,3] : LI),[],([2,2,2] : LI),([5] : LI),([1,3] : LI),([8] : LI)].getD t1.1.toNat []).length) * 8 ≤ 140737488355328 then some (ByteArray.empty,t1.2,[] ++ ([([2] : LI),([3] : LI),([2,2] : LI),([4] : LI),([2,3] : LI),[],([2,2,2] : LI),([5] : LI),([1,3] : LI),([8] : LI)].getD t1.1.toNat [])) else none) else if (([([2] : LI),([3] : LI),([2,2] : LI),([4] : LI),([2,3] : LI),[],([2,2,2] : LI),([5] : LI),([1,3] : LI),([8] : LI)].getD t1.1.toNat []).length : Int) = 2 then (if 0 + ([([2] : LI),([3] : LI),([2,2] : LI),([4] : LI),([2,3] : LI),[],([2,2,2] : LI),([5] : LI),([1,3] : LI),([8] : LI)].getD t1.1.toNat []).length ≤ 281474976710656 ∧ (0 + ([([2] : LI),([3] : LI),([2,2] : LI),([4] : LI),([2,3] : LI),[],([2,2,2] : LI),([5] : LI),([1,3] : LI),([8] : LI)].getD t1.1.toNat []).length) * 8 ≤ 140737488355328 then some ((ByteArray.mk #[121,195,169]),t1.2,[] ++ ([([2] : LI),([3] : LI),([2,2] : LI),([4] : LI),([2,3] : LI),[],([2,2,2] : LI),([5] : LI),([1,3] : LI),([8] : LI)].getD t1.1.toNat [])) else none) else if 0 + ([([2] : LI),([3] : LI),([2,2] : LI),([4] : LI),([2,3] : LI),[],([2,2,2] : LI),([5] : LI),([1,3] : LI),([8] : LI)].getD t1.1.toNat []).length ≤ 281474976710656 ∧ (0 + ([([2] : LI),([3] : LI),([2,2] : LI),([4] : LI),([2,3] : LI),[],([2,2,2] : LI),([5] : LI),([1,3] : LI),([8] : LI)].getD t1.1.toNat []).length) * 8 ≤ 140737488355328 then some ([(ByteArray.mk #[120]),(ByteArray.mk #[121,195,169]),(ByteArray.mk #[97,98,228,184,150])].getD (if IntKind.i64.wrap ((([([2] : LI),([3] : LI),([2,2] : LI),([4] : LI),([2,3] : LI),[],([2,2,2] : LI),([5] : LI),([1,3] : LI),([8] : LI)].getD t1.1.toNat []).length : Int) - 1) < 0 then 0 else IntKind.i64.wrap ((([([2] : LI),([3] : LI),([2,2] : LI),([4] : LI),([2,3] : LI),[],([2,2,2] : LI),([5] : LI),([1,3] : LI),([8] : LI)].getD t1.1.toNat []).length : Int) - 1)).toNat ByteArray.empty,t1.2,[] ++ ([([2] : LI),([3] : LI),([2,2] : LI),([4] : LI),([2,3] : LI),[],([2,2,2] : LI),([5] : LI),([1,3] : LI),([8] : LI)].getD t1.1.toNat [])) else none else none else none else none else none
def qbs.l0 (k : Nat) : Nat → (List LI) → LI → Int → Int → LI → Option (LI)
 | 0,_,_,_,_,_ => none
 | n + 1,x0,x1,x8,x9,y0 => if x9 < x8 then (if 0 ≤ x9 ∧ x9 < (x0.length : Int) then (qbQ.f k (x0.getD x9.toNat []) x1).bind fun t1 => if t1 = true then (if y0.length + [x9].length ≤ 281474976710656 ∧ (y0.length + [x9].length) * 8 ≤ 140737488355328 then qbs.l0 k n x0 x1 x8 (IntKind.i64.wrap (x9 + 1)) (y0 ++ [x9]) else none) else qbs.l0 k n x0 x1 x8 (IntKind.i64.wrap (x9 + 1)) y0 else none) else some y0
def qbs.f (k : Nat) (a0 : List LI) (a1 : LI) : Option (LI) := (qbs.l0 k k a0 a1 (a0.length : Int) 0 []).bind fun t2 => some t2
def qdd.f (a0 : Int) : Option (Int × Bool × Bool × Bool × Bool) := if a0 = 1 then (some (0,true,false,false,false)) else if a0 = 2 then (some (0,true,false,true,false)) else if a0 = 3 then (some (0,true,true,false,false)) else if a0 = 4 then (some (1,false,false,false,false)) else if a0 = 5 then (some (1,false,false,false,false)) else if 6 ≤ a0 then (if a0 ≤ 11 then (some (2,false,false,false,false)) else if a0 = 12 then (some (3,false,false,false,false)) else if a0 = 13 then (some (1,false,true,false,false)) else if a0 = 15 then (some (1,false,true,false,false)) else if a0 = 14 then (some (1,true,true,false,false)) else if a0 = 16 then (some (1,false,true,true,false)) else if a0 = 17 then (some (-1,false,true,false,false)) else if a0 = 18 then (some (1,false,true,false,true)) else if a0 = 20 then (some (1,false,true,false,true)) else if a0 = 19 then (some (2,false,true,false,false)) else some (-2,false,false,false,false)) else if a0 = 12 then (some (3,false,false,false,false)) else if a0 = 13 then (some (1,false,true,false,false)) else if a0 = 15 then (some (1,false,true,false,false)) else if a0 = 14 then (some (1,true,true,false,false)) else if a0 = 16 then (some (1,false,true,true,false)) else if a0 = 17 then (some (-1,false,true,false,false)) else if a0 = 18 then (some (1,false,true,false,true)) else if a0 = 20 then (some (1,false,true,false,true)) else if a0 = 19 then (some (2,false,true,false,false)) else some (-2,false,false,false,false)
def qdB.f (a0_0 : Int) (a0_1 : LI) (a0_2 : LI) (a0_3 : LI) (a0_4 : Int) (a0_5 : Int) (a0_6 : ByteArray) (a1 : Int) : Option (Bool) := (qdd.f a0_0).bind fun t1 => if t1.1 = -2 then (some false) else if 0 ≤ t1.1 then (if a1 = t1.1 then (if t1.1 = -1 then (if a1 < 2 then (some false) else if t1.2.1 = true then (if t1.2.2.1 = true then (if t1.2.2.2.1 = true then (if t1.2.2.2.2 = true then (some true) else some (decide (a0_5 = 0))) else if a0_4 = 0 then (if t1.2.2.2.2 = true then (some true) else some (decide (a0_5 = 0))) else some false) else if (a0_3.length : Int) = 0 then (if t1.2.2.2.1 = true then (if t1.2.2.2.2 = true then (some true) else some (decide (a0_5 = 0))) else if a0_4 = 0 then (if t1.2.2.2.2 = true then (some true) else some (decide (a0_5 = 0))) else some false) else some false) else if (a0_2.length : Int) = 0 then (if t1.2.2.1 = true then (if t1.2.2.2.1 = true then (if t1.2.2.2.2 = true then (some true) else some (decide (a0_5 = 0))) else if a0_4 = 0 then (if t1.2.2.2.2 = true then (some true) else some (decide (a0_5 = 0))) else some false) else if (a0_3.length : Int) = 0 then (if t1.2.2.2.1 = true then (if t1.2.2.2.2 = true then (some true) else some (decide (a0_5 = 0))) else if a0_4 = 0 then (if t1.2.2.2.2 = true then (some true) else some (decide (a0_5 = 0))) else some false) else some false) else some false) else if t1.2.1 = true then (if t1.2.2.1 = true then (if t1.2.2.2.1 = true then (if t1.2.2.2.2 = true then (some true) else some (decide (a0_5 = 0))) else if a0_4 = 0 then (if t1.2.2.2.2 = true then (some true) else some (decide (a0_5 = 0))) else some false) else if (a0_3.length : Int) = 0 then (if t1.2.2.2.1 = true then (if t1.2.2.2.2 = true then (some true) else some (decide (a0_5 = 0))) else if a0_4 = 0 then (if t1.2.2.2.2 = true then (some true) else some (decide (a0_5 = 0))) else some false) else some false) else if (a0_2.length : Int) = 0 then (if t1.2.2.1 = true then (if t1.2.2.2.1 = true then (if t1.2.2.2.2 = true then (some true) else some (decide (a0_5 = 0))) else if a0_4 = 0 then (if t1.2.2.2.2 = true then (some true) else some (decide (a0_5 = 0))) else some false) else if (a0_3.length : Int) = 0 then (if t1.2.2.2.1 = true then (if t1.2.2.2.2 = true then (some true) else some (decide (a0_5 = 0))) else if a0_4 = 0 then (if t1.2.2.2.2 = true then (some true) else some (decide (a0_5 = 0))) else some false) else some false) else some false) else some false) else if t1.1 = -1 then (if a1 < 2 then (some false) else if t1.2.1 = true then (if t1.2.2.1 = true then (if t1.2.2.2.1 = true then (if t1.2.2.2.2 = true then (some true) else some (decide (a0_5 = 0))) else if a0_4 = 0 then (if t1.2.2.2.2 = true then (some true) else some (decide (a0_5 = 0))) else some false) else if (a0_3.length : Int) = 0 then (if t1.2.2.2.1 = true then (if t1.2.2.2.2 = true then (some true) else some (decide (a0_5 = 0))) else if a0_4 = 0 then (if t1.2.2.2.2 = true then (some true) else some (decide (a0_5 = 0))) else some false) else some false) else if (a0_2.length : Int) = 0 then (if t1.2.2.1 = true then (if t1.2.2.2.1 = true then (if t1.2.2.2.2 = true then (some true) else some (decide (a0_5 = 0))) else if a0_4 = 0 then (if t1.2.2.2.2 = true then (some true) else some (decide (a0_5 = 0))) else some false) else if (a0_3.length : Int) = 0 then (if t1.2.2.2.1 = true then (if t1.2.2.2.2 = true then (some true) else some (decide (a0_5 = 0))) else if a0_4 = 0 then (if t1.2.2.2.2 = true then (some true) else some (decide (a0_5 = 0))) else some false) else some false) else some false) else if t1.2.1 = true then (if t1.2.2.1 = true then (if t1.2.2.2.1 = true then (if t1.2.2.2.2 = true then (some true) else some (decide (a0_5 = 0))) else if a0_4 = 0 then (if t1.2.2.2.2 = true then (some true) else some (decide (a0_5 = 0))) else some false) else if (a0_3.length : Int) = 0 then (if t1.2.2.2.1 = true then (if t1.2.2.2.2 = true then (some true) else some (decide (a0_5 = 0))) else if a0_4 = 0 then (if t1.2.2.2.2 = true then (some true) else some (decide (a0_5 = 0))) else some false) else some false) else if (a0_2.length : Int) = 0 then (if t1.2.2.1 = true then (if t1.2.2.2.1 = true then (if t1.2.2.2.2 = true then (some true) else some (decide (a0_5 = 0))) else if a0_4 = 0 then (if t1.2.2.2.2 = true then (some true) else some (decide (a0_5 = 0))) else some false) else if (a0_3.length : Int) = 0 then (if t1.2.2.2.1 = true then (if t1.2.2.2.2 = true then (some true) else some (decide (a0_5 = 0))) else if a0_4 = 0 then (if t1.2.2.2.2 = true then (some true) else some (decide (a0_5 = 0))) else some false) else some false) else some false
def qb9.f (a0_0 : Int) (a0_1 : LI) (a0_2 : LI) (a0_3 : LI) (a0_4 : Int) (a0_5 : Int) (a0_6 : ByteArray) (a1 : Int) : Option (Bool) := some (decide ((a0_3.length : Int) = a1))
def qbY.l0 (k : Nat) : Nat → LI → Int → Int → LI → LI → Option (LI)
 | 0,_,_,_,_,_ => none
 | n + 1,x0,x1,x6,y2,y3 => if x6 < (y3.length : Int) then ((qa1.f k x0 x6).bind fun t2 => if 0 ≤ x1 ∧ x1 < (t2.length : Int) then if x1.toNat < t2.length then if 0 ≤ x6 ∧ x6 < (y3.length : Int) then if x6.toNat < y3.length then qbY.l0 k n x0 x1 (IntKind.i64.wrap (x6 + 1)) y2 (y3.set x6.toNat (t2.getD x1.toNat 0)) else none else none else none else none) else some y3
def qbY.f (k : Nat) (a0 : LI) (a1 : Int) : Option LT := (qaV.f k a0 0).bind fun t1 => (qbY.l0 k k a0 a1 0 t1.1 t1.2).bind fun t3 => some (t1.1,t3)
def qby.l0 (k : Nat) : Nat → (List LT) → Int → Option (Unit ⊕ Int)
 | 0,_,_ => none
 | n + 1,x0,x3 => if x3 < (x0.length : Int) then (if 0 ≤ x3 ∧ x3 < (x0.length : Int) then (qbh.f k (x0.getD x3.toNat ([],[])).1 (x0.getD x3.toNat ([],[])).2).bind fun t1 => if t1 = true then (if (0 : Int) ≤ 0 ∧ 0 < (x0.length : Int) then (qbQ.f k (x0.getD x3.toNat ([],[])).1 (x0.getD 0 ([],[])).1).bind fun t2 => if t2 = true then (qby.l0 k n x0 (IntKind.i64.wrap (x3 + 1))) else some (.inr 13) else none) else some (.inr 13) else none) else some (.inl ())
def qby.f (k : Nat) (a0 : List LT) : Option (Int) := (qby.l0 k k a0 0).bind fun t3 => Sum.elim (fun t3 => some 0) (fun t3 => some t3) t3
def qff.f (a0 : Bool) : Option (Int) := if a0 = true then (some 1) else some 0
def qdz.f (a0 : Int) (a1 : Int) (a2 : Int) : Option (Int) := if a0 = 4 then (some (IntKind.i64.wrap (0 - a1))) else if a0 = 5 then ((qff.f (decide (a1 = 0))).bind fun t1 => some t1) else if a0 = 6 then (some (IntKind.i64.wrap (a1 + a2))) else if a0 = 7 then (some (IntKind.i64.wrap (a1 - a2))) else if a0 = 8 then (some (IntKind.i64.wrap (a1 * a2))) else if a0 = 9 then (some (if a2 < a1 then a2 else a1)) else if a0 = 10 then (some (if a1 < a2 then a2 else a1)) else if a0 = 11 then ((qff.f (decide (a1 < a2))).bind fun t2 => some t2) else some 0
def qb3.l0 : Nat → Int → Int → Int → LI → LI → LI → LI → Option (LI)
 | 0,_,_,_,_,_,_,_ => none
 | n + 1,x0,x28,x29,y0_0,y0_1,y3,y4 => if x29 < x28 then (if 0 ≤ x29 ∧ x29 < (y0_1.length : Int) then (qdz.f x0 (y0_1.getD x29.toNat 0) 0).bind fun t3 => if 0 ≤ x29 ∧ x29 < (y4.length : Int) then if x29.toNat < y4.length then qb3.l0 n x0 x28 (IntKind.i64.wrap (x29 + 1)) y0_0 y0_1 y3 (y4.set x29.toNat t3) else none else none else none) else some y4
def qb3.f (k : Nat) (a0 : Int) (a1_0 : LI) (a1_1 : LI) : Option (Int × LI × LI) := if a0 = 4 then ((qby.f k [(a1_0,a1_1)]).bind fun t5 => if t5 = 0 then ((qaV.f k a1_0 0).bind fun t6 => (qb3.l0 k a0 (t6.2.length : Int) 0 a1_0 a1_1 t6.1 t6.2).bind fun t7 => some (0,t6.1,t7)) else some (t5,[],[])) else if a0 = 5 then ((qby.f k [(a1_0,a1_1)]).bind fun t1 => if t1 = 0 then ((qaV.f k a1_0 0).bind fun t2 => (qb3.l0 k a0 (t2.2.length : Int) 0 a1_0 a1_1 t2.1 t2.2).bind fun t4 => some (0,t2.1,t4)) else some (t1,[],[])) else some (1,[],[])
def qbW.l0 : Nat → Int → Int → LI → LI → LI → LI → LI → LI → LI → LI → Option (LI)
 | 0,_,_,_,_,_,_,_,_,_,_ => none
 | n + 1,x25,x26,y0_0,y0_1,y1_0,y1_1,y2_0,y2_1,y5,y6 => if x26 < x25 then (if 0 ≤ x26 ∧ x26 < (y2_1.length : Int) then if 0 ≤ x26 ∧ x26 < (y6.length : Int) then if x26.toNat < y6.length then if 0 ≤ x26 ∧ x26 < (y0_1.length : Int) then if y0_1.getD x26.toNat 0 = 0 then (qbW.l0 n x25 (IntKind.i64.wrap (x26 + 1)) y0_0 y0_1 y1_0 y1_1 y2_0 y2_1 y5 (y6.set x26.toNat (y2_1.getD x26.toNat 0))) else if 0 ≤ x26 ∧ x26 < (y1_1.length : Int) then if 0 ≤ x26 ∧ x26 < ((y6.set x26.toNat (y2_1.getD x26.toNat 0)).length : Int) then if x26.toNat < (y6.set x26.toNat (y2_1.getD x26.toNat 0)).length then qbW.l0 n x25 (IntKind.i64.wrap (x26 + 1)) y0_0 y0_1 y1_0 y1_1 y2_0 y2_1 y5 ((y6.set x26.toNat (y2_1.getD x26.toNat 0)).set x26.toNat (y1_1.getD x26.toNat 0)) else none else none else none else none else none else none else none) else some y6
def qbW.f (k : Nat) (a0_0 : LI) (a0_1 : LI) (a1_0 : LI) (a1_1 : LI) (a2_0 : LI) (a2_1 : LI) : Option (Int × LI × LI) := (qby.f k [(a0_0,a0_1),(a1_0,a1_1),(a2_0,a2_1)]).bind fun t1 => if t1 = 0 then ((qaV.f k a1_0 0).bind fun t2 => (qbW.l0 k (t2.2.length : Int) 0 a0_0 a0_1 a1_0 a1_1 a2_0 a2_1 t2.1 t2.2).bind fun t3 => some (0,t2.1,t3)) else some (t1,[],[])
def qcy.f (k : Nat) (a0 : LI) (a1 : LI) (a2 : Int) : Option (Int × LI) := if a2 < 0 then (some (1,[])) else if (a0.length : Int) ≤ a2 then (some (1,[])) else if (a1.length : Int) ≤ a2 then (some (1,[])) else (qaB.f k a0).bind fun t1 => if t1 = true then ((qaB.f k a1).bind fun t2 => if t2 = true then (if 0 ≤ ((0 : Nat) : Int) ∧ ((0 : Nat) : Int) ≤ a2 ∧ a2 ≤ (a0.length : Int) then if 0 ≤ ((0 : Nat) : Int) ∧ ((0 : Nat) : Int) ≤ a2 ∧ a2 ≤ (a1.length : Int) then (qbQ.f k ((a0.take a2.toNat).drop 0) ((a1.take a2.toNat).drop 0)).bind fun t3 => if t3 = true then (if 0 ≤ IntKind.i64.wrap ((a0.length : Int) - 1) ∧ IntKind.i64.wrap ((a0.length : Int) - 1) < (a0.length : Int) then if 0 ≤ a2 ∧ a2 < (a1.length : Int) then if a0.getD (IntKind.i64.wrap ((a0.length : Int) - 1)).toNat 0 = a1.getD a2.toNat 0 then (if 0 ≤ ((0 : Nat) : Int) ∧ ((0 : Nat) : Int) ≤ IntKind.i64.wrap ((a0.length : Int) - 1) ∧ IntKind.i64.wrap ((a0.length : Int) - 1) ≤ (a0.length : Int) then if 0 + ((a0.take (IntKind.i64.wrap ((a0.length : Int) - 1)).toNat).drop 0).length ≤ 281474976710656 ∧ (0 + ((a0.take (IntKind.i64.wrap ((a0.length : Int) - 1)).toNat).drop 0).length) * 8 ≤ 140737488355328 then if 0 ≤ IntKind.i64.wrap (a2 + 1) ∧ IntKind.i64.wrap (a2 + 1) ≤ (a1.length : Int) ∧ (a1.length : Int) ≤ (a1.length : Int) then if ([] ++ ((a0.take (IntKind.i64.wrap ((a0.length : Int) - 1)).toNat).drop 0)).length + ((a1.take a1.length).drop (IntKind.i64.wrap (a2 + 1)).toNat).length ≤ 281474976710656 ∧ (([] ++ ((a0.take (IntKind.i64.wrap ((a0.length : Int) - 1)).toNat).drop 0)).length + ((a1.take a1.length).drop (IntKind.i64.wrap (a2 + 1)).toNat).length) * 8 ≤ 140737488355328 then (qaB.f k (([] ++ ((a0.take (IntKind.i64.wrap ((a0.length : Int) - 1)).toNat).drop 0)) ++ ((a1.take a1.length).drop (IntKind.i64.wrap (a2 + 1)).toNat))).bind fun t4 => if t4 = true then (some (0,([] ++ ((a0.take (IntKind.i64.wrap ((a0.length : Int) - 1)).toNat).drop 0)) ++ ((a1.take a1.length).drop (IntKind.i64.wrap (a2 + 1)).toNat))) else some (13,[]) else none else none else none else none) else some (13,[]) else none else none) else some (13,[]) else none else none) else some (13,[])) else some (13,[])
def qbq.l1 (k : Nat) : Nat → Int → Int → Int → Int → Int → Int → LI → LI → LI → LI → LI → LI → LI → LI → Option (LI)
 | 0,_,_,_,_,_,_,_,_,_,_,_,_,_,_ => none
 | n + 1,x2,x11,x12,x14,x47,x48,y0_0,y0_1,y1_0,y1_1,y3,y5,y6,y7 => if 0 ≤ x2 ∧ x2 < (y1_0.length : Int) then if x14 < y1_0.getD x2.toNat 0 then (if 0 ≤ ((0 : Nat) : Int) ∧ ((0 : Nat) : Int) ≤ x11 ∧ x11 ≤ (y5.length : Int) then if 0 + ((y5.take x11.toNat).drop 0).length ≤ 281474976710656 ∧ (0 + ((y5.take x11.toNat).drop 0).length) * 8 ≤ 140737488355328 then if ([] ++ ((y5.take x11.toNat).drop 0)).length + [x14].length ≤ 281474976710656 ∧ (([] ++ ((y5.take x11.toNat).drop 0)).length + [x14].length) * 8 ≤ 140737488355328 then if 0 ≤ ((0 : Nat) : Int) ∧ ((0 : Nat) : Int) ≤ x2 ∧ x2 ≤ (y5.length : Int) then if 0 + ((y5.take x2.toNat).drop 0).length ≤ 281474976710656 ∧ (0 + ((y5.take x2.toNat).drop 0).length) * 8 ≤ 140737488355328 then if ([] ++ ((y5.take x2.toNat).drop 0)).length + [x14].length ≤ 281474976710656 ∧ (([] ++ ((y5.take x2.toNat).drop 0)).length + [x14].length) * 8 ≤ 140737488355328 then if 0 ≤ x11 ∧ x11 ≤ (y5.length : Int) ∧ (y5.length : Int) ≤ (y5.length : Int) then if (([] ++ ((y5.take x2.toNat).drop 0)) ++ [x14]).length + ((y5.take y5.length).drop x11.toNat).length ≤ 281474976710656 ∧ ((([] ++ ((y5.take x2.toNat).drop 0)) ++ [x14]).length + ((y5.take y5.length).drop x11.toNat).length) * 8 ≤ 140737488355328 then if 0 ≤ x12 ∧ x12 < (y7.length : Int) then if x12.toNat < y7.length then (qbZ.f k y0_0 y0_1 (([] ++ ((y5.take x11.toNat).drop 0)) ++ [x14])).bind fun t6 => (qbZ.f k y1_0 y1_1 ((([] ++ ((y5.take x2.toNat).drop 0)) ++ [x14]) ++ ((y5.take y5.length).drop x11.toNat))).bind fun t7 => qbq.l1 k n x2 x11 x12 (IntKind.i64.wrap (x14 + 1)) x47 x48 y0_0 y0_1 y1_0 y1_1 y3 y5 y6 (y7.set x12.toNat (IntKind.i64.wrap ((y7.getD x12.toNat 0) + (IntKind.i64.wrap (t6 * t7))))) else none else none else none else none else none else none else none else none else none else none) else some y7 else none
def qbq.l0 (k : Nat) : Nat → Int → Int → Int → Int → LI → LI → LI → LI → LI → LI → LI → Option (LI)
 | 0,_,_,_,_,_,_,_,_,_,_,_ => none
 | n + 1,x2,x11,x47,x48,y0_0,y0_1,y1_0,y1_1,y3,y5,y6 => if x48 < x47 then ((qa1.f k y3 x48).bind fun t5 => (qbq.l1 k n x2 x11 x48 0 x47 x48 y0_0 y0_1 y1_0 y1_1 y3 t5 y5 y6).bind fun t8 => qbq.l0 k n x2 x11 x47 (IntKind.i64.wrap (x48 + 1)) y0_0 y0_1 y1_0 y1_1 y3 y5 t8) else some y6
def qbq.f (k : Nat) (a0_0 : LI) (a0_1 : LI) (a1_0 : LI) (a1_1 : LI) (a2 : Int) : Option (Int × LI × LI) := (qbh.f k a0_0 a0_1).bind fun t1 => if t1 = true then ((qbh.f k a1_0 a1_1).bind fun t2 => if t2 = true then ((qcy.f k a0_0 a1_0 a2).bind fun t3 => if t3.1 = 0 then ((qaV.f k t3.2 0).bind fun t4 => (qbq.l0 k k a2 (IntKind.i64.wrap ((a0_0.length : Int) - 1)) (t4.2.length : Int) 0 a0_0 a0_1 a1_0 a1_1 t3.2 t4.1 t4.2).bind fun t9 => some (0,t4.1,t9)) else some (t3.1,[],[])) else some (13,[],[])) else some (13,[],[])
def qep.f (a0 : Int) : Option (Bool) := if 1 ≤ a0 then (some (decide (a0 ≤ 4))) else some false
def qbg.l0 : Nat → LI → Int → Int → Int → Option (Unit ⊕ Bool)
 | 0,_,_,_,_ => none
 | n + 1,x0,x1,x7,x8 => if x8 < x7 then (if 0 ≤ x8 ∧ x8 < (x0.length : Int) then if x0.getD x8.toNat 0 < 0 then (some (.inr false)) else if x1 ≤ x0.getD x8.toNat 0 then (some (.inr false)) else if 0 < x8 then (if 0 ≤ IntKind.i64.wrap (x8 - 1) ∧ IntKind.i64.wrap (x8 - 1) < (x0.length : Int) then if x0.getD x8.toNat 0 ≤ x0.getD (IntKind.i64.wrap (x8 - 1)).toNat 0 then (some (.inr false)) else qbg.l0 n x0 x1 x7 (IntKind.i64.wrap (x8 + 1)) else none) else qbg.l0 n x0 x1 x7 (IntKind.i64.wrap (x8 + 1)) else none) else some (.inl ())
def qbg.f (k : Nat) (a0 : LI) (a1 : Int) : Option (Bool) := (qbg.l0 k a0 a1 (a0.length : Int) 0).bind fun t1 => Sum.elim (fun t1 => some true) (fun t1 => some t1) t1
def qce.l0 : Nat → LI → Int → Int → Int → Option (Unit ⊕ Bool)
 | 0,_,_,_,_ => none
 | n + 1,x0,x1,x7,x8 => if x8 < x7 then (if 0 ≤ x8 ∧ x8 < (x0.length : Int) then if x0.getD x8.toNat 0 = x1 then (some (.inr true)) else qce.l0 n x0 x1 x7 (IntKind.i64.wrap (x8 + 1)) else none) else some (.inl ())
def qce.f (k : Nat) (a0 : LI) (a1 : Int) : Option (Bool) := (qce.l0 k a0 a1 (a0.length : Int) 0).bind fun t1 => Sum.elim (fun t1 => some false) (fun t1 => some t1) t1
def qdA.f (a0 : Int) : Option (Int) := if a0 = 2 then (some 1) else if a0 = 3 then (some 9223372036854775807) else if a0 = 4 then (some (-9223372036854775808)) else some 0
def qeo.f (a0 : Int) (a1 : Int) (a2 : Int) : Option (Int) := if a0 = 1 then (some (IntKind.i64.wrap (a1 + a2))) else if a0 = 2 then (some (IntKind.i64.wrap (a1 * a2))) else if a0 = 3 then (some (if a2 < a1 then a2 else a1)) else if a0 = 4 then (some (if a1 < a2 then a2 else a1)) else some 0
def qaK.l0 (k : Nat) : Nat → Int → LI → Int → Int → LI → LI → LI → Option (LI)
 | 0,_,_,_,_,_,_,_ => none
 | n + 1,x0,x2,x33,x34,y0_0,y0_1,y2 => if x34 < x33 then ((qce.f k x2 x34).bind fun t4 => if t4 = true then (qaK.l0 k n x0 x2 x33 (IntKind.i64.wrap (x34 + 1)) y0_0 y0_1 y2) else if 0 ≤ x34 ∧ x34 < (y0_0.length : Int) then if y2.length + [y0_0.getD x34.toNat 0].length ≤ 281474976710656 ∧ (y2.length + [y0_0.getD x34.toNat 0].length) * 8 ≤ 140737488355328 then qaK.l0 k n x0 x2 x33 (IntKind.i64.wrap (x34 + 1)) y0_0 y0_1 (y2 ++ [y0_0.getD x34.toNat 0]) else none else none) else some y2
def qaK.l2 (k : Nat) : Nat → Int → LI → Int → Int → Int → Int → Int → LI → LI → LI → LI → LI → LI → LI → Option (LI)
 | 0,_,_,_,_,_,_,_,_,_,_,_,_,_,_ => none
 | n + 1,x0,x2,x11,x60,x61,x68,x69,y0_0,y0_1,y2,y4,y5,y6,y7 => if x69 < x68 then (if 0 ≤ x69 ∧ x69 < (y5.length : Int) then if x69.toNat < y5.length then (qce.f k x2 x69).bind fun t10 => if t10 = true then (qaK.l2 k n x0 x2 x11 x60 x61 x68 (IntKind.i64.wrap (x69 + 1)) y0_0 y0_1 y2 y4 y5 y6 y7) else if y4.length + [y5.getD x69.toNat 0].length ≤ 281474976710656 ∧ (y4.length + [y5.getD x69.toNat 0].length) * 8 ≤ 140737488355328 then qaK.l2 k n x0 x2 x11 x60 x61 x68 (IntKind.i64.wrap (x69 + 1)) y0_0 y0_1 y2 (y4 ++ [y5.getD x69.toNat 0]) y5 y6 y7 else none else none else none) else some y4
def qaK.l1 (k : Nat) : Nat → Int → LI → Int → Int → LI → LI → LI → LI → LI → Option (LI)
 | 0,_,_,_,_,_,_,_,_,_ => none
 | n + 1,x0,x2,x60,x61,y0_0,y0_1,y2,y4,y5 => if x61 < x60 then ((qa1.f k y0_0 x61).bind fun t9 => (qaK.l2 k n x0 x2 x61 x60 x61 (t9.length : Int) 0 y0_0 y0_1 y2 [] t9 y4 y5).bind fun t11 => (qbl.f k y2 t11).bind fun t12 => if 0 ≤ t12 ∧ t12 < (y5.length : Int) then if t12.toNat < y5.length then if 0 ≤ x61 ∧ x61 < (y0_1.length : Int) then (qeo.f x0 (y5.getD t12.toNat 0) (y0_1.getD x61.toNat 0)).bind fun t13 => qaK.l1 k n x0 x2 x60 (IntKind.i64.wrap (x61 + 1)) y0_0 y0_1 y2 y4 (y5.set t12.toNat t13) else none else none else none) else some y5
def qaK.f (k : Nat) (a0 : Int) (a1_0 : LI) (a1_1 : LI) (a2 : LI) : Option (Int × LI × LI) := (qep.f a0).bind fun t1 => if t1 = true then ((qbh.f k a1_0 a1_1).bind fun t2 => if t2 = true then ((qbg.f k a2 (a1_0.length : Int)).bind fun t3 => if t3 = true then ((qaK.l0 k k a0 a2 (a1_0.length : Int) 0 a1_0 a1_1 []).bind fun t5 => (qaB.f k t5).bind fun t6 => if t6 = true then ((qdA.f a0).bind fun t7 => (qaV.f k t5 t7).bind fun t8 => (qaK.l1 k k a0 a2 (a1_1.length : Int) 0 a1_0 a1_1 t5 t8.1 t8.2).bind fun t14 => some (0,t8.1,t14)) else some (13,[],[])) else some (1,[],[])) else some (13,[],[])) else some (1,[],[])
def qcW.f (a0 : Int) (a1 : Int) (a2 : Int) : Option (Int) := if a0 < 0 then (some 0) else if a1 < 1 then (some 0) else if a2 < 1 then (some 0) else if a0 < a1 then (some 0) else if a2 ≠ 0 then some (IntKind.i64.wrap ((IntKind.i64.wrap ((IntKind.i64.wrap (a0 - a1)).tdiv a2)) + 1)) else none
def qaN.l1 (k : Nat) : Nat → Int → Int → Int → Int → Int → Int → Int → Int → Int → LI → LI → LI → LI → LI → LI → Option (LI)
 | 0,_,_,_,_,_,_,_,_,_,_,_,_,_,_,_ => none
 | n + 1,x0,x2,x3,x4,x14,x16,x17,x72,x73,y0_0,y0_1,y2,y4,y5,y6 => if x17 < x3 then (if 0 ≤ x2 ∧ x2 < (y4.length : Int) then if x2.toNat < y4.length then if 0 ≤ x14 ∧ x14 < (y6.length : Int) then if x14.toNat < y6.length then (qbZ.f k y0_0 y0_1 (y4.set x2.toNat (IntKind.i64.wrap (x16 + x17)))).bind fun t7 => (qeo.f x0 (y6.getD x14.toNat 0) t7).bind fun t8 => qaN.l1 k n x0 x2 x3 x4 x14 x16 (IntKind.i64.wrap (x17 + 1)) x72 x73 y0_0 y0_1 y2 (y4.set x2.toNat (IntKind.i64.wrap (x16 + x17))) y5 (y6.set x14.toNat t8) else none else none else none else none) else some y6
def qaN.l0 (k : Nat) : Nat → Int → Int → Int → Int → Int → Int → LI → LI → LI → LI → LI → Option (LI)
 | 0,_,_,_,_,_,_,_,_,_,_,_ => none
 | n + 1,x0,x2,x3,x4,x72,x73,y0_0,y0_1,y2,y4,y5 => if x73 < x72 then ((qa1.f k y2 x73).bind fun t6 => if 0 ≤ x2 ∧ x2 < (t6.length : Int) then if x2.toNat < t6.length then (qaN.l1 k n x0 x2 x3 x4 x73 (IntKind.i64.wrap ((t6.getD x2.toNat 0) * x4)) 0 x72 x73 y0_0 y0_1 y2 t6 y4 y5).bind fun t9 => qaN.l0 k n x0 x2 x3 x4 x72 (IntKind.i64.wrap (x73 + 1)) y0_0 y0_1 y2 y4 t9 else none else none) else some y5
def qaN.f (k : Nat) (a0 : Int) (a1_0 : LI) (a1_1 : LI) (a2 : Int) (a3 : Int) (a4 : Int) : Option (Int × LI × LI) := (qep.f a0).bind fun t1 => if t1 = true then (if a3 < 1 then (some (1,[],[])) else if 32 < a3 then (some (1,[],[])) else if a4 < 1 then (some (1,[],[])) else if 32 < a4 then (some (1,[],[])) else (qbh.f k a1_0 a1_1).bind fun t2 => if t2 = true then (if a2 < 0 then (some (1,[],[])) else if (a1_0.length : Int) ≤ a2 then (some (1,[],[])) else if 0 + a1_0.length ≤ 281474976710656 ∧ (0 + a1_0.length) * 8 ≤ 140737488355328 then if 0 ≤ a2 ∧ a2 < (([] ++ a1_0).length : Int) then if a2.toNat < ([] ++ a1_0).length then (qcW.f (([] ++ a1_0).getD a2.toNat 0) a3 a4).bind fun t3 => (qdA.f a0).bind fun t4 => (qaV.f k (([] ++ a1_0).set a2.toNat t3) t4).bind fun t5 => (qaN.l0 k k a0 a2 a3 a4 (t5.2.length : Int) 0 a1_0 a1_1 (([] ++ a1_0).set a2.toNat t3) t5.1 t5.2).bind fun t10 => some (0,t5.1,t10) else none else none else none) else some (13,[],[])) else some (1,[],[])
def qcl.l0 : Nat → Int → Int → Int → LI → LI → LI → LI → LI → LI → Option (LI)
 | 0,_,_,_,_,_,_,_,_,_ => none
 | n + 1,x0,x31,x32,y0_0,y0_1,y1_0,y1_1,y4,y5 => if x32 < x31 then (if 0 ≤ x32 ∧ x32 < (y0_1.length : Int) then if 0 ≤ x32 ∧ x32 < (y1_1.length : Int) then (qdz.f x0 (y0_1.getD x32.toNat 0) (y1_1.getD x32.toNat 0)).bind fun t3 => if 0 ≤ x32 ∧ x32 < (y5.length : Int) then if x32.toNat < y5.length then qcl.l0 n x0 x31 (IntKind.i64.wrap (x32 + 1)) y0_0 y0_1 y1_0 y1_1 y4 (y5.set x32.toNat t3) else none else none else none else none) else some y5
def qcl.f (k : Nat) (a0 : Int) (a1_0 : LI) (a1_1 : LI) (a2_0 : LI) (a2_1 : LI) : Option (Int × LI × LI) := if a0 < 6 then (some (1,[],[])) else if 11 < a0 then (some (1,[],[])) else (qby.f k [(a1_0,a1_1),(a2_0,a2_1)]).bind fun t1 => if t1 = 0 then ((qaV.f k a1_0 0).bind fun t2 => (qcl.l0 k a0 (t2.2.length : Int) 0 a1_0 a1_1 a2_0 a2_1 t2.1 t2.2).bind fun t4 => some (0,t2.1,t4)) else some (t1,[],[])
def qbb.f (k : Nat) (a0_0 : Int) (a0_1 : LI) (a0_2 : LI) (a0_3 : LI) (a0_4 : Int) (a0_5 : Int) (a0_6 : ByteArray) (a1 : List LT) : Option (Int × LI × LI) := if a0_0 = 2 then ((qaB.f k a0_2).bind fun t1 => if t1 = true then ((qaV.f k a0_2 a0_4).bind fun t2 => some (0,t2.1,t2.2)) else some (13,[],[])) else if a0_0 = 3 then ((qaB.f k a0_2).bind fun t3 => if t3 = true then ((qb9.f a0_0 a0_1 a0_2 a0_3 a0_4 a0_5 a0_6 1).bind fun t4 => if t4 = true then (if (0 : Int) ≤ 0 ∧ 0 < (a0_3.length : Int) then if a0_3.getD 0 0 < 0 then (some (1,[],[])) else if (a0_2.length : Int) ≤ a0_3.getD 0 0 then (some (1,[],[])) else (qbY.f k a0_2 (a0_3.getD 0 0)).bind fun t5 => some (0,t5.1,t5.2) else none) else some (1,[],[])) else some (13,[],[])) else if a0_0 = 4 then (if (0 : Int) ≤ 0 ∧ 0 < (a1.length : Int) then (qb3.f k a0_0 (a1.getD 0 ([],[])).1 (a1.getD 0 ([],[])).2).bind fun t6 => some (t6.1,t6.2.1,t6.2.2) else none) else if a0_0 = 5 then (if (0 : Int) ≤ 0 ∧ 0 < (a1.length : Int) then (qb3.f k a0_0 (a1.getD 0 ([],[])).1 (a1.getD 0 ([],[])).2).bind fun t7 => some (t7.1,t7.2.1,t7.2.2) else none) else if a0_0 = 12 then (if (0 : Int) ≤ 0 ∧ 0 < (a1.length : Int) then if (0 : Int) ≤ 1 ∧ 1 < (a1.length : Int) then if (0 : Int) ≤ 2 ∧ 2 < (a1.length : Int) then (qbW.f k (a1.getD 0 ([],[])).1 (a1.getD 0 ([],[])).2 (a1.getD 1 ([],[])).1 (a1.getD 1 ([],[])).2 (a1.getD 2 ([],[])).1 (a1.getD 2 ([],[])).2).bind fun t8 => some (t8.1,t8.2.1,t8.2.2) else none else none else none) else if a0_0 = 13 then (if (0 : Int) ≤ 0 ∧ 0 < (a1.length : Int) then (qaQ.f k (a1.getD 0 ([],[])).1 (a1.getD 0 ([],[])).2 a0_3).bind fun t9 => some (t9.1,t9.2.1,t9.2.2) else none) else if a0_0 = 14 then (if (0 : Int) ≤ 0 ∧ 0 < (a1.length : Int) then (qaw.f k (a1.getD 0 ([],[])).1 (a1.getD 0 ([],[])).2 a0_2 a0_3).bind fun t10 => some (t10.1,t10.2.1,t10.2.2) else none) else if a0_0 = 15 then (if (0 : Int) ≤ 0 ∧ 0 < (a1.length : Int) then (qb9.f a0_0 a0_1 a0_2 a0_3 a0_4 a0_5 a0_6 (IntKind.i64.wrap (2 * ((a1.getD 0 ([],[])).1.length : Int)))).bind fun t11 => if t11 = true then (if 0 ≤ ((0 : Nat) : Int) ∧ ((0 : Nat) : Int) ≤ ((a1.getD 0 ([],[])).1.length : Int) ∧ ((a1.getD 0 ([],[])).1.length : Int) ≤ (a0_3.length : Int) then if 0 ≤ ((a1.getD 0 ([],[])).1.length : Int) ∧ ((a1.getD 0 ([],[])).1.length : Int) ≤ (a0_3.length : Int) ∧ (a0_3.length : Int) ≤ (a0_3.length : Int) then (qaE.f k (a1.getD 0 ([],[])).1 (a1.getD 0 ([],[])).2 ((a0_3.take ((a1.getD 0 ([],[])).1.length : Int).toNat).drop 0) ((a0_3.take a0_3.length).drop ((a1.getD 0 ([],[])).1.length : Int).toNat)).bind fun t12 => some (t12.1,t12.2.1,t12.2.2) else none else none) else some (1,[],[]) else none) else if a0_0 = 16 then (if (0 : Int) ≤ 0 ∧ 0 < (a1.length : Int) then (qb9.f a0_0 a0_1 a0_2 a0_3 a0_4 a0_5 a0_6 (IntKind.i64.wrap (2 * ((a1.getD 0 ([],[])).1.length : Int)))).bind fun t13 => if t13 = true then (if 0 ≤ ((0 : Nat) : Int) ∧ ((0 : Nat) : Int) ≤ ((a1.getD 0 ([],[])).1.length : Int) ∧ ((a1.getD 0 ([],[])).1.length : Int) ≤ (a0_3.length : Int) then if 0 ≤ ((a1.getD 0 ([],[])).1.length : Int) ∧ ((a1.getD 0 ([],[])).1.length : Int) ≤ (a0_3.length : Int) ∧ (a0_3.length : Int) ≤ (a0_3.length : Int) then (qa3.f k (a1.getD 0 ([],[])).1 (a1.getD 0 ([],[])).2 ((a0_3.take ((a1.getD 0 ([],[])).1.length : Int).toNat).drop 0) ((a0_3.take a0_3.length).drop ((a1.getD 0 ([],[])).1.length : Int).toNat) a0_4).bind fun t14 => some (t14.1,t14.2.1,t14.2.2) else none else none) else some (1,[],[]) else none) else if a0_0 = 17 then ((qb9.f a0_0 a0_1 a0_2 a0_3 a0_4 a0_5 a0_6 1).bind fun t15 => if t15 = true then (if (0 : Int) ≤ 0 ∧ 0 < (a0_3.length : Int) then (qat.f k (a0_3.getD 0 0) a1).bind fun t16 => some (t16.1,t16.2.1,t16.2.2) else none) else some (1,[],[])) else if a0_0 = 19 then ((qb9.f a0_0 a0_1 a0_2 a0_3 a0_4 a0_5 a0_6 1).bind fun t17 => if t17 = true then (if (0 : Int) ≤ 0 ∧ 0 < (a1.length : Int) then if (0 : Int) ≤ 1 ∧ 1 < (a1.length : Int) then if (0 : Int) ≤ 0 ∧ 0 < (a0_3.length : Int) then (qbq.f k (a1.getD 0 ([],[])).1 (a1.getD 0 ([],[])).2 (a1.getD 1 ([],[])).1 (a1.getD 1 ([],[])).2 (a0_3.getD 0 0)).bind fun t18 => some (t18.1,t18.2.1,t18.2.2) else none else none else none) else some (1,[],[])) else if a0_0 = 18 then (if (0 : Int) ≤ 0 ∧ 0 < (a1.length : Int) then (qaK.f k a0_5 (a1.getD 0 ([],[])).1 (a1.getD 0 ([],[])).2 a0_3).bind fun t19 => some (t19.1,t19.2.1,t19.2.2) else none) else if a0_0 = 20 then ((qb9.f a0_0 a0_1 a0_2 a0_3 a0_4 a0_5 a0_6 3).bind fun t20 => if t20 = true then (if (0 : Int) ≤ 0 ∧ 0 < (a1.length : Int) then if (0 : Int) ≤ 0 ∧ 0 < (a0_3.length : Int) then if (0 : Int) ≤ 1 ∧ 1 < (a0_3.length : Int) then if (0 : Int) ≤ 2 ∧ 2 < (a0_3.length : Int) then (qaN.f k a0_5 (a1.getD 0 ([],[])).1 (a1.getD 0 ([],[])).2 (a0_3.getD 0 0) (a0_3.getD 1 0) (a0_3.getD 2 0)).bind fun t21 => some (t21.1,t21.2.1,t21.2.2) else none else none else none else none) else some (1,[],[])) else if (0 : Int) ≤ 0 ∧ 0 < (a1.length : Int) then if (0 : Int) ≤ 1 ∧ 1 < (a1.length : Int) then (qcl.f k a0_0 (a1.getD 0 ([],[])).1 (a1.getD 0 ([],[])).2 (a1.getD 1 ([],[])).1 (a1.getD 1 ([],[])).2).bind fun t22 => some (t22.1,t22.2.1,t22.2.2) else none else none
def qa7.l0 (k : Nat) : Nat → (List LI) → Int → Int → Int → LI → LI → LI → Int → Int → ByteArray → (List LT) → Option ((List LT) ⊕ Int)
 | 0,_,_,_,_,_,_,_,_,_,_,_ => none
 | n + 1,x1,x16,x17,y0_0,y0_1,y0_2,y0_3,y0_4,y0_5,y0_6,y1 => if x17 < x16 then (if 0 ≤ x17 ∧ x17 < (x1.length : Int) then (qaB.f k (x1.getD x17.toNat [])).bind fun t2 => if t2 = true then ((qaV.f k (x1.getD x17.toNat []) 0).bind fun t3 => if y1.length + [(t3.1,t3.2)].length ≤ 281474976710656 ∧ (y1.length + [(t3.1,t3.2)].length) * 48 ≤ 140737488355328 then qa7.l0 k n x1 x16 (IntKind.i64.wrap (x17 + 1)) y0_0 y0_1 y0_2 y0_3 y0_4 y0_5 y0_6 (y1 ++ [(t3.1,t3.2)]) else none) else some (.inr 13) else none) else some (.inl y1)
def qa7.f (k : Nat) (a0_0 : Int) (a0_1 : LI) (a0_2 : LI) (a0_3 : LI) (a0_4 : Int) (a0_5 : Int) (a0_6 : ByteArray) (a1 : List LI) : Option (Int × LI) := (qdB.f a0_0 a0_1 a0_2 a0_3 a0_4 a0_5 a0_6 (a1.length : Int)).bind fun t1 => if t1 = true then ((qa7.l0 k k a1 (a1.length : Int) 0 a0_0 a0_1 a0_2 a0_3 a0_4 a0_5 a0_6 []).bind fun t4 => Sum.elim (fun t4 => if a0_0 = 1 then ((qaB.f k a0_2).bind fun t5 => if t5 = true then (if 0 + a0_2.length ≤ 281474976710656 ∧ (0 + a0_2.length) * 8 ≤ 140737488355328 then some (0,[] ++ a0_2) else none) else some (13,[])) else (qbb.f k a0_0 a0_1 a0_2 a0_3 a0_4 a0_5 a0_6 t4).bind fun t6 => if t6.1 = 0 then (some (0,t6.2.1)) else some (t6.1,[])) (fun t4 => some (t4,[])) t4) else some (1,[])
def qao.l1 (k : Nat) : Nat → (List LI) → Int → LI → Int → Int → Int → LI → Int → Int → Int → Int → ByteArray → Option (Unit ⊕ (Int × Int × Int × ByteArray × LI × LI))
 | 0,_,_,_,_,_,_,_,_,_,_,_,_ => none
 | n + 1,x1,x2,x7,x8,x9,x10,y0_0,y0_1,y1_0,y1_1,y1_2,y1_3 => if x10 < 2 then (if 0 ≤ x9 ∧ x9 < (x1.length : Int) then (qa7.f k 19 ([0,1] : LI) [] [x10] 0 0 ByteArray.empty [x7,x1.getD x9.toNat []]).bind fun t2 => if t2.1 = 0 then ((qbA.f k t2.2).bind fun t3 => if t3 ≤ 300 then (some (.inr (19,0,0,ByteArray.empty,[x2,x9],[x10]))) else qao.l1 k n x1 x2 x7 x8 x9 (IntKind.i64.wrap (x10 + 1)) y0_0 y0_1 y1_0 y1_1 y1_2 y1_3) else qao.l1 k n x1 x2 x7 x8 x9 (IntKind.i64.wrap (x10 + 1)) y0_0 y0_1 y1_0 y1_1 y1_2 y1_3 else none) else some (.inl ())
def qao.l0 (k : Nat) : Nat → (List LI) → Int → LI → Int → LI → Int → Int → Int → Int → ByteArray → Option (Int ⊕ (Int × Int × Int × Int × ByteArray × LI × LI))
 | 0,_,_,_,_,_,_,_,_,_,_ => none
 | n + 1,x1,x2,x7,x8,y0_0,y0_1,y1_0,y1_1,y1_2,y1_3 => if x8 < (x1.length : Int) then ((qac.f 3 y0_0 y0_1).bind fun t1 => if (x1.length : Int) ≠ 0 then (qao.l1 k n x1 x2 x7 x8 ((IntKind.i64.wrap (x8 + t1.1)).tmod (x1.length : Int)) 0 y0_0 t1.2 y1_0 y1_1 y1_2 y1_3).bind fun t4 => Sum.elim (fun t4 => qao.l0 k n x1 x2 x7 (IntKind.i64.wrap (x8 + 1)) y0_0 t1.2 y1_0 y1_1 y1_2 y1_3) (fun t4 => some (.inr (t1.2,t4.1,t4.2.1,t4.2.2.1,t4.2.2.2.1,t4.2.2.2.2.1,t4.2.2.2.2.2))) t4 else none) else some (.inl y0_1)
def qao.f (k : Nat) (a1 : List LI) (a2 : Int) (o0_0 : LI) (o0_1 : Int) : Option (Int × Int × Int × ByteArray × Int × LI × LI) := if 0 ≤ a2 ∧ a2 < (a1.length : Int) then (qao.l0 k k a1 a2 (a1.getD a2.toNat []) 0 o0_0 o0_1 0 0 0 ByteArray.empty).bind fun t5 => Sum.elim (fun t5 => some (5,0,0,ByteArray.empty,t5,[a2],[])) (fun t5 => some (t5.2.1,t5.2.2.1,t5.2.2.2.1,t5.2.2.2.2.1,t5.1,t5.2.2.2.2.2.1,t5.2.2.2.2.2.2)) t5 else none
def qad.l0 : Nat → Int → Int → Int → LI → Int → Int → Int → Int → ByteArray → LI → Option (Int × LI)
 | 0,_,_,_,_,_,_,_,_,_,_ => none
 | n + 1,x7,x127,x128,y0_0,y0_1,y1_0,y1_1,y1_2,y1_3,y2 => if x128 < x127 then ((qac.f (IntKind.i64.wrap (x128 + 1)) y0_0 y0_1).bind fun t28 => if 0 ≤ ((0 : Nat) : Int) ∧ ((0 : Nat) : Int) ≤ t28.1 ∧ t28.1 ≤ (y2.length : Int) then if 0 + ((y2.take t28.1.toNat).drop 0).length ≤ 281474976710656 ∧ (0 + ((y2.take t28.1.toNat).drop 0).length) * 8 ≤ 140737488355328 then if ([] ++ ((y2.take t28.1.toNat).drop 0)).length + [x128].length ≤ 281474976710656 ∧ (([] ++ ((y2.take t28.1.toNat).drop 0)).length + [x128].length) * 8 ≤ 140737488355328 then if 0 ≤ t28.1 ∧ t28.1 ≤ (y2.length : Int) ∧ (y2.length : Int) ≤ (y2.length : Int) then if (([] ++ ((y2.take t28.1.toNat).drop 0)) ++ [x128]).length + ((y2.take y2.length).drop t28.1.toNat).length ≤ 281474976710656 ∧ ((([] ++ ((y2.take t28.1.toNat).drop 0)) ++ [x128]).length + ((y2.take y2.length).drop t28.1.toNat).length) * 8 ≤ 140737488355328 then qad.l0 n x7 x127 (IntKind.i64.wrap (x128 + 1)) y0_0 t28.2 y1_0 y1_1 y1_2 y1_3 ((([] ++ ((y2.take t28.1.toNat).drop 0)) ++ [x128]) ++ ((y2.take y2.length).drop t28.1.toNat)) else none else none else none else none else none) else some (y0_1,y2)
def qad.l1 : Nat → Int → Int → Int → Int → LI → Int → Int → Int → Int → ByteArray → LI → LI → Option (LI)
 | 0,_,_,_,_,_,_,_,_,_,_,_,_ => none
 | n + 1,x7,x14,x180,x181,y0_0,y0_1,y1_0,y1_1,y1_2,y1_3,y2,y3 => if x181 < x180 then (if x181 = x14 then (qad.l1 n x7 x14 x180 (IntKind.i64.wrap (x181 + 1)) y0_0 y0_1 y1_0 y1_1 y1_2 y1_3 y2 y3) else if y3.length + [x181].length ≤ 281474976710656 ∧ (y3.length + [x181].length) * 8 ≤ 140737488355328 then qad.l1 n x7 x14 x180 (IntKind.i64.wrap (x181 + 1)) y0_0 y0_1 y1_0 y1_1 y1_2 y1_3 y2 (y3 ++ [x181]) else none) else some y3
def qad.l2 : Nat → Int → LI → Int → Int → LI → Int → Int → Int → Int → ByteArray → LI → LI → Option (Int × LI × LI)
 | 0,_,_,_,_,_,_,_,_,_,_,_,_ => none
 | n + 1,x7,x8,x200,x201,y0_0,y0_1,y1_0,y1_1,y1_2,y1_3,y2,y3 => if x201 < x200 then (if 0 ≤ x201 ∧ x201 < (x8.length : Int) then (qac.f (IntKind.i64.wrap ((x8.getD x201.toNat 0) + 1)) y0_0 y0_1).bind fun t33 => if y2.length + [t33.1].length ≤ 281474976710656 ∧ (y2.length + [t33.1].length) * 8 ≤ 140737488355328 then (qac.f (IntKind.i64.wrap ((IntKind.i64.wrap ((x8.getD x201.toNat 0) - t33.1)) + 1)) y0_0 t33.2).bind fun t34 => if y3.length + [t34.1].length ≤ 281474976710656 ∧ (y3.length + [t34.1].length) * 8 ≤ 140737488355328 then qad.l2 n x7 x8 x200 (IntKind.i64.wrap (x201 + 1)) y0_0 t34.2 y1_0 y1_1 y1_2 y1_3 (y2 ++ [t33.1]) (y3 ++ [t34.1]) else none else none else none) else some (y0_1,y2,y3)
def qad.l3 : Nat → Int → Int → Int → LI → Int → Int → Int → Int → ByteArray → LI → LI → Option (Int × LI × LI)
 | 0,_,_,_,_,_,_,_,_,_,_,_ => none
 | n + 1,x7,x237,x238,y0_0,y0_1,y1_0,y1_1,y1_2,y1_3,y2,y3 => if x238 < x237 then ((qac.f 3 y0_0 y0_1).bind fun t36 => if y2.length + [t36.1].length ≤ 281474976710656 ∧ (y2.length + [t36.1].length) * 8 ≤ 140737488355328 then (qac.f 3 y0_0 t36.2).bind fun t37 => if y3.length + [t37.1].length ≤ 281474976710656 ∧ (y3.length + [t37.1].length) * 8 ≤ 140737488355328 then qad.l3 n x7 x237 (IntKind.i64.wrap (x238 + 1)) y0_0 t37.2 y1_0 y1_1 y1_2 y1_3 (y2 ++ [t36.1]) (y3 ++ [t37.1]) else none else none) else some (y0_1,y2,y3)
def qad.l4 : Nat → Int → Int → Int → LI → Int → Int → Int → Int → ByteArray → LI → Option (Int × LI)
 | 0,_,_,_,_,_,_,_,_,_,_ => none
 | n + 1,x7,x293,x294,y0_0,y0_1,y1_0,y1_1,y1_2,y1_3,y2 => if x294 < x293 then ((qac.f 2 y0_0 y0_1).bind fun t44 => if t44.1 = 0 then (if y2.length + [x294].length ≤ 281474976710656 ∧ (y2.length + [x294].length) * 8 ≤ 140737488355328 then qad.l4 n x7 x293 (IntKind.i64.wrap (x294 + 1)) y0_0 t44.2 y1_0 y1_1 y1_2 y1_3 (y2 ++ [x294]) else none) else qad.l4 n x7 x293 (IntKind.i64.wrap (x294 + 1)) y0_0 t44.2 y1_0 y1_1 y1_2 y1_3 y2) else some (y0_1,y2)
def qad.f (k : Nat) (a1 : List LI) (o0_0 : LI) (o0_1 : Int) : Option (Int × LI × LI × Int × Int × ByteArray × Int × LI) := if (a1.length : Int) = 0 then ((qac.f 4 o0_0 o0_1).bind fun t1 => if t1.1 = 0 then ((qav.f k o0_0 t1.2).bind fun t2 => (qa6.f o0_0 t2.1).bind fun t3 => some (2,[],t2.2,t3.1,0,ByteArray.empty,t3.2,[])) else if t1.1 = 1 then ((qav.f k o0_0 t1.2).bind fun t4 => if ([3] : LI).length + t4.2.length ≤ 281474976710656 ∧ (([3] : LI).length + t4.2.length) * 8 ≤ 140737488355328 then if 3 < ((([3] : LI) ++ t4.2).length : Int) then (if 0 ≤ ((0 : Nat) : Int) ∧ ((0 : Nat) : Int) ≤ 3 ∧ 3 ≤ ((([3] : LI) ++ t4.2).length : Int) then (qac.f ((3 - 0 : Nat) : Int) o0_0 t4.1).bind fun t5 => some (3,[],((([3] : LI) ++ t4.2).take 3).drop 0,0,0,ByteArray.empty,t5.2,[t5.1]) else none) else (qac.f ((([3] : LI) ++ t4.2).length : Int) o0_0 t4.1).bind fun t6 => some (3,[],([3] : LI) ++ t4.2,0,0,ByteArray.empty,t6.2,[t6.1]) else none) else (qav.f k o0_0 t1.2).bind fun t7 => some (1,[],t7.2,0,0,ByteArray.empty,t7.1,[])) else (qac.f 5 o0_0 o0_1).bind fun t8 => if t8.1 = 0 then ((qac.f 4 o0_0 t8.2).bind fun t9 => if t9.1 = 0 then ((qav.f k o0_0 t9.2).bind fun t10 => (qa6.f o0_0 t10.1).bind fun t11 => some (2,[],t10.2,t11.1,0,ByteArray.empty,t11.2,[])) else if t9.1 = 1 then ((qav.f k o0_0 t9.2).bind fun t12 => if ([3] : LI).length + t12.2.length ≤ 281474976710656 ∧ (([3] : LI).length + t12.2.length) * 8 ≤ 140737488355328 then if 3 < ((([3] : LI) ++ t12.2).length : Int) then (if 0 ≤ ((0 : Nat) : Int) ∧ ((0 : Nat) : Int) ≤ 3 ∧ 3 ≤ ((([3] : LI) ++ t12.2).length : Int) then (qac.f ((3 - 0 : Nat) : Int) o0_0 t12.1).bind fun t13 => some (3,[],((([3] : LI) ++ t12.2).take 3).drop 0,0,0,ByteArray.empty,t13.2,[t13.1]) else none) else (qac.f ((([3] : LI) ++ t12.2).length : Int) o0_0 t12.1).bind fun t14 => some (3,[],([3] : LI) ++ t12.2,0,0,ByteArray.empty,t14.2,[t14.1]) else none) else (qav.f k o0_0 t9.2).bind fun t15 => some (1,[],t15.2,0,0,ByteArray.empty,t15.1,[])) else (qac.f (a1.length : Int) o0_0 t8.2).bind fun t16 => if 0 ≤ t16.1 ∧ t16.1 < (a1.length : Int) then (qac.f 12 o0_0 t16.2).bind fun t17 => if t17.1 = 0 then ((qac.f 2 o0_0 t17.2).bind fun t18 => some (IntKind.i64.wrap (4 + t18.1),[t16.1],[],0,0,ByteArray.empty,t18.2,[])) else if t17.1 = 1 then ((qbs.f k a1 (a1.getD t16.1.toNat [])).bind fun t19 => (qac.f 6 o0_0 t17.2).bind fun t20 => (qac.f (t19.length : Int) o0_0 t20.2).bind fun t21 => if 0 ≤ t21.1 ∧ t21.1 < (t19.length : Int) then if t21.1.toNat < t19.length then some (IntKind.i64.wrap (6 + t20.1),[t16.1,t19.getD t21.1.toNat 0],[],0,0,ByteArray.empty,t21.2,[]) else none else none) else if t17.1 = 2 then ((qbs.f k a1 (a1.getD t16.1.toNat [])).bind fun t22 => (qac.f 6 o0_0 t17.2).bind fun t23 => (qac.f (t22.length : Int) o0_0 t23.2).bind fun t24 => if 0 ≤ t24.1 ∧ t24.1 < (t22.length : Int) then if t24.1.toNat < t22.length then some (IntKind.i64.wrap (6 + t23.1),[t16.1,t22.getD t24.1.toNat 0],[],0,0,ByteArray.empty,t24.2,[]) else none else none) else if t17.1 = 3 then ((qbs.f k a1 (a1.getD t16.1.toNat [])).bind fun t25 => (qac.f (t25.length : Int) o0_0 t17.2).bind fun t26 => if 0 ≤ t26.1 ∧ t26.1 < (t25.length : Int) then if t26.1.toNat < t25.length then (qac.f (t25.length : Int) o0_0 t26.2).bind fun t27 => if 0 ≤ t27.1 ∧ t27.1 < (t25.length : Int) then if t27.1.toNat < t25.length then some (12,[t16.1,t25.getD t26.1.toNat 0,t25.getD t27.1.toNat 0],[],0,0,ByteArray.empty,t27.2,[]) else none else none else none else none) else if t17.1 = 4 then ((qad.l0 k t16.1 ((a1.getD t16.1.toNat []).length : Int) 0 o0_0 t17.2 0 0 0 ByteArray.empty []).bind fun t29 => some (13,[t16.1],[],0,0,ByteArray.empty,t29.1,t29.2)) else if t17.1 = 5 then (if 2 < ((a1.getD t16.1.toNat []).length : Int) then (some (4,[t16.1],[],0,0,ByteArray.empty,t17.2,[])) else (qac.f (IntKind.i64.wrap (((a1.getD t16.1.toNat []).length : Int) + 1)) o0_0 t17.2).bind fun t30 => if 0 ≤ ((0 : Nat) : Int) ∧ ((0 : Nat) : Int) ≤ t30.1 ∧ t30.1 ≤ ((a1.getD t16.1.toNat []).length : Int) then if 0 + (((a1.getD t16.1.toNat []).take t30.1.toNat).drop 0).length ≤ 281474976710656 ∧ (0 + (((a1.getD t16.1.toNat []).take t30.1.toNat).drop 0).length) * 8 ≤ 140737488355328 then (qac.f 4 o0_0 t30.2).bind fun t31 => if ([] ++ (((a1.getD t16.1.toNat []).take t30.1.toNat).drop 0)).length + [IntKind.i64.wrap (1 + t31.1)].length ≤ 281474976710656 ∧ (([] ++ (((a1.getD t16.1.toNat []).take t30.1.toNat).drop 0)).length + [IntKind.i64.wrap (1 + t31.1)].length) * 8 ≤ 140737488355328 then if 0 ≤ t30.1 ∧ t30.1 ≤ ((a1.getD t16.1.toNat []).length : Int) ∧ ((a1.getD t16.1.toNat []).length : Int) ≤ ((a1.getD t16.1.toNat []).length : Int) then if (([] ++ (((a1.getD t16.1.toNat []).take t30.1.toNat).drop 0)) ++ [IntKind.i64.wrap (1 + t31.1)]).length + (((a1.getD t16.1.toNat []).take (a1.getD t16.1.toNat []).length).drop t30.1.toNat).length ≤ 281474976710656 ∧ ((([] ++ (((a1.getD t16.1.toNat []).take t30.1.toNat).drop 0)) ++ [IntKind.i64.wrap (1 + t31.1)]).length + (((a1.getD t16.1.toNat []).take (a1.getD t16.1.toNat []).length).drop t30.1.toNat).length) * 8 ≤ 140737488355328 then (qad.l1 k t16.1 t30.1 (((([] ++ (((a1.getD t16.1.toNat []).take t30.1.toNat).drop 0)) ++ [IntKind.i64.wrap (1 + t31.1)]) ++ (((a1.getD t16.1.toNat []).take (a1.getD t16.1.toNat []).length).drop t30.1.toNat)).length : Int) 0 o0_0 t31.2 0 0 0 ByteArray.empty ((([] ++ (((a1.getD t16.1.toNat []).take t30.1.toNat).drop 0)) ++ [IntKind.i64.wrap (1 + t31.1)]) ++ (((a1.getD t16.1.toNat []).take (a1.getD t16.1.toNat []).length).drop t30.1.toNat)) []).bind fun t32 => some (14,[t16.1],(([] ++ (((a1.getD t16.1.toNat []).take t30.1.toNat).drop 0)) ++ [IntKind.i64.wrap (1 + t31.1)]) ++ (((a1.getD t16.1.toNat []).take (a1.getD t16.1.toNat []).length).drop t30.1.toNat),0,0,ByteArray.empty,t31.2,t32) else none else none else none else none else none) else if t17.1 = 6 then ((qad.l2 k t16.1 (a1.getD t16.1.toNat []) ((a1.getD t16.1.toNat []).length : Int) 0 o0_0 t17.2 0 0 0 ByteArray.empty [] []).bind fun t35 => if t35.2.1.length + t35.2.2.length ≤ 281474976710656 ∧ (t35.2.1.length + t35.2.2.length) * 8 ≤ 140737488355328 then some (15,[t16.1],[],0,0,ByteArray.empty,t35.1,t35.2.1 ++ t35.2.2) else none) else if t17.1 = 7 then ((qad.l3 k t16.1 ((a1.getD t16.1.toNat []).length : Int) 0 o0_0 t17.2 0 0 0 ByteArray.empty [] []).bind fun t38 => if t38.2.1.length + t38.2.2.length ≤ 281474976710656 ∧ (t38.2.1.length + t38.2.2.length) * 8 ≤ 140737488355328 then (qa6.f o0_0 t38.1).bind fun t39 => some (16,[t16.1],[],t39.1,0,ByteArray.empty,t39.2,t38.2.1 ++ t38.2.2) else none) else if t17.1 = 8 then ((qbs.f k a1 (a1.getD t16.1.toNat [])).bind fun t40 => if ((a1.getD t16.1.toNat []).length : Int) = 0 then (some (5,[t16.1],[],0,0,ByteArray.empty,t17.2,[])) else (qac.f (t40.length : Int) o0_0 t17.2).bind fun t41 => if 0 ≤ t41.1 ∧ t41.1 < (t40.length : Int) then if t41.1.toNat < t40.length then (qac.f 2 o0_0 t41.2).bind fun t42 => if 0 ≤ ((0 : Nat) : Int) ∧ ((0 : Nat) : Int) ≤ IntKind.i64.wrap (2 + t42.1) ∧ IntKind.i64.wrap (2 + t42.1) ≤ ([t16.1,t40.getD t41.1.toNat 0,t16.1].length : Int) then (qac.f ((a1.getD t16.1.toNat []).length : Int) o0_0 t42.2).bind fun t43 => some (17,([t16.1,t40.getD t41.1.toNat 0,t16.1].take (IntKind.i64.wrap (2 + t42.1)).toNat).drop 0,[],0,0,ByteArray.empty,t43.2,[t43.1]) else none else none else none) else if t17.1 = 9 then ((qad.l4 k t16.1 ((a1.getD t16.1.toNat []).length : Int) 0 o0_0 t17.2 0 0 0 ByteArray.empty []).bind fun t45 => (qac.f 4 o0_0 t45.1).bind fun t46 => some (18,[t16.1],[],0,IntKind.i64.wrap (1 + t46.1),ByteArray.empty,t46.2,t45.2)) else if t17.1 = 10 then ((qao.f k a1 t16.1 o0_0 t17.2).bind fun t47 => some (t47.1,t47.2.2.2.2.2.1,[],t47.2.1,t47.2.2.1,t47.2.2.2.1,t47.2.2.2.2.1,t47.2.2.2.2.2.2)) else if ((a1.getD t16.1.toNat []).length : Int) = 0 then (some (4,[t16.1],[],0,0,ByteArray.empty,t17.2,[])) else (qac.f ((a1.getD t16.1.toNat []).length : Int) o0_0 t17.2).bind fun t48 => (qac.f 3 o0_0 t48.2).bind fun t49 => (qac.f 2 o0_0 t49.2).bind fun t50 => (qac.f 4 o0_0 t50.2).bind fun t51 => some (20,[t16.1],[],0,IntKind.i64.wrap (1 + t51.1),ByteArray.empty,t51.2,[t48.1,IntKind.i64.wrap (1 + t49.1),IntKind.i64.wrap (1 + t50.1)]) else none
def qbk.l0 : Nat → LI → ByteArray → Nat → Option (LI)
 | 0,_,_,_ => none
 | n + 1,y0,y1_0,y1_1 => if y1_1 < y1_0.size then (if y0.length + [(((Utf8.decode y1_0 y1_1).1 : Nat) : Int)].length ≤ 281474976710656 ∧ (y0.length + [(((Utf8.decode y1_0 y1_1).1 : Nat) : Int)].length) * 4 ≤ 140737488355328 then qbk.l0 n (y0 ++ [(((Utf8.decode y1_0 y1_1).1 : Nat) : Int)]) y1_0 (y1_1 + (Utf8.decode y1_0 y1_1).2) else none) else some y0
def qbk.f (k : Nat) (a0 : ByteArray) : Option (LI) := (qbk.l0 k [] a0 0).bind fun t1 => some t1
def qbF.l0 : Nat → LI → ByteArray → Int → Int → LI → Option (ByteArray)
 | 0,_,_,_,_,_ => none
 | n + 1,x1,x6,x11,x12,y0 => if x12 < x11 then (if 0 ≤ x12 ∧ x12 < (x1.length : Int) then if x1.getD x12.toNat 0 < 0 then (if x6.size + (ByteArray.mk #[46]).size ≤ 9223372036854775807 then qbF.l0 n x1 (x6 ++ (ByteArray.mk #[46])) x11 (IntKind.i64.wrap (x12 + 1)) y0 else none) else if (y0.length : Int) ≤ x1.getD x12.toNat 0 then (if x6.size + (ByteArray.mk #[46]).size ≤ 9223372036854775807 then qbF.l0 n x1 (x6 ++ (ByteArray.mk #[46])) x11 (IntKind.i64.wrap (x12 + 1)) y0 else none) else if 0 ≤ x1.getD x12.toNat 0 ∧ x1.getD x12.toNat 0 < (y0.length : Int) then if (x1.getD x12.toNat 0).toNat < y0.length then if x6.size + (Utf8.encode (y0.getD (x1.getD x12.toNat 0).toNat 0)).size ≤ 9223372036854775807 then qbF.l0 n x1 (x6 ++ (Utf8.encode (y0.getD (x1.getD x12.toNat 0).toNat 0))) x11 (IntKind.i64.wrap (x12 + 1)) y0 else none else none else none else none) else some x6
def qbF.f (k : Nat) (a0 : ByteArray) (a1 : LI) : Option (ByteArray) := (qbk.f k a0).bind fun t1 => (qbF.l0 k a1 ByteArray.empty (a1.length : Int) 0 t1).bind fun t2 => some t2
def qaq.l1 : Nat → Int → LI → Int → Int → ByteArray → LI → Int → ByteArray → (List LI) → Int → LI → LI → Int → Int → ByteArray → (List LI) → LI → (List LN) → LI → Option ((List LI))
 | 0,_,_,_,_,_,_,_,_,_,_,_,_,_,_,_,_,_,_,_ => none
 | n + 1,x6,x35,x36,x37,y0,y1_0,y1_1,y2,y3,y4_0,y4_1,y4_2,y4_3,y4_4,y4_5,y5,y6,y7,y8 => if x37 < x36 then (if 0 ≤ x37 ∧ x37 < (x35.length : Int) then if 0 ≤ x35.getD x37.toNat 0 ∧ x35.getD x37.toNat 0 < (y3.length : Int) then if (x35.getD x37.toNat 0).toNat < y3.length then if y5.length + [y3.getD (x35.getD x37.toNat 0).toNat []].length ≤ 281474976710656 ∧ (y5.length + [y3.getD (x35.getD x37.toNat 0).toNat []].length) * 24 ≤ 140737488355328 then qaq.l1 n x6 x35 x36 (IntKind.i64.wrap (x37 + 1)) y0 y1_0 y1_1 y2 y3 y4_0 y4_1 y4_2 y4_3 y4_4 y4_5 (y5 ++ [y3.getD (x35.getD x37.toNat 0).toNat []]) y6 y7 y8 else none else none else none else none) else some y5
def qaq.l0 (k : Nat) : Nat → Int → ByteArray → LI → Int → ByteArray → (List LI) → LI → (List LN) → Option (Int × (List LI) × (List LN))
 | 0,_,_,_,_,_,_,_,_ => none
 | n + 1,x6,y0,y1_0,y1_1,y2,y3,y4,y5 => if 0 < x6 then ((qad.f k y3 y1_0 y1_1).bind fun t3 => (qaq.l1 n x6 t3.2.1 (t3.2.1.length : Int) 0 y0 y1_0 t3.2.2.2.2.2.2.1 y2 y3 t3.1 t3.2.1 t3.2.2.1 t3.2.2.2.1 t3.2.2.2.2.1 t3.2.2.2.2.2.1 [] y4 y5 t3.2.2.2.2.2.2.2).bind fun t4 => (qa7.f k t3.1 t3.2.1 t3.2.2.1 t3.2.2.2.2.2.2.2 t3.2.2.2.1 t3.2.2.2.2.1 t3.2.2.2.2.2.1 t4).bind fun t5 => if t5.1 = 0 then ((qbA.f k t5.2).bind fun t6 => if 400 < t6 then (qaq.l0 k n (IntKind.i64.wrap (x6 - 1)) y0 y1_0 t3.2.2.2.2.2.2.1 y2 y3 y4 y5) else (qac.f 3 y1_0 t3.2.2.2.2.2.2.1).bind fun t7 => if t7.1 = 0 then ((qaH.f k y4 (t5.2.length : Int) y1_0 t7.2).bind fun t8 => (qbF.f k y2 t8.2).bind fun t9 => if y5.length + [(t3.1,(t3.2.1,(t3.2.2.1,(t3.2.2.2.2.2.2.2,(t3.2.2.2.1,(t3.2.2.2.2.1,t9))))))].length ≤ 281474976710656 ∧ (y5.length + [(t3.1,(t3.2.1,(t3.2.2.1,(t3.2.2.2.2.2.2.2,(t3.2.2.2.1,(t3.2.2.2.2.1,t9))))))].length) * 112 ≤ 140737488355328 then if y3.length + [t5.2].length ≤ 281474976710656 ∧ (y3.length + [t5.2].length) * 24 ≤ 140737488355328 then qaq.l0 k n (IntKind.i64.wrap (x6 - 1)) y0 y1_0 t8.1 y2 (y3 ++ [t5.2]) y4 (y5 ++ [(t3.1,(t3.2.1,(t3.2.2.1,(t3.2.2.2.2.2.2.2,(t3.2.2.2.1,(t3.2.2.2.2.1,t9))))))]) else none else none) else if y5.length + [(t3.1,(t3.2.1,(t3.2.2.1,(t3.2.2.2.2.2.2.2,(t3.2.2.2.1,(t3.2.2.2.2.1,t3.2.2.2.2.2.1))))))].length ≤ 281474976710656 ∧ (y5.length + [(t3.1,(t3.2.1,(t3.2.2.1,(t3.2.2.2.2.2.2.2,(t3.2.2.2.1,(t3.2.2.2.2.1,t3.2.2.2.2.2.1))))))].length) * 112 ≤ 140737488355328 then if y3.length + [t5.2].length ≤ 281474976710656 ∧ (y3.length + [t5.2].length) * 24 ≤ 140737488355328 then qaq.l0 k n (IntKind.i64.wrap (x6 - 1)) y0 y1_0 t7.2 y2 (y3 ++ [t5.2]) y4 (y5 ++ [(t3.1,(t3.2.1,(t3.2.2.1,(t3.2.2.2.2.2.2.2,(t3.2.2.2.1,(t3.2.2.2.2.1,t3.2.2.2.2.2.1))))))]) else none else none) else qaq.l0 k n (IntKind.i64.wrap (x6 - 1)) y0 y1_0 t3.2.2.2.2.2.2.1 y2 y3 y4 y5) else some (y1_1,y3,y5)
def qaq.l2 : Nat → Int → ByteArray → LI → Int → ByteArray → (List LI) → LI → (List LN) → LI → Option (LI)
 | 0,_,_,_,_,_,_,_,_,_ => none
 | n + 1,x13,y0,y1_0,y1_1,y2,y3,y4,y5,y6 => if 0 < x13 then (if 0 < (y3.length : Int) then ((qac.f (y3.length : Int) y1_0 y1_1).bind fun t12 => (qac.f 2 y1_0 t12.2).bind fun t13 => if 0 ≤ t13.1 ∧ t13.1 < ([IntKind.i64.wrap ((y3.length : Int) - 1),t12.1].length : Int) then if t13.1.toNat < [IntKind.i64.wrap ((y3.length : Int) - 1),t12.1].length then if y6.length + [[IntKind.i64.wrap ((y3.length : Int) - 1),t12.1].getD t13.1.toNat 0].length ≤ 281474976710656 ∧ (y6.length + [[IntKind.i64.wrap ((y3.length : Int) - 1),t12.1].getD t13.1.toNat 0].length) * 8 ≤ 140737488355328 then qaq.l2 n (IntKind.i64.wrap (x13 - 1)) y0 y1_0 t13.2 y2 y3 y4 y5 (y6 ++ [[IntKind.i64.wrap ((y3.length : Int) - 1),t12.1].getD t13.1.toNat 0]) else none else none else none) else some y6) else some y6
def qaq.f (k : Nat) (a0 : LI) : Option (ByteArray × LI × (List LN) × LI) := (qb1.f a0 0).bind fun t1 => (qac.f 9 a0 t1.2.1).bind fun t2 => (qaq.l0 k k (IntKind.i64.wrap (1 + t2.1)) ByteArray.empty a0 t2.2 t1.1 [] t1.2.2 []).bind fun t10 => (qac.f 3 a0 t10.1).bind fun t11 => (qaq.l2 k (IntKind.i64.wrap (1 + t11.1)) ByteArray.empty a0 t11.2 t1.1 t10.2.1 t1.2.2 t10.2.2 []).bind fun t14 => some (t1.1,t1.2.2,t10.2.2,t14)
def qa8.l0 : Nat → LI → ByteArray → Nat → Option (LI)
 | 0,_,_,_ => none
 | n + 1,y0,y1_0,y1_1 => if y1_1 < y1_0.size then (if y0.length + [(((Utf8.decode y1_0 y1_1).1 : Nat) : Int)].length ≤ 281474976710656 ∧ (y0.length + [(((Utf8.decode y1_0 y1_1).1 : Nat) : Int)].length) * 4 ≤ 140737488355328 then qa8.l0 n (y0 ++ [(((Utf8.decode y1_0 y1_1).1 : Nat) : Int)]) y1_0 (y1_1 + (Utf8.decode y1_0 y1_1).2) else none) else some y0
def qa8.f (k : Nat) (a0 : ByteArray) : Option (LI) := (qa8.l0 k [] a0 0).bind fun t1 => some t1
def qea.f (a0 : Int) : Option (Bool) := if a0 = 46 then (some false) else if a0 = 45 then (some false) else if a0 = 40 then (some false) else if a0 = 41 then (some false) else if a0 = 65533 then (some false) else some (decide (33 ≤ a0))
def qaD.l0 : Nat → LI → Int → Int → Int → Option (Unit ⊕ Int)
 | 0,_,_,_,_ => none
 | n + 1,x0,x1,x7,x8 => if x8 < x7 then (if 0 ≤ x8 ∧ x8 < (x0.length : Int) then if x1 = x0.getD x8.toNat 0 then (some (.inr x8)) else qaD.l0 n x0 x1 x7 (IntKind.i64.wrap (x8 + 1)) else none) else some (.inl ())
def qaD.f (k : Nat) (a0 : LI) (a1 : Int) : Option (Int) := (qaD.l0 k a0 a1 (a0.length : Int) 0).bind fun t1 => Sum.elim (fun t1 => some (-1)) (fun t1 => some t1) t1
def qbE.f (k : Nat) (a0 : LI) (a1 : Int) : Option (Bool) := (qaD.f k a0 a1).bind fun t1 => some (decide (0 ≤ t1))
def qbj.l0 (k : Nat) : Nat → Int → Int → LI → Option (Unit ⊕ Bool)
 | 0,_,_,_ => none
 | n + 1,x19,x20,y0 => if x20 < x19 then (if 0 ≤ x20 ∧ x20 < (y0.length : Int) then if x20.toNat < y0.length then (qea.f (y0.getD x20.toNat 0)).bind fun t2 => if t2 = true then (if 0 ≤ ((0 : Nat) : Int) ∧ ((0 : Nat) : Int) ≤ x20 ∧ x20 ≤ (y0.length : Int) then (qbE.f k ((y0.take x20.toNat).drop 0) (y0.getD x20.toNat 0)).bind fun t3 => if t3 = true then (some (.inr false)) else qbj.l0 k n x19 (IntKind.i64.wrap (x20 + 1)) y0 else none) else some (.inr false) else none else none) else some (.inl ())
def qbj.f (k : Nat) (a0 : ByteArray) (a1 : Int) : Option (Bool) := (qa8.f k a0).bind fun t1 => if (t1.length : Int) = a1 then (if 3 < a1 then (some false) else (qbj.l0 k k (t1.length : Int) 0 t1).bind fun t4 => Sum.elim (fun t4 => some true) (fun t4 => some t4) t4) else some false
def qbL.l0 : Nat → Int → LI → Int → Int → LI → ByteArray → (List LN) → LI → Option (Int ⊕ Bool)
 | 0,_,_,_,_,_,_,_,_ => none
 | n + 1,x3,x11,x12,x13,y0_0,y0_1,y0_2,y0_3 => if x13 < x12 then (if 0 ≤ x13 ∧ x13 < (x11.length : Int) then if x11.getD x13.toNat 0 < 1 then (some (.inr false)) else if 8 < x11.getD x13.toNat 0 then (some (.inr false)) else qbL.l0 n (IntKind.i64.wrap (x3 * (x11.getD x13.toNat 0))) x11 x12 (IntKind.i64.wrap (x13 + 1)) y0_0 y0_1 y0_2 y0_3 else none) else some (.inl x3)
def qbL.f (k : Nat) (a0_0 : LI) (a0_1 : ByteArray) (a0_2 : List LN) (a0_3 : LI) : Option (Bool) := if 3 < (a0_0.length : Int) then (some false) else (qbL.l0 k 1 a0_0 (a0_0.length : Int) 0 a0_0 a0_1 a0_2 a0_3).bind fun t1 => Sum.elim (fun t1 => if t1 ≤ 8 then ((qbj.f k a0_1 (a0_0.length : Int)).bind fun t2 => some t2) else some false) (fun t1 => some t1) t1
def qdF.f (a0 : Int) : Option (Int × Bool × Bool × Bool × Bool × Bool × Bool) := if a0 = 1 then (some (0,false,true,false,false,false,true)) else if a0 = 2 then (some (0,false,true,false,true,false,true)) else if a0 = 3 then (some (0,false,true,true,false,false,true)) else if a0 = 4 then (some (1,false,false,false,false,false,true)) else if a0 = 5 then (some (1,false,false,false,false,false,true)) else if a0 = 6 then (some (2,false,false,false,false,false,true)) else if a0 = 7 then (some (2,false,false,false,false,false,true)) else if a0 = 8 then (some (2,false,false,false,false,false,true)) else if a0 = 9 then (some (2,false,false,false,false,false,true)) else if a0 = 10 then (some (2,false,false,false,false,false,true)) else if a0 = 11 then (some (2,false,false,false,false,false,true)) else if a0 = 12 then (some (3,false,false,false,false,false,true)) else if a0 = 13 then (some (1,false,false,true,false,false,true)) else if a0 = 15 then (some (1,false,false,true,false,false,true)) else if a0 = 14 then (some (1,false,true,true,false,false,true)) else if a0 = 16 then (some (1,false,false,true,true,false,true)) else if a0 = 17 then (some (2,true,false,true,false,false,true)) else if a0 = 18 then (some (1,false,false,true,false,true,true)) else if a0 = 20 then (some (1,false,false,true,false,true,true)) else if a0 = 19 then (some (2,false,false,true,false,false,true)) else some (0,false,false,false,false,false,false)
def qdh.f (a0_0 : Int) (a0_1 : LI) (a0_2 : LI) (a0_3 : LI) (a0_4 : Int) (a0_5 : Int) (a0_6 : ByteArray) (a1 : Int) : Option (Bool) := (qdF.f a0_0).bind fun t1 => if t1.2.2.2.2.2.2 = true then (if a1 < t1.1 then (some false) else if t1.1 < a1 then (if t1.2.1 = true then (if t1.2.2.1 = true then (if t1.2.2.2.1 = true then (if t1.2.2.2.2.1 = true then (if t1.2.2.2.2.2.1 = true then (some true) else some (decide (a0_5 = 0))) else if a0_4 = 0 then (if t1.2.2.2.2.2.1 = true then (some true) else some (decide (a0_5 = 0))) else some false) else if (a0_3.length : Int) = 0 then (if t1.2.2.2.2.1 = true then (if t1.2.2.2.2.2.1 = true then (some true) else some (decide (a0_5 = 0))) else if a0_4 = 0 then (if t1.2.2.2.2.2.1 = true then (some true) else some (decide (a0_5 = 0))) else some false) else some false) else if (a0_2.length : Int) = 0 then (if t1.2.2.2.1 = true then (if t1.2.2.2.2.1 = true then (if t1.2.2.2.2.2.1 = true then (some true) else some (decide (a0_5 = 0))) else if a0_4 = 0 then (if t1.2.2.2.2.2.1 = true then (some true) else some (decide (a0_5 = 0))) else some false) else if (a0_3.length : Int) = 0 then (if t1.2.2.2.2.1 = true then (if t1.2.2.2.2.2.1 = true then (some true) else some (decide (a0_5 = 0))) else if a0_4 = 0 then (if t1.2.2.2.2.2.1 = true then (some true) else some (decide (a0_5 = 0))) else some false) else some false) else some false) else some false) else if t1.2.2.1 = true then (if t1.2.2.2.1 = true then (if t1.2.2.2.2.1 = true then (if t1.2.2.2.2.2.1 = true then (some true) else some (decide (a0_5 = 0))) else if a0_4 = 0 then (if t1.2.2.2.2.2.1 = true then (some true) else some (decide (a0_5 = 0))) else some false) else if (a0_3.length : Int) = 0 then (if t1.2.2.2.2.1 = true then (if t1.2.2.2.2.2.1 = true then (some true) else some (decide (a0_5 = 0))) else if a0_4 = 0 then (if t1.2.2.2.2.2.1 = true then (some true) else some (decide (a0_5 = 0))) else some false) else some false) else if (a0_2.length : Int) = 0 then (if t1.2.2.2.1 = true then (if t1.2.2.2.2.1 = true then (if t1.2.2.2.2.2.1 = true then (some true) else some (decide (a0_5 = 0))) else if a0_4 = 0 then (if t1.2.2.2.2.2.1 = true then (some true) else some (decide (a0_5 = 0))) else some false) else if (a0_3.length : Int) = 0 then (if t1.2.2.2.2.1 = true then (if t1.2.2.2.2.2.1 = true then (some true) else some (decide (a0_5 = 0))) else if a0_4 = 0 then (if t1.2.2.2.2.2.1 = true then (some true) else some (decide (a0_5 = 0))) else some false) else some false) else some false) else some false
def qc6.f (k : Nat) (a0 : LI) : Option (Bool) := (qaM.f k a0).bind fun t1 => some (!t1)
def qaf.l0 (k : Nat) : Nat → (List LI) → Int → Int → Option (Unit ⊕ Int)
 | 0,_,_,_ => none
 | n + 1,x0,x7,x8 => if x8 < x7 then (if 0 ≤ x8 ∧ x8 < (x0.length : Int) then (qc6.f k (x0.getD x8.toNat [])).bind fun t1 => if t1 = true then (some (.inr x8)) else qaf.l0 k n x0 x7 (IntKind.i64.wrap (x8 + 1)) else none) else some (.inl ())
def qaf.f (k : Nat) (a0 : List LI) : Option (Int) := (qaf.l0 k k a0 (a0.length : Int) 0).bind fun t2 => Sum.elim (fun t2 => some (-1)) (fun t2 => some t2) t2
def qaz.f (k : Nat) (a0 : List LI) : Option (Bool) := (qaf.f k a0).bind fun t1 => some (decide (0 ≤ t1))
def qcs.f (k : Nat) (a0_0 : Int) (a0_1 : LI) (a0_2 : LI) (a0_3 : LI) (a0_4 : Int) (a0_5 : Int) (a0_6 : ByteArray) : Option (LI × Int) := (qaM.f k a0_2).bind fun t1 => if t1 = true then (if a0_0 = 3 then (if (a0_3.length : Int) = 1 then (if (0 : Int) ≤ 0 ∧ 0 < (a0_3.length : Int) then if a0_3.getD 0 0 < 0 then (some ([],1)) else if (a0_2.length : Int) ≤ a0_3.getD 0 0 then (some ([],1)) else some (a0_2,0) else none) else some ([],1)) else some (a0_2,0)) else some ([],13)
def qdE.f (k : Nat) (a0_0 : Int) (a0_1 : LI) (a0_2 : LI) (a0_3 : LI) (a0_4 : Int) (a0_5 : Int) (a0_6 : ByteArray) (a1 : LI) : Option (LI × Int) := if (a0_3.length : Int) = IntKind.i64.wrap (2 * (a1.length : Int)) then (if 0 ≤ ((0 : Nat) : Int) ∧ ((0 : Nat) : Int) ≤ (a1.length : Int) ∧ (a1.length : Int) ≤ (a0_3.length : Int) then if 0 ≤ (a1.length : Int) ∧ (a1.length : Int) ≤ (a0_3.length : Int) ∧ (a0_3.length : Int) ≤ (a0_3.length : Int) then if a0_0 = 15 then ((qbw.f k a1 ((a0_3.take (a1.length : Int).toNat).drop 0) ((a0_3.take a0_3.length).drop (a1.length : Int).toNat)).bind fun t1 => some ((a0_3.take a0_3.length).drop (a1.length : Int).toNat,t1)) else (qbx.f k a1 ((a0_3.take (a1.length : Int).toNat).drop 0) ((a0_3.take a0_3.length).drop (a1.length : Int).toNat)).bind fun t2 => some (t2.2,t2.1) else none else none) else some ([],1)
def qcf.f (a1 : Int) : Option (LI) := if a1 < 0 then (none) else if 0 < IntKind.i64.wrap (a1 - (IntKind.i64.wrap (0 - 0))) then (if ((0 : Nat) : Int) = 0 ∧ 0 = 0 then if 1 ≤ IntKind.i64.wrap (a1 - (IntKind.i64.wrap (0 - 0))) ∧ IntKind.i64.wrap (a1 - (IntKind.i64.wrap (0 - 0))) ≤ 281474976710656 ∧ ((8 : Nat) : Int) * (IntKind.i64.wrap (a1 - (IntKind.i64.wrap (0 - 0)))) ≤ 140737488355328 then if 0 ≤ ((0 : Nat) : Int) ∧ ((0 : Nat) : Int) ≤ 0 ∧ 0 ≤ ((List.replicate (IntKind.i64.wrap (a1 - (IntKind.i64.wrap (0 - 0)))).toNat (0 : Int)).length : Int) then some ((List.replicate (IntKind.i64.wrap (a1 - (IntKind.i64.wrap (0 - 0)))).toNat (0 : Int)).take 0) else none else none else none) else some []
def qam.l0 : Nat → (List LI) → Int → (List LI) → Int → Int → Option (Int)
 | 0,_,_,_,_,_ => none
 | n + 1,x0,x3,x9,x10,x11 => if x11 < x10 then (if 0 ≤ x11 ∧ x11 < (x9.length : Int) then if IntKind.i64.wrap (x3 + ((x9.getD x11.toNat []).length : Int)) < 0 then (none) else qam.l0 n x0 (IntKind.i64.wrap (x3 + ((x9.getD x11.toNat []).length : Int))) x9 x10 (IntKind.i64.wrap (x11 + 1)) else none) else some x3
def qam.l1 : Nat → (List LI) → Int → Int → LI → Option (LI)
 | 0,_,_,_,_ => none
 | n + 1,x25,x26,x27,y0 => if x27 < x26 then (if 0 ≤ x27 ∧ x27 < (x25.length : Int) then if y0.length + (x25.getD x27.toNat []).length ≤ 281474976710656 ∧ (y0.length + (x25.getD x27.toNat []).length) * 8 ≤ 140737488355328 then qam.l1 n x25 x26 (IntKind.i64.wrap (x27 + 1)) (y0 ++ (x25.getD x27.toNat [])) else none else none) else some y0
def qam.f (k : Nat) (a0 : List LI) : Option (LI) := (qam.l0 k a0 0 a0 (a0.length : Int) 0).bind fun t1 => (qcf.f t1).bind fun t2 => (qam.l1 k a0 (a0.length : Int) 0 t2).bind fun t3 => some t3
def qeh.f (k : Nat) (a0 : LI) (a1 : LI) (a2 : Int) : Option (Int × LI) := if a2 < 0 then (some (1,[])) else if (a0.length : Int) ≤ a2 then (some (1,[])) else if (a1.length : Int) ≤ a2 then (some (1,[])) else (qaM.f k a0).bind fun t1 => if t1 = true then ((qaM.f k a1).bind fun t2 => if t2 = true then (if 0 ≤ ((0 : Nat) : Int) ∧ ((0 : Nat) : Int) ≤ a2 ∧ a2 ≤ (a0.length : Int) then if 0 ≤ ((0 : Nat) : Int) ∧ ((0 : Nat) : Int) ≤ a2 ∧ a2 ≤ (a1.length : Int) then (qc7.f k ((a0.take a2.toNat).drop 0) ((a1.take a2.toNat).drop 0)).bind fun t3 => if t3 = true then (if 0 ≤ IntKind.i64.wrap ((a0.length : Int) - 1) ∧ IntKind.i64.wrap ((a0.length : Int) - 1) < (a0.length : Int) then if 0 ≤ a2 ∧ a2 < (a1.length : Int) then if a0.getD (IntKind.i64.wrap ((a0.length : Int) - 1)).toNat 0 = a1.getD a2.toNat 0 then (if 0 ≤ ((0 : Nat) : Int) ∧ ((0 : Nat) : Int) ≤ IntKind.i64.wrap ((a0.length : Int) - 1) ∧ IntKind.i64.wrap ((a0.length : Int) - 1) ≤ (a0.length : Int) then if 0 ≤ IntKind.i64.wrap (a2 + 1) ∧ IntKind.i64.wrap (a2 + 1) ≤ (a1.length : Int) ∧ (a1.length : Int) ≤ (a1.length : Int) then (qam.f k [(a0.take (IntKind.i64.wrap ((a0.length : Int) - 1)).toNat).drop 0,(a1.take a1.length).drop (IntKind.i64.wrap (a2 + 1)).toNat]).bind fun t4 => (qaM.f k t4).bind fun t5 => if t5 = true then (some (0,t4)) else some (13,[]) else none else none) else some (13,[]) else none else none) else some (13,[]) else none else none) else some (13,[])) else some (13,[])
def qda.f (a0 : Int) : Option (Bool) := if 1 ≤ a0 then (some (decide (a0 ≤ 4))) else some false
def qbB.l0 : Nat → LI → LI → Int → Int → LI → Option (LI)
 | 0,_,_,_,_,_ => none
 | n + 1,x1,x14,x15,x16,y0 => if x16 < x15 then (if 0 ≤ x16 ∧ x16 < (x14.length : Int) then if 0 < (x1.length : Int) then (if (0 : Int) ≤ 0 ∧ 0 < (x1.length : Int) then if x1.getD 0 0 = x16 then (if (0 : Int) ≤ 1 ∧ 1 ≤ (x1.length : Int) ∧ (x1.length : Int) ≤ (x1.length : Int) then qbB.l0 n ((x1.take x1.length).drop 1) x14 x15 (IntKind.i64.wrap (x16 + 1)) y0 else none) else if y0.length + [x14.getD x16.toNat 0].length ≤ 281474976710656 ∧ (y0.length + [x14.getD x16.toNat 0].length) * 8 ≤ 140737488355328 then qbB.l0 n x1 x14 x15 (IntKind.i64.wrap (x16 + 1)) (y0 ++ [x14.getD x16.toNat 0]) else none else none) else if y0.length + [x14.getD x16.toNat 0].length ≤ 281474976710656 ∧ (y0.length + [x14.getD x16.toNat 0].length) * 8 ≤ 140737488355328 then qbB.l0 n x1 x14 x15 (IntKind.i64.wrap (x16 + 1)) (y0 ++ [x14.getD x16.toNat 0]) else none else none) else some y0
def qbB.f (k : Nat) (a0 : LI) (a1 : LI) : Option (Int × LI) := (qaY.f k a1 (a0.length : Int)).bind fun t1 => if t1 = true then ((qbB.l0 k a1 a0 (a0.length : Int) 0 []).bind fun t2 => some (0,t2)) else some (1,[])
def qdr.f (k : Nat) (a0_0 : Int) (a0_1 : LI) (a0_2 : LI) (a0_3 : LI) (a0_4 : Int) (a0_5 : Int) (a0_6 : ByteArray) (a1 : LI) : Option (Int × LI) := (qda.f a0_5).bind fun t1 => if t1 = true then ((qbB.f k a1 a0_3).bind fun t2 => if t2.1 = 0 then ((qaM.f k t2.2).bind fun t3 => if t3 = true then (some (t2.1,t2.2)) else some (13,t2.2)) else some (t2.1,t2.2)) else some (1,[])
def qcu.f (a0 : Int) : Option (Bool) := if 1 ≤ a0 then (some (decide (a0 ≤ 32))) else some false
def qdw.f (a0 : Int) (a1 : Int) (a2 : Int) : Option (Bool) := (qda.f a0).bind fun t1 => if t1 = true then ((qcu.f a1).bind fun t2 => if t2 = true then ((qcu.f a2).bind fun t3 => some t3) else some false) else some false
def qdv.f (a0 : Int) (a1 : Int) (a2 : Int) : Option (Int) := if a0 < 0 then (some 0) else if a1 < 1 then (some 0) else if a2 < 1 then (some 0) else if a0 < a1 then (some 0) else if a2 ≠ 0 then some (IntKind.i64.wrap ((IntKind.i64.wrap ((IntKind.i64.wrap (a0 - a1)).tdiv a2)) + 1)) else none
def qdT.f (a0_0 : Int) (a0_1 : LI) (a0_2 : LI) (a0_3 : LI) (a0_4 : Int) (a0_5 : Int) (a0_6 : ByteArray) (a1 : LI) : Option (Int × LI) := if (a0_3.length : Int) = 3 then (if (0 : Int) ≤ 1 ∧ 1 < (a0_3.length : Int) then if (0 : Int) ≤ 2 ∧ 2 < (a0_3.length : Int) then (qdw.f a0_5 (a0_3.getD 1 0) (a0_3.getD 2 0)).bind fun t1 => if t1 = true then (if (0 : Int) ≤ 0 ∧ 0 < (a0_3.length : Int) then if a0_3.getD 0 0 < 0 then (some (1,[])) else if (a1.length : Int) ≤ a0_3.getD 0 0 then (some (1,[])) else (qbn.f a1).bind fun t2 => if 0 ≤ a0_3.getD 0 0 ∧ a0_3.getD 0 0 < (a1.length : Int) then (qdv.f (a1.getD (a0_3.getD 0 0).toNat 0) (a0_3.getD 1 0) (a0_3.getD 2 0)).bind fun t3 => if 0 ≤ a0_3.getD 0 0 ∧ a0_3.getD 0 0 < (t2.length : Int) then if (a0_3.getD 0 0).toNat < t2.length then some (0,t2.set (a0_3.getD 0 0).toNat t3) else none else none else none else none) else some (1,[]) else none else none) else some (1,[])
def qc5.f (k : Nat) (a0 : LI) (o0 : List LI) : Option (Bool) := if (0 : Int) ≤ 0 ∧ 0 < (o0.length : Int) then (qc7.f k a0 (o0.getD 0 [])).bind fun t1 => some (!t1) else none
def qae.l0 (k : Nat) : Nat → (List LI) → Int → Int → (List LI) → Option (Unit ⊕ Int)
 | 0,_,_,_,_ => none
 | n + 1,x0,x7,x8,y0 => if x8 < x7 then (if 0 ≤ x8 ∧ x8 < (x0.length : Int) then (qc5.f k (x0.getD x8.toNat []) y0).bind fun t1 => if t1 = true then (some (.inr x8)) else qae.l0 k n x0 x7 (IntKind.i64.wrap (x8 + 1)) y0 else none) else some (.inl ())
def qae.f (k : Nat) (a0 : List LI) (o0 : List LI) : Option (Int) := (qae.l0 k k a0 (a0.length : Int) 0 o0).bind fun t2 => Sum.elim (fun t2 => some (-1)) (fun t2 => some t2) t2
def qaI.f (k : Nat) (a0 : List LI) (o0 : List LI) : Option (Bool) := (qae.f k a0 o0).bind fun t1 => some (decide (0 ≤ t1))
def qdi.f (k : Nat) (a0 : List LI) : Option (LI × Int) := (qaI.f k a0 a0).bind fun t1 => if t1 = true then (some ([],13)) else if (0 : Int) ≤ 0 ∧ 0 < (a0.length : Int) then some (a0.getD 0 [],0) else none
def qaR.f (k : Nat) (a0_0 : Int) (a0_1 : LI) (a0_2 : LI) (a0_3 : LI) (a0_4 : Int) (a0_5 : Int) (a0_6 : ByteArray) (a1 : List LI) : Option (LI × Int) := if a0_0 = 1 then ((qcs.f k a0_0 a0_1 a0_2 a0_3 a0_4 a0_5 a0_6).bind fun t1 => some (t1.1,t1.2)) else if a0_0 = 2 then ((qcs.f k a0_0 a0_1 a0_2 a0_3 a0_4 a0_5 a0_6).bind fun t2 => some (t2.1,t2.2)) else if a0_0 = 3 then ((qcs.f k a0_0 a0_1 a0_2 a0_3 a0_4 a0_5 a0_6).bind fun t3 => some (t3.1,t3.2)) else if a0_0 = 13 then (if (0 : Int) ≤ 0 ∧ 0 < (a1.length : Int) then (qbv.f k (a1.getD 0 []) a0_3).bind fun t4 => some (t4.2,t4.1) else none) else if a0_0 = 14 then (if (0 : Int) ≤ 0 ∧ 0 < (a1.length : Int) then (qbM.f k (a1.getD 0 []) a0_2 a0_3).bind fun t5 => some (a0_2,t5) else none) else if a0_0 = 15 then (if (0 : Int) ≤ 0 ∧ 0 < (a1.length : Int) then (qdE.f k a0_0 a0_1 a0_2 a0_3 a0_4 a0_5 a0_6 (a1.getD 0 [])).bind fun t6 => some (t6.1,t6.2) else none) else if a0_0 = 16 then (if (0 : Int) ≤ 0 ∧ 0 < (a1.length : Int) then (qdE.f k a0_0 a0_1 a0_2 a0_3 a0_4 a0_5 a0_6 (a1.getD 0 [])).bind fun t7 => some (t7.1,t7.2) else none) else if a0_0 = 17 then (if (a0_3.length : Int) = 1 then (if (0 : Int) ≤ 0 ∧ 0 < (a0_3.length : Int) then (qaO.f k (a0_3.getD 0 0) a1).bind fun t8 => some (t8.2,t8.1) else none) else some ([],1)) else if a0_0 = 19 then (if (a0_3.length : Int) = 1 then (if (0 : Int) ≤ 0 ∧ 0 < (a1.length : Int) then if (0 : Int) ≤ 1 ∧ 1 < (a1.length : Int) then if (0 : Int) ≤ 0 ∧ 0 < (a0_3.length : Int) then (qeh.f k (a1.getD 0 []) (a1.getD 1 []) (a0_3.getD 0 0)).bind fun t9 => some (t9.2,t9.1) else none else none else none) else some ([],1)) else if a0_0 = 18 then (if (0 : Int) ≤ 0 ∧ 0 < (a1.length : Int) then (qdr.f k a0_0 a0_1 a0_2 a0_3 a0_4 a0_5 a0_6 (a1.getD 0 [])).bind fun t10 => some (t10.2,t10.1) else none) else if a0_0 = 20 then (if (0 : Int) ≤ 0 ∧ 0 < (a1.length : Int) then (qdT.f a0_0 a0_1 a0_2 a0_3 a0_4 a0_5 a0_6 (a1.getD 0 [])).bind fun t11 => some (t11.2,t11.1) else none) else (qdi.f k a1).bind fun t12 => some (t12.1,t12.2)
def qdj.f (k : Nat) (a0_0 : Int) (a0_1 : LI) (a0_2 : LI) (a0_3 : LI) (a0_4 : Int) (a0_5 : Int) (a0_6 : ByteArray) (a1 : List LI) : Option (Int × LI) := (qdh.f a0_0 a0_1 a0_2 a0_3 a0_4 a0_5 a0_6 (a1.length : Int)).bind fun t1 => if t1 = true then ((qaz.f k a1).bind fun t2 => if t2 = true then (some (13,[])) else (qaR.f k a0_0 a0_1 a0_2 a0_3 a0_4 a0_5 a0_6 a1).bind fun t3 => if t3.2 = 0 then ((qbn.f t3.1).bind fun t4 => some (0,t4)) else some (t3.2,[])) else some (1,[])
def qdC.f (k : Nat) (a0 : ByteArray) (a1 : Int) : Option (Int) := (qa8.f k a0).bind fun t1 => (qaD.f k t1 a1).bind fun t2 => some t2
def qbm.l0 (k : Nat) : Nat → ByteArray → Int → Int → Int → LI → LI → Option (LI ⊕ (Bool × Int))
 | 0,_,_,_,_,_,_ => none
 | n + 1,x0,x2,x20,x21,y0,y1 => if x21 < x20 then (if 0 ≤ x21 ∧ x21 < (y1.length : Int) then if x21.toNat < y1.length then (qdC.f k x0 (y1.getD x21.toNat 0)).bind fun t2 => if y1.getD x21.toNat 0 = 32 then (qbm.l0 k n x0 x2 x20 (IntKind.i64.wrap (x21 + 1)) y0 y1) else if y1.getD x21.toNat 0 = 46 then (if y0.length + ([-1] : LI).length ≤ 281474976710656 ∧ (y0.length + ([-1] : LI).length) * 8 ≤ 140737488355328 then qbm.l0 k n x0 x2 x20 (IntKind.i64.wrap (x21 + 1)) (y0 ++ ([-1] : LI)) y1 else none) else if t2 < 0 then (some (.inr (false,14))) else (qbP.f k y0 t2).bind fun t3 => if t3 = true then (some (.inr (false,14))) else if y0.length + [t2].length ≤ 281474976710656 ∧ (y0.length + [t2].length) * 8 ≤ 140737488355328 then qbm.l0 k n x0 x2 x20 (IntKind.i64.wrap (x21 + 1)) (y0 ++ [t2]) y1 else none else none else none) else some (.inl y0)
def qbm.f (k : Nat) (a0 : ByteArray) (a1 : ByteArray) (a2 : Int) : Option (Bool × Int × LI) := (qa8.f k a1).bind fun t1 => if 16 < (t1.length : Int) then (some (false,14,[])) else (qbm.l0 k k a0 a2 (t1.length : Int) 0 [] t1).bind fun t4 => Sum.elim (fun t4 => if (t4.length : Int) = 0 then (some (false,0,[])) else if (t4.length : Int) = a2 then (some (true,0,t4)) else some (false,14,[])) (fun t4 => some (t4.1,t4.2,[])) t4
def qbD.l0 : Nat → (List LI) → LI → Int → Int → LI → ByteArray → (List LN) → LI → Int → LI → LI → LI → Int → Int → ByteArray → (List LI) → Option ((List LI) ⊕ Int)
 | 0,_,_,_,_,_,_,_,_,_,_,_,_,_,_,_,_ => none
 | n + 1,x2,x14,x15,x16,y0_0,y0_1,y0_2,y0_3,y1_0,y1_1,y1_2,y1_3,y1_4,y1_5,y1_6,y2 => if x16 < x15 then (if 0 ≤ x16 ∧ x16 < (x14.length : Int) then if x14.getD x16.toNat 0 < 0 then (some (.inr 23)) else if (x2.length : Int) ≤ x14.getD x16.toNat 0 then (some (.inr 23)) else if 0 ≤ x14.getD x16.toNat 0 ∧ x14.getD x16.toNat 0 < (x2.length : Int) then if y2.length + [x2.getD (x14.getD x16.toNat 0).toNat []].length ≤ 281474976710656 ∧ (y2.length + [x2.getD (x14.getD x16.toNat 0).toNat []].length) * 24 ≤ 140737488355328 then qbD.l0 n x2 x14 x15 (IntKind.i64.wrap (x16 + 1)) y0_0 y0_1 y0_2 y0_3 y1_0 y1_1 y1_2 y1_3 y1_4 y1_5 y1_6 (y2 ++ [x2.getD (x14.getD x16.toNat 0).toNat []]) else none else none else none) else some (.inl y2)
def qbD.f (k : Nat) (a0_0 : LI) (a0_1 : ByteArray) (a0_2 : List LN) (a0_3 : LI) (a1_0 : Int) (a1_1 : LI) (a1_2 : LI) (a1_3 : LI) (a1_4 : Int) (a1_5 : Int) (a1_6 : ByteArray) (a2 : List LI) : Option (Int × LI) := (qbD.l0 k a2 a1_1 (a1_1.length : Int) 0 a0_0 a0_1 a0_2 a0_3 a1_0 a1_1 a1_2 a1_3 a1_4 a1_5 a1_6 []).bind fun t1 => Sum.elim (fun t1 => (qdj.f k a1_0 a1_1 a1_2 a1_3 a1_4 a1_5 a1_6 t1).bind fun t2 => if t2.1 = 0 then ((qbm.f k a0_1 a1_6 (t2.2.length : Int)).bind fun t3 => some (t3.2.1,t2.2)) else some (t2.1,[])) (fun t1 => some (t1,[])) t1
def qcp.f (a0 : Int) (o1 : List LI) : Option (Bool) := if a0 < 0 then (some true) else some (decide ((o1.length : Int) ≤ a0))
def qah.l0 : Nat → LI → Int → Int → (List LI) → Option (Unit ⊕ Int)
 | 0,_,_,_,_ => none
 | n + 1,x0,x7,x8,y1 => if x8 < x7 then (if 0 ≤ x8 ∧ x8 < (x0.length : Int) then (qcp.f (x0.getD x8.toNat 0) y1).bind fun t1 => if t1 = true then (some (.inr x8)) else qah.l0 n x0 x7 (IntKind.i64.wrap (x8 + 1)) y1 else none) else some (.inl ())
def qah.f (k : Nat) (a0 : LI) (o1 : List LI) : Option (Int) := (qah.l0 k a0 (a0.length : Int) 0 o1).bind fun t2 => Sum.elim (fun t2 => some (-1)) (fun t2 => some t2) t2
def qaC.f (k : Nat) (a0 : LI) (o1 : List LI) : Option (Bool) := (qah.f k a0 o1).bind fun t1 => some (decide (0 ≤ t1))
def qbe.l0 (k : Nat) : Nat → (List LN) → Int → Int → LI → ByteArray → (List LN) → LI → (List LI) → Option ((List LI) ⊕ Int)
 | 0,_,_,_,_,_,_,_,_ => none
 | n + 1,x25,x26,x27,y0_0,y0_1,y0_2,y0_3,y2 => if x27 < x26 then (if 0 ≤ x27 ∧ x27 < (x25.length : Int) then (qbD.f k y0_0 y0_1 y0_2 y0_3 (x25.getD x27.toNat ln0).1 (x25.getD x27.toNat ln0).2.1 (x25.getD x27.toNat ln0).2.2.1 (x25.getD x27.toNat ln0).2.2.2.1 (x25.getD x27.toNat ln0).2.2.2.2.1 (x25.getD x27.toNat ln0).2.2.2.2.2.1 (x25.getD x27.toNat ln0).2.2.2.2.2.2 y2).bind fun t2 => if t2.1 = 0 then (if y2.length + [t2.2].length ≤ 281474976710656 ∧ (y2.length + [t2.2].length) * 24 ≤ 140737488355328 then qbe.l0 k n x25 x26 (IntKind.i64.wrap (x27 + 1)) y0_0 y0_1 y0_2 y0_3 (y2 ++ [t2.2]) else none) else some (.inr t2.1) else none) else some (.inl y2)
def qbe.f (k : Nat) (a0_0 : LI) (a0_1 : ByteArray) (a0_2 : List LN) (a0_3 : LI) : Option (Int × (List LI)) := (qbL.f k a0_0 a0_1 a0_2 a0_3).bind fun t1 => if t1 = true then (if 48 < (a0_2.length : Int) then (some (3,[])) else if 48 < (a0_3.length : Int) then (some (3,[])) else (qbe.l0 k k a0_2 (a0_2.length : Int) 0 a0_0 a0_1 a0_2 a0_3 []).bind fun t3 => Sum.elim (fun t3 => (qaC.f k a0_3 t3).bind fun t4 => if t4 = true then (some (23,[])) else some (0,t3)) (fun t3 => some (t3,[])) t3) else some (15,[])
def qbV.l0 : Nat → Int → Int → Int → LI → Option (Unit ⊕ Int)
 | 0,_,_,_,_ => none
 | n + 1,x1,x9,x10,y0 => if x10 < x9 then (if 0 ≤ x10 ∧ x10 < (y0.length : Int) then if x10.toNat < y0.length then if y0.getD x10.toNat 0 = x1 then (some (.inr x10)) else qbV.l0 n x1 x9 (IntKind.i64.wrap (x10 + 1)) y0 else none else none) else some (.inl ())
def qbV.f (k : Nat) (a0 : ByteArray) (a1 : Int) : Option (Int) := (qbk.f k a0).bind fun t1 => (qbV.l0 k a1 (t1.length : Int) 0 t1).bind fun t2 => Sum.elim (fun t2 => some (-1)) (fun t2 => some t2) t2
def qbC.l0 (k : Nat) : Nat → ByteArray → Int → Int → LI → Option (Unit ⊕ Bool)
 | 0,_,_,_,_ => none
 | n + 1,x0,x23,x24,y0 => if x24 < x23 then (if 0 ≤ x24 ∧ x24 < (y0.length : Int) then if x24.toNat < y0.length then if y0.getD x24.toNat 0 < 33 then (some (.inr false)) else if y0.getD x24.toNat 0 = 65533 then (some (.inr false)) else if y0.getD x24.toNat 0 = 46 then (some (.inr false)) else if y0.getD x24.toNat 0 = 45 then (some (.inr false)) else if y0.getD x24.toNat 0 = 40 then (some (.inr false)) else if y0.getD x24.toNat 0 = 41 then (some (.inr false)) else (qbV.f k x0 (y0.getD x24.toNat 0)).bind fun t2 => if t2 = x24 then (qbC.l0 k n x0 x23 (IntKind.i64.wrap (x24 + 1)) y0) else some (.inr false) else none else none) else some (.inl ())
def qbC.f (k : Nat) (a0 : ByteArray) (a1 : Int) : Option (Bool) := (qbk.f k a0).bind fun t1 => if a1 < 0 then (some false) else if 3 < a1 then (some false) else if (t1.length : Int) = a1 then ((qbC.l0 k k a0 (t1.length : Int) 0 t1).bind fun t3 => Sum.elim (fun t3 => some true) (fun t3 => some t3) t3) else some false
def qbJ.l0 : Nat → Int → Int → Int → LI → ByteArray → (List LN) → LI → Option (Int ⊕ Bool)
 | 0,_,_,_,_,_,_,_ => none
 | n + 1,x3,x7,x8,y0_0,y0_1,y0_2,y0_3 => if x8 < x7 then (if 0 ≤ x8 ∧ x8 < (y0_0.length : Int) then if y0_0.getD x8.toNat 0 < 1 then (some (.inr false)) else if 8 < y0_0.getD x8.toNat 0 then (some (.inr false)) else if 3 ≤ x8 then (some (.inr false)) else qbJ.l0 n (IntKind.i64.wrap (x3 * (y0_0.getD x8.toNat 0))) x7 (IntKind.i64.wrap (x8 + 1)) y0_0 y0_1 y0_2 y0_3 else none) else some (.inl x3)
def qbJ.f (k : Nat) (a0_0 : LI) (a0_1 : ByteArray) (a0_2 : List LN) (a0_3 : LI) : Option (Bool) := (qbJ.l0 k 1 (a0_0.length : Int) 0 a0_0 a0_1 a0_2 a0_3).bind fun t1 => Sum.elim (fun t1 => if t1 ≤ 8 then ((qbC.f k a0_1 (a0_0.length : Int)).bind fun t2 => some t2) else some false) (fun t1 => some t1) t1
def qaZ.l1 : Nat → ByteArray → Int → Int → Int → Int → Int → Int → LI → LI → Option (Unit ⊕ (Bool × Int))
 | 0,_,_,_,_,_,_,_,_,_ => none
 | n + 1,x0,x2,x13,x21,x22,x36,x37,y0,y1 => if x37 < x36 then (if 0 ≤ x37 ∧ x37 < (y0.length : Int) then if x37.toNat < y0.length then if y0.getD x37.toNat 0 = x13 then (some (.inr (false,14))) else qaZ.l1 n x0 x2 x13 x21 x22 x36 (IntKind.i64.wrap (x37 + 1)) y0 y1 else none else none) else some (.inl ())
def qaZ.l0 (k : Nat) : Nat → ByteArray → Int → Int → Int → LI → LI → Option (LI ⊕ (Bool × Int))
 | 0,_,_,_,_,_,_ => none
 | n + 1,x0,x2,x21,x22,y0,y1 => if x22 < x21 then (if 0 ≤ x22 ∧ x22 < (y1.length : Int) then if x22.toNat < y1.length then if y1.getD x22.toNat 0 = 32 then (qaZ.l0 k n x0 x2 x21 (IntKind.i64.wrap (x22 + 1)) y0 y1) else if y1.getD x22.toNat 0 = 46 then (if y0.length + ([-1] : LI).length ≤ 281474976710656 ∧ (y0.length + ([-1] : LI).length) * 8 ≤ 140737488355328 then qaZ.l0 k n x0 x2 x21 (IntKind.i64.wrap (x22 + 1)) (y0 ++ ([-1] : LI)) y1 else none) else (qbV.f k x0 (y1.getD x22.toNat 0)).bind fun t2 => if t2 < 0 then (some (.inr (false,14))) else (qaZ.l1 n x0 x2 t2 x21 x22 (y0.length : Int) 0 y0 y1).bind fun t3 => Sum.elim (fun t3 => if y0.length + [t2].length ≤ 281474976710656 ∧ (y0.length + [t2].length) * 8 ≤ 140737488355328 then qaZ.l0 k n x0 x2 x21 (IntKind.i64.wrap (x22 + 1)) (y0 ++ [t2]) y1 else none) (fun t3 => some (.inr (t3.1,t3.2))) t3 else none else none) else some (.inl y0)
def qaZ.f (k : Nat) (a0 : ByteArray) (a1 : ByteArray) (a2 : Int) : Option (Bool × Int × LI) := (qbk.f k a1).bind fun t1 => if 16 < (t1.length : Int) then (some (false,14,[])) else (qaZ.l0 k k a0 a2 (t1.length : Int) 0 [] t1).bind fun t4 => Sum.elim (fun t4 => if (t4.length : Int) = 0 then (some (false,0,[])) else if (t4.length : Int) = a2 then (some (true,0,t4)) else some (false,14,[])) (fun t4 => some (t4.1,t4.2,[])) t4
def qar.l1 : Nat → Int → (List LN) → Int → Int → LI → Int → Int → LI → ByteArray → (List LN) → LI → (List LI) → Int → LI → LI → LI → Int → Int → ByteArray → (List LI) → Option ((List LI) ⊕ Int)
 | 0,_,_,_,_,_,_,_,_,_,_,_,_,_,_,_,_,_,_,_,_ => none
 | n + 1,x5,x31,x32,x33,x39,x40,x41,y0_0,y0_1,y0_2,y0_3,y1,y2_0,y2_1,y2_2,y2_3,y2_4,y2_5,y2_6,y3 => if x41 < x40 then (if 0 ≤ x41 ∧ x41 < (x39.length : Int) then if x39.getD x41.toNat 0 < 0 then (some (.inr 23)) else if x5 ≤ x39.getD x41.toNat 0 then (some (.inr 23)) else if 0 ≤ x39.getD x41.toNat 0 ∧ x39.getD x41.toNat 0 < (y1.length : Int) then if (x39.getD x41.toNat 0).toNat < y1.length then if y3.length + [y1.getD (x39.getD x41.toNat 0).toNat []].length ≤ 281474976710656 ∧ (y3.length + [y1.getD (x39.getD x41.toNat 0).toNat []].length) * 24 ≤ 140737488355328 then qar.l1 n x5 x31 x32 x33 x39 x40 (IntKind.i64.wrap (x41 + 1)) y0_0 y0_1 y0_2 y0_3 y1 y2_0 y2_1 y2_2 y2_3 y2_4 y2_5 y2_6 (y3 ++ [y1.getD (x39.getD x41.toNat 0).toNat []]) else none else none else none else none) else some (.inl y3)
def qar.l0 (k : Nat) : Nat → (List LN) → Int → Int → LI → ByteArray → (List LN) → LI → (List LI) → Option ((List LI) ⊕ Int)
 | 0,_,_,_,_,_,_,_,_ => none
 | n + 1,x31,x32,x33,y0_0,y0_1,y0_2,y0_3,y1 => if x33 < x32 then (if 0 ≤ x33 ∧ x33 < (x31.length : Int) then (qar.l1 n x33 x31 x32 x33 (x31.getD x33.toNat ln0).2.1 ((x31.getD x33.toNat ln0).2.1.length : Int) 0 y0_0 y0_1 y0_2 y0_3 y1 (x31.getD x33.toNat ln0).1 (x31.getD x33.toNat ln0).2.1 (x31.getD x33.toNat ln0).2.2.1 (x31.getD x33.toNat ln0).2.2.2.1 (x31.getD x33.toNat ln0).2.2.2.2.1 (x31.getD x33.toNat ln0).2.2.2.2.2.1 (x31.getD x33.toNat ln0).2.2.2.2.2.2 []).bind fun t2 => Sum.elim (fun t2 => (qa7.f k (x31.getD x33.toNat ln0).1 (x31.getD x33.toNat ln0).2.1 (x31.getD x33.toNat ln0).2.2.1 (x31.getD x33.toNat ln0).2.2.2.1 (x31.getD x33.toNat ln0).2.2.2.2.1 (x31.getD x33.toNat ln0).2.2.2.2.2.1 (x31.getD x33.toNat ln0).2.2.2.2.2.2 t2).bind fun t3 => if t3.1 = 0 then ((qaZ.f k y0_1 (x31.getD x33.toNat ln0).2.2.2.2.2.2 (t3.2.length : Int)).bind fun t4 => if t4.2.1 = 0 then (if y1.length + [t3.2].length ≤ 281474976710656 ∧ (y1.length + [t3.2].length) * 24 ≤ 140737488355328 then qar.l0 k n x31 x32 (IntKind.i64.wrap (x33 + 1)) y0_0 y0_1 y0_2 y0_3 (y1 ++ [t3.2]) else none) else some (.inr t4.2.1)) else some (.inr t3.1)) (fun t2 => some (.inr t2)) t2 else none) else some (.inl y1)
def qar.l2 : Nat → LI → Int → Int → LI → ByteArray → (List LN) → LI → (List LI) → Option (Unit ⊕ Int)
 | 0,_,_,_,_,_,_,_,_ => none
 | n + 1,x89,x90,x91,y0_0,y0_1,y0_2,y0_3,y1 => if x91 < x90 then (if 0 ≤ x91 ∧ x91 < (x89.length : Int) then if x89.getD x91.toNat 0 < 0 then (some (.inr 23)) else if (y0_2.length : Int) ≤ x89.getD x91.toNat 0 then (some (.inr 23)) else qar.l2 n x89 x90 (IntKind.i64.wrap (x91 + 1)) y0_0 y0_1 y0_2 y0_3 y1 else none) else some (.inl ())
def qar.f (k : Nat) (a0_0 : LI) (a0_1 : ByteArray) (a0_2 : List LN) (a0_3 : LI) : Option (Int × (List LI)) := (qbJ.f k a0_0 a0_1 a0_2 a0_3).bind fun t1 => if t1 = true then (if 48 < (a0_2.length : Int) then (some (3,[])) else if 48 < (a0_3.length : Int) then (some (3,[])) else (qar.l0 k k a0_2 (a0_2.length : Int) 0 a0_0 a0_1 a0_2 a0_3 []).bind fun t5 => Sum.elim (fun t5 => (qar.l2 k a0_3 (a0_3.length : Int) 0 a0_0 a0_1 a0_2 a0_3 t5).bind fun t6 => Sum.elim (fun t6 => some (0,t5)) (fun t6 => some (t6,[])) t6) (fun t5 => some (t5,[])) t5) else some (15,[])
end Go.Pf

namespace Go.Pf
open Go
def qbK.l0 : Nat → Int → Int → LI → Option (LI)
 | 0,_,_,_ => none
 | n + 1,x0,x4,y0 => if x4 < 200 then (if 211 ≠ 0 then if y0.length + [(IntKind.i64.wrap ((IntKind.i64.wrap ((IntKind.i64.wrap ((IntKind.i64.wrap (x4 * x4)) * 7)) + (IntKind.i64.wrap (x0 * 31)))) + (IntKind.i64.wrap (x4 * x0)))).tmod 211].length ≤ 281474976710656 ∧ (y0.length + [(IntKind.i64.wrap ((IntKind.i64.wrap ((IntKind.i64.wrap ((IntKind.i64.wrap (x4 * x4)) * 7)) + (IntKind.i64.wrap (x0 * 31)))) + (IntKind.i64.wrap (x4 * x0)))).tmod 211].length) * 8 ≤ 140737488355328 then qbK.l0 n x0 (IntKind.i64.wrap (x4 + 1)) (y0 ++ [(IntKind.i64.wrap ((IntKind.i64.wrap ((IntKind.i64.wrap ((IntKind.i64.wrap (x4 * x4)) * 7)) + (IntKind.i64.wrap (x0 * 31)))) + (IntKind.i64.wrap (x4 * x0)))).tmod 211]) else none else none) else some y0
def qbK.f (k : Nat) (a0 : Int) : Option (LI) := (qbK.l0 k a0 0 []).bind fun t1 => some t1
def qcc.f (a0 : ByteArray) : Option (ByteArray) := if (a0.toList == ByteArray.empty.toList) = true then (some (ByteArray.mk #[45])) else some a0
def qbO.f (a0 : Int) : Option (ByteArray) := (strconv_FormatInt.f a0 10).bind fun t1 => some t1
def qa5.l0 : Nat → LI → Int → Int → (List ByteArray) → Option ((List ByteArray))
 | 0,_,_,_,_ => none
 | n + 1,x6,x7,x8,y0 => if x8 < x7 then (if 0 ≤ x8 ∧ x8 < (x6.length : Int) then (qbO.f (x6.getD x8.toNat 0)).bind fun t1 => if y0.length + [t1].length ≤ 281474976710656 ∧ (y0.length + [t1].length) * 16 ≤ 140737488355328 then qa5.l0 n x6 x7 (IntKind.i64.wrap (x8 + 1)) (y0 ++ [t1]) else none else none) else some y0
def qa5.f (k : Nat) (a0 : LI) : Option ((List ByteArray)) := (qa5.l0 k a0 (a0.length : Int) 0 []).bind fun t2 => some t2
def qdb.f (a0 : Int) : Option (ByteArray) := if a0 < 1 then (some ByteArray.empty) else if 20 < a0 then (some ByteArray.empty) else if 0 ≤ IntKind.i64.wrap (a0 - 1) ∧ IntKind.i64.wrap (a0 - 1) < ([(ByteArray.mk #[112,97,114,97,109]),(ByteArray.mk #[102,105,108,108]),(ByteArray.mk #[105,111,116,97]),(ByteArray.mk #[110,101,103]),(ByteArray.mk #[110,111,116]),(ByteArray.mk #[97,100,100]),(ByteArray.mk #[115,117,98]),(ByteArray.mk #[109,117,108]),(ByteArray.mk #[109,105,110]),(ByteArray.mk #[109,97,120]),(ByteArray.mk #[108,101,115,115]),(ByteArray.mk #[115,101,108,101,99,116]),(ByteArray.mk #[116,117,114,110]),(ByteArray.mk #[115,112,114,101,97,100]),(ByteArray.mk #[115,108,105,99,101]),(ByteArray.mk #[112,97,100]),(ByteArray.mk #[106,111,105,110]),(ByteArray.mk #[102,111,108,100]),(ByteArray.mk #[100,111,116]),(ByteArray.mk #[119,105,110,100,111,119])].length : Int) then if (IntKind.i64.wrap (a0 - 1)).toNat < [(ByteArray.mk #[112,97,114,97,109]),(ByteArray.mk #[102,105,108,108]),(ByteArray.mk #[105,111,116,97]),(ByteArray.mk #[110,101,103]),(ByteArray.mk #[110,111,116]),(ByteArray.mk #[97,100,100]),(ByteArray.mk #[115,117,98]),(ByteArray.mk #[109,117,108]),(ByteArray.mk #[109,105,110]),(ByteArray.mk #[109,97,120]),(ByteArray.mk #[108,101,115,115]),(ByteArray.mk #[115,101,108,101,99,116]),(ByteArray.mk #[116,117,114,110]),(ByteArray.mk #[115,112,114,101,97,100]),(ByteArray.mk #[115,108,105,99,101]),(ByteArray.mk #[112,97,100]),(ByteArray.mk #[106,111,105,110]),(ByteArray.mk #[102,111,108,100]),(ByteArray.mk #[100,111,116]),(ByteArray.mk #[119,105,110,100,111,119])].length then some ([(ByteArray.mk #[112,97,114,97,109]),(ByteArray.mk #[102,105,108,108]),(ByteArray.mk #[105,111,116,97]),(ByteArray.mk #[110,101,103]),(ByteArray.mk #[110,111,116]),(ByteArray.mk #[97,100,100]),(ByteArray.mk #[115,117,98]),(ByteArray.mk #[109,117,108]),(ByteArray.mk #[109,105,110]),(ByteArray.mk #[109,97,120]),(ByteArray.mk #[108,101,115,115]),(ByteArray.mk #[115,101,108,101,99,116]),(ByteArray.mk #[116,117,114,110]),(ByteArray.mk #[115,112,114,101,97,100]),(ByteArray.mk #[115,108,105,99,101]),(ByteArray.mk #[112,97,100]),(ByteArray.mk #[106,111,105,110]),(ByteArray.mk #[102,111,108,100]),(ByteArray.mk #[100,111,116]),(ByteArray.mk #[119,105,110,100,111,119])].getD (IntKind.i64.wrap (a0 - 1)).toNat ByteArray.empty) else none else none
def qbu.l0 : Nat → LI → Int → Int → LI → LI → Option (LI)
 | 0,_,_,_,_,_ => none
 | n + 1,x11,x12,x13,y0,y1 => if x13 < x12 then (if 0 ≤ x13 ∧ x13 < (x11.length : Int) then if 0 ≤ x11.getD x13.toNat 0 then (if x11.getD x13.toNat 0 < (y0.length : Int) then (if 0 ≤ x11.getD x13.toNat 0 ∧ x11.getD x13.toNat 0 < (y0.length : Int) then if (x11.getD x13.toNat 0).toNat < y0.length then if y1.length + [y0.getD (x11.getD x13.toNat 0).toNat 0].length ≤ 281474976710656 ∧ (y1.length + [y0.getD (x11.getD x13.toNat 0).toNat 0].length) * 4 ≤ 140737488355328 then qbu.l0 n x11 x12 (IntKind.i64.wrap (x13 + 1)) y0 (y1 ++ [y0.getD (x11.getD x13.toNat 0).toNat 0]) else none else none else none) else if y1.length + ([46] : LI).length ≤ 281474976710656 ∧ (y1.length + ([46] : LI).length) * 4 ≤ 140737488355328 then qbu.l0 n x11 x12 (IntKind.i64.wrap (x13 + 1)) y0 (y1 ++ ([46] : LI)) else none) else if y1.length + ([46] : LI).length ≤ 281474976710656 ∧ (y1.length + ([46] : LI).length) * 4 ≤ 140737488355328 then qbu.l0 n x11 x12 (IntKind.i64.wrap (x13 + 1)) y0 (y1 ++ ([46] : LI)) else none else none) else some y1
def qbu.f (k : Nat) (a0 : ByteArray) (a1 : LI) : Option (ByteArray) := (qa8.f k a0).bind fun t1 => (qbu.l0 k a1 (a1.length : Int) 0 t1 []).bind fun t2 => some (runesBytes t2)
def qbU.l0 (k : Nat) : Nat → Int → Int → Int → LI → ByteArray → (List LN) → LI → Int → LI → LI → LI → Int → Int → ByteArray → (List ByteArray) → (List LI) → Option ((List ByteArray))
 | 0,_,_,_,_,_,_,_,_,_,_,_,_,_,_,_,_ => none
 | n + 1,x2,x24,x25,y0_0,y0_1,y0_2,y0_3,y1_0,y1_1,y1_2,y1_3,y1_4,y1_5,y1_6,y2,y3 => if x25 < x24 then (if 0 ≤ x25 ∧ x25 < (y3.length : Int) then if x25.toNat < y3.length then if y2.length + [(ByteArray.mk #[40])].length ≤ 281474976710656 ∧ (y2.length + [(ByteArray.mk #[40])].length) * 16 ≤ 140737488355328 then (qa5.f k (y3.getD x25.toNat [])).bind fun t2 => if (y2 ++ [(ByteArray.mk #[40])]).length + t2.length ≤ 281474976710656 ∧ ((y2 ++ [(ByteArray.mk #[40])]).length + t2.length) * 16 ≤ 140737488355328 then if ((y2 ++ [(ByteArray.mk #[40])]) ++ t2).length + [(ByteArray.mk #[41])].length ≤ 281474976710656 ∧ (((y2 ++ [(ByteArray.mk #[40])]) ++ t2).length + [(ByteArray.mk #[41])].length) * 16 ≤ 140737488355328 then qbU.l0 k n x2 x24 (IntKind.i64.wrap (x25 + 1)) y0_0 y0_1 y0_2 y0_3 y1_0 y1_1 y1_2 y1_3 y1_4 y1_5 y1_6 (((y2 ++ [(ByteArray.mk #[40])]) ++ t2) ++ [(ByteArray.mk #[41])]) y3 else none else none else none else none else none) else some y2
def qbU.f (k : Nat) (a0_0 : LI) (a0_1 : ByteArray) (a0_2 : List LN) (a0_3 : LI) (a1_0 : Int) (a1_1 : LI) (a1_2 : LI) (a1_3 : LI) (a1_4 : Int) (a1_5 : Int) (a1_6 : ByteArray) (a2 : Int) : Option ((List ByteArray)) := (qdb.f a1_0).bind fun t1 => (qbU.l0 k k a2 ([a1_1,a1_2,a1_3].length : Int) 0 a0_0 a0_1 a0_2 a0_3 a1_0 a1_1 a1_2 a1_3 a1_4 a1_5 a1_6 [t1] [a1_1,a1_2,a1_3]).bind fun t3 => (qbm.f k a0_1 a1_6 a2).bind fun t4 => (qbO.f a1_4).bind fun t5 => (qbO.f a1_5).bind fun t6 => (qbu.f k a0_1 t4.2.2).bind fun t7 => (qcc.f t7).bind fun t8 => if t3.length + [t5,t6,t8].length ≤ 281474976710656 ∧ (t3.length + [t5,t6,t8].length) * 16 ≤ 140737488355328 then some (t3 ++ [t5,t6,t8]) else none
def qaF.f (a1 : ByteArray) (o1 : LI) : Option (Int × LI) := (qco.f).bind fun t1 => if o1.length + (a1.data.toList.map fun b => (b.toNat : Int)).length ≤ 281474976710656 ∧ (o1.length + (a1.data.toList.map fun b => (b.toNat : Int)).length) * 1 ≤ 140737488355328 then some ((a1.size : Int),o1 ++ (a1.data.toList.map fun b => (b.toNat : Int))) else none
def qbt.f (o1 : LI) : Option (Int) := some (o1.length : Int)
def qaS.l0 (k : Nat) : Nat → (List LN) → Int → Int → LI → ByteArray → (List LN) → LI → (List LI) → (List (List ByteArray)) → Option ((List (List ByteArray)))
 | 0,_,_,_,_,_,_,_,_,_ => none
 | n + 1,x30,x31,x32,y0_0,y0_1,y0_2,y0_3,y1,y2 => if x32 < x31 then (if 0 ≤ x32 ∧ x32 < (x30.length : Int) then if 0 ≤ x32 ∧ x32 < (y1.length : Int) then if x32.toNat < y1.length then (qbU.f k y0_0 y0_1 y0_2 y0_3 (x30.getD x32.toNat ln0).1 (x30.getD x32.toNat ln0).2.1 (x30.getD x32.toNat ln0).2.2.1 (x30.getD x32.toNat ln0).2.2.2.1 (x30.getD x32.toNat ln0).2.2.2.2.1 (x30.getD x32.toNat ln0).2.2.2.2.2.1 (x30.getD x32.toNat ln0).2.2.2.2.2.2 ((y1.getD x32.toNat []).length : Int)).bind fun t4 => if y2.length + [t4].length ≤ 281474976710656 ∧ (y2.length + [t4].length) * 24 ≤ 140737488355328 then qaS.l0 k n x30 x31 (IntKind.i64.wrap (x32 + 1)) y0_0 y0_1 y0_2 y0_3 y1 (y2 ++ [t4]) else none else none else none else none) else some y2
def qaS.l1 : Nat → Int → Int → (List (List ByteArray)) → LI → Option (LI)
 | 0,_,_,_,_ => none
 | n + 1,x58,x59,y1,y2 => if x59 < x58 then (if 0 ≤ x59 ∧ x59 < (y1.length : Int) then if x59.toNat < y1.length then (strings_Join.f (y1.getD x59.toNat []) (ByteArray.mk #[32])).bind fun t7 => (qaF.f t7 y2).bind fun t8 => (qaF.f (ByteArray.mk #[10]) t8.2).bind fun t9 => qaS.l1 n x58 (IntKind.i64.wrap (x59 + 1)) y1 t9.2 else none else none) else some y2
def qaS.f (k : Nat) (a0_0 : LI) (a0_1 : ByteArray) (a0_2 : List LN) (a0_3 : LI) : Option (ByteArray × Int) := (qbe.f k a0_0 a0_1 a0_2 a0_3).bind fun t1 => if t1.1 = 0 then ((qcc.f a0_1).bind fun t2 => (qa5.f k a0_0).bind fun t3 => if [(ByteArray.mk #[109,101,115,104]),t2].length + t3.length ≤ 281474976710656 ∧ ([(ByteArray.mk #[109,101,115,104]),t2].length + t3.length) * 16 ≤ 140737488355328 then (qaS.l0 k k a0_2 (a0_2.length : Int) 0 a0_0 a0_1 a0_2 a0_3 t1.2 [[(ByteArray.mk #[109,101,115,104]),t2] ++ t3]).bind fun t5 => (qa5.f k a0_3).bind fun t6 => if [(ByteArray.mk #[111,117,116,115])].length + t6.length ≤ 281474976710656 ∧ ([(ByteArray.mk #[111,117,116,115])].length + t6.length) * 16 ≤ 140737488355328 then if t5.length + [[(ByteArray.mk #[111,117,116,115])] ++ t6].length ≤ 281474976710656 ∧ (t5.length + [[(ByteArray.mk #[111,117,116,115])] ++ t6].length) * 24 ≤ 140737488355328 then (qaS.l1 k ((t5 ++ [[(ByteArray.mk #[111,117,116,115])] ++ t6]).length : Int) 0 (t5 ++ [[(ByteArray.mk #[111,117,116,115])] ++ t6]) []).bind fun t10 => (qbt.f t10).bind fun t11 => if 65536 < t11 then (some (ByteArray.empty,3)) else (strings_Builder_String.f t10).bind fun t12 => some (t12,0) else none else none else none) else some (ByteArray.empty,t1.1)
def qaA.l0 : Nat → Int → ByteArray → Int → Option (ByteArray)
 | 0,_,_,_ => none
 | n + 1,x0,x3,x4 => if x4 = 0 then (some x3) else if 10 ≠ 0 then if x4.tmod 10 < 0 then (if (Utf8.encode (IntKind.i32.wrap (IntKind.i64.wrap (48 + (IntKind.i64.wrap (0 - (x4.tmod 10))))))).size + x3.size ≤ 9223372036854775807 then qaA.l0 n x0 ((Utf8.encode (IntKind.i32.wrap (IntKind.i64.wrap (48 + (IntKind.i64.wrap (0 - (x4.tmod 10))))))) ++ x3) (IntKind.i64.wrap (x4.tdiv 10)) else none) else if (Utf8.encode (IntKind.i32.wrap (IntKind.i64.wrap (48 + (x4.tmod 10))))).size + x3.size ≤ 9223372036854775807 then qaA.l0 n x0 ((Utf8.encode (IntKind.i32.wrap (IntKind.i64.wrap (48 + (x4.tmod 10))))) ++ x3) (IntKind.i64.wrap (x4.tdiv 10)) else none else none
def qaA.f (k : Nat) (a0 : Int) : Option (ByteArray) := if a0 = 0 then (some (ByteArray.mk #[48])) else (qaA.l0 k a0 ByteArray.empty a0).bind fun t1 => if a0 < 0 then (if (ByteArray.mk #[45]).size + t1.size ≤ 9223372036854775807 then some ((ByteArray.mk #[45]) ++ t1) else none) else some t1
def qdO.f : Option ((List ByteArray)) := some [ByteArray.empty,(ByteArray.mk #[112,97,114,97,109]),(ByteArray.mk #[102,105,108,108]),(ByteArray.mk #[105,111,116,97]),(ByteArray.mk #[110,101,103]),(ByteArray.mk #[110,111,116]),(ByteArray.mk #[97,100,100]),(ByteArray.mk #[115,117,98]),(ByteArray.mk #[109,117,108]),(ByteArray.mk #[109,105,110]),(ByteArray.mk #[109,97,120]),(ByteArray.mk #[108,101,115,115]),(ByteArray.mk #[115,101,108,101,99,116]),(ByteArray.mk #[116,117,114,110]),(ByteArray.mk #[115,112,114,101,97,100]),(ByteArray.mk #[115,108,105,99,101]),(ByteArray.mk #[112,97,100]),(ByteArray.mk #[106,111,105,110]),(ByteArray.mk #[102,111,108,100]),(ByteArray.mk #[100,111,116]),(ByteArray.mk #[119,105,110,100,111,119])]
def qcL.f (a0 : Int) : Option (ByteArray) := if a0 < 1 then (some ByteArray.empty) else if 20 < a0 then (some ByteArray.empty) else (qdO.f).bind fun t1 => if 0 ≤ a0 ∧ a0 < (t1.length : Int) then if a0.toNat < t1.length then some (t1.getD a0.toNat ByteArray.empty) else none else none
def qba.l0 (k : Nat) : Nat → LI → ByteArray → Int → Int → Option (ByteArray)
 | 0,_,_,_,_ => none
 | n + 1,x0,x3,x6,x7 => if x7 < x6 then (if x3.size + (ByteArray.mk #[32]).size ≤ 9223372036854775807 then if 0 ≤ x7 ∧ x7 < (x0.length : Int) then (qaA.f k (x0.getD x7.toNat 0)).bind fun t1 => if (x3 ++ (ByteArray.mk #[32])).size + t1.size ≤ 9223372036854775807 then qba.l0 k n x0 ((x3 ++ (ByteArray.mk #[32])) ++ t1) x6 (IntKind.i64.wrap (x7 + 1)) else none else none else none) else some x3
def qba.f (k : Nat) (a0 : LI) : Option (ByteArray) := (qba.l0 k k a0 (ByteArray.mk #[32,40]) (a0.length : Int) 0).bind fun t2 => if t2.size + (ByteArray.mk #[32,41]).size ≤ 9223372036854775807 then some (t2 ++ (ByteArray.mk #[32,41])) else none
def qc8.f (k : Nat) (a0_0 : LI) (a0_1 : ByteArray) (a0_2 : List LN) (a0_3 : LI) (a1_0 : Int) (a1_1 : LI) (a1_2 : LI) (a1_3 : LI) (a1_4 : Int) (a1_5 : Int) (a1_6 : ByteArray) (a2 : Int) : Option (ByteArray) := (qaZ.f k a0_1 a1_6 a2).bind fun t1 => if t1.1 = true then ((qbF.f k a0_1 t1.2.2).bind fun t2 => some t2) else some (ByteArray.mk #[45])
def qau.l0 (k : Nat) : Nat → ByteArray → Int → Int → LI → ByteArray → (List LN) → LI → (List LI) → Option (ByteArray)
 | 0,_,_,_,_,_,_,_,_ => none
 | n + 1,x6,x27,x28,y0_0,y0_1,y0_2,y0_3,y1 => if x28 < x27 then (if x6.size + (ByteArray.mk #[32]).size ≤ 9223372036854775807 then if 0 ≤ x28 ∧ x28 < (y0_0.length : Int) then (qaA.f k (y0_0.getD x28.toNat 0)).bind fun t2 => if (x6 ++ (ByteArray.mk #[32])).size + t2.size ≤ 9223372036854775807 then qau.l0 k n ((x6 ++ (ByteArray.mk #[32])) ++ t2) x27 (IntKind.i64.wrap (x28 + 1)) y0_0 y0_1 y0_2 y0_3 y1 else none else none else none) else some x6
def qau.l1 (k : Nat) : Nat → ByteArray → (List LN) → Int → Int → LI → ByteArray → (List LN) → LI → (List LI) → Option (ByteArray)
 | 0,_,_,_,_,_,_,_,_,_ => none
 | n + 1,x6,x44,x45,x46,y0_0,y0_1,y0_2,y0_3,y1 => if x46 < x45 then (if 0 ≤ x46 ∧ x46 < (x44.length : Int) then (qcL.f (x44.getD x46.toNat ln0).1).bind fun t4 => if x6.size + t4.size ≤ 9223372036854775807 then (qba.f k (x44.getD x46.toNat ln0).2.1).bind fun t5 => if (x6 ++ t4).size + t5.size ≤ 9223372036854775807 then (qba.f k (x44.getD x46.toNat ln0).2.2.1).bind fun t6 => if ((x6 ++ t4) ++ t5).size + t6.size ≤ 9223372036854775807 then (qba.f k (x44.getD x46.toNat ln0).2.2.2.1).bind fun t7 => if (((x6 ++ t4) ++ t5) ++ t6).size + t7.size ≤ 9223372036854775807 then if ((((x6 ++ t4) ++ t5) ++ t6) ++ t7).size + (ByteArray.mk #[32]).size ≤ 9223372036854775807 then (qaA.f k (x44.getD x46.toNat ln0).2.2.2.2.1).bind fun t8 => if (((((x6 ++ t4) ++ t5) ++ t6) ++ t7) ++ (ByteArray.mk #[32])).size + t8.size ≤ 9223372036854775807 then if ((((((x6 ++ t4) ++ t5) ++ t6) ++ t7) ++ (ByteArray.mk #[32])) ++ t8).size + (ByteArray.mk #[32]).size ≤ 9223372036854775807 then (qaA.f k (x44.getD x46.toNat ln0).2.2.2.2.2.1).bind fun t9 => if (((((((x6 ++ t4) ++ t5) ++ t6) ++ t7) ++ (ByteArray.mk #[32])) ++ t8) ++ (ByteArray.mk #[32])).size + t9.size ≤ 9223372036854775807 then if ((((((((x6 ++ t4) ++ t5) ++ t6) ++ t7) ++ (ByteArray.mk #[32])) ++ t8) ++ (ByteArray.mk #[32])) ++ t9).size + (ByteArray.mk #[32]).size ≤ 9223372036854775807 then if 0 ≤ x46 ∧ x46 < (y1.length : Int) then if x46.toNat < y1.length then (qc8.f k y0_0 y0_1 y0_2 y0_3 (x44.getD x46.toNat ln0).1 (x44.getD x46.toNat ln0).2.1 (x44.getD x46.toNat ln0).2.2.1 (x44.getD x46.toNat ln0).2.2.2.1 (x44.getD x46.toNat ln0).2.2.2.2.1 (x44.getD x46.toNat ln0).2.2.2.2.2.1 (x44.getD x46.toNat ln0).2.2.2.2.2.2 ((y1.getD x46.toNat []).length : Int)).bind fun t10 => if (((((((((x6 ++ t4) ++ t5) ++ t6) ++ t7) ++ (ByteArray.mk #[32])) ++ t8) ++ (ByteArray.mk #[32])) ++ t9) ++ (ByteArray.mk #[32])).size + t10.size ≤ 9223372036854775807 then if ((((((((((x6 ++ t4) ++ t5) ++ t6) ++ t7) ++ (ByteArray.mk #[32])) ++ t8) ++ (ByteArray.mk #[32])) ++ t9) ++ (ByteArray.mk #[32])) ++ t10).size + (ByteArray.mk #[10]).size ≤ 9223372036854775807 then qau.l1 k n (((((((((((x6 ++ t4) ++ t5) ++ t6) ++ t7) ++ (ByteArray.mk #[32])) ++ t8) ++ (ByteArray.mk #[32])) ++ t9) ++ (ByteArray.mk #[32])) ++ t10) ++ (ByteArray.mk #[10])) x44 x45 (IntKind.i64.wrap (x46 + 1)) y0_0 y0_1 y0_2 y0_3 y1 else none else none else none else none else none else none else none else none else none else none else none else none else none else none) else some x6
def qau.l2 (k : Nat) : Nat → ByteArray → Int → Int → LI → ByteArray → (List LN) → LI → Option (ByteArray)
 | 0,_,_,_,_,_,_,_ => none
 | n + 1,x6,x94,x95,y0_0,y0_1,y0_2,y0_3 => if x95 < x94 then (if x6.size + (ByteArray.mk #[32]).size ≤ 9223372036854775807 then if 0 ≤ x95 ∧ x95 < (y0_3.length : Int) then (qaA.f k (y0_3.getD x95.toNat 0)).bind fun t12 => if (x6 ++ (ByteArray.mk #[32])).size + t12.size ≤ 9223372036854775807 then qau.l2 k n ((x6 ++ (ByteArray.mk #[32])) ++ t12) x94 (IntKind.i64.wrap (x95 + 1)) y0_0 y0_1 y0_2 y0_3 else none else none else none) else some x6
def qau.f (k : Nat) (a0_0 : LI) (a0_1 : ByteArray) (a0_2 : List LN) (a0_3 : LI) : Option (ByteArray × Int) := (qar.f k a0_0 a0_1 a0_2 a0_3).bind fun t1 => if t1.1 = 0 then (if (a0_1.toList == ByteArray.empty.toList) = true then ((qau.l0 k k (ByteArray.mk #[109,101,115,104,32,45]) (a0_0.length : Int) 0 a0_0 a0_1 a0_2 a0_3 t1.2).bind fun t14 => if t14.size + (ByteArray.mk #[10]).size ≤ 9223372036854775807 then (qau.l1 k k (t14 ++ (ByteArray.mk #[10])) a0_2 (a0_2.length : Int) 0 a0_0 a0_1 a0_2 a0_3 t1.2).bind fun t15 => if t15.size + (ByteArray.mk #[111,117,116,115]).size ≤ 9223372036854775807 then (qau.l2 k k (t15 ++ (ByteArray.mk #[111,117,116,115])) (a0_3.length : Int) 0 a0_0 a0_1 a0_2 a0_3).bind fun t16 => if t16.size + (ByteArray.mk #[10]).size ≤ 9223372036854775807 then if 65536 < ((t16 ++ (ByteArray.mk #[10])).size : Int) then (some (ByteArray.empty,3)) else some (t16 ++ (ByteArray.mk #[10]),0) else none else none else none) else if (ByteArray.mk #[109,101,115,104,32]).size + a0_1.size ≤ 9223372036854775807 then (qau.l0 k k ((ByteArray.mk #[109,101,115,104,32]) ++ a0_1) (a0_0.length : Int) 0 a0_0 a0_1 a0_2 a0_3 t1.2).bind fun t3 => if t3.size + (ByteArray.mk #[10]).size ≤ 9223372036854775807 then (qau.l1 k k (t3 ++ (ByteArray.mk #[10])) a0_2 (a0_2.length : Int) 0 a0_0 a0_1 a0_2 a0_3 t1.2).bind fun t11 => if t11.size + (ByteArray.mk #[111,117,116,115]).size ≤ 9223372036854775807 then (qau.l2 k k (t11 ++ (ByteArray.mk #[111,117,116,115])) (a0_3.length : Int) 0 a0_0 a0_1 a0_2 a0_3).bind fun t13 => if t13.size + (ByteArray.mk #[10]).size ≤ 9223372036854775807 then if 65536 < ((t13 ++ (ByteArray.mk #[10])).size : Int) then (some (ByteArray.empty,3)) else some (t13 ++ (ByteArray.mk #[10]),0) else none else none else none else none) else some (ByteArray.empty,t1.1)
def qdD.f (k : Nat) (a0_0 : LI) (a0_1 : ByteArray) (a0_2 : List LN) (a0_3 : LI) : Option (Bool) := (qaS.f k a0_0 a0_1 a0_2 a0_3).bind fun t1 => (qau.f k a0_0 a0_1 a0_2 a0_3).bind fun t2 => if (t1.1.toList == t2.1.toList) = true then (some (decide (t1.2 = t2.2))) else some false
def qcO.f (k : Nat) : Option (Bool) := (qaS.f k [] ByteArray.empty [] []).bind fun t1 => (qaS.f k ([2] : LI) (ByteArray.mk #[120]) ([(2,([],(([3] : LI),([],(-5,(0,(ByteArray.mk #[32,120])))))))] : List LN) ([0] : LI)).bind fun t2 => (qaS.f k [] ByteArray.empty [] ([0] : LI)).bind fun t3 => if t1.2 = 0 then (if (t1.1.toList == (ByteArray.mk #[109,101,115,104,32,45,10,111,117,116,115,10]).toList) = true then (if t2.2 = 0 then (if (t2.1.toList == (ByteArray.mk #[109,101,115,104,32,120,32,50,10,102,105,108,108,32,40,32,41,32,40,32,51,32,41,32,40,32,41,32,45,53,32,48,32,120,10,111,117,116,115,32,48,10]).toList) = true then (if t3.2 = 23 then ((qdb.f 99).bind fun t4 => if (t4.toList == ByteArray.empty.toList) = true then ((qbO.f (-9223372036854775808)).bind fun t5 => some (t5.toList == (ByteArray.mk #[45,57,50,50,51,51,55,50,48,51,54,56,53,52,55,55,53,56,48,56]).toList)) else some false) else some false) else some false) else some false) else some false) else some false
def qag.l0 (k : Nat) : Nat → Int → Option (Unit ⊕ Bool)
 | 0,_ => none
 | n + 1,x1 => if x1 < 80 then ((qbK.f k x1).bind fun t1 => (qaq.f k t1).bind fun t2 => (qdD.f k t2.2.1 t2.1 t2.2.2.1 t2.2.2.2).bind fun t3 => if t3 = true then (qag.l0 k n (IntKind.i64.wrap (x1 + 1))) else some (.inr false)) else some (.inl ())
def qag.l1 : Nat → Int → Option (Unit ⊕ Bool)
 | 0,_ => none
 | n + 1,x2 => if x2 < 25 then ((qdb.f x2).bind fun t5 => (qcL.f x2).bind fun t6 => if (t5.toList == t6.toList) = true then (qag.l1 n (IntKind.i64.wrap (x2 + 1))) else some (.inr false)) else some (.inl ())
def qag.l2 (k : Nat) : Nat → Int → Int → LI → Option (Unit ⊕ Bool)
 | 0,_,_,_ => none
 | n + 1,x24,x25,y0 => if x25 < x24 then (if 0 ≤ x25 ∧ x25 < (y0.length : Int) then if x25.toNat < y0.length then (qbO.f (y0.getD x25.toNat 0)).bind fun t8 => (qaA.f k (y0.getD x25.toNat 0)).bind fun t9 => if (t8.toList == t9.toList) = true then ((qbO.f (IntKind.i64.wrap (0 - (y0.getD x25.toNat 0)))).bind fun t10 => (qaA.f k (IntKind.i64.wrap (0 - (y0.getD x25.toNat 0)))).bind fun t11 => if (t10.toList == t11.toList) = true then ((qbO.f (IntKind.i64.wrap ((IntKind.i64.wrap (0 - (y0.getD x25.toNat 0))) - 1))).bind fun t12 => (qaA.f k (IntKind.i64.wrap ((IntKind.i64.wrap (0 - (y0.getD x25.toNat 0))) - 1))).bind fun t13 => if (t12.toList == t13.toList) = true then (qag.l2 k n x24 (IntKind.i64.wrap (x25 + 1)) y0) else some (.inr false)) else some (.inr false)) else some (.inr false) else none else none) else some (.inl ())
def qag.f (k : Nat) : Option (Bool) := (qag.l0 k k 0).bind fun t4 => Sum.elim (fun t4 => (qag.l1 k (-2)).bind fun t7 => Sum.elim (fun t7 => (qag.l2 k k (([0,9,10,99,100,9223372036854775807] : LI).length : Int) 0 ([0,9,10,99,100,9223372036854775807] : LI)).bind fun t14 => Sum.elim (fun t14 => (qcO.f k).bind fun t15 => some t15) (fun t14 => some t14) t14) (fun t7 => some t7) t7) (fun t4 => some t4) t4
def qap.l0 : Nat → ByteArray → ByteArray → Int → Int → Int → ByteArray → LI → (List LN) → LI → Option (Int)
 | 0,_,_,_,_,_,_,_,_,_ => none
 | n + 1,x4,x7,x9,x10,x11,y0,y1,y2,y3 => if x11 < (x4.size : Int) then (if 0 ≤ x11 ∧ x11 < (x4.size : Int) then if ((x4.data.getD x11.toNat 0).toNat : Int) = 10 then (qap.l0 n x4 x7 (IntKind.i64.wrap (x9 + 1)) x10 (IntKind.i64.wrap (x11 + 1)) y0 y1 y2 y3) else qap.l0 n x4 x7 x9 x10 (IntKind.i64.wrap (x11 + 1)) y0 y1 y2 y3 else none) else some x9
def qap.l1 : Nat → ByteArray → ByteArray → Int → Int → Int → ByteArray → LI → (List LN) → LI → Option (Int)
 | 0,_,_,_,_,_,_,_,_,_ => none
 | n + 1,x4,x7,x9,x10,x12,y0,y1,y2,y3 => if x12 < (x7.size : Int) then (if 0 ≤ x12 ∧ x12 < (x7.size : Int) then if ((x7.data.getD x12.toNat 0).toNat : Int) = 10 then (qap.l1 n x4 x7 x9 (IntKind.i64.wrap (x10 + 1)) (IntKind.i64.wrap (x12 + 1)) y0 y1 y2 y3) else qap.l1 n x4 x7 x9 x10 (IntKind.i64.wrap (x12 + 1)) y0 y1 y2 y3 else none) else some x10
def qap.f (k : Nat) (a0 : LI) : Option (Bool) := (qaq.f k a0).bind fun t1 => (qaS.f k t1.2.1 t1.1 t1.2.2.1 t1.2.2.2).bind fun t2 => if 0 + t1.2.2.1.length ≤ 281474976710656 ∧ (0 + t1.2.2.1.length) * 112 ≤ 140737488355328 then if ([] ++ t1.2.2.1).length + ([(2,([],([],([],(-7,(0,ByteArray.empty))))))] : List LN).length ≤ 281474976710656 ∧ (([] ++ t1.2.2.1).length + ([(2,([],([],([],(-7,(0,ByteArray.empty))))))] : List LN).length) * 112 ≤ 140737488355328 then (qaS.f k t1.2.1 t1.1 (([] ++ t1.2.2.1) ++ ([(2,([],([],([],(-7,(0,ByteArray.empty))))))] : List LN)) t1.2.2.2).bind fun t3 => if t2.2 = 0 then (if t3.2 = 0 then ((qap.l0 k t2.1 t3.1 0 0 0 t1.1 t1.2.1 t1.2.2.1 t1.2.2.2).bind fun t4 => (qap.l1 k t2.1 t3.1 t4 0 0 t1.1 t1.2.1 t1.2.2.1 t1.2.2.2).bind fun t5 => if t4 = IntKind.i64.wrap ((t1.2.2.1.length : Int) + 2) then (if t5 = IntKind.i64.wrap (t4 + 1) then (if (t3.1.size : Int) = IntKind.i64.wrap ((t2.1.size : Int) + 24) then (if 0 ≤ IntKind.i64.wrap ((t2.1.size : Int) - 1) ∧ IntKind.i64.wrap ((t2.1.size : Int) - 1) < (t2.1.size : Int) then if ((t2.1.data.getD (IntKind.i64.wrap ((t2.1.size : Int) - 1)).toNat 0).toNat : Int) = 10 then ((qcO.f k).bind fun t6 => some t6) else some false else none) else some false) else some false) else some false) else some false) else some false else none else none
end Go.Pf

namespace Go.Proofs
open Go.Shelf
def Tryz.lays156_ren : Go.Shelf.Ren := ⟨fun | 156 => 29 | 165 => 53 | 166 => 28 | 169 => 31 | 240 => 52 | 241 => 82 | 276 => 81 | 277 => 113 | n => n,fun | 31 => 52 | 9 => 9 | 3 => 3 | 4 => 4 | 0 => 0 | 20 => 20 | 72 => 64 | 76 => 67 | 70 => 61 | 37 => 62 | 75 => 66 | 127 => 95 | 164 => 120 | 5 => 5 | 80 => 71 | n => n,fun | n => n⟩
theorem Tryz.lays156 : Go.Proofs.Lays.n156 Tryz.prog Tryz.lays156_ren := {
 mixed := by kernel_rfl
 f156 := Tryz.func29.trans (congrArg some (by kernel_rfl))
 f165 := Tryz.func53.trans (congrArg some (by kernel_rfl))
 f166 := Tryz.func28.trans (congrArg some (by kernel_rfl))
 f169 := Tryz.func31.trans (congrArg some (by kernel_rfl))
 f240 := Tryz.func52.trans (congrArg some (by kernel_rfl))
 f241 := Tryz.func82.trans (congrArg some (by kernel_rfl))
 f276 := Tryz.func81.trans (congrArg some (by kernel_rfl))
 f277 := Tryz.func113.trans (congrArg some (by kernel_rfl))
 t0 := Tryz.underlying0
 a0 := Tryz.isAgg0
 z0 := Tryz.sizeOf0
 v0 := Tryz.zeroValue0
 t3 := Tryz.underlying3
 a3 := Tryz.isAgg3
 z3 := Tryz.sizeOf3
 v3 := Tryz.zeroValue3
 t4 := Tryz.underlying4
 a4 := Tryz.isAgg4
 z4 := Tryz.sizeOf4
 v4 := Tryz.zeroValue4
 t9 := Tryz.underlying9
 a9 := Tryz.isAgg9
 z9 := Tryz.sizeOf9
 v9 := Tryz.zeroValue9
 t20 := Tryz.underlying20
 a20 := Tryz.isAgg20
 z20 := Tryz.sizeOf20
 v20 := Tryz.zeroValue20
 t31 := Tryz.underlying52
 a31 := Tryz.isAgg52
 z31 := Tryz.sizeOf52
 v31 := Tryz.zeroValue52
 t37 := Tryz.underlying62
 a37 := Tryz.isAgg62
 z37 := Tryz.sizeOf62
 v37 := Tryz.zeroValue62
 t70 := Tryz.underlying61
 a70 := Tryz.isAgg61
 z70 := Tryz.sizeOf61
 v70 := Tryz.zeroValue61
 t72 := Tryz.underlying64
 a72 := Tryz.isAgg64
 z72 := Tryz.sizeOf64
 v72 := Tryz.zeroValue64
 t75 := Tryz.underlying66
 a75 := Tryz.isAgg66
 z75 := Tryz.sizeOf66
 v75 := Tryz.zeroValue66
 t76 := Tryz.underlying67
 a76 := Tryz.isAgg67
 z76 := Tryz.sizeOf67
 v76 := Tryz.zeroValue67
 t127 := Tryz.underlying95
 a127 := Tryz.isAgg95
 z127 := Tryz.sizeOf95
 v127 := Tryz.zeroValue95
 t164 := Tryz.underlying120
 a164 := Tryz.isAgg120
 z164 := Tryz.sizeOf120
 v164 := Tryz.zeroValue120 }
theorem Tryz.Builder_Extra_156 : Builder.Extra Tryz.prog Tryz.lays156_ren := {
 sizeBuilder := by kernel_rfl
 liesBuilder := by kernel_rfl
 t5 := Tryz.underlying5
 a5 := Tryz.isAgg5
 z5 := Tryz.sizeOf5
 v5 := Tryz.zeroValue5
 infoByte := by kernel_rfl
 cellsByte := by kernel_rfl
 sizeByte := by kernel_rfl
 neB5 := by decide }
def Tryz.laysM173_ren : Go.Shelf.Ren := ⟨fun | 173 => 23 | 246 => 45 | 283 => 71 | 284 => 72 | 285 => 73 | 286 => 74 | 129 => 99 | 317 => 98 | 318 => 100 | 319 => 101 | 320 => 102 | 337 => 115 | 338 => 116 | n => n,fun | 2 => 2 | 3 => 3 | 9 => 9 | 4 => 4 | 171 => 110 | 0 => 0 | 53 => 111 | 37 => 62 | 5 => 5 | 173 => 114 | 212 => 130 | 51 => 131 | 20 => 20 | 213 => 132 | 46 => 133 | 232 => 155 | 233 => 156 | n => n,fun | 17 => 0 | 18 => 2 | 19 => 3 | n => n⟩
theorem Tryz.laysM173 : Go.Proofs.LaysM.n173 Tryz.prog Tryz.laysM173_ren := {
 mixed := by kernel_rfl
 f129 := Tryz.func99.trans (congrArg some (by kernel_rfl))
 f173 := Tryz.func23.trans (congrArg some (by kernel_rfl))
 f246 := Tryz.func45.trans (congrArg some (by kernel_rfl))
 f283 := Tryz.func71.trans (congrArg some (by kernel_rfl))
 f284 := Tryz.func72.trans (congrArg some (by kernel_rfl))
 f285 := Tryz.func73.trans (congrArg some (by kernel_rfl))
 f286 := Tryz.func74.trans (congrArg some (by kernel_rfl))
 f317 := Tryz.func98.trans (congrArg some (by kernel_rfl))
 f318 := Tryz.func100.trans (congrArg some (by kernel_rfl))
 f319 := Tryz.func101.trans (congrArg some (by kernel_rfl))
 f320 := Tryz.func102.trans (congrArg some (by kernel_rfl))
 f337 := Tryz.func115.trans (congrArg some (by kernel_rfl))
 f338 := Tryz.func116.trans (congrArg some (by kernel_rfl))
 t0 := Tryz.underlying0
 a0 := Tryz.isAgg0
 z0 := Tryz.sizeOf0
 v0 := Tryz.zeroValue0
 t2 := Tryz.underlying2
 a2 := Tryz.isAgg2
 z2 := Tryz.sizeOf2
 v2 := Tryz.zeroValue2
 t3 := Tryz.underlying3
 a3 := Tryz.isAgg3
 z3 := Tryz.sizeOf3
 v3 := Tryz.zeroValue3
 t4 := Tryz.underlying4
 a4 := Tryz.isAgg4
 z4 := Tryz.sizeOf4
 v4 := Tryz.zeroValue4
 t5 := Tryz.underlying5
 a5 := Tryz.isAgg5
 z5 := Tryz.sizeOf5
 v5 := Tryz.zeroValue5
 t9 := Tryz.underlying9
 a9 := Tryz.isAgg9
 z9 := Tryz.sizeOf9
 v9 := Tryz.zeroValue9
 t20 := Tryz.underlying20
 a20 := Tryz.isAgg20
 z20 := Tryz.sizeOf20
 v20 := Tryz.zeroValue20
 t37 := Tryz.underlying62
 a37 := Tryz.isAgg62
 z37 := Tryz.sizeOf62
 v37 := Tryz.zeroValue62
 t46 := Tryz.underlying133
 a46 := Tryz.isAgg133
 z46 := Tryz.sizeOf133
 v46 := Tryz.zeroValue133
 t51 := Tryz.underlying131
 a51 := Tryz.isAgg131
 z51 := Tryz.sizeOf131
 v51 := Tryz.zeroValue131
 t53 := Tryz.underlying111
 a53 := Tryz.isAgg111
 z53 := Tryz.sizeOf111
 v53 := Tryz.zeroValue111
 t171 := Tryz.underlying110
 a171 := Tryz.isAgg110
 z171 := Tryz.sizeOf110
 v171 := Tryz.zeroValue110
 t173 := Tryz.underlying114
 a173 := Tryz.isAgg114
 z173 := Tryz.sizeOf114
 v173 := Tryz.zeroValue114
 t212 := Tryz.underlying130
 a212 := Tryz.isAgg130
 z212 := Tryz.sizeOf130
 v212 := Tryz.zeroValue130
 t213 := Tryz.underlying132
 a213 := Tryz.isAgg132
 z213 := Tryz.sizeOf132
 t232 := Tryz.underlying155
 a232 := Tryz.isAgg155
 z232 := Tryz.sizeOf155
 v232 := Tryz.zeroValue155
 t233 := Tryz.underlying156
 a233 := Tryz.isAgg156
 z233 := Tryz.sizeOf156
 v233 := Tryz.zeroValue156
 g17 := by kernel_rfl
 g18 := by kernel_rfl
 g19 := by kernel_rfl
 i0 := by kernel_rfl
 i2 := by kernel_rfl
 i3 := by kernel_rfl
 i4 := by kernel_rfl
 i5 := by kernel_rfl
 i9 := by kernel_rfl
 i20 := by kernel_rfl
 i37 := by kernel_rfl
 i46 := by kernel_rfl
 i51 := by kernel_rfl
 i53 := by kernel_rfl
 i171 := by kernel_rfl
 i173 := by kernel_rfl
 i212 := by kernel_rfl
 i232 := by kernel_rfl
 i233 := by kernel_rfl
 m17 := by kernel_rfl
 m18 := by kernel_rfl
 m19 := by kernel_rfl }
theorem Tryz.Builder_X72_156 : Builder.X72 Tryz.prog Tryz.lays156_ren where
 sizeBuilder := by kernel_rfl
 liesBuilder := by kernel_rfl
end Go.Proofs

namespace Go.Pf
open Go Go.Vm
theorem qal {n : Int} (h1 : -9223372036854775808 ≤ n) (h2 : n < 9223372036854775808) : IntKind.i64.wrap n = n := by rw [IntKind.wrap_i64]; omega
theorem qmL (n : Int) : -9223372036854775808 ≤ IntKind.i64.wrap n ∧ IntKind.i64.wrap n < 9223372036854775808 := by rw [IntKind.wrap_i64]; omega
theorem qpc {n : Int} (h : (Lit.int .i64 n).wf = true) : -9223372036854775808 ≤ n ∧ n < 9223372036854775808 := by
 simp only [Lit.wf,Bool.and_eq_true,decide_eq_true_eq] at h
 have h1 : IntKind.i64.min = -9223372036854775808 := by decide
 have h2 : IntKind.i64.max = 9223372036854775807 := by decide
 omega
theorem qoJ {l : LI} (h : Fit (.sl (.int .i64)) l) : l.length ≤ 17592186043904 ∧ ∀ x ∈ l,-9223372036854775808 ≤ x ∧ x < 9223372036854775808 := by
 obtain ⟨h1,h2⟩ := h
 have h3 : l.length * 8 ≤ 140737488351232 := h1
 exact ⟨by omega,fun x hx => qpc (h2 x hx)⟩
theorem qai {α : Type} {l : List α} {i : Nat} (h : i < l.length) (d : α) : l.drop i = l.getD i d :: l.drop (i + 1) := by
 rw [List.drop_eq_getElem_cons h,List.getD_eq_getElem?_getD,List.getElem?_eq_getElem h]; rfl
theorem qan {α : Type} {l : List α} {i : Nat} (h : i < l.length) (d : α) : l.getD i d ∈ l := by
 rw [List.getD_eq_getElem?_getD,List.getElem?_eq_getElem h]; exact List.getElem_mem h
end Go.Pf

namespace Go.Pf
open Go Go.Vm
def pd : LI → Int
 | [] => 1
 | x :: r => x * pd r
def okD (x : Int) : Bool := decide (1 ≤ x) && decide (x ≤ 8)
def mR (l : LI) : Bool := decide (l.length ≤ 3) && l.all okD && decide (pd l ≤ 8)
theorem qeV {x : Int} : okD x = true ↔ 1 ≤ x ∧ x ≤ 8 := by simp [okD]
theorem qo5 : ∀ (l : LI),l.all okD = true → 1 ≤ pd l ∧ pd l ≤ 8 ^ l.length
 | [],_ => by simp [pd]
 | x :: r,h => by
  simp only [List.all_cons,Bool.and_eq_true,qeV] at h
  obtain ⟨⟨h1,h2⟩,h3⟩ := h
  obtain ⟨h4,h5⟩ := qo5 r h3
  show 1 ≤ x * pd r ∧ x * pd r ≤ 8 ^ (r.length + 1)
  constructor
  ·have := Int.mul_le_mul h1 h4 (by omega) (by omega); simpa using this
  ·have := Int.mul_le_mul h2 h5 (by omega) (by omega)
   rw [Int.pow_succ]; rw [Int.mul_comm] at this; simpa [Int.mul_comm] using this
theorem qha {l : LI} (h : mR l = true) : l.length ≤ 3 ∧ l.all okD = true ∧ 1 ≤ pd l ∧ pd l ≤ 8 := by
 unfold mR at h
 simp only [Bool.and_eq_true,decide_eq_true_eq] at h
 exact ⟨h.1.1,h.1.2,(qo5 l h.1.2).1,h.2⟩
theorem p8 {i : Nat} (h : i ≤ 3) : (1 : Int) ≤ 8 ^ i ∧ (8 : Int) ^ i ≤ 512 := by
 rcases (show i = 0 ∨ i = 1 ∨ i = 2 ∨ i = 3 by omega) with e | e | e | e <;> subst e <;> decide
theorem qkR {p x : Int} {i : Nat} (h1 : 1 ≤ p) (h2 : p ≤ 8 ^ i) (hx : 1 ≤ x ∧ x ≤ 8) : 1 ≤ p * x ∧ p * x ≤ 8 ^ (i + 1) := by
 constructor
 ·have := Int.mul_le_mul h1 hx.1 (by omega) (by omega); simpa using this
 ·rw [Int.pow_succ]; exact Int.mul_le_mul h2 hx.2 (by omega) (by omega)
end Go.Pf

namespace Go.Pf
open Go Go.Vm
theorem n0 : ((0 : Nat) : Int) = 0 := rfl
theorem drop0 {α : Type} (l : List α) : l.drop 0 = l := rfl
theorem qd1 (xs : LI) (v : Int) (hl : xs.length ≤ 4611686018427387904) : ∀ (d i n : Nat),xs.length = i + d → d < n →
  ∃ r,qaU.l0 n xs v xs.length i = some r ∧ ((r = .inl () ∧ v ∉ xs.drop i) ∨ ∃ j : Int,r = .inr j ∧ 0 ≤ j ∧ v ∈ xs.drop i)
 | 0,i,n,hi,hn => by
  obtain ⟨n,rfl⟩ := sun (n := n)
  rw [qaU.l0,ifq,List.drop_eq_nil_of_le (by omega)]
  exact ⟨_,rfl,.inl ⟨rfl,by simp⟩⟩
 | d + 1,i,n,hi,hn => by
  obtain ⟨n,rfl⟩ := sun (n := n)
  rw [qaU.l0,ifp,ifp,Int.toNat_natCast,qai (show i < xs.length by omega) 0]
  by_cases c : v = xs.getD i 0
  ·rw [if_pos c]
   exact ⟨_,rfl,.inr ⟨_,rfl,by omega,by rw [c]; simp⟩⟩
  ·rw [if_neg c,qal (by omega) (by omega),show (i : Int) + 1 = ((i + 1 : Nat) : Int) by omega]
   obtain ⟨r,h1,h2⟩ := qd1 xs v hl d (i + 1) n (by omega) (by omega)
   refine ⟨r,h1,?_⟩
   rcases h2 with ⟨h2,h3⟩ | ⟨j,h2,h3,h4⟩
   ·exact .inl ⟨h2,by simp only [List.mem_cons]; exact fun h => h.elim c h3⟩
   ·exact .inr ⟨j,h2,h3,List.mem_cons_of_mem _ h4⟩
theorem qfH (xs : LI) (v : Int) (hl : xs.length ≤ 4611686018427387904) (k : Nat) (hk : xs.length < k) : qbP.f k xs v = some (decide (v ∈ xs)) := by
 unfold qbP.f qaU.f
 obtain ⟨r,h1,h2⟩ := qd1 xs v hl xs.length 0 k (by omega) hk
 rw [n0] at h1
 rw [h1,obs]
 rw [drop0] at h2
 rcases h2 with ⟨rfl,h3⟩ | ⟨j,rfl,h3,h4⟩
 ·simp [h3]
 ·simp [h3,h4]
def okGo (m : Int) : LI → LI → Bool
 | _,[] => true
 | pre,k :: r => decide (-1 ≤ k) && decide (k < m) && (decide (k = -1) || !decide (k ∈ pre)) && okGo m (pre ++ [k]) r
theorem qcV {l : LI} {i : Nat} (h : i < l.length) : l.take (i + 1) = l.take i ++ [l.getD i 0] := by
 rw [List.take_add_one,List.getD_eq_getElem?_getD,List.getElem?_eq_getElem h]; rfl
theorem qcU (n : Int) (L : LI) (hL : L.length ≤ 17592186044415) (hw : ∀ x ∈ L,-9223372036854775808 ≤ x ∧ x < 9223372036854775808) (p : Int) (h0 : 0 ≤ p) (hp : p ≤ 17592186044415) (hn : 1 ≤ n) : ∃ r q,qac.f n L p = some (r,q) ∧ 0 ≤ r ∧ r < n ∧ 0 ≤ q ∧ q ≤ 17592186044415 ∧ p ≤ q ∧ q ≤ p + 1 := by
 unfold qac.f
 by_cases c : (L.length : Int) ≤ p
 ·rw [if_pos c]; exact ⟨_,_,rfl,by omega,by omega,h0,hp,by omega,by omega⟩
 rw [if_neg c,ifq,qal (n := p + 1) (by omega) (by omega),show p + 1 - 1 = p by omega,qal (n := p) (by omega) (by omega),if_pos ⟨h0,by omega⟩]
 have hx := hw _ (qan (show p.toNat < L.length by omega) 0)
 generalize L.getD p.toNat 0 = x at hx
 have key : ∃ r,qdm.f x 0 1073741824 = some r ∧ 0 ≤ r := by
  unfold qdm.f
  rw [qal (n := 1073741824 - 0) (by omega) (by omega),qal (n := 1073741824 - 0 + 1) (by omega) (by omega)]
  have t2 := Int.lt_tmod_of_pos x (show (0 : Int) < 1073741824 - 0 + 1 by omega)
  have t3 := Int.tmod_lt_of_pos x (show (0 : Int) < 1073741824 - 0 + 1 by omega)
  have k2 : ∃ r,(if (1073741824 - 0 + 1 : Int) ≠ 0 then if x.tmod (1073741824 - 0 + 1) < 0 then some (IntKind.i64.wrap (0 + (IntKind.i64.wrap ((IntKind.i64.wrap ((IntKind.i64.wrap ((x.tmod (1073741824 - 0 + 1)) + 1073741824)) - 0)) + 1)))) else some (IntKind.i64.wrap (0 + (x.tmod (1073741824 - 0 + 1)))) else none) = some r ∧ 0 ≤ r := by
   rw [ifp]
   split
   ·rw [qal (n := x.tmod (1073741824 - 0 + 1) + 1073741824) (by omega) (by omega),qal (n := x.tmod (1073741824 - 0 + 1) + 1073741824 - 0) (by omega) (by omega),qal (n := x.tmod (1073741824 - 0 + 1) + 1073741824 - 0 + 1) (by omega) (by omega),qal (by omega) (by omega)]
    exact ⟨_,rfl,by omega⟩
   ·rw [qal (by omega) (by omega)]
    exact ⟨_,rfl,by omega⟩
  split
  ·split
   ·exact ⟨_,rfl,by omega⟩
   ·exact k2
  ·exact k2
 obtain ⟨r,hr,hr0⟩ := key
 rw [hr,obs,ifp]
 refine ⟨_,_,rfl,?_,?_,by omega,by omega,by omega,by omega⟩
 ·rw [Int.tmod_eq_emod_of_nonneg hr0]; exact Int.emod_nonneg _ (by omega)
 ·rw [Int.tmod_eq_emod_of_nonneg hr0]; exact Int.emod_lt_of_pos _ (by omega)
theorem qg5 {m : Int} (x : Int) : ∀ (r pre : LI),okGo m pre (r ++ [x]) = (okGo m pre r && (decide (-1 ≤ x) && decide (x < m) && (decide (x = -1) || !decide (x ∈ pre ++ r))))
 | [],pre => by simp [okGo]
 | k :: r,pre => by
  show (decide (-1 ≤ k) && decide (k < m) && (decide (k = -1) || !decide (k ∈ pre)) && okGo m (pre ++ [k]) (r ++ [x])) = (decide (-1 ≤ k) && decide (k < m) && (decide (k = -1) || !decide (k ∈ pre)) && okGo m (pre ++ [k]) r && _)
  rw [qg5 x r (pre ++ [k]),List.append_assoc]
  simp only [List.singleton_append,Bool.and_assoc]
theorem qi0 (m : LI) (hm : m.length ≤ 3) (L : LI) (hL : L.length ≤ 17592186044415) (hw : ∀ x ∈ L,-9223372036854775808 ≤ x ∧ x < 9223372036854775808) (N : Nat) (hN : N ≤ 5) : ∀ (d i : Nat) (p : Int) (y1 : LI) (y2 : List Bool) (n : Nat),N = i + d → 0 ≤ p → p ≤ 17592186000000 - 2 * d → y1.length = N → y2.length = m.length → okGo m.length [] (y1.take i) = true → (∀ j : Nat,j < m.length → (y2.getD j false = true ↔ (j : Int) ∈ y1.take i)) → d < n →
    ∃ q s,qaH.l0 n m N i L p y1 y2 = some (q,s) ∧ s.length = N ∧ okGo m.length [] s = true ∧ 0 ≤ q ∧ q ≤ p + 2 * d := by
  intro d
  induction d with
  | zero =>
    intro i p y1 y2 n hi h0 hp h1 h2 hok hu hn
    obtain ⟨n,rfl⟩ := sun (n := n)
    rw [qaH.l0,ifq]
    rw [List.take_of_length_le (by omega)] at hok
    exact ⟨_,_,rfl,h1,hok,h0,by omega⟩
  | succ d IH =>
    intro i p y1 y2 n hi h0 hp h1 h2 hok hu hn
    obtain ⟨n,rfl⟩ := sun (n := n)
    have htake : ∀ x : Int,(y1.set i x).take (i + 1) = y1.take i ++ [x] := fun x => by
      rw [List.take_set,List.take_add_one,List.getElem?_eq_getElem (by omega)]
      have : (y1.take i).length = i := by simp; omega
      rw [List.set_append,ifq,this,Nat.sub_self]; rfl
    have hidx : (i : Int) + 1 = ((i + 1 : Nat) : Int) := by omega
    rw [qaH.l0,ifp,ifp,Int.toNat_natCast,ifp,qal (n := (i : Int) + 1) (by omega) (by omega),hidx]
    -- without an axis
    have stay : ∀ q,0 ≤ q → q ≤ p + 2 → ∃ q' s,qaH.l0 n m N ((i + 1 : Nat) : Int) L q (y1.set i (-1)) y2 = some (q',s) ∧ s.length = N ∧ okGo m.length [] s = true ∧ 0 ≤ q' ∧ q' ≤ q + 2 * d := fun q hq hq2 => by
      refine IH (i + 1) q (y1.set i (-1)) y2 n (by omega) hq (by omega) (by simpa using h1) h2 ?_ (fun j hj => ?_) (by omega)
      · rw [htake,qg5,hok]; simp; omega
      · rw [htake,List.mem_append,hu j hj]; simp
    by_cases c0 : 0 < (m.length : Int)
    · rw [if_pos c0]
      obtain ⟨r,q,e1,r0,r1,q0,q1,q2,q3⟩ := qcU 2 L hL hw p h0 (by omega) (by omega)
      rw [e1,obs]
      dsimp only
      by_cases c1 : r = 0
      · rw [if_pos c1]
        obtain ⟨r',q',e1',r0',r1',q0',q1',q2',q3'⟩ := qcU m.length L hL hw q q0 (by omega) (by omega)
        rw [e1',obs]
        dsimp only
        rw [if_pos ⟨r0',by omega⟩,ifp]
        by_cases c2 : y2.getD r'.toNat false = true
        · rw [if_pos c2]
          obtain ⟨q'',s,g1,g2,g3,g4,g5⟩ := stay q' q0' (by omega)
          exact ⟨q'',s,g1,g2,g3,g4,by omega⟩
        · rw [if_neg c2,if_pos (by simp; omega),if_pos (by simp; omega),List.set_set]
          have hnot : r' ∉ y1.take i := fun h => c2 ((hu r'.toNat (by omega)).2 (by rw [show ((r'.toNat : Nat) : Int) = r' by omega]; exact h))
          obtain ⟨q'',s,g1,g2,g3,g4,g5⟩ := IH (i + 1) q' (y1.set i r') (y2.set r'.toNat true) n (by omega) q0' (by omega) (by simpa using h1) (by simpa using h2) (by
            rw [htake,qg5,hok]; simp [hnot]; omega) (fun j hj => by
            rw [htake,List.mem_append,← hu j hj,List.getD_eq_getElem?_getD,List.getD_eq_getElem?_getD,List.getElem?_set]
            by_cases hjr : r'.toNat = j
            · subst hjr
              rw [if_pos rfl,ifp]
              simp; omega
            · rw [if_neg hjr]
              simp
              omega) (by omega)
          exact ⟨q'',s,g1,g2,g3,g4,by omega⟩
      · rw [if_neg c1]
        obtain ⟨q'',s,g1,g2,g3,g4,g5⟩ := stay q q0 (by omega)
        exact ⟨q'',s,g1,g2,g3,g4,by omega⟩
    · rw [if_neg c0]
      obtain ⟨q'',s,g1,g2,g3,g4,g5⟩ := stay p h0 (by omega)
      exact ⟨q'',s,g1,g2,g3,g4,by omega⟩
theorem ql9 (m : LI) (hm : m.length ≤ 3) (L : LI) (hL : L.length ≤ 17592186044415) (hw : ∀ x ∈ L,-9223372036854775808 ≤ x ∧ x < 9223372036854775808) (N : Int) (hN0 : 0 ≤ N) (hN : N ≤ 5) (p : Int) (h0 : 0 ≤ p) (hp : p ≤ 17592185999000) (k : Nat) (hk : 10 ≤ k) :
  ∃ q s,qaH.f k m N L p = some (q,s) ∧ (s.length : Int) = N ∧ okGo m.length [] s = true ∧ 0 ≤ q ∧ q ≤ p + 10 := by
 unfold qaH.f
 obtain ⟨q,s,g1,g2,g3,g4,g5⟩ := qi0 m hm L hL hw N.toNat (by omega) N.toNat 0 p (List.replicate N.toNat 0) (List.replicate m.length false) k (by omega) h0 (by omega) (by simp) (by simp) rfl (fun j hj => by
  rw [List.getD_eq_getElem?_getD,List.getElem?_replicate]; simp [hj]) (by omega)
 rw [n0] at g1
 rw [ifp,ifp,Int.toNat_natCast,List.length_replicate,g1,obs]
 exact ⟨q,s,rfl,by omega,g3,g4,by omega⟩
end Go.Pf

namespace Go.Pf
open Go Go.Vm
def pr : LI → Int
 | [] => 1
 | x :: r => x * pr r
def sm : LI → Int
 | [] => 0
 | x :: r => x + sm r
def okS (x : Int) : Bool := decide (0 ≤ x) && decide (x ≤ 32)
def mSR (l : LI) : Bool := decide (l.length ≤ 4) && l.all okS && decide (pr l ≤ 4096)
theorem qcA {x : Int} : okS x = true ↔ 0 ≤ x ∧ x ≤ 32 := by simp [okS]
theorem p32 {i : Nat} (h : i ≤ 4) : (1 : Int) ≤ 32 ^ i ∧ (32 : Int) ^ i ≤ 1048576 := by
 rcases (show i = 0 ∨ i = 1 ∨ i = 2 ∨ i = 3 ∨ i = 4 by omega) with e | e | e | e | e <;> subst e <;> decide
theorem qew (l : LI) (hl : l.length ≤ 4) : ∀ (d i : Nat) (p : Int) (n : Nat),l.length = i + d → 0 ≤ p → p ≤ 32 ^ i → d < n →
  qaM.l0 n p l l.length i = some (if (l.drop i).all okS = true then .inl (p * pr (l.drop i)) else .inr false)
 | 0,i,p,n,hi,h1,h2,hn => by
  obtain ⟨n,rfl⟩ := sun (n := n)
  rw [qaM.l0,ifq,List.drop_eq_nil_of_le (by omega)]
  simp [pr]
 | d + 1,i,p,n,hi,h1,h2,hn => by
  obtain ⟨n,rfl⟩ := sun (n := n)
  rw [qaM.l0,ifp,ifp,Int.toNat_natCast,qai (show i < l.length by omega) 0]
  generalize l.getD i 0 = x
  by_cases c1 : x < 0
  ·rw [if_pos c1]; simp [qcA]; omega
  by_cases c2 : 32 < x
  ·rw [if_neg c1,if_pos c2]; simp [qcA]; omega
  have hx : okS x = true := qcA.2 (by omega)
  have h8 := p32 (show i + 1 ≤ 4 by omega)
  have e8 : (32 : Int) ^ (i + 1) = 32 ^ i * 32 := Int.pow_succ ..
  have hm : 0 ≤ p * x ∧ p * x ≤ 32 ^ (i + 1) := ⟨Int.mul_nonneg h1 (by omega),by rw [e8]; exact Int.mul_le_mul h2 (by omega) (by omega) (by omega)⟩
  rw [if_neg c1,if_neg c2,qal (n := p * x) (by omega) (by omega),qal (n := (i : Int) + 1) (by omega) (by omega)]
  have := qew l hl d (i + 1) (p * x) n (by omega) hm.1 hm.2 (by omega)
  rw [show (i : Int) + 1 = ((i + 1 : Nat) : Int) by omega,this]
  simp [hx,pr,Int.mul_assoc]
theorem qbG (l : LI) (k : Nat) (hk : 10 ≤ k) : qaM.f k l = some (mSR l) := by
 unfold qaM.f
 by_cases h : 4 < (l.length : Int)
 ·rw [if_pos h]; simp [mSR]; omega
 ·have := qew l (by omega) l.length 0 1 k (by omega) (by omega) (by simp) (by omega)
  rw [if_neg h,show (0 : Int) = ((0 : Nat) : Int) from rfl,this]
  have hl : l.length ≤ 4 := by omega
  by_cases ha : l.all okS = true
  ·simp [ha,mSR,hl]
  ·simp [ha,mSR]
theorem qak {l : LI} (h : mSR l = true) : l.length ≤ 4 ∧ (∀ x ∈ l,0 ≤ x ∧ x ≤ 32) ∧ pr l ≤ 4096 := by
 unfold mSR at h
 simp only [Bool.and_eq_true,decide_eq_true_eq] at h
 exact ⟨h.1.1,fun x hx => qcA.1 (List.all_eq_true.1 h.1.2 x hx),h.2⟩
def T8 : LI := [1,2,3,4,5,0,7,2]
theorem T8_bd : ∀ x ∈ T8,0 ≤ x ∧ x ≤ 7 := by decide
theorem qh7 (L : LI) (hL : L.length ≤ 17592186044415) (hw : ∀ x ∈ L,-9223372036854775808 ≤ x ∧ x < 9223372036854775808) : ∀ (d : Nat) (p : Int) (y : LI) (n : Nat),0 ≤ p → p ≤ 17592186000000 - d → y.length + d ≤ 3 → (∀ x ∈ y,0 ≤ x ∧ x ≤ 7) → d < n →
  ∃ q s,qav.l0 n d L p y = some (q,s) ∧ s.length = y.length + d ∧ (∀ x ∈ s,0 ≤ x ∧ x ≤ 7) ∧ 0 ≤ q ∧ q ≤ p + d := by
 intro d
 induction d with
 | zero =>
  intro p y n h0 hp hy hb hn
  obtain ⟨n,rfl⟩ := sun (n := n)
  rw [qav.l0,ifq]
  exact ⟨_,_,rfl,rfl,hb,h0,by omega⟩
 | succ d ih =>
  intro p y n h0 hp hy hb hn
  obtain ⟨n,rfl⟩ := sun (n := n)
  obtain ⟨r,q,e,r0,r1,q0,_,_,q1⟩ := qcU 8 L hL hw p h0 (by omega) (by omega)
  have hl : T8.length = 8 := rfl
  rw [qav.l0,ifp,e,obs,show ([1,2,3,4,5,0,7,2] : LI) = T8 from rfl]
  dsimp only
  rw [ifp,ifp,if_pos (by simp only [List.length_singleton]; omega),qal (by omega) (by omega),show (((d + 1 : Nat) : Int) - 1) = (d : Int) by omega]
  have hx := T8_bd _ (qan (show r.toNat < T8.length by omega) 0)
  obtain ⟨q',s,e2,h1,h2,h3,h4⟩ := ih q (y ++ [T8.getD r.toNat 0]) n q0 (by omega) (by simp only [List.length_append,List.length_singleton]; omega) (fun x hx' => by
   rcases List.mem_append.1 hx' with h | h
   ·exact hb x h
   ·rw [List.mem_singleton.1 h]; exact hx) (by omega)
  exact ⟨q',s,e2,by simp only [List.length_append,List.length_singleton] at h1; omega,h2,h3,by omega⟩
theorem qlm (L : LI) (hL : L.length ≤ 17592186044415) (hw : ∀ x ∈ L,-9223372036854775808 ≤ x ∧ x < 9223372036854775808) (p : Int) (h0 : 0 ≤ p) (hp : p ≤ 17592185990000) (k : Nat) (hk : 10 ≤ k) :
  ∃ q s,qav.f k L p = some (q,s) ∧ s.length ≤ 3 ∧ (∀ x ∈ s,0 ≤ x ∧ x ≤ 7) ∧ 0 ≤ q ∧ q ≤ p + 4 := by
 unfold qav.f
 obtain ⟨r,q,e,r0,r1,q0,_,_,q1⟩ := qcU 4 L hL hw p h0 (by omega) (by omega)
 rw [e,obs]
 dsimp only
 obtain ⟨q',s,e2,h1,h2,h3,h4⟩ := qh7 L hL hw r.toNat q [] k q0 (by omega) (by simp only [List.length_nil]; omega) (fun x hx => by cases hx) (by omega)
 rw [show ((r.toNat : Nat) : Int) = r by omega] at e2
 rw [e2,obs]
 exact ⟨q',s,rfl,by simp only [List.length_nil] at h1; omega,h2,h3,by omega⟩
end Go.Pf

namespace Go.Pf
open Go Go.Vm
def zSz (s : LI) : Int := if mSR s = true then pr s else 0
theorem qnK {a b : Bool} (h : a = true ↔ b = true) : a = b := by cases a <;> cases b <;> simp_all
theorem qfj (l : LI) : ∀ (d i : Nat) (p : Int) (n : Nat),l.length = i + d → i ≤ 4 → 0 ≤ p → p ≤ 32 ^ i → d < n →
  qaB.l0 n l p i = some (if (l.drop i).all okS = true ∧ l.length ≤ 4 then .inl (p * pr (l.drop i)) else .inr false)
 | 0,i,p,n,hi,h4,h1,h2,hn => by
  obtain ⟨n,rfl⟩ := sun (n := n)
  rw [qaB.l0,ifq,List.drop_eq_nil_of_le (by omega)]
  simp [pr]; omega
 | d + 1,i,p,n,hi,h4,h1,h2,hn => by
  obtain ⟨n,rfl⟩ := sun (n := n)
  rw [qaB.l0,ifp,ifp,Int.toNat_natCast,qai (show i < l.length by omega) 0]
  generalize l.getD i 0 = x
  by_cases c1 : x < 0
  ·rw [if_pos c1]; simp [qcA]; omega
  by_cases c2 : 32 < x
  ·rw [if_neg c1,if_pos c2]; simp [qcA]; omega
  have hx : okS x = true := qcA.2 (by omega)
  rw [if_neg c1,if_neg c2]
  by_cases c3 : 4 ≤ (i : Int)
  ·rw [if_pos c3]; simp; omega
  rw [if_neg c3]
  have h8 := p32 (show i + 1 ≤ 4 by omega)
  have e8 : (32 : Int) ^ (i + 1) = 32 ^ i * 32 := Int.pow_succ ..
  have hm : 0 ≤ p * x ∧ p * x ≤ 32 ^ (i + 1) := ⟨Int.mul_nonneg h1 (by omega),by rw [e8]; exact Int.mul_le_mul h2 (by omega) (by omega) (by omega)⟩
  rw [qal (n := p * x) (by omega) (by omega),qal (n := (i : Int) + 1) (by omega) (by omega)]
  have := qfj l d (i + 1) (p * x) n (by omega) (by omega) hm.1 hm.2 (by omega)
  rw [show (i : Int) + 1 = ((i + 1 : Nat) : Int) by omega,this]
  simp [hx,pr,Int.mul_assoc]
theorem qdX (l : LI) : ∀ (d i : Nat) (p : Int) (n : Nat),4 = i + d → 4 < l.length → 0 ≤ p → p ≤ 32 ^ i → d < n →
  qaB.l0 n l p i = some (.inr false)
 | 0,i,p,n,hi,h4,h1,h2,hn => by
  obtain ⟨n,rfl⟩ := sun (n := n)
  rw [qaB.l0,ifp,ifp]
  repeat' split
  all_goals first | rfl | omega
 | d + 1,i,p,n,hi,h4,h1,h2,hn => by
  obtain ⟨n,rfl⟩ := sun (n := n)
  rw [qaB.l0,ifp,ifp,Int.toNat_natCast]
  generalize l.getD i 0 = x
  by_cases c1 : x < 0
  ·rw [if_pos c1]
  by_cases c2 : 32 < x
  ·rw [if_neg c1,if_pos c2]
  rw [if_neg c1,if_neg c2,ifq]
  have h8 := p32 (show i + 1 ≤ 4 by omega)
  have e8 : (32 : Int) ^ (i + 1) = 32 ^ i * 32 := Int.pow_succ ..
  have hm : 0 ≤ p * x ∧ p * x ≤ 32 ^ (i + 1) := ⟨Int.mul_nonneg h1 (by omega),by rw [e8]; exact Int.mul_le_mul h2 (by omega) (by omega) (by omega)⟩
  rw [qal (n := p * x) (by omega) (by omega),qal (n := (i : Int) + 1) (by omega) (by omega)]
  have := qdX l d (i + 1) (p * x) n (by omega) (by omega) hm.1 hm.2 (by omega)
  rw [show (i : Int) + 1 = ((i + 1 : Nat) : Int) by omega,this]
theorem qa9 (l : LI) (k : Nat) (hk : 10 ≤ k) : qaB.f k l = some (mSR l) := by
 unfold qaB.f
 by_cases h4 : l.length ≤ 4
 ·have := qfj l l.length 0 1 k (by omega) (by omega) (by omega) (by simp) (by omega)
  rw [show (0 : Int) = ((0 : Nat) : Int) from rfl,this]
  by_cases ha : l.all okS = true
  ·simp [ha,mSR,h4]
  ·simp [ha,mSR]
 ·have := qdX l 4 0 1 k (by omega) (by omega) (by omega) (by simp) (by omega)
  rw [show (0 : Int) = ((0 : Nat) : Int) from rfl,this]
  simp [mSR]; omega
theorem qch : ∀ {l : LI},(∀ x ∈ l,0 ≤ x) → 0 ≤ pr l
 | [],_ => by decide
 | x :: r,h => Int.mul_nonneg (h x (List.mem_cons_self ..)) (qch fun y hy => h y (List.mem_cons_of_mem _ hy))
theorem qgb (l : LI) (h : ∀ x ∈ l,0 ≤ x ∧ x ≤ 32) (hl : l.length ≤ 4) : ∀ (d i : Nat) (p : Int) (n : Nat),l.length = i + d → 0 ≤ p → p ≤ 32 ^ i → d < n →
  qbA.l0 n l p i = some (p * pr (l.drop i))
 | 0,i,p,n,hi,h1,h2,hn => by
  obtain ⟨n,rfl⟩ := sun (n := n)
  rw [qbA.l0,ifq,List.drop_eq_nil_of_le (by omega)]
  simp [pr]
 | d + 1,i,p,n,hi,h1,h2,hn => by
  obtain ⟨n,rfl⟩ := sun (n := n)
  have hx := h _ (qan (show i < l.length by omega) 0)
  rw [qbA.l0,ifp,ifp,Int.toNat_natCast,qai (show i < l.length by omega) 0]
  generalize l.getD i 0 = x at hx ⊢
  have h8 := p32 (show i + 1 ≤ 4 by omega)
  have e8 : (32 : Int) ^ (i + 1) = 32 ^ i * 32 := Int.pow_succ ..
  have hm : 0 ≤ p * x ∧ p * x ≤ 32 ^ (i + 1) := ⟨Int.mul_nonneg h1 (by omega),by rw [e8]; exact Int.mul_le_mul h2 (by omega) (by omega) (by omega)⟩
  rw [qal (n := p * x) (by omega) (by omega),qal (n := (i : Int) + 1) (by omega) (by omega)]
  have := qgb l h hl d (i + 1) (p * x) n (by omega) hm.1 hm.2 (by omega)
  rw [show (i : Int) + 1 = ((i + 1 : Nat) : Int) by omega,this]
  simp [pr,Int.mul_assoc]
theorem qcK (l : LI) (k : Nat) (hk : 10 ≤ k) : qbA.f k l = some (zSz l) := by
 unfold qbA.f zSz
 rw [qa9 l k hk,obs]
 by_cases h : mSR l = true
 ·obtain ⟨h1,h2,_⟩ := qak h
  have := qgb l h2 h1 l.length 0 1 k (by omega) (by omega) (by simp) (by omega)
  rw [if_pos h,if_pos h,show (0 : Int) = ((0 : Nat) : Int) from rfl,this]
  simp
 ·rw [if_neg h,if_neg h]
def zT (s d : LI) : Bool := mSR s && decide ((d.length : Int) = pr s)
theorem qbz (s d : LI) (k : Nat) (hk : 10 ≤ k) : qbh.f k s d = some (zT s d) := by
 unfold qbh.f zT
 rw [qa9 s k hk,obs,qcK s k hk,obs]
 by_cases h : mSR s = true
 ·simp [h,zSz]
 ·simp [h]
theorem qbc {s d : LI} (h : zT s d = true) : mSR s = true ∧ (d.length : Int) = pr s := by
 unfold zT at h
 simpa using h
def pl : LI → Int → LI
 | [],_ => []
 | a :: r,x => (x / pr r) % a :: pl r x
theorem qcv : ∀ (s : LI) (x : Int),(pl s x).length = s.length
 | [],_ => rfl
 | _ :: r,x => by simp [pl,qcv r x]
def ix : LI → LI → Int
 | a :: s,b :: p => b * pr s + ix s p
 | _,_ => 0
def mIn : LI → LI → Bool
 | [],[] => true
 | a :: s,b :: p => decide (0 ≤ b) && decide (b < a) && mIn s p
 | _,_ => false
theorem qeb : ∀ {s p : LI},mIn s p = true → p.length = s.length
 | [],[],_ => rfl
 | _ :: s,_ :: p,h => by
  simp only [mIn,Bool.and_eq_true] at h
  simp [qeb h.2]
 | [],_ :: _,h => by simp [mIn] at h
 | _ :: _,[],h => by simp [mIn] at h
theorem qhC : ∀ {s p : LI},mIn s p = true → 0 ≤ ix s p ∧ ix s p < pr s
 | [],[],_ => by decide
 | a :: s,b :: p,h => by
  simp only [mIn,Bool.and_eq_true,decide_eq_true_eq] at h
  obtain ⟨h1,h2⟩ := qhC h.2
  have h3 : b * pr s + pr s ≤ a * pr s := by
   have := Int.mul_le_mul_of_nonneg_right (show b + 1 ≤ a by omega) (show 0 ≤ pr s by omega)
   rw [Int.add_mul,Int.one_mul] at this; exact this
  have h4 : 0 ≤ b * pr s := Int.mul_nonneg h.1.1 (by omega)
  exact ⟨by show 0 ≤ b * pr s + ix s p; omega,by show b * pr s + ix s p < a * pr s; omega⟩
 | [],_ :: _,h => by simp [mIn] at h
 | _ :: _,[],h => by simp [mIn] at h
theorem qhA : ∀ {s : LI},(∀ a ∈ s,0 < a) → ∀ (x : Int),mIn s (pl s x) = true
 | [],_,_ => rfl
 | a :: s,h,x => by
  have ha := h a (List.mem_cons_self ..)
  have := qhA (s := s) (fun b hb => h b (List.mem_cons_of_mem _ hb)) x
  simp only [pl,mIn,Bool.and_eq_true,decide_eq_true_eq]
  exact ⟨⟨Int.emod_nonneg _ (by omega),Int.emod_lt_of_pos _ ha⟩,this⟩
theorem qkN : ∀ {l : LI},(∀ x ∈ l,0 < x) → 0 < pr l
 | [],_ => by decide
 | x :: r,h => Int.mul_pos (h x (List.mem_cons_self ..)) (qkN fun y hy => h y (List.mem_cons_of_mem _ hy))
theorem qg4 : ∀ {l : LI},(∀ x ∈ l,0 ≤ x) → 0 < pr l → ∀ x ∈ l,0 < x
 | [],_,_,_,h => by cases h
 | y :: r,h0,hp,x,hx => by
  have h1 := h0 y (List.mem_cons_self ..)
  have hr := qch (l := r) fun z hz => h0 z (List.mem_cons_of_mem _ hz)
  have hp : 0 < y * pr r := hp
  have hy : y ≠ 0 := fun e => by rw [e,Int.zero_mul] at hp; omega
  have hr' : pr r ≠ 0 := fun e => by rw [e,Int.mul_zero] at hp; omega
  rcases List.mem_cons.1 hx with e | hx
  ·omega
  ·exact qg4 (fun z hz => h0 z (List.mem_cons_of_mem _ hz)) (by omega) x hx
theorem qjv : ∀ {s : LI},(∀ a ∈ s,0 < a) → ∀ (x : Int),ix s (pl s x) = x % pr s
 | [],_,x => by show (0 : Int) = x % 1; omega
 | a :: s,h,x => by
  have ha := h a (List.mem_cons_self ..)
  have hs : ∀ b ∈ s,0 < b := fun b hb => h b (List.mem_cons_of_mem _ hb)
  have hp := qkN hs
  show (x / pr s) % a * pr s + ix s (pl s x) = x % (a * pr s)
  rw [qjv hs x]
  have e1 := Int.mul_ediv_add_emod x (pr s)
  have e2 := Int.mul_ediv_add_emod (x / pr s) a
  have m1 := Int.emod_nonneg x (show pr s ≠ 0 by omega)
  have m2 := Int.emod_lt_of_pos x hp
  have m3 := Int.emod_nonneg (x / pr s) (show a ≠ 0 by omega)
  have m4 := Int.emod_lt_of_pos (x / pr s) ha
  generalize x / pr s = q at *
  generalize x % pr s = r at *
  generalize q / a = q2 at *
  generalize q % a = r2 at *
  generalize pr s = p at *
  have e3 : x = (r2 * p + r) + (a * p) * q2 := by
   rw [← e1,← e2]
   simp only [Int.mul_add,Int.add_mul,Int.mul_comm,Int.mul_left_comm,Int.mul_assoc,Int.add_comm,Int.add_left_comm]
  have h5 : 0 ≤ r2 * p := Int.mul_nonneg m3 (by omega)
  have h6 : r2 * p + p ≤ a * p := by
   have := Int.mul_le_mul_of_nonneg_right (show r2 + 1 ≤ a by omega) (show 0 ≤ p by omega)
   rw [Int.add_mul,Int.one_mul] at this; exact this
  rw [e3,Int.add_mul_emod_self_left]
  exact (Int.emod_eq_of_lt (by omega) (by omega)).symm
theorem qnw {s : LI} (h : ∀ a ∈ s,0 ≤ a) {x : Int} (h0 : 0 ≤ x) (h1 : x < pr s) : ix s (pl s x) = x := by
 rw [qjv (qg4 h (by omega))]
 exact Int.emod_eq_of_lt h0 h1
end Go.Pf

namespace Go.Pf
open Go Go.Vm
theorem qn1 : ∀ {s : LI},(∀ a ∈ s,0 < a) → ∀ (x m : Int),pl s (x + m * pr s) = pl s x
 | [],_,_,_ => rfl
 | a :: s,h,x,m => by
  have hs : ∀ b ∈ s,0 < b := fun b hb => h b (List.mem_cons_of_mem _ hb)
  have hp := qkN hs
  have e : x + m * pr (a :: s) = x + (m * a) * pr s := by show x + m * (a * pr s) = _; rw [Int.mul_assoc]
  rw [e]
  show ((x + m * a * pr s) / pr s) % a :: pl s (x + m * a * pr s) = (x / pr s) % a :: pl s x
  rw [qn1 hs,Int.add_mul_ediv_right _ _ (by omega),Int.add_mul_emod_self_right]
theorem qmr : ∀ {s p : LI},mIn s p = true → pl s (ix s p) = p
 | [],[],_ => rfl
 | a :: s,b :: p,h => by
  have h' := h
  simp only [mIn,Bool.and_eq_true,decide_eq_true_eq] at h
  have hb := qhC h.2
  have hs : ∀ x ∈ s,0 < x := by
   have : ∀ {s p : LI},mIn s p = true → ∀ x ∈ s,0 < x := fun {s} => by
    induction s with
    | nil => intro p _ x hx; cases hx
    | cons y s ih =>
     intro p hh x hx
     cases p with
     | nil => simp [mIn] at hh
     | cons z p =>
      simp only [mIn,Bool.and_eq_true,decide_eq_true_eq] at hh
      rcases List.mem_cons.1 hx with e | hx
      ·omega
      ·exact ih hh.2 x hx
   exact this h.2
  show ((b * pr s + ix s p) / pr s) % a :: pl s (b * pr s + ix s p) = b :: p
  rw [Int.add_comm (b * pr s),qn1 hs,qmr h.2,Int.add_mul_ediv_right _ _ (by omega),Int.ediv_eq_zero_of_lt hb.1 hb.2,Int.zero_add,Int.emod_eq_of_lt h.1.1 h.1.2]
 | [],_ :: _,h => by simp [mIn] at h
 | _ :: _,[],h => by simp [mIn] at h
theorem qdU {α : Type} (l : List α) (i j : Nat) (x d : α) : (l.set i x).getD j d = if i = j ∧ i < l.length then x else l.getD j d := by
 simp only [List.getD_eq_getElem?_getD,List.getElem?_set]
 by_cases h : i = j
 ·subst h
  by_cases h2 : i < l.length
  ·simp [h2]
  ·simp [h2]
 ·simp [h]
theorem qot {i : Nat} {x : Int} {r : LI} : (List.replicate (i + 1) (0 : Int) ++ r).set i x = List.replicate i 0 ++ x :: r := by
 rw [List.set_append,if_pos (by simp)]
 have : List.replicate (i + 1) (0 : Int) = List.replicate i 0 ++ [0] := List.replicate_succ'
 rw [this,List.set_append,if_neg (by simp)]
 simp
theorem qfk (s : LI) (hs : ∀ a ∈ s,0 < a ∧ a ≤ 32) (hl : s.length ≤ 4) (x : Int) (hx : 0 ≤ x) (hx2 : x ≤ 1048576) : ∀ (i n : Nat),i ≤ s.length → i < n →
  qa1.l0 n s (x / pr (s.drop i)) ((i : Int) - 1) (List.replicate i 0 ++ pl (s.drop i) x) = some (pl s x)
 | 0,n,hi,hn => by
  obtain ⟨n,rfl⟩ := sun (n := n)
  rw [qa1.l0,ifq]; simp
 | i + 1,n,hi,hn => by
  obtain ⟨n,rfl⟩ := sun (n := n)
  have ha := hs _ (qan (show i < s.length by omega) 0)
  have hd := qai (show i < s.length by omega) (0 : Int)
  have hp : 0 < pr (s.drop (i + 1)) := qkN fun b hb => (hs b (List.mem_of_mem_drop hb)).1
  have ih := qfk s hs hl x hx hx2 i n (by omega) (by omega)
  rw [hd] at ih
  have hlen : (List.replicate (i + 1) (0 : Int) ++ pl (s.drop (i + 1)) x).length = s.length := by
   rw [List.length_append,qcv,List.length_replicate,List.length_drop]; omega
  have hq : 0 ≤ x / pr (s.drop (i + 1)) := Int.ediv_nonneg hx (by omega)
  have hq2 : x / pr (s.drop (i + 1)) ≤ x := Int.ediv_le_self _ hx
  rw [qa1.l0,show ((i + 1 : Nat) : Int) - 1 = (i : Int) by omega,ifp,ifp,Int.toNat_natCast,ifp,if_pos (by rw [hlen]; omega),if_pos (by rw [hlen]; omega),qal (n := (i : Int) - 1) (by omega) (by omega),qot]
  generalize s.getD i 0 = a at ha ih ⊢
  rw [Int.tdiv_eq_ediv_of_nonneg hq,Int.tmod_eq_emod_of_nonneg hq]
  have hq3 : 0 ≤ x / pr (s.drop (i + 1)) / a := Int.ediv_nonneg hq (by omega)
  have hq4 : x / pr (s.drop (i + 1)) / a ≤ x / pr (s.drop (i + 1)) := Int.ediv_le_self _ hq
  rw [qal (by omega) (by omega),Int.ediv_ediv_of_nonneg (by omega)]
  rw [show pr (a :: s.drop (i + 1)) = a * pr (s.drop (i + 1)) from rfl,Int.mul_comm] at ih
  exact ih
theorem qcN {s : LI} (h : mSR s = true) (hp : 0 < pr s) : ∀ a ∈ s,0 < a ∧ a ≤ 32 := fun a ha =>
 ⟨qg4 (fun b hb => ((qak h).2.1 b hb).1) hp a ha,((qak h).2.1 a ha).2⟩
theorem qbX {s : LI} (h : mSR s = true) {x : Int} (h0 : 0 ≤ x) (h1 : x < pr s) (k : Nat) (hk : 20 ≤ k) : qa1.f k s x = some (pl s x) := by
 obtain ⟨hl,_,hb⟩ := qak h
 have := qfk s (qcN h (by omega)) hl x h0 (by omega) s.length k (Nat.le_refl _) (by omega)
 rw [List.drop_length] at this
 unfold qa1.f
 rw [ifq,qcK s k (by omega),obs,zSz,if_pos h,ifq,ifp,qal (n := (s.length : Int) - 1) (by omega) (by omega),Int.toNat_natCast]
 rw [show x / pr ([] : LI) = x from Int.ediv_one x,show pl ([] : LI) x = [] from rfl,List.append_nil] at this
 rw [this,obs]
def zIx (s p : LI) : Int := if mSR s = true ∧ mIn s p = true then ix s p else -1
theorem qbr {a b : Int} {s p : LI} : mIn (a :: s) (b :: p) = true ↔ (0 ≤ b ∧ b < a) ∧ mIn s p = true := by
 simp only [mIn,Bool.and_eq_true,decide_eq_true_eq]
theorem qfl (s p : LI) (hs : ∀ a ∈ s,0 ≤ a ∧ a ≤ 32) (hl : s.length ≤ 4) (hp : p.length = s.length) : ∀ (d i : Nat) (q : Int) (n : Nat),s.length = i + d → 0 ≤ q → q < 32 ^ i → d < n →
  qbl.l0 n s p q i = some (if mIn (s.drop i) (p.drop i) = true then .inl (q * pr (s.drop i) + ix (s.drop i) (p.drop i)) else .inr (-1))
 | 0,i,q,n,hi,h0,h1,hn => by
  obtain ⟨n,rfl⟩ := sun (n := n)
  rw [qbl.l0,ifq,List.drop_eq_nil_of_le (by omega),List.drop_eq_nil_of_le (by omega)]
  simp [mIn,pr,ix]
 | d + 1,i,q,n,hi,h0,h1,hn => by
  obtain ⟨n,rfl⟩ := sun (n := n)
  have ha := hs _ (qan (show i < s.length by omega) 0)
  rw [qbl.l0,ifp,ifp,Int.toNat_natCast,qai (show i < s.length by omega) (0 : Int),qai (show i < p.length by omega) (0 : Int)]
  generalize s.getD i 0 = a at ha ⊢
  generalize p.getD i 0 = b
  by_cases c1 : b < 0
  ·rw [if_pos c1,if_neg (by rw [qbr]; omega)]
  rw [if_neg c1,ifp]
  by_cases c2 : a ≤ b
  ·rw [if_pos c2,if_neg (by rw [qbr]; omega)]
  rw [if_neg c2]
  have h8 := p32 (show i + 1 ≤ 4 by omega)
  have e8 : (32 : Int) ^ (i + 1) = 32 ^ i * 32 := Int.pow_succ ..
  have hm0 : 0 ≤ q * a := Int.mul_nonneg h0 (by omega)
  have hm1 : q * a + a ≤ 32 ^ (i + 1) := by
   have := Int.mul_le_mul_of_nonneg_right (show q + 1 ≤ 32 ^ i by omega) (show 0 ≤ a by omega)
   rw [Int.add_mul,Int.one_mul] at this
   have h3 : (32 : Int) ^ i * a ≤ 32 ^ i * 32 := Int.mul_le_mul_of_nonneg_left (by omega) (by omega)
   omega
  rw [qal (n := q * a) (by omega) (by omega),qal (n := q * a + b) (by omega) (by omega),qal (n := (i : Int) + 1) (by omega) (by omega)]
  have := qfl s p hs hl hp d (i + 1) (q * a + b) n (by omega) (by omega) (by omega) (by omega)
  rw [show (i : Int) + 1 = ((i + 1 : Nat) : Int) by omega,this]
  by_cases c : mIn (s.drop (i + 1)) (p.drop (i + 1)) = true
  ·rw [if_pos c,if_pos (qbr.2 ⟨by omega,c⟩)]
   show some (Sum.inl ((q * a + b) * pr (s.drop (i + 1)) + ix (s.drop (i + 1)) (p.drop (i + 1)))) = some (Sum.inl (q * (a * pr (s.drop (i + 1))) + (b * pr (s.drop (i + 1)) + ix (s.drop (i + 1)) (p.drop (i + 1)))))
   rw [Int.add_mul,Int.mul_assoc,Int.add_assoc]
  ·rw [if_neg c,if_neg (by rw [qbr]; exact fun h => c h.2)]
theorem qdp (s p : LI) (k : Nat) (hk : 20 ≤ k) : qbl.f k s p = some (zIx s p) := by
 unfold qbl.f zIx
 rw [qa9 s k (by omega),obs]
 by_cases h : mSR s = true
 ·obtain ⟨hl,h2,_⟩ := qak h
  rw [if_pos h]
  by_cases hp : p.length = s.length
  ·have := qfl s p h2 hl hp s.length 0 0 k (by omega) (by omega) (by simp) (by omega)
   rw [n0,List.drop_zero,List.drop_zero] at this
   rw [ifp,this]
   by_cases c : mIn s p = true
   ·rw [if_pos c,if_pos ⟨h,c⟩]; simp
   ·rw [if_neg c,if_neg (fun hh => c hh.2)]; simp
  ·rw [ifq,if_neg (fun hh => hp (qeb hh.2))]
 ·rw [if_neg h,if_neg (fun hh => h hh.1)]
theorem qck {s d p : LI} (h : zT s d = true) (c : mIn s p = true) (k : Nat) (hk : 20 ≤ k) : qbZ.f k s d p = some (d.getD (ix s p).toNat 0) := by
 obtain ⟨h1,h2⟩ := qbc h
 have hb := qhC c
 unfold qbZ.f
 have hz : zIx s p = ix s p := if_pos ⟨h1,c⟩
 rw [qdp s p k hk,obs,hz,ifp]
end Go.Pf

namespace Go.Pf
open Go Go.Vm
theorem setL {α : Type} (L r : List α) (x v : α) : (L ++ x :: r).set L.length v = (L ++ [v]) ++ r := by
 rw [List.set_append,ifq,Nat.sub_self]; simp
theorem getL {α : Type} (L r : List α) (x d : α) : (L ++ x :: r).getD L.length d = x := by
 simp [List.getD_eq_getElem?_getD]
theorem qgF (g : Nat → Int) (i d : Nat) (c : Int) : ((List.range i).map g ++ List.replicate (d + 1) c).set i (g i) = (List.range (i + 1)).map g ++ List.replicate d c := by
 have := setL ((List.range i).map g) (List.replicate d c) c (g i)
 rw [List.length_map,List.length_range] at this
 rw [List.replicate_succ,this,List.range_succ,List.map_append]; rfl
theorem qgc (s : LI) (c : Int) (k : Nat) (hk : 10 ≤ k) (hz : zSz s ≤ 4096) : ∀ (d i n : Nat),(zSz s).toNat = i + d → d < n →
  qaV.l0 k n s c i ([] ++ s) (List.replicate i c) = some (List.replicate (i + d) c)
 | 0,i,n,hi,hn => by
  obtain ⟨n,rfl⟩ := sun (n := n)
  rw [qaV.l0,qcK s k hk,obs,ifq]; rfl
 | d + 1,i,n,hi,hn => by
  obtain ⟨n,rfl⟩ := sun (n := n)
  rw [qaV.l0,qcK s k hk,obs,ifp,if_pos (by simp only [List.length_replicate,List.length_singleton]; omega),qal (n := (i : Int) + 1) (by omega) (by omega)]
  have := qgc s c k hk hz d (i + 1) n (by omega) (by omega)
  rw [show (i : Int) + 1 = ((i + 1 : Nat) : Int) by omega,show List.replicate i c ++ [c] = List.replicate (i + 1) c from List.replicate_succ'.symm,this]
  congr 2; omega
theorem qoZ (s : LI) : 0 ≤ zSz s ∧ zSz s ≤ 4096 := by
 unfold zSz
 by_cases h : mSR s = true
 ·rw [if_pos h]; exact ⟨qch fun x hx => ((qak h).2.1 x hx).1,(qak h).2.2⟩
 ·rw [if_neg h]; omega
theorem qbi (s : LI) (c : Int) (h : s.length ≤ 1000) (k : Nat) (hk : 5000 ≤ k) : qaV.f k s c = some (s,List.replicate (zSz s).toNat c) := by
 have hz := qoZ s
 have := qgc s c k (by omega) hz.2 (zSz s).toNat 0 k (by omega) (by omega)
 unfold qaV.f
 rw [n0,Nat.zero_add] at this
 rw [ifp,show ([] : LI) = List.replicate 0 c from rfl,show (List.replicate 0 c ++ s) = [] ++ s from rfl,this,obs]
 rfl
theorem qcw (s : LI) (h : s.length ≤ 1000000) : qbn.f s = some s := by
 unfold qbn.f
 rw [ifp]; rfl
def made (s : LI) (f : LI → Int) : LI := (List.range (pr s).toNat).map fun (i : Nat) => f (pl s i)
theorem qly {s : LI} (h : mSR s = true) {f g : LI → Int} (hfg : ∀ p,mIn s p = true → f p = g p) : made s f = made s g := by
 unfold made
 apply List.map_congr_left
 intro i hi
 rw [List.mem_range] at hi
 exact hfg _ (qhA (fun a ha => (qcN h (by omega) a ha).1) _)
def zAdd : LI → LI → LI := List.zipWith (· + ·)
def zSl : LI → LI → LI → Bool
 | [],[],[] => true
 | a :: s,f :: fr,z :: sz => decide (0 ≤ f ∧ f ≤ a ∧ 0 ≤ z ∧ z ≤ a - f) && zSl s fr sz
 | _,_,_ => false
theorem qbS {a f z : Int} {s fr sz : LI} : zSl (a :: s) (f :: fr) (z :: sz) = true ↔ (0 ≤ f ∧ f ≤ a ∧ 0 ≤ z ∧ z ≤ a - f) ∧ zSl s fr sz = true := by
 simp only [zSl,Bool.and_eq_true,decide_eq_true_eq]
theorem qeL : ∀ {s f z : LI},zSl s f z = true → f.length = s.length ∧ z.length = s.length
 | [],[],[],_ => ⟨rfl,rfl⟩
 | _ :: s,_ :: f,_ :: z,h => by
  have := qeL (qbS.1 h).2
  simp [this.1,this.2]
 | [],_ :: _,_,h => by simp [zSl] at h
 | [],[],_ :: _,h => by simp [zSl] at h
 | _ :: _,[],_,h => by simp [zSl] at h
 | _ :: _,_ :: _,[],h => by simp [zSl] at h
theorem qeG (s f z : LI) (hs : ∀ a ∈ s,0 ≤ a ∧ a ≤ 32) (hl : s.length ≤ 4) (hf : f.length = s.length) (hz : z.length = s.length) : ∀ (d i n : Nat),s.length = i + d → d < n →
  qbw.l0 n f z s s.length i = some (if zSl (s.drop i) (f.drop i) (z.drop i) = true then .inl () else .inr 1)
 | 0,i,n,hi,hn => by
  obtain ⟨n,rfl⟩ := sun (n := n)
  rw [qbw.l0,ifq,List.drop_eq_nil_of_le (by omega),List.drop_eq_nil_of_le (by omega),List.drop_eq_nil_of_le (by omega)]; rfl
 | d + 1,i,n,hi,hn => by
  obtain ⟨n,rfl⟩ := sun (n := n)
  have ha := hs _ (qan (show i < s.length by omega) 0)
  have ih := qeG s f z hs hl hf hz d (i + 1) n (by omega) (by omega)
  rw [qbw.l0,ifp,ifp,ifp,if_pos (show 0 ≤ (i : Int) ∧ (i : Int) < (z.length : Int) by omega),Int.toNat_natCast,qai (show i < s.length by omega) (0 : Int),qai (show i < f.length by omega) (0 : Int),qai (show i < z.length by omega) (0 : Int)]
  generalize s.getD i 0 = a at ha ⊢
  generalize f.getD i 0 = b
  generalize z.getD i 0 = c
  by_cases c1 : b < 0
  ·rw [if_pos c1,if_neg (by rw [qbS]; omega)]
  by_cases c2 : a < b
  ·rw [if_neg c1,if_pos c2,if_neg (by rw [qbS]; omega)]
  by_cases c3 : c < 0
  ·rw [if_neg c1,if_neg c2,if_pos c3,if_neg (by rw [qbS]; omega)]
  rw [if_neg c1,if_neg c2,if_neg c3,qal (n := a - b) (by omega) (by omega)]
  by_cases c4 : a - b < c
  ·rw [if_pos c4,if_neg (by rw [qbS]; omega)]
  rw [if_neg c4,qal (n := (i : Int) + 1) (by omega) (by omega),show (i : Int) + 1 = ((i + 1 : Nat) : Int) by omega,ih]
  by_cases c : zSl (s.drop (i + 1)) (f.drop (i + 1)) (z.drop (i + 1)) = true
  ·rw [if_pos c,if_pos (qbS.2 ⟨by omega,c⟩)]
  ·rw [if_neg c,if_neg (fun hh => c (qbS.1 hh).2)]
theorem qiI {s : LI} (h : mSR s = true) (f z : LI) (k : Nat) (hk : 10 ≤ k) : qbw.f k s f z = some (if zSl s f z = true then 0 else 1) := by
 obtain ⟨hl,hs,_⟩ := qak h
 unfold qbw.f
 by_cases hf : f.length = s.length
 ·by_cases hz : z.length = s.length
  ·have := qeG s f z hs hl hf hz s.length 0 k (by omega) (by omega)
   rw [n0,List.drop_zero,List.drop_zero,List.drop_zero] at this
   rw [ifp,ifp,this]
   by_cases c : zSl s f z = true
   ·rw [if_pos c,if_pos c]; rfl
   ·rw [if_neg c,if_neg c]; rfl
  ·rw [ifp,ifq,if_neg (fun hh => hz (qeL hh).2)]
 ·rw [ifq,if_neg (fun hh => hf (qeL hh).1)]
theorem qfg (f : LI) (p : LI) (hf : ∀ a ∈ f,0 ≤ a ∧ a ≤ 32) (hp : ∀ a ∈ p,0 ≤ a ∧ a ≤ 32) (hl : f.length ≤ 4) (hlen : p.length = f.length) (x2 : LI) (x10 x84 x85 : Int) (y1 y2 y4 y5 : LI) : ∀ (d : Nat) (L : LI) (n : Nat),f.length = L.length + d → d < n →
  qaE.l2 n f x2 x10 x84 x85 p.length L.length y1 y2 (L ++ p.drop L.length) y4 y5 = some (L ++ zAdd (p.drop L.length) (f.drop L.length))
 | 0,L,n,hi,hn => by
  obtain ⟨n,rfl⟩ := sun (n := n)
  rw [qaE.l2,ifq,List.drop_eq_nil_of_le (by omega)]; rfl
 | d + 1,L,n,hi,hn => by
  obtain ⟨n,rfl⟩ := sun (n := n)
  have ha := hf _ (qan (show L.length < f.length by omega) 0)
  have hb := hp _ (qan (show L.length < p.length by omega) 0)
  have ih := qfg f p hf hp hl hlen x2 x10 x84 x85 y1 y2 y4 y5 d (L ++ [p.getD L.length 0 + f.getD L.length 0]) n (by simp; omega) (by omega)
  have hL : (L ++ p.drop L.length).length = f.length := by rw [List.length_append,List.length_drop]; omega
  rw [qaE.l2,ifp,if_pos (by rw [hL]; omega),if_pos (by rw [hL]; omega),ifp,Int.toNat_natCast,qai (show L.length < p.length by omega) (0 : Int),qai (show L.length < f.length by omega) (0 : Int),getL,setL,qal (n := p.getD L.length 0 + f.getD L.length 0) (by omega) (by omega),qal (n := (L.length : Int) + 1) (by omega) (by omega)]
  rw [List.length_append,List.length_singleton] at ih
  rw [show (L.length : Int) + 1 = ((L.length + 1 : Nat) : Int) by omega,ih]
  simp [zAdd]
theorem qo4 {s : LI} (h : mSR s = true) (hp : 0 < pr s) (x : Int) : ∀ a ∈ pl s x,0 ≤ a ∧ a ≤ 32 := by
 have hs := qcN h hp
 clear h hp
 induction s with
 | nil => intro a ha; cases ha
 | cons b s ih =>
  have hb := hs b (List.mem_cons_self ..)
  intro a ha
  rcases List.mem_cons.1 ha with e | ha
  ·have h1 := Int.emod_nonneg (x / pr s) (show b ≠ 0 by omega)
   have h2 := Int.emod_lt_of_pos (x / pr s) hb.1
   omega
  ·exact ih (fun c hc => hs c (List.mem_cons_of_mem _ hc)) a ha
theorem qkr : ∀ {s f z : LI},(∀ a ∈ s,0 ≤ a ∧ a ≤ 32) → zSl s f z = true → (∀ a ∈ f,0 ≤ a ∧ a ≤ 32) ∧ (∀ a ∈ z,0 ≤ a ∧ a ≤ 32) ∧ 0 ≤ pr z ∧ pr z ≤ pr s
 | [],[],[],_,_ => ⟨(by intro a ha; cases ha),(by intro a ha; cases ha),by decide,by decide⟩
 | a :: s,f :: fr,z :: sz,hs,h => by
  obtain ⟨h1,h2⟩ := qbS.1 h
  have ha := hs a (List.mem_cons_self ..)
  obtain ⟨i1,i2,i3,i4⟩ := qkr (fun b hb => hs b (List.mem_cons_of_mem _ hb)) h2
  refine ⟨fun b hb => ?_,fun b hb => ?_,Int.mul_nonneg (by omega) i3,?_⟩
  ·rcases List.mem_cons.1 hb with e | hb
   ·omega
   ·exact i1 b hb
  ·rcases List.mem_cons.1 hb with e | hb
   ·omega
   ·exact i2 b hb
  ·show z * pr sz ≤ a * pr s
   exact Int.mul_le_mul (by omega) i4 i3 (by omega)
 | [],_ :: _,_,_,h => by simp [zSl] at h
 | [],[],_ :: _,_,h => by simp [zSl] at h
 | _ :: _,[],_,_,h => by simp [zSl] at h
 | _ :: _,_ :: _,[],_,h => by simp [zSl] at h
theorem qm8 {s f z : LI} (h : mSR s = true) (hc : zSl s f z = true) : mSR z = true := by
 obtain ⟨h1,h2,h3⟩ := qak h
 obtain ⟨_,i2,_,i4⟩ := qkr h2 hc
 have hl := (qeL hc).2
 unfold mSR
 simp only [Bool.and_eq_true,decide_eq_true_eq,List.all_eq_true]
 exact ⟨⟨by omega,fun x hx => qcA.2 (i2 x hx)⟩,by omega⟩
theorem qnS : ∀ {s f z p : LI},zSl s f z = true → mIn z p = true → mIn s (zAdd p f) = true
 | [],[],[],[],_,_ => rfl
 | a :: s,f :: fr,z :: sz,b :: p,h,hp => by
  obtain ⟨h1,h2⟩ := qbS.1 h
  obtain ⟨h3,h4⟩ := qbr.1 hp
  exact qbr.2 ⟨by show 0 ≤ b + f ∧ b + f < a; omega,qnS h2 h4⟩
 | [],_ :: _,_,_,h,_ => by simp [zSl] at h
 | [],[],_ :: _,_,h,_ => by simp [zSl] at h
 | _ :: _,[],_,_,h,_ => by simp [zSl] at h
 | _ :: _,_ :: _,[],_,h,_ => by simp [zSl] at h
 | [],[],[],_ :: _,_,h => by simp [mIn] at h
 | _ :: _,_ :: _,_ :: _,[],_,h => by simp [mIn] at h
def zCut (s d f z : LI) : LI := made z fun p => d.getD (ix s (zAdd p f)).toNat 0
end Go.Pf

namespace Go.Pf
open Go Go.Vm
theorem qfi (s d f z : LI) (hs : ∀ a ∈ s,0 ≤ a ∧ a ≤ 32) (hl : s.length ≤ 4) (hf : f.length = s.length) (hz : z.length = s.length) : ∀ (e i n : Nat),s.length = i + e → e < n →
  qaE.l0 n f z f.length i s d = some (if zSl (s.drop i) (f.drop i) (z.drop i) = true then .inl () else .inr 1)
 | 0,i,n,hi,hn => by
  obtain ⟨n,rfl⟩ := sun (n := n)
  rw [qaE.l0,ifq,List.drop_eq_nil_of_le (by omega),List.drop_eq_nil_of_le (by omega),List.drop_eq_nil_of_le (by omega)]; rfl
 | e + 1,i,n,hi,hn => by
  obtain ⟨n,rfl⟩ := sun (n := n)
  have ha := hs _ (qan (show i < s.length by omega) 0)
  have ih := qfi s d f z hs hl hf hz e (i + 1) n (by omega) (by omega)
  rw [qaE.l0,ifp,ifp,if_pos (show 0 ≤ (i : Int) ∧ (i : Int) < (z.length : Int) by omega),if_pos (show 0 ≤ (i : Int) ∧ (i : Int) < (s.length : Int) by omega),Int.toNat_natCast,qai (show i < s.length by omega) (0 : Int),qai (show i < f.length by omega) (0 : Int),qai (show i < z.length by omega) (0 : Int)]
  generalize s.getD i 0 = a at ha ⊢
  generalize f.getD i 0 = b
  generalize z.getD i 0 = c
  by_cases c1 : b < 0
  ·rw [if_pos c1,if_neg (by rw [qbS]; omega)]
  by_cases c3 : c < 0
  ·rw [if_neg c1,if_pos c3,if_neg (by rw [qbS]; omega)]
  by_cases c2 : a < b
  ·rw [if_neg c1,if_neg c3,if_pos c2,if_neg (by rw [qbS]; omega)]
  rw [if_neg c1,if_neg c3,if_neg c2,qal (n := a - b) (by omega) (by omega)]
  by_cases c4 : a - b < c
  ·rw [if_pos c4,if_neg (by rw [qbS]; omega)]
  rw [if_neg c4,qal (n := (i : Int) + 1) (by omega) (by omega),show (i : Int) + 1 = ((i + 1 : Nat) : Int) by omega,ih]
  by_cases c : zSl (s.drop (i + 1)) (f.drop (i + 1)) (z.drop (i + 1)) = true
  ·rw [if_pos c,if_pos (qbS.2 ⟨by omega,c⟩)]
  ·rw [if_neg c,if_neg (fun hh => c (qbS.1 hh).2)]
theorem qfh {s d f z : LI} (h : zT s d = true) (hc : zSl s f z = true) (k : Nat) (hk : 20 ≤ k) (y3 : LI) : ∀ (e i n : Nat),(pr z).toNat = i + e → e + 10 < n →
  qaE.l1 k n f z (pr z) i s d y3 ((List.range i).map (fun (i : Nat) => d.getD (ix s (zAdd (pl z i) f)).toNat 0) ++ List.replicate e 0) = some (zCut s d f z)
 | 0,i,n,hi,hn => by
  obtain ⟨n,rfl⟩ := sun (n := n)
  have hz := (qkr (qak (qbc h).1).2.1 hc).2.2.1
  rw [qaE.l1,ifq]
  unfold zCut made
  rw [hi]; simp
 | e + 1,i,n,hi,hn => by
  obtain ⟨n,rfl⟩ := sun (n := n)
  have hr := qm8 (qbc h).1 hc
  have hb := (qak hr).2.2
  have hl := qeL hc
  have h4 := (qak (qbc h).1).1
  have ih := qfh h hc k hk y3 e (i + 1) n (by omega) (by omega)
  have l2 := qfg f (pl z i) (qkr (qak (qbc h).1).2.1 hc).1 (qo4 hr (by omega) i) (by omega) (by rw [qcv]; omega) z i (pr z) i s d y3 ((List.range i).map (fun (i : Nat) => d.getD (ix s (zAdd (pl z i) f)).toNat 0) ++ List.replicate (e + 1) 0) f.length [] n (by simp) (by omega)
  rw [List.length_nil,n0,List.drop_zero,List.drop_zero,List.nil_append,List.nil_append] at l2
  rw [qaE.l1,ifp,qbX hr (by omega) (by omega) k hk,obs,l2,obs,qck h (qnS hc (qhA (fun a ha => (qcN hr (by omega) a ha).1) i)) k hk,obs,
   if_pos (by simp; omega),if_pos (by simp),Int.toNat_natCast,qgF (fun (i : Nat) => d.getD (ix s (zAdd (pl z i) f)).toNat 0),qal (n := (i : Int) + 1) (by omega) (by omega),show (i : Int) + 1 = ((i + 1 : Nat) : Int) by omega]
  exact ih
theorem qjc (s d f z : LI) (k : Nat) (hk : 5000 ≤ k) : qaE.f k s d f z = some (if zT s d = true then (if zSl s f z = true then (0,z,zCut s d f z) else (1,[],[])) else (13,[],[])) := by
 unfold qaE.f
 rw [qbz s d k (by omega),obs]
 by_cases h : zT s d = true
 ·obtain ⟨hr,_⟩ := qbc h
  obtain ⟨hl,hs,_⟩ := qak hr
  rw [if_pos h,if_pos h]
  by_cases hf : f.length = s.length
  ·by_cases hz : z.length = s.length
   ·have l0 := qfi s d f z hs hl hf hz s.length 0 k (by omega) (by omega)
    rw [n0,List.drop_zero,List.drop_zero,List.drop_zero] at l0
    rw [ifp,ifp,l0,obs]
    by_cases hc : zSl s f z = true
    ·have hz := qm8 hr hc
     have hb := qak hz
     have h0 := qch fun x hx => (hb.2.1 x hx).1
     have := qfh h hc k (by omega) z (pr z).toNat 0 k (by omega) (by omega)
     rw [if_pos hc,if_pos hc,Sum.elim_inl,qbi z 0 (by omega) k hk,obs,zSz,if_pos hz,List.length_replicate,show (((pr z).toNat : Nat) : Int) = pr z by omega]
     rw [n0] at this
     rw [show List.replicate (pr z).toNat (0 : Int) = (List.range 0).map (fun (i : Nat) => d.getD (ix s (zAdd (pl z i) f)).toNat 0) ++ List.replicate (pr z).toNat 0 from rfl,this]
     rfl
    ·rw [if_neg hc,if_neg hc]; rfl
   ·rw [ifp,ifq,if_neg (fun hh => hz (qeL hh).2)]
  ·rw [ifq,if_neg (fun hh => hf (qeL hh).1)]
 ·rw [if_neg h,if_neg h]
end Go.Pf

namespace Go.Pf
open Go Go.Vm
def zWi (o : LI) : Int → LI → LI → Bool
 | _,[],[] => true
 | last,x :: s,k :: a => decide (last < k ∧ k < (o.length : Int) ∧ o.getD k.toNat 0 = x) && zWi o k s a
 | _,_,_ => false
theorem qcQ {o : LI} {l x k : Int} {s a : LI} : zWi o l (x :: s) (k :: a) = true ↔ (l < k ∧ k < (o.length : Int) ∧ o.getD k.toNat 0 = x) ∧ zWi o k s a = true := by
 simp only [zWi,Bool.and_eq_true,decide_eq_true_eq]
theorem qh1 {o : LI} : ∀ {l : Int} {s a : LI},zWi o l s a = true → a.length = s.length
 | _,[],[],_ => rfl
 | _,_ :: s,_ :: a,h => by have := qh1 (qcQ.1 h).2; simp [this]
 | _,[],_ :: _,h => by simp [zWi] at h
 | _,_ :: _,[],h => by simp [zWi] at h
def zRi (m : Int) : Int → LI → Bool
 | _,[] => true
 | last,k :: a => decide (last < k ∧ k < m) && zRi m k a
theorem qcd {m l k : Int} {a : LI} : zRi m l (k :: a) = true ↔ (l < k ∧ k < m) ∧ zRi m k a = true := by
 simp only [zRi,Bool.and_eq_true,decide_eq_true_eq]
def zEq (o : LI) : LI → LI → Bool
 | x :: s,k :: a => decide (o.getD k.toNat 0 = x) && zEq o s a
 | _,_ => true
theorem qgw {o : LI} {x k : Int} {s a : LI} : zEq o (x :: s) (k :: a) = true ↔ o.getD k.toNat 0 = x ∧ zEq o s a = true := by
 simp only [zEq,Bool.and_eq_true,decide_eq_true_eq]
theorem qgH {o : LI} : ∀ {l : Int} {s a : LI},a.length = s.length → (zWi o l s a = true ↔ zRi o.length l a = true ∧ zEq o s a = true)
 | _,[],[],_ => by simp [zWi,zRi,zEq]
 | l,x :: s,k :: a,h => by
  rw [qcQ,qcd,qgw,qgH (by simpa using h)]
  exact ⟨fun ⟨⟨h1,h2,h3⟩,h4,h5⟩ => ⟨⟨⟨h1,h2⟩,h4⟩,h3,h5⟩,fun ⟨⟨⟨h1,h2⟩,h4⟩,h3,h5⟩ => ⟨⟨h1,h2,h3⟩,h4,h5⟩⟩
 | _,[],_ :: _,h => by simp at h
 | _,_ :: _,[],h => by simp at h
theorem qjO {m : Int} : ∀ {l : Int} {a : LI},zRi m l a = true → ∀ k ∈ a,l < k ∧ k < m
 | _,[],_,k,h => by cases h
 | l,b :: a,h,k,hk => by
  obtain ⟨h1,h2⟩ := qcd.1 h
  rcases List.mem_cons.1 hk with e | hk
  ·omega
  ·have := qjO h2 k hk; omega
theorem qeH (m : Int) (a : LI) (hl : a.length ≤ 1000) : ∀ (d i : Nat) (l : Int) (n : Nat),a.length = i + d → d < n →
  qaY.l0 n m l a a.length i = some (if zRi m l (a.drop i) = true then .inl () else .inr false)
 | 0,i,l,n,hi,hn => by
  obtain ⟨n,rfl⟩ := sun (n := n)
  rw [qaY.l0,ifq,List.drop_eq_nil_of_le (by omega)]; rfl
 | d + 1,i,l,n,hi,hn => by
  obtain ⟨n,rfl⟩ := sun (n := n)
  have ih := qeH m a hl d (i + 1) (a.getD i 0) n (by omega) (by omega)
  rw [qaY.l0,ifp,ifp,Int.toNat_natCast,qai (show i < a.length by omega) (0 : Int)]
  generalize a.getD i 0 = b at ih ⊢
  by_cases c1 : b ≤ l
  ·rw [if_pos c1,if_neg (by rw [qcd]; omega)]
  by_cases c2 : m ≤ b
  ·rw [if_neg c1,if_pos c2,if_neg (by rw [qcd]; omega)]
  rw [if_neg c1,if_neg c2,qal (n := (i : Int) + 1) (by omega) (by omega),show (i : Int) + 1 = ((i + 1 : Nat) : Int) by omega,ih]
  by_cases c : zRi m b (a.drop (i + 1)) = true
  ·rw [if_pos c,if_pos (qcd.2 ⟨by omega,c⟩)]
  ·rw [if_neg c,if_neg (fun hh => c (qcd.1 hh).2)]
theorem qfB (s o a : LI) (hl : s.length ≤ 4) (ha : a.length = s.length) (hr : ∀ k ∈ a,0 ≤ k ∧ k < (o.length : Int)) : ∀ (d i n : Nat),a.length = i + d → d < n →
  qbM.l0 n s o a a.length i = some (if zEq o (s.drop i) (a.drop i) = true then .inl () else .inr 1)
 | 0,i,n,hi,hn => by
  obtain ⟨n,rfl⟩ := sun (n := n)
  rw [qbM.l0,ifq,List.drop_eq_nil_of_le (by omega),List.drop_eq_nil_of_le (by omega)]; rfl
 | d + 1,i,n,hi,hn => by
  obtain ⟨n,rfl⟩ := sun (n := n)
  have ih := qfB s o a hl ha hr d (i + 1) n (by omega) (by omega)
  have hk := hr _ (qan (show i < a.length by omega) 0)
  rw [qbM.l0,ifp,ifp,Int.toNat_natCast,if_pos hk,ifp,qai (show i < a.length by omega) (0 : Int),qai (show i < s.length by omega) (0 : Int)]
  generalize a.getD i 0 = b
  generalize s.getD i 0 = x
  by_cases c1 : o.getD b.toNat 0 = x
  ·rw [if_pos c1,qal (n := (i : Int) + 1) (by omega) (by omega),show (i : Int) + 1 = ((i + 1 : Nat) : Int) by omega,ih]
   by_cases c : zEq o (s.drop (i + 1)) (a.drop (i + 1)) = true
   ·rw [if_pos c,if_pos (qgw.2 ⟨c1,c⟩)]
   ·rw [if_neg c,if_neg (fun hh => c (qgw.1 hh).2)]
  ·rw [if_neg c1,if_neg (fun hh => c1 (qgw.1 hh).1)]
theorem qjK {s : LI} (hl : s.length ≤ 4) (o a : LI) (k : Nat) (hk : 10 ≤ k) : qbM.f k s o a = some (if mSR o = true then (if zWi o (-1) s a = true then 0 else 1) else 13) := by
  unfold qbM.f
  rw [qbG o k hk,obs]
  by_cases ho : mSR o = true
  · rw [if_pos ho,if_pos ho]
    by_cases ha : a.length = s.length
    · have e1 := qeH o.length a (by omega) a.length 0 (-1) k (by omega) (by omega)
      rw [n0,List.drop_zero] at e1
      rw [ifp]
      unfold qaY.f
      rw [e1]
      by_cases hr : zRi o.length (-1) a = true
      · have e2 := qfB s o a hl ha (fun k hk => by have := qjO hr k hk; omega) a.length 0 k (by omega) (by omega)
        rw [n0,List.drop_zero,List.drop_zero] at e2
        rw [if_pos hr,obs,Sum.elim_inl,obs,if_pos rfl,e2]
        by_cases c : zEq o s a = true
        · rw [if_pos c,if_pos ((qgH ha).2 ⟨hr,c⟩)]; rfl
        · rw [if_neg c,if_neg (fun hh => c ((qgH ha).1 hh).2)]; rfl
      · rw [if_neg hr,if_neg (fun hh => hr ((qgH ha).1 hh).1)]; rfl
    · rw [ifq,if_neg (fun hh => ha (qh1 hh))]
  · rw [if_neg ho,if_neg ho]
def pick (p a : LI) : LI := a.map fun k => p.getD k.toNat 0
theorem qox {o p : LI} (hp : mIn o p = true) : ∀ {l : Int} {s a : LI},-1 ≤ l → zWi o l s a = true → mIn s (pick p a) = true := by
 have hg : ∀ {o p : LI},mIn o p = true → ∀ j,j < o.length → 0 ≤ p.getD j 0 ∧ p.getD j 0 < o.getD j 0 := fun {o} => by
  induction o with
  | nil => intro p _ j hj; cases hj
  | cons x o ih =>
   intro p h j hj
   cases p with
   | nil => simp [mIn] at h
   | cons y p =>
    obtain ⟨h1,h2⟩ := qbr.1 h
    cases j with
    | zero => exact h1
    | succ j => exact ih h2 j (by simpa using hj)
 intro l s
 induction s generalizing l with
 | nil =>
  intro a _ h
  cases a with
  | nil => rfl
  | cons _ _ => simp [zWi] at h
 | cons x s ih =>
  intro a hl h
  cases a with
  | nil => simp [zWi] at h
  | cons k a =>
   obtain ⟨⟨h1,h2,h3⟩,h4⟩ := qcQ.1 h
   have := hg hp k.toNat (by omega)
   exact qbr.2 ⟨by show 0 ≤ p.getD k.toNat 0 ∧ p.getD k.toNat 0 < x; omega,ih (by omega) h4⟩
def zSpr (s d o a : LI) : LI := made o fun p => d.getD (ix s (pick p a)).toNat 0
theorem qex (p a : LI) (hl : a.length ≤ 4) (hr : ∀ k ∈ a,0 ≤ k ∧ k < (p.length : Int)) (x1 : LI) (x10 x86 x87 : Int) (s d y5 y6 : LI) : ∀ (e : Nat) (L : LI) (n : Nat),a.length = L.length + e → e < n →
  qaw.l2 n x1 a x10 x86 x87 a.length L.length s d p L y5 y6 = some (L ++ pick p (a.drop L.length))
 | 0,L,n,hi,hn => by
  obtain ⟨n,rfl⟩ := sun (n := n)
  rw [qaw.l2,ifq,List.drop_eq_nil_of_le (by omega)]
  simp [pick]
 | e + 1,L,n,hi,hn => by
  obtain ⟨n,rfl⟩ := sun (n := n)
  have hk := hr _ (qan (show L.length < a.length by omega) 0)
  have ih := qex p a hl hr x1 x10 x86 x87 s d y5 y6 e (L ++ [p.getD (a.getD L.length 0).toNat 0]) n (by simp; omega) (by omega)
  rw [qaw.l2,ifp,ifp,Int.toNat_natCast,if_pos hk,ifp,if_pos (by simp only [List.length_singleton]; omega),qal (n := (L.length : Int) + 1) (by omega) (by omega)]
  rw [List.length_append,List.length_singleton] at ih
  rw [show (L.length : Int) + 1 = ((L.length + 1 : Nat) : Int) by omega,ih,qai (show L.length < a.length by omega) (0 : Int)]
  simp [pick]
theorem qez (s d o a : LI) (hl : s.length ≤ 4) (ha : a.length = s.length) : ∀ (e i n : Nat),a.length = i + e → e < n → ∀ (l : Int),(i = 0 → l = -1) → (0 < i → l = a.getD (i - 1) 0 ∧ 0 ≤ l) →
  qaw.l0 n o a a.length i s d = some (if zWi o l (s.drop i) (a.drop i) = true then .inl () else .inr 1)
 | 0,i,n,hi,hn,l,l0,l1 => by
  obtain ⟨n,rfl⟩ := sun (n := n)
  rw [qaw.l0,ifq,List.drop_eq_nil_of_le (by omega),List.drop_eq_nil_of_le (by omega)]; rfl
 | e + 1,i,n,hi,hn,l,l0,l1 => by
  obtain ⟨n,rfl⟩ := sun (n := n)
  have ih := qez s d o a hl ha e (i + 1) n (by omega) (by omega) (a.getD i 0) (by omega)
  rw [Nat.add_sub_cancel] at ih
  rw [qaw.l0,ifp,ifp,Int.toNat_natCast,qai (show i < a.length by omega) (0 : Int),qai (show i < s.length by omega) (0 : Int)]
  rw [qal (n := (i : Int) + 1) (by omega) (by omega),show (i : Int) + 1 = ((i + 1 : Nat) : Int) by omega]
  rw [show IntKind.i64.wrap ((i : Int) - 1) = (i : Int) - 1 from qal (by omega) (by omega),show ((i : Int) - 1).toNat = i - 1 by omega]
  generalize a.getD i 0 = b at ih ⊢
  generalize s.getD i 0 = x
  by_cases c1 : b < 0
  ·rw [if_pos c1,if_neg (fun hh => by
    have hlb := (qcQ.1 hh).1.1
    rcases Nat.eq_zero_or_pos i with e | e
    ·have := l0 e; omega
    ·have := (l1 e).2; omega)]
  by_cases c2 : (o.length : Int) ≤ b
  ·rw [if_neg c1,if_pos c2,if_neg (by rw [qcQ]; omega)]
  rw [if_neg c1,if_neg c2]
  have tail : ∀ (hlb : l < b),(if 0 ≤ b ∧ b < (o.length : Int) then if 0 ≤ (i : Int) ∧ (i : Int) < (s.length : Int) then if o.getD b.toNat 0 = x then (qaw.l0 n o a a.length ((i + 1 : Nat) : Int) s d) else some (.inr 1) else none else none) = some (if zWi o l (x :: s.drop (i + 1)) (b :: a.drop (i + 1)) = true then .inl () else .inr 1) := by
   intro hlb
   rw [ifp,ifp]
   by_cases c3 : o.getD b.toNat 0 = x
   ·rw [if_pos c3,ih (fun _=>⟨rfl,by omega⟩)]
    by_cases c : zWi o b (s.drop (i + 1)) (a.drop (i + 1)) = true
    ·rw [if_pos c,if_pos (qcQ.2 ⟨⟨hlb,by omega,c3⟩,c⟩)]
    ·rw [if_neg c,if_neg (fun hh => c (qcQ.1 hh).2)]
   ·rw [if_neg c3,if_neg (fun hh => c3 (qcQ.1 hh).1.2.2)]
  by_cases ci : 0 < (i : Int)
  ·obtain ⟨e1,e2⟩ := l1 (by omega)
   rw [if_pos ci,ifp,← e1]
   by_cases c3 : b ≤ l
   ·rw [if_pos c3,if_neg (by rw [qcQ]; omega)]
   ·rw [if_neg c3]; exact tail (by omega)
  ·rw [if_neg ci]
   have := l0 (by omega)
   exact tail (by omega)
theorem qey {s d o a : LI} (h : zT s d = true) (ho : mSR o = true) (hc : zWi o (-1) s a = true) (k : Nat) (hk : 20 ≤ k) (y3 : LI) : ∀ (e i n : Nat),(pr o).toNat = i + e → e + 10 < n →
  qaw.l1 k n o a (pr o) i s d y3 ((List.range i).map (fun (i : Nat) => d.getD (ix s (pick (pl o i) a)).toNat 0) ++ List.replicate e 0) = some (zSpr s d o a)
 | 0,i,n,hi,hn => by
  obtain ⟨n,rfl⟩ := sun (n := n)
  rw [qaw.l1,ifq]
  unfold zSpr made
  rw [hi]; simp
 | e + 1,i,n,hi,hn => by
  obtain ⟨n,rfl⟩ := sun (n := n)
  have hb := (qak ho).2.2
  have ha := qh1 hc
  have hr := ((qgH ha).1 hc).1
  have h4 := (qak (qbc h).1).1
  have ih := qey h ho hc k hk y3 e (i + 1) n (by omega) (by omega)
  have l2 := qex (pl o i) a (by omega) (fun k hk => by rw [qcv]; have := qjO hr k hk; omega) o i (pr o) i s d y3 ((List.range i).map (fun (i : Nat) => d.getD (ix s (pick (pl o i) a)).toNat 0) ++ List.replicate (e + 1) 0) a.length [] n (by simp) (by omega)
  rw [List.length_nil,n0,List.drop_zero,List.nil_append] at l2
  rw [qaw.l1,ifp,qbX ho (by omega) (by omega) k hk,obs,l2,obs,qck h (qox (qhA (fun b hb => (qcN ho (by omega) b hb).1) i) (by omega) hc) k hk,obs,
   if_pos (by simp; omega),if_pos (by simp),Int.toNat_natCast,qgF (fun (i : Nat) => d.getD (ix s (pick (pl o i) a)).toNat 0),qal (n := (i : Int) + 1) (by omega) (by omega),show (i : Int) + 1 = ((i + 1 : Nat) : Int) by omega]
  exact ih
theorem qik (s d o a : LI) (k : Nat) (hk : 5000 ≤ k) : qaw.f k s d o a = some (if zT s d = true then (if mSR o = true then (if zWi o (-1) s a = true then (0,o,zSpr s d o a) else (1,[],[])) else (13,[],[])) else (13,[],[])) := by
  unfold qaw.f
  rw [qbz s d k (by omega),obs]
  by_cases h : zT s d = true
  · obtain ⟨hr,_⟩ := qbc h
    have h4 := (qak hr).1
    rw [if_pos h,if_pos h,qa9 o k (by omega),obs]
    by_cases ho : mSR o = true
    · rw [if_pos ho,if_pos ho]
      by_cases ha : a.length = s.length
      · have l0 := qez s d o a h4 ha a.length 0 k (by omega) (by omega) (-1) (fun _=>rfl) (by omega)
        rw [n0,List.drop_zero,List.drop_zero] at l0
        rw [ifp,l0,obs]
        by_cases hc : zWi o (-1) s a = true
        · have hb := qak ho
          have h0 := qch fun x hx => (hb.2.1 x hx).1
          have this := qey h ho hc k (by omega) o (pr o).toNat 0 k (by omega) (by omega)
          rw [if_pos hc,if_pos hc,Sum.elim_inl,qbi o 0 (by omega) k hk,obs,zSz,if_pos ho,List.length_replicate,show (((pr o).toNat : Nat) : Int) = pr o by omega]
          rw [n0] at this
          rw [show List.replicate (pr o).toNat (0 : Int) = (List.range 0).map (fun (i : Nat) => d.getD (ix s (pick (pl o i) a)).toNat 0) ++ List.replicate (pr o).toNat 0 from rfl,this]
          rfl
        · rw [if_neg hc,if_neg hc]; rfl
      · rw [ifq,if_neg (fun hh => ha (qh1 hh))]
    · rw [if_neg ho,if_neg ho]
  · rw [if_neg h,if_neg h]
end Go.Pf

namespace Go.Pf
open Go Go.Vm
def zPm (m : Int) : LI → LI → Bool
 | _,[] => true
 | seen,k :: a => decide (0 ≤ k ∧ k < m ∧ k ∉ seen) && zPm m (k :: seen) a
theorem qcq {m k : Int} {seen a : LI} : zPm m seen (k :: a) = true ↔ (0 ≤ k ∧ k < m ∧ k ∉ seen) ∧ zPm m (k :: seen) a = true := by
 simp only [zPm,Bool.and_eq_true,decide_eq_true_eq]
theorem qjP {m : Int} : ∀ {a seen : LI},zPm m seen a = true → (∀ k ∈ a,0 ≤ k ∧ k < m ∧ k ∉ seen) ∧ a.Nodup
 | [],_,_ => ⟨fun k hk => (by cases hk),List.nodup_nil⟩
 | b :: a,seen,h => by
  obtain ⟨h1,h2⟩ := qcq.1 h
  obtain ⟨i1,i2⟩ := qjP h2
  refine ⟨fun k hk => ?_,List.nodup_cons.2 ⟨fun hb => (i1 b hb).2.2 (List.mem_cons_self ..),i2⟩⟩
  rcases List.mem_cons.1 hk with e | hk
  ·subst e; exact h1
  ·have := i1 k hk
   exact ⟨this.1,this.2.1,fun hs => this.2.2 (List.mem_cons_of_mem _ hs)⟩
theorem qnU {m : Int} : ∀ {a seen : LI},(∀ k ∈ a,0 ≤ k ∧ k < m ∧ k ∉ seen) → a.Nodup → zPm m seen a = true
 | [],_,_,_ => rfl
 | b :: a,seen,h,hn => by
  obtain ⟨n1,n2⟩ := List.nodup_cons.1 hn
  refine qcq.2 ⟨h b (List.mem_cons_self ..),qnU (fun k hk => ?_) n2⟩
  have := h k (List.mem_cons_of_mem _ hk)
  refine ⟨this.1,this.2.1,fun hs => ?_⟩
  rcases List.mem_cons.1 hs with e | hs
  ·subst e; exact n1 hk
  ·exact this.2.2 hs
theorem php : ∀ (n : Nat) (l : LI),l.Nodup → (∀ x ∈ l,0 ≤ x ∧ x < (n : Int)) → l.length ≤ n
 | 0,l,_,h => by
  cases l with
  | nil => exact Nat.le_refl _
  | cons x l => have := h x (List.mem_cons_self ..); omega
 | n + 1,l,hn,h => by
  by_cases hm : (n : Int) ∈ l
  ·have h1 := php n (l.erase n) (hn.erase _) fun x hx => by
    have h2 := (hn.mem_erase_iff).1 hx
    have := h x h2.2
    have h3 := h2.1
    omega
   rw [List.length_erase_of_mem hm] at h1
   omega
  ·have h1 := php n l hn fun x hx => by
    have := h x hx
    have h3 : x ≠ n := fun e => hm (e ▸ hx)
    omega
   omega
theorem qmu {n : Nat} {l : LI} (hn : l.Nodup) (h : ∀ x ∈ l,0 ≤ x ∧ x < (n : Int)) (hl : l.length = n) {j : Int} (h0 : 0 ≤ j) (h1 : j < n) : j ∈ l := by
 refine Classical.byContradiction fun hj => ?_
 have := php n (j :: l) (List.nodup_cons.2 ⟨hj,hn⟩) fun x hx => by
  rcases List.mem_cons.1 hx with e | hx
  ·omega
  ·exact h x hx
 rw [List.length_cons] at this; omega
def scat : LI → LI → LI → LI
 | y,k :: a,x :: p => scat (y.set k.toNat x) a p
 | y,_,_ => y
theorem qkG : ∀ (y a p : LI),(scat y a p).length = y.length
 | y,k :: a,x :: p => by rw [scat,qkG]; simp
 | y,[],_ => by rw [scat]; intros; simp_all
 | y,_ :: _,[] => by rw [scat]; intros; simp_all
theorem qkF : ∀ (y a p : LI) (j : Nat),(∀ k ∈ a,0 ≤ k) → (j : Int) ∉ a → (scat y a p).getD j 0 = y.getD j 0
 | y,k :: a,x :: p,j,hk,hj => by
  have h0 := hk k (List.mem_cons_self ..)
  have h1 : k ≠ j := fun e => hj (e ▸ List.mem_cons_self ..)
  rw [scat,qkF _ a p j (fun z hz => hk z (List.mem_cons_of_mem _ hz)) (fun h => hj (List.mem_cons_of_mem _ h)),qdU,ifq]
 | y,[],_,j,_,_ => by rw [scat]; intros; simp_all
 | y,_ :: _,[],j,_,_ => by rw [scat]; intros; simp_all
theorem qmh : ∀ (y a p : LI) (i : Nat),(∀ k ∈ a,0 ≤ k ∧ k < (y.length : Int)) → a.Nodup → i < a.length → i < p.length → (scat y a p).getD (a.getD i 0).toNat 0 = p.getD i 0
 | y,k :: a,x :: p,0,hk,hn,_,_ => by
  have h0 := hk k (List.mem_cons_self ..)
  obtain ⟨n1,n2⟩ := List.nodup_cons.1 hn
  show (scat (y.set k.toNat x) a p).getD k.toNat 0 = x
  rw [qkF _ a p _ (fun z hz => (hk z (List.mem_cons_of_mem _ hz)).1) (by rw [show ((k.toNat : Nat) : Int) = k by omega]; exact n1),qdU,ifp]
 | y,k :: a,x :: p,i + 1,hk,hn,h1,h2 => by
  obtain ⟨n1,n2⟩ := List.nodup_cons.1 hn
  exact qmh (y.set k.toNat x) a p i (fun z hz => by rw [List.length_set]; exact hk z (List.mem_cons_of_mem _ hz)) n2 (by simpa using h1) (by simpa using h2)
 | _,[],_,_,_,_,h,_ => by simp at h
 | _,_ :: _,[],_,_,_,_,h => by simp at h
structure Perm' (n : Nat) (a : LI) : Prop where
 len : a.length = n
 mem : ∀ k ∈ a,0 ≤ k ∧ k < (n : Int)
 nd : a.Nodup
theorem qkt {n : Nat} {a : LI} (hl : a.length = n) : zPm n [] a = true ↔ Perm' n a :=
 ⟨fun h => ⟨hl,fun k hk => by have := (qjP h).1 k hk; omega,(qjP h).2⟩,fun h => qnU (fun k hk => by have := h.mem k hk; exact ⟨this.1,this.2,by simp⟩) h.nd⟩
theorem Perm'.get {n : Nat} {a : LI} (h : Perm' n a) {j : Nat} (hj : j < n) : ∃ i,i < n ∧ a.getD i 0 = j := by
 have := qmu h.nd h.mem h.len (j := (j : Int)) (by omega) (by omega)
 obtain ⟨i,hi,he⟩ := List.getElem_of_mem this
 exact ⟨i,by have := h.len; omega,by rw [List.getD_eq_getElem?_getD,List.getElem?_eq_getElem hi,he]; rfl⟩
theorem qnA {a b : LI} (hl : a.length = b.length) (h : ∀ i,i < a.length → a.getD i 0 = b.getD i 0) : a = b := by
 apply List.ext_getElem hl
 intro i h1 h2
 have := h i h1
 rwa [List.getD_eq_getElem?_getD,List.getD_eq_getElem?_getD,List.getElem?_eq_getElem h1,List.getElem?_eq_getElem h2] at this
theorem qnk {p a : LI} {i : Nat} (h : i < a.length) : (pick p a).getD i 0 = p.getD (a.getD i 0).toNat 0 := by
 unfold pick
 rw [List.getD_eq_getElem?_getD,List.getElem?_map,List.getElem?_eq_getElem h,List.getD_eq_getElem?_getD (l := a),List.getElem?_eq_getElem h]; rfl
theorem qec : ∀ {s p : LI},mIn s p = true → ∀ j,j < s.length → 0 ≤ p.getD j 0 ∧ p.getD j 0 < s.getD j 0
 | [],[],_,j,hj => by simp at hj
 | x :: s,y :: p,h,0,_ => (qbr.1 h).1
 | x :: s,y :: p,h,j + 1,hj => qec (qbr.1 h).2 j (by simpa using hj)
 | [],_ :: _,h,_,_ => by simp [mIn] at h
 | _ :: _,[],h,_,_ => by simp [mIn] at h
theorem qjn : ∀ {s p : LI},p.length = s.length → (∀ j,j < s.length → 0 ≤ p.getD j 0 ∧ p.getD j 0 < s.getD j 0) → mIn s p = true
 | [],[],_,_ => rfl
 | x :: s,y :: p,hl,h => qbr.2 ⟨h 0 (by simp),qjn (by simpa using hl) fun j hj => h (j + 1) (by simpa using hj)⟩
 | [],_ :: _,hl,_ => by simp at hl
 | _ :: _,[],hl,_ => by simp at hl
theorem qoq {s a p y : LI} (h : Perm' s.length a) (hp : mIn (pick s a) p = true) (hy : y.length = s.length) : mIn s (scat y a p) = true := by
 have hl := qeb hp
 rw [pick,List.length_map,h.len] at hl
 refine qjn (by rw [qkG,hy]) fun j hj => ?_
 obtain ⟨i,hi,e⟩ := h.get hj
 have e1 := qmh y a p i (fun k hk => by rw [hy]; exact h.mem k hk) h.nd (by rw [h.len]; exact hi) (by omega)
 have e2 := qec hp i (by rw [pick,List.length_map,h.len]; exact hi)
 rw [qnk (by rw [h.len]; exact hi)] at e2
 rw [e,Int.toNat_natCast] at e1 e2
 rw [e1]; exact e2
end Go.Pf

namespace Go.Pf
open Go Go.Vm
theorem qow {a b : LI} (h : a.Perm b) : pr a = pr b := by
 induction h with
 | nil => rfl
 | cons x _ ih => show x * _ = x * _; rw [ih]
 | swap x y l => show y * (x * pr l) = x * (y * pr l); rw [Int.mul_left_comm]
 | trans _ _ h1 h2 => rw [h1,h2]
theorem qlv {n : Nat} {a : LI} (h : Perm' n a) : a.Perm ((List.range n).map fun (i : Nat) => (i : Int)) := by
 refine (List.perm_ext_iff_of_nodup h.nd ?_).2 fun x => ⟨fun hx => ?_,fun hx => ?_⟩
 ·refine List.Pairwise.map _ (fun i j hij => ?_) List.nodup_range
  exact fun e => hij (by omega)
 ·have := h.mem x hx
  exact List.mem_map.2 ⟨x.toNat,List.mem_range.2 (by omega),by show ((x.toNat : Nat) : Int) = x; omega⟩
 ·obtain ⟨i,hi,rfl⟩ := List.mem_map.1 hx
  rw [List.mem_range] at hi
  exact qmu h.nd h.mem h.len (by omega) (by omega)
theorem qmp (s : LI) : ((List.range s.length).map fun (i : Nat) => s.getD i 0) = s := by
 apply List.ext_getElem (by simp)
 intro i h1 h2
 rw [List.getElem_map,List.getElem_range,List.getD_eq_getElem?_getD,List.getElem?_eq_getElem h2]; rfl
theorem qms {s a : LI} (h : Perm' s.length a) : (pick s a).Perm s := by
 have h1 := (qlv h).map (fun k : Int => s.getD k.toNat 0)
 rw [List.map_map] at h1
 have e : ((List.range s.length).map ((fun k : Int => s.getD k.toNat 0) ∘ fun (i : Nat) => (i : Int))) = s := by
  have := qmp s
  simpa [Function.comp_def] using this
 rw [e] at h1
 exact h1
theorem qmt {s a : LI} (hs : mSR s = true) (h : Perm' s.length a) : mSR (pick s a) = true := by
 obtain ⟨h1,h2,h3⟩ := qak hs
 have hp := qms h
 unfold mSR
 simp only [Bool.and_eq_true,decide_eq_true_eq,List.all_eq_true]
 refine ⟨⟨?_,fun x hx => qcA.2 (h2 x (hp.mem_iff.1 hx))⟩,by rw [qow hp]; exact h3⟩
 rw [hp.length_eq]; exact h1
theorem qjj {s a : LI} {i : Nat} (h : i < a.length) : pick s (a.take i) ++ [s.getD (a.getD i 0).toNat 0] = pick s (a.take (i + 1)) := by
 rw [qcV h,pick,pick,List.map_append]; rfl
theorem qeF (s a : LI) (hl : s.length ≤ 4) (ha : a.length = s.length) (y : LI) (hy : y.length = s.length) : ∀ (e i n : Nat) (seen : LI) (b : List Bool),s.length = i + e → e < n → b.length = s.length → (∀ j : Nat,j < s.length → (b.getD j false = true ↔ (j : Int) ∈ seen)) →
  qbv.l0 n s a a.length i (pick s (a.take i) ++ y.drop i) b = some (if zPm s.length seen (a.drop i) = true then .inl (pick s a) else .inr 1)
 | 0,i,n,seen,b,hi,hn,hb,hbs => by
  obtain ⟨n,rfl⟩ := sun (n := n)
  rw [qbv.l0,ifq,List.drop_eq_nil_of_le (by omega),List.drop_eq_nil_of_le (by omega),List.take_of_length_le (by omega),List.append_nil]; rfl
 | e + 1,i,n,seen,b,hi,hn,hb,hbs => by
  obtain ⟨n,rfl⟩ := sun (n := n)
  have hps := qjj (s := s) (a := a) (i := i) (by omega)
  have hL : (pick s (a.take i)).length = i := by rw [pick,List.length_map,List.length_take]; omega
  have hset : (pick s (a.take i) ++ y.drop i).set i (s.getD (a.getD i 0).toNat 0) = pick s (a.take (i + 1)) ++ y.drop (i + 1) := by
   rw [qai (show i < y.length by omega) (0 : Int)]
   have := setL (pick s (a.take i)) (y.drop (i + 1)) (y.getD i 0) (s.getD (a.getD i 0).toNat 0)
   rw [hL] at this
   rw [this,hps]
  have hlen : (pick s (a.take i) ++ y.drop i).length = s.length := by rw [List.length_append,hL,List.length_drop]; omega
  rw [qbv.l0,ifp,ifp,Int.toNat_natCast,hset,qai (show i < a.length by omega) (0 : Int),hlen]
  generalize a.getD i 0 = k
  by_cases c1 : k < 0
  ·rw [if_pos c1,if_neg (by rw [qcq]; omega)]
  by_cases c2 : (s.length : Int) ≤ k
  ·rw [if_neg c1,if_pos c2,if_neg (by rw [qcq]; omega)]
  have hk := hbs k.toNat (by omega)
  rw [show ((k.toNat : Nat) : Int) = k by omega] at hk
  rw [if_neg c1,if_neg c2,ifp,ifp]
  by_cases c3 : b.getD k.toNat false = true
  ·rw [if_pos c3,if_neg (fun hh => (qcq.1 hh).1.2.2 (hk.1 c3))]
  have hns : k ∉ seen := fun h => c3 (hk.2 h)
  have ih := qeF s a hl ha y hy e (i + 1) n (k :: seen) (b.set k.toNat true) (by omega) (by omega) (by simp [hb]) fun j hj => by
   rw [qdU]
   by_cases ej : k.toNat = j
   ·rw [if_pos ⟨ej,by omega⟩]
    exact ⟨fun _=>by rw [show (j : Int) = k by omega]; exact List.mem_cons_self ..,fun _=>rfl⟩
   ·rw [if_neg (fun hh => ej hh.1),hbs j hj,List.mem_cons]
    exact ⟨fun h => .inr h,fun h => h.resolve_left (by omega)⟩
  rw [if_neg c3,ifp,ifp,ifp,qal (n := (i : Int) + 1) (by omega) (by omega),show (i : Int) + 1 = ((i + 1 : Nat) : Int) by omega,ih]
  by_cases c : zPm s.length (k :: seen) (a.drop (i + 1)) = true
  ·rw [if_pos c,if_pos (qcq.2 ⟨⟨by omega,by omega,hns⟩,c⟩)]
  ·rw [if_neg c,if_neg (fun hh => c (qcq.1 hh).2)]
def isPerm (n : Nat) (a : LI) : Bool := decide (a.length = n) && zPm n [] a
theorem qer {n : Nat} {a : LI} : isPerm n a = true ↔ Perm' n a := by
 unfold isPerm
 rw [Bool.and_eq_true,decide_eq_true_eq]
 exact ⟨fun h => (qkt h.1).1 h.2,fun h => ⟨h.len,(qkt h.len).2 h⟩⟩
theorem qiH {s : LI} (hl : s.length ≤ 4) (a : LI) (k : Nat) (hk : 10 ≤ k) : qbv.f k s a = some (if isPerm s.length a = true then (0,pick s a) else (1,[])) := by
 unfold qbv.f isPerm
 by_cases ha : a.length = s.length
 ·have l0 := qeF s a hl ha (List.replicate (s.length : Int).toNat 0) (by simp) s.length 0 k [] (List.replicate (s.length : Int).toNat false) (by omega) (by omega) (by simp) (fun j hj => by simp [List.getD_eq_getElem?_getD,List.getElem?_replicate,hj])
  rw [n0,List.drop_zero,List.drop_zero,List.take_zero] at l0
  rw [ifp,ifp,ifp]
  rw [show pick s [] ++ List.replicate (s.length : Int).toNat (0 : Int) = List.replicate (s.length : Int).toNat (0 : Int) from rfl] at l0
  rw [l0]
  by_cases c : zPm s.length [] a = true
  ·rw [if_pos c]; simp [ha,c]
  ·rw [if_neg c]; simp [c]
 ·rw [ifq]; simp [ha]
def zTurn (s d a : LI) : LI := made (pick s a) fun p => d.getD (ix s (scat (List.replicate s.length 0) a p)).toNat 0
theorem qmg {y a p : LI} {i : Nat} (h1 : i < a.length) (h2 : i < p.length) : scat y (a.drop i) (p.drop i) = scat (y.set (a.getD i 0).toNat (p.getD i 0)) (a.drop (i + 1)) (p.drop (i + 1)) := by
 rw [qai h1 (0 : Int),qai h2 (0 : Int)]; rfl
theorem qnh (y p : LI) : scat y [] p = y := by rw [scat]; intros; simp_all
theorem qf3 (p a : LI) (hl : a.length ≤ 4) (hp : p.length = a.length) (m : Nat) (hr : ∀ k ∈ a,0 ≤ k ∧ k < (m : Int)) (x10 x83 x84 : Int) (s d y2 y6 y7 : LI) : ∀ (e i : Nat) (y : LI) (n : Nat),y.length = m → a.length = i + e → e < n →
  qaQ.l2 n a x10 x83 x84 p.length i s d y2 p y y6 y7 = some (scat y (a.drop i) (p.drop i))
 | 0,i,y,n,hy,hi,hn => by
  obtain ⟨n,rfl⟩ := sun (n := n)
  rw [qaQ.l2,ifq,List.drop_eq_nil_of_le (by omega),qnh]
 | e + 1,i,y,n,hy,hi,hn => by
  obtain ⟨n,rfl⟩ := sun (n := n)
  have hk := hr _ (qan (show i < a.length by omega) 0)
  have ih := qf3 p a hl hp m hr x10 x83 x84 s d y2 y6 y7 e (i + 1) (y.set (a.getD i 0).toNat (p.getD i 0)) n (by simp [hy]) (by omega) (by omega)
  rw [qaQ.l2,ifp,ifp,ifp,ifp,Int.toNat_natCast,ifp,ifp,qal (n := (i : Int) + 1) (by omega) (by omega),show (i : Int) + 1 = ((i + 1 : Nat) : Int) by omega,ih,← qmg (by omega) (by omega)]
def tn (s d a : LI) (i : Nat) : Int := d.getD (ix s (scat (List.replicate s.length 0) a (pl (pick s a) i))).toNat 0
end Go.Pf

namespace Go.Pf
open Go Go.Vm
theorem qf5 (s d a : LI) (hl : s.length ≤ 4) (ha : a.length = s.length) : ∀ (e i n : Nat) (seen : LI) (b : LI),s.length = i + e → e < n → b.length = s.length → (∀ j : Nat,j < s.length → b.getD j 0 = if (j : Int) ∈ seen then 1 else 0) →
    qaQ.l0 n a a.length i s d b (pick s (a.take i)) = some (if zPm s.length seen (a.drop i) = true then .inl (pick s a) else .inr 1)
  | 0,i,n,seen,b,hi,hn,hb,hbs => by
    obtain ⟨n,rfl⟩ := sun (n := n)
    rw [qaQ.l0,ifq,List.drop_eq_nil_of_le (by omega),List.take_of_length_le (by omega)]; rfl
  | e + 1,i,n,seen,b,hi,hn,hb,hbs => by
    obtain ⟨n,rfl⟩ := sun (n := n)
    have hps := qjj (s := s) (a := a) (i := i) (by omega)
    have hL : (pick s (a.take i)).length = i := by rw [pick,List.length_map,List.length_take]; omega
    rw [qaQ.l0,ifp,ifp,Int.toNat_natCast,hps,qai (show i < a.length by omega) (0 : Int),hb,hL]
    generalize a.getD i 0 = k
    by_cases c1 : k < 0
    · rw [if_pos c1,if_neg (by rw [qcq]; omega)]
    by_cases c2 : (s.length : Int) ≤ k
    · rw [if_neg c1,if_pos c2,if_neg (by rw [qcq]; omega)]
    have hk := hbs k.toNat (by omega)
    rw [show ((k.toNat : Nat) : Int) = k by omega] at hk
    rw [if_neg c1,if_neg c2,ifp,ifp,hk]
    by_cases c3 : k ∈ seen
    · rw [if_pos (by rw [if_pos c3]; omega),if_neg (fun hh => (qcq.1 hh).1.2.2 c3)]
    rw [if_neg c3] at hk ⊢
    have ih := qf5 s d a hl ha e (i + 1) n (k :: seen) (b.set k.toNat 1) (by omega) (by omega) (by simp [hb]) fun j hj => by
      rw [qdU]
      by_cases ej : k.toNat = j
      · rw [if_pos ⟨ej,by omega⟩,if_pos (by rw [show (j : Int) = k by omega]; exact List.mem_cons_self ..)]
      · rw [if_neg (fun hh => ej hh.1),hbs j hj]
        by_cases cj : (j : Int) ∈ seen
        · rw [if_pos cj,if_pos (List.mem_cons_of_mem _ cj)]
        · rw [if_neg cj,if_neg (fun hh => by
            rcases List.mem_cons.1 hh with e | hh
            · omega
            · exact cj hh)]
    rw [ifq,ifp,if_pos (by simp only [List.length_singleton]; omega),show IntKind.i64.wrap (0 + 1) = 1 from qal (by omega) (by omega),qal (n := (i : Int) + 1) (by omega) (by omega),show (i : Int) + 1 = ((i + 1 : Nat) : Int) by omega,ih]
    by_cases c : zPm s.length (k :: seen) (a.drop (i + 1)) = true
    · rw [if_pos c,if_pos (qcq.2 ⟨⟨by omega,by omega,c3⟩,c⟩)]
    · rw [if_neg c,if_neg (fun hh => c (qcq.1 hh).2)]
theorem qf4 {s d a : LI} (h : zT s d = true) (ha : Perm' s.length a) (k : Nat) (hk : 20 ≤ k) (y4 : LI) : ∀ (e i n : Nat),(pr (pick s a)).toNat = i + e → e + 10 < n →
  qaQ.l1 k n a (pr (pick s a)) i s d (pick s a) y4 ((List.range i).map (tn s d a) ++ List.replicate e 0) = some (zTurn s d a)
 | 0,i,n,hi,hn => by
  obtain ⟨n,rfl⟩ := sun (n := n)
  rw [qaQ.l1,ifq]
  unfold zTurn made
  rw [hi,List.replicate_zero,List.append_nil]; rfl
 | e + 1,i,n,hi,hn => by
  obtain ⟨n,rfl⟩ := sun (n := n)
  have ho := qmt (qbc h).1 ha
  have hb := (qak ho).2.2
  have h4 := (qak (qbc h).1).1
  have hpl : (pl (pick s a) i).length = a.length := by rw [qcv,pick,List.length_map]
  have hal := ha.len
  have ih := qf4 h ha k hk y4 e (i + 1) n (by omega) (by omega)
  have l2 := qf3 (pl (pick s a) i) a (by omega) hpl s.length ha.mem i (pr (pick s a)) i s d (pick s a) y4 ((List.range i).map (tn s d a) ++ List.replicate (e + 1) 0) a.length 0 (List.replicate s.length 0) n (by simp) (by omega) (by omega)
  rw [n0,List.drop_zero,List.drop_zero] at l2
  rw [qaQ.l1,ifp,qbX ho (by omega) (by omega) k hk,obs,if_pos (by rw [hpl]; omega),show ((pl (pick s a) i).length : Int).toNat = s.length by rw [hpl]; omega,l2,obs,
   qck h (qoq ha (qhA (fun b hb => (qcN ho (by omega) b hb).1) i) (by simp)) k hk,obs,
   if_pos (by simp; omega),if_pos (by simp),Int.toNat_natCast,show d.getD (ix s (scat (List.replicate s.length 0) a (pl (pick s a) i))).toNat 0 = tn s d a i from rfl,qgF (tn s d a),qal (n := (i : Int) + 1) (by omega) (by omega),show (i : Int) + 1 = ((i + 1 : Nat) : Int) by omega]
  exact ih
theorem qjZ (s d a : LI) (k : Nat) (hk : 5000 ≤ k) : qaQ.f k s d a = some (if zT s d = true then (if isPerm s.length a = true then (0,pick s a,zTurn s d a) else (1,[],[])) else (13,[],[])) := by
 unfold qaQ.f
 rw [qbz s d k (by omega),obs]
 by_cases h : zT s d = true
 ·obtain ⟨hr,_⟩ := qbc h
  have h4 := (qak hr).1
  rw [if_pos h,if_pos h,ifp]
  by_cases hl : a.length = s.length
  ·have l0 := qf5 s d a h4 hl s.length 0 k [] (List.replicate (s.length : Int).toNat 0) (by omega) (by omega) (by simp) (fun j hj => by simp [List.getD_eq_getElem?_getD,List.getElem?_replicate,hj])
   rw [n0,List.drop_zero,List.take_zero,show pick s [] = [] from rfl] at l0
   rw [if_pos (by simp; omega),l0,obs]
   by_cases hc : zPm s.length [] a = true
   ·have hp : isPerm s.length a = true := by simp [isPerm,hl,hc]
    have ha := qer.1 hp
    have ho := qmt hr ha
    have hb := qak ho
    have h0 := qch fun x hx => (hb.2.1 x hx).1
    have this := qf4 h ha k (by omega) (pick s a) (pr (pick s a)).toNat 0 k (by omega) (by omega)
    rw [if_pos hc,if_pos hp,Sum.elim_inl,qbi (pick s a) 0 (by omega) k hk,obs,zSz,if_pos ho,List.length_replicate,show (((pr (pick s a)).toNat : Nat) : Int) = pr (pick s a) by omega]
    rw [n0] at this
    rw [show List.replicate (pr (pick s a)).toNat (0 : Int) = (List.range 0).map (tn s d a) ++ List.replicate (pr (pick s a)).toNat 0 from rfl,this]
    rfl
   ·have hp : ¬ isPerm s.length a = true := by simp [isPerm,hc]
    rw [if_neg hc,if_neg hp]; rfl
  ·have hp : ¬ isPerm s.length a = true := by simp [isPerm,hl]
   rw [if_neg (by simp; omega),if_neg hp]
 ·rw [if_neg h,if_neg h]
end Go.Pf

namespace Go.Pf
open Go Go.Vm
def zp : LI → LI → LI → LI
 | a :: s,l :: lo,h :: hi => (l + a + h) :: zp s lo hi
 | _,_,_ => []
def zMay : LI → LI → LI → Bool
 | [],[],[] => true
 | _ :: s,l :: lo,h :: hi => okS l && okS h && zMay s lo hi
 | _,_,_ => false
theorem qbT {a l h : Int} {s lo hi : LI} : zMay (a :: s) (l :: lo) (h :: hi) = true ↔ ((0 ≤ l ∧ l ≤ 32) ∧ (0 ≤ h ∧ h ≤ 32)) ∧ zMay s lo hi = true := by
 simp only [zMay,Bool.and_eq_true,qcA]
theorem qdK : ∀ {s lo hi : LI},zMay s lo hi = true → lo.length = s.length ∧ hi.length = s.length
 | [],[],[],_ => ⟨rfl,rfl⟩
 | _ :: s,_ :: f,_ :: z,h => by
  have := qdK (qbT.1 h).2
  simp [this.1,this.2]
 | [],_ :: _,_,h => by simp [zMay] at h
 | [],[],_ :: _,h => by simp [zMay] at h
 | _ :: _,[],_,h => by simp [zMay] at h
 | _ :: _,_ :: _,[],h => by simp [zMay] at h
theorem qlW : ∀ {s lo hi : LI},zMay s lo hi = true → ∀ x ∈ lo,0 ≤ x ∧ x ≤ 32
 | [],[],[],_,x,hx => by cases hx
 | _ :: s,_ :: f,_ :: z,h,x,hx => by
  obtain ⟨⟨h1,_⟩,h2⟩ := qbT.1 h
  rcases List.mem_cons.1 hx with e | hx
  ·subst e; exact h1
  ·exact qlW h2 x hx
 | [],_ :: _,_,h,_,_ => by simp [zMay] at h
 | [],[],_ :: _,h,_,_ => by simp [zMay] at h
 | _ :: _,[],_,h,_,_ => by simp [zMay] at h
 | _ :: _,_ :: _,[],h,_,_ => by simp [zMay] at h
theorem qlM : ∀ {s lo hi : LI},lo.length = s.length → hi.length = s.length → (zp s lo hi).length = s.length
 | [],[],[],_,_ => rfl
 | _ :: s,_ :: lo,_ :: hi,h1,h2 => by simp [zp,qlM (s := s) (by simpa using h1) (by simpa using h2)]
 | [],_ :: _,_,h,_ => by simp at h
 | [],[],_ :: _,_,h => by simp at h
 | _ :: _,[],_,h,_ => by simp at h
 | _ :: _,_ :: _,[],_,h => by simp at h
theorem qel (a : Int) : qcn.f a = some (okS a) := by
 unfold qcn.f okS
 by_cases h : 0 ≤ a
 ·rw [if_pos h]; simp [h]
 ·rw [if_neg h]; simp [h]
theorem qeI (s lo hi : LI) (hs : ∀ a ∈ s,0 ≤ a ∧ a ≤ 32) (hl : s.length ≤ 4) (h1 : lo.length = s.length) (h2 : hi.length = s.length) (y : LI) (hy : y.length = s.length) : ∀ (e : Nat) (L : LI) (n : Nat),s.length = L.length + e → e < n →
  qbx.l0 n lo hi s s.length L.length (L ++ y.drop L.length) = some (if zMay (s.drop L.length) (lo.drop L.length) (hi.drop L.length) = true then .inl (L ++ zp (s.drop L.length) (lo.drop L.length) (hi.drop L.length)) else .inr 1)
 | 0,L,n,hi',hn => by
  obtain ⟨n,rfl⟩ := sun (n := n)
  rw [qbx.l0,ifq,List.drop_eq_nil_of_le (by omega),List.drop_eq_nil_of_le (by omega),List.drop_eq_nil_of_le (by omega),List.drop_eq_nil_of_le (by omega)]; rfl
 | e + 1,L,n,hi',hn => by
  obtain ⟨n,rfl⟩ := sun (n := n)
  have ha := hs _ (qan (show L.length < s.length by omega) 0)
  have ih := qeI s lo hi hs hl h1 h2 y hy e (L ++ [lo.getD L.length 0 + s.getD L.length 0 + hi.getD L.length 0]) n (by simp; omega) (by omega)
  have hL : (L ++ y.drop L.length).length = s.length := by rw [List.length_append,List.length_drop]; omega
  rw [List.length_append,List.length_singleton] at ih
  rw [qbx.l0,ifp,ifp,ifp,Int.toNat_natCast,qel,obs,if_pos (show 0 ≤ (L.length : Int) ∧ (L.length : Int) < (hi.length : Int) by omega),qel,obs,hL,
   qai (show L.length < s.length by omega) (0 : Int),qai (show L.length < lo.length by omega) (0 : Int),qai (show L.length < hi.length by omega) (0 : Int),qai (show L.length < y.length by omega) (0 : Int),setL]
  generalize s.getD L.length 0 = a at *
  generalize lo.getD L.length 0 = l at *
  generalize hi.getD L.length 0 = h at *
  by_cases c1 : okS l = true
  ·by_cases c2 : okS h = true
   ·have b1 := qcA.1 c1
    have b2 := qcA.1 c2
    rw [if_pos c1,if_pos c2,ifp,ifp,qal (n := l + a) (by omega) (by omega),qal (n := l + a + h) (by omega) (by omega),qal (n := (L.length : Int) + 1) (by omega) (by omega),show (L.length : Int) + 1 = ((L.length + 1 : Nat) : Int) by omega,ih]
    by_cases c : zMay (s.drop (L.length + 1)) (lo.drop (L.length + 1)) (hi.drop (L.length + 1)) = true
    ·rw [if_pos c,if_pos (qbT.2 ⟨⟨b1,b2⟩,c⟩)]; simp [zp]
    ·rw [if_neg c,if_neg (fun hh => c (qbT.1 hh).2)]
   ·rw [if_pos c1,if_neg c2,if_neg (fun hh => c2 (qcA.2 (qbT.1 hh).1.2))]
  ·rw [if_neg c1,if_neg (fun hh => c1 (qcA.2 (qbT.1 hh).1.1))]
theorem qiK {s : LI} (h : mSR s = true) (lo hi : LI) (k : Nat) (hk : 10 ≤ k) : qbx.f k s lo hi = some (if zMay s lo hi = true then (if mSR (zp s lo hi) = true then (0,zp s lo hi) else (13,[])) else (1,[])) := by
 obtain ⟨hl,hs,_⟩ := qak h
 unfold qbx.f
 by_cases h1 : lo.length = s.length
 ·by_cases h2 : hi.length = s.length
  ·have l0 := qeI s lo hi hs hl h1 h2 (List.replicate (s.length : Int).toNat 0) (by simp) s.length [] k (by simp) (by omega)
   rw [List.length_nil,n0,List.drop_zero,List.drop_zero,List.drop_zero,List.drop_zero,List.nil_append,List.nil_append] at l0
   rw [ifp,ifp,ifp,l0,obs]
   by_cases c : zMay s lo hi = true
   ·rw [if_pos c,if_pos c,Sum.elim_inl,qbG _ k hk,obs]
    by_cases c2 : mSR (zp s lo hi) = true
    ·rw [if_pos c2,if_pos c2]
    ·rw [if_neg c2,if_neg c2]
   ·rw [if_neg c,if_neg c,Sum.elim_inr]
  ·rw [ifp,ifq,if_neg (fun hh => h2 (qdK hh).2)]
 ·rw [ifq,if_neg (fun hh => h1 (qdK hh).1)]
def zSub : LI → LI → LI := List.zipWith (· - ·)
def pdF (s d lo : LI) (c : Int) (p : LI) : Int := if mIn s (zSub p lo) = true then d.getD (ix s (zSub p lo)).toNat 0 else c
def zPad (s d lo hi : LI) (c : Int) : LI := made (zp s lo hi) (pdF s d lo c)
end Go.Pf

namespace Go.Pf
open Go Go.Vm
theorem qg0 (s d lo hi : LI) (c : Int) (hs : ∀ a ∈ s,0 ≤ a ∧ a ≤ 32) (hl : s.length ≤ 4) (h1 : lo.length = s.length) (h2 : hi.length = s.length) : ∀ (e : Nat) (L : LI) (n : Nat),s.length = L.length + e → e < n →
  qa3.l0 n lo hi c lo.length L.length s d L = some (if zMay (s.drop L.length) (lo.drop L.length) (hi.drop L.length) = true then .inl (L ++ zp (s.drop L.length) (lo.drop L.length) (hi.drop L.length)) else .inr 1)
 | 0,L,n,hi',hn => by
  obtain ⟨n,rfl⟩ := sun (n := n)
  rw [qa3.l0,ifq,List.drop_eq_nil_of_le (by omega),List.drop_eq_nil_of_le (by omega),List.drop_eq_nil_of_le (by omega)]
  simp [zMay,zp]
 | e + 1,L,n,hi',hn => by
  obtain ⟨n,rfl⟩ := sun (n := n)
  have ha := hs _ (qan (show L.length < s.length by omega) 0)
  have ih := qg0 s d lo hi c hs hl h1 h2 e (L ++ [lo.getD L.length 0 + s.getD L.length 0 + hi.getD L.length 0]) n (by simp; omega) (by omega)
  rw [List.length_append,List.length_singleton] at ih
  rw [qa3.l0,ifp,ifp,if_pos (show 0 ≤ (L.length : Int) ∧ (L.length : Int) < (hi.length : Int) by omega),if_pos (show 0 ≤ (L.length : Int) ∧ (L.length : Int) < (s.length : Int) by omega),Int.toNat_natCast,
   qai (show L.length < s.length by omega) (0 : Int),qai (show L.length < lo.length by omega) (0 : Int),qai (show L.length < hi.length by omega) (0 : Int)]
  generalize s.getD L.length 0 = a at *
  generalize lo.getD L.length 0 = l at *
  generalize hi.getD L.length 0 = h at *
  by_cases c1 : l < 0
  ·rw [if_pos c1,if_neg (by rw [qbT]; omega)]
  by_cases c2 : h < 0
  ·rw [if_neg c1,if_pos c2,if_neg (by rw [qbT]; omega)]
  by_cases c3 : 32 < l
  ·rw [if_neg c1,if_neg c2,if_pos c3,if_neg (by rw [qbT]; omega)]
  by_cases c4 : 32 < h
  ·rw [if_neg c1,if_neg c2,if_neg c3,if_pos c4,if_neg (by rw [qbT]; omega)]
  rw [if_neg c1,if_neg c2,if_neg c3,if_neg c4,if_pos (by simp only [List.length_singleton]; omega),qal (n := l + a) (by omega) (by omega),qal (n := l + a + h) (by omega) (by omega),qal (n := (L.length : Int) + 1) (by omega) (by omega),show (L.length : Int) + 1 = ((L.length + 1 : Nat) : Int) by omega,ih]
  by_cases c : zMay (s.drop (L.length + 1)) (lo.drop (L.length + 1)) (hi.drop (L.length + 1)) = true
  ·rw [if_pos c,if_pos (qbT.2 ⟨by omega,c⟩)]; simp [zp]
  ·rw [if_neg c,if_neg (fun hh => c (qbT.1 hh).2)]
theorem qgY (f : LI) (p : LI) (hf : ∀ a ∈ f,0 ≤ a ∧ a ≤ 32) (hp : ∀ a ∈ p,0 ≤ a ∧ a ≤ 32) (hl : f.length ≤ 4) (hlen : p.length = f.length) (x13 x95 x96 : Int) (s d y2 y5 y6 : LI) : ∀ (e : Nat) (L : LI) (n : Nat),f.length = L.length + e → e < n →
  qa3.l2 n f x13 x95 x96 p.length L.length s d y2 (L ++ p.drop L.length) y5 y6 = some (L ++ zAdd (p.drop L.length) (f.drop L.length))
 | 0,L,n,hi,hn => by
  obtain ⟨n,rfl⟩ := sun (n := n)
  rw [qa3.l2,ifq,List.drop_eq_nil_of_le (by omega)]; rfl
 | e + 1,L,n,hi,hn => by
  obtain ⟨n,rfl⟩ := sun (n := n)
  have ha := hf _ (qan (show L.length < f.length by omega) 0)
  have hb := hp _ (qan (show L.length < p.length by omega) 0)
  have ih := qgY f p hf hp hl hlen x13 x95 x96 s d y2 y5 y6 e (L ++ [p.getD L.length 0 + f.getD L.length 0]) n (by simp; omega) (by omega)
  have hL : (L ++ p.drop L.length).length = f.length := by rw [List.length_append,List.length_drop]; omega
  rw [qa3.l2,ifp,if_pos (by rw [hL]; omega),if_pos (by rw [hL]; omega),ifp,Int.toNat_natCast,qai (show L.length < p.length by omega) (0 : Int),qai (show L.length < f.length by omega) (0 : Int),getL,setL,qal (n := p.getD L.length 0 + f.getD L.length 0) (by omega) (by omega),qal (n := (L.length : Int) + 1) (by omega) (by omega)]
  rw [List.length_append,List.length_singleton] at ih
  rw [show (L.length : Int) + 1 = ((L.length + 1 : Nat) : Int) by omega,ih]
  simp [zAdd]
theorem qiP : ∀ {p f : LI},p.length = f.length → zSub (zAdd p f) f = p
 | [],[],_ => rfl
 | a :: p,b :: f,h => by
  have := qiP (p := p) (f := f) (by simpa using h)
  show (a + b - b) :: zSub (zAdd p f) f = a :: p
  rw [this,Int.add_sub_cancel]
 | [],_ :: _,h => by simp at h
 | _ :: _,[],h => by simp at h
theorem qiR : ∀ {p f : LI},p.length = f.length → zAdd (zSub p f) f = p
 | [],[],_ => rfl
 | a :: p,b :: f,h => by
  have := qiR (p := p) (f := f) (by simpa using h)
  show (a - b + b) :: zAdd (zSub p f) f = a :: p
  rw [this,Int.sub_add_cancel]
 | [],_ :: _,h => by simp at h
 | _ :: _,[],h => by simp at h
theorem qoW : ∀ {s lo hi p : LI},zMay s lo hi = true → mIn s p = true → mIn (zp s lo hi) (zAdd p lo) = true
 | [],[],[],[],_,_ => rfl
 | a :: s,l :: lo,h :: hi,b :: p,hm,hp => by
  obtain ⟨h1,h2⟩ := qbT.1 hm
  obtain ⟨h3,h4⟩ := qbr.1 hp
  exact qbr.2 ⟨by show 0 ≤ b + l ∧ b + l < l + a + h; omega,qoW h2 h4⟩
 | [],_ :: _,_,_,h,_ => by simp [zMay] at h
 | [],[],_ :: _,_,h,_ => by simp [zMay] at h
 | _ :: _,[],_,_,h,_ => by simp [zMay] at h
 | _ :: _,_ :: _,[],_,h,_ => by simp [zMay] at h
 | [],[],[],_ :: _,_,h => by simp [mIn] at h
 | _ :: _,_ :: _,_ :: _,[],_,h => by simp [mIn] at h
theorem qmE (m t : Nat) (v : Int) (g g' : Nat → Int) (h : g' t = v) (ho : ∀ j,j ≠ t → j < m → g' j = g j) : ((List.range m).map g).set t v = (List.range m).map g' := by
 apply List.ext_getElem (by simp)
 intro j h1 h2
 have hj : j < m := by simpa using h2
 rw [List.getElem_set,List.getElem_map,List.getElem_map,List.getElem_range]
 by_cases e : t = j
 ·subst e; rw [if_pos rfl,h]
 ·rw [if_neg e,ho j (fun h => e h.symm) hj]
def pdI (s d lo : LI) (c : Int) (i : Nat) (p : LI) : Int := if mIn s (zSub p lo) = true ∧ ix s (zSub p lo) < i then d.getD (ix s (zSub p lo)).toNat 0 else c
theorem qgZ {s d lo hi : LI} (h : zT s d = true) (hm : zMay s lo hi = true) (ho : mSR (zp s lo hi) = true) (c : Int) (k : Nat) (hk : 20 ≤ k) (y4 : LI) : ∀ (e i n : Nat),d.length = i + e → e + 10 < n →
  qa3.l1 k n lo d.length i s d (zp s lo hi) y4 ((List.range (pr (zp s lo hi)).toNat).map fun (j : Nat) => pdI s d lo c i (pl (zp s lo hi) j)) = some (zPad s d lo hi c)
 | 0,i,n,hi',hn => by
  obtain ⟨n,rfl⟩ := sun (n := n)
  obtain ⟨_,hd⟩ := qbc h
  rw [qa3.l1,ifq]
  unfold zPad made
  congr 1
  apply List.map_congr_left
  intro j _
  unfold pdI pdF
  by_cases hc : mIn s (zSub (pl (zp s lo hi) j) lo) = true
  ·have := qhC hc
   rw [if_pos ⟨hc,by omega⟩,if_pos hc]
  ·rw [if_neg (fun hh => hc hh.1),if_neg hc]
 | e + 1,i,n,hi',hn => by
  obtain ⟨n,rfl⟩ := sun (n := n)
  obtain ⟨hr,hd⟩ := qbc h
  obtain ⟨g1,g2,g3⟩ := qak hr
  obtain ⟨l1,l2⟩ := qdK hm
  have hpos := qcN hr (by omega)
  have hpi : mIn s (pl s i) = true := qhA (fun b hb => (hpos b hb).1) i
  have hpo := qoW hm hpi
  have hb := qhC hpo
  have hz : zIx (zp s lo hi) (zAdd (pl s i) lo) = ix (zp s lo hi) (zAdd (pl s i) lo) := if_pos ⟨ho,hpo⟩
  have ih := qgZ h hm ho c k hk y4 e (i + 1) n (by omega) (by omega)
  have l2 := qgY lo (pl s i) (qlW hm) (qo4 hr (by omega) i) (by omega) (by rw [qcv]; omega) i d.length i s d (zp s lo hi) y4 ((List.range (pr (zp s lo hi)).toNat).map fun (j : Nat) => pdI s d lo c i (pl (zp s lo hi) j)) lo.length [] n (by simp) (by omega)
  rw [List.length_nil,n0,List.drop_zero,List.drop_zero,List.nil_append,List.nil_append] at l2
  have hix : ix s (pl s i) = i := qnw (fun x hx => (g2 x hx).1) (by omega) (by omega)
  have hset := qmE (pr (zp s lo hi)).toNat (ix (zp s lo hi) (zAdd (pl s i) lo)).toNat (d.getD i 0) (fun (j : Nat) => pdI s d lo c i (pl (zp s lo hi) j)) (fun (j : Nat) => pdI s d lo c (i + 1) (pl (zp s lo hi) j))
   (by
    rw [show (((ix (zp s lo hi) (zAdd (pl s i) lo)).toNat : Nat) : Int) = ix (zp s lo hi) (zAdd (pl s i) lo) by omega,qmr hpo]
    unfold pdI
    rw [qiP (by rw [qcv]; omega),hix,if_pos ⟨hpi,by omega⟩,Int.toNat_natCast])
   (fun j hj hjm => by
    have hpo0 : 0 < pr (zp s lo hi) := by omega
    have hposo := qcN ho hpo0
    unfold pdI
    by_cases hc : mIn s (zSub (pl (zp s lo hi) j) lo) = true
    ·have hne : ix s (zSub (pl (zp s lo hi) j) lo) ≠ i := fun e => by
      have e1 := qmr hc
      rw [e] at e1
      have e2 : zAdd (pl s i) lo = pl (zp s lo hi) j := by rw [e1]; exact qiR (by rw [qcv,qlM l1 (qdK hm).2]; omega)
      have e3 := qnw (s := zp s lo hi) (fun x hx => ((hposo x hx).1 |> Int.le_of_lt)) (x := (j : Int)) (by omega) (by omega)
      rw [← e2] at e3
      omega
     by_cases ha : ix s (zSub (pl (zp s lo hi) j) lo) < i
     ·rw [if_pos ⟨hc,by omega⟩,if_pos ⟨hc,ha⟩]
     ·rw [if_neg (fun hh => by have := hh.2; omega),if_neg (fun hh => ha hh.2)]
    ·rw [if_neg (fun hh => hc hh.1),if_neg (fun hh => hc hh.1)])
  rw [qa3.l1,ifp,qbX hr (by omega) (by omega) k hk,obs,l2,obs,qdp _ _ k hk,obs,hz,
   ifp,if_pos (by rw [List.length_map,List.length_range]; omega),if_pos (by rw [List.length_map,List.length_range]; omega),Int.toNat_natCast,hset,qal (n := (i : Int) + 1) (by omega) (by omega),show (i : Int) + 1 = ((i + 1 : Nat) : Int) by omega]
  exact ih
theorem qls (s d lo hi : LI) (c : Int) (k : Nat) (hk : 5000 ≤ k) : qa3.f k s d lo hi c = some (if zT s d = true then (if zMay s lo hi = true then (if mSR (zp s lo hi) = true then (0,zp s lo hi,zPad s d lo hi c) else (13,[],[])) else (1,[],[])) else (13,[],[])) := by
  unfold qa3.f
  rw [qbz s d k (by omega),obs]
  by_cases h : zT s d = true
  · obtain ⟨hr,hd⟩ := qbc h
    obtain ⟨h4,hs,hpr⟩ := qak hr
    rw [if_pos h,if_pos h]
    by_cases h1 : lo.length = s.length
    · by_cases h2 : hi.length = s.length
      · have l0 := qg0 s d lo hi c hs h4 h1 h2 s.length [] k (by simp) (by omega)
        rw [List.length_nil,n0,List.drop_zero,List.drop_zero,List.drop_zero,List.nil_append] at l0
        rw [ifp,ifp,l0,obs]
        by_cases hm : zMay s lo hi = true
        · rw [if_pos hm,if_pos hm,Sum.elim_inl,qa9 _ k (by omega),obs]
          by_cases ho : mSR (zp s lo hi) = true
          · have hol := qlM h1 h2
            have hb := qak ho
            have h0 := qch fun x hx => (hb.2.1 x hx).1
            have this := qgZ h hm ho c k (by omega) (zp s lo hi) d.length 0 k (by omega) (by omega)
            rw [if_pos ho,if_pos ho,qbi _ c (by omega) k hk,obs,zSz,if_pos ho]
            rw [n0] at this
            have e : List.replicate (pr (zp s lo hi)).toNat c = (List.range (pr (zp s lo hi)).toNat).map fun (j : Nat) => pdI s d lo c 0 (pl (zp s lo hi) j) := by
              apply List.ext_getElem (by simp)
              intro j _ _
              rw [List.getElem_replicate,List.getElem_map]
              unfold pdI
              rw [if_neg (fun hh => by have := qhC hh.1; have := hh.2; omega)]
            rw [e,this]; rfl
          · rw [if_neg ho,if_neg ho]
        · rw [if_neg hm,if_neg hm,Sum.elim_inr]
      · rw [ifp,ifq,if_neg (fun hh => h2 (qdK hh).2)]
    · rw [ifq,if_neg (fun hh => h1 (qdK hh).1)]
  · rw [if_neg h,if_neg h]
end Go.Pf
