/- Own texts put together: P16, P5, P15 .. -/
import Derived.Test.YtjamdeehpblflaaGreatDoorVm1
import Derived.Shelf.Strings.Builder1
import Derived.Shelf.Strings.Builder2
import Derived.Shelf.Strings.OnBuilder
import Derived.Shelf.Strings.BuilderF
import Derived.Shelf.Strconv.Itoa0
import Derived.Shelf.Strconv.Itoa1
import Derived.Shelf.LaysM
import Derived.Shelf.Strconv.Itoa2
import Derived.Shelf.Strconv.Itoa3
import Derived.Shelf.Strconv.Itoa4
import Derived.Shelf.Strconv.ParseIntEmpty
import Derived.Shelf.Strconv.Clone
import Derived.Shelf.Strconv.SyntaxError
import Derived.Shelf.LaysC
import Derived.Shelf.Strconv.ToError
import Derived.Shelf.Strconv.Lower
import Derived.Shelf.Strconv.ParseUint10
import Derived.Shelf.Strconv.ParseUint10Empty
import Derived.Shelf.Strconv.ParseUint10Any
import Derived.Shelf.Strconv.ParseInt10
import Derived.Shelf.Strconv.RangeError
import Derived.Shelf.Strconv.ToErrorRange
import Derived.Shelf.Strconv.ParseUintEmpty
import Derived.Shelf.Strconv.ParseUint10b64
import Derived.Shelf.Strconv.ParseUint10b32
import Derived.Shelf.Strconv.ParseUint10b16
import Derived.Shelf.Strconv.ParseUint10b8
import Derived.Shelf.Strconv.ParseUint10At
import Derived.Shelf.Strconv.ParseInt10At64
import Derived.Shelf.Strconv.ParseInt10At32
import Derived.Shelf.Strconv.ParseInt10At16
import Derived.Shelf.Strconv.ParseInt10At8
import Derived.Shelf.Strconv.ParseInt10All
import Derived.Shelf.Strconv.ParseIntPublic10
import Derived.Shelf.Strconv.ErrVarParseInt
import Derived.Shelf.Slices.Clone
import Derived.Shelf.SlicesE.Clone
import Derived.Test.YtjamdeehpblflaaGreatDoorProg
namespace Go.Pf
abbrev LI := List Int
abbrev LN := Int × LI × LI × LI × Int × Int × ByteArray
abbrev ln0 : LN := (0,([],([],([],(0,(0,ByteArray.empty))))))
abbrev LT := LI × LI
theorem obs {α β : Type} (a : α) (f : α → Option β) : (some a).bind f = f a := rfl
theorem ifp {c : Prop} [Decidable c] {α : Type} {a b : α} (h : c := by omega) : (if c then a else b) = a := if_pos h
theorem ifq {c : Prop} [Decidable c] {α : Type} {a b : α} (h : ¬ c := by omega) : (if c then a else b) = b := if_neg h
theorem sun {n : Nat} (h : 0 < n := by omega) : ∃ m, n = m + 1 := ⟨n - 1,by omega⟩
end Go.Pf

set_option linter.unusedVariables false
set_option linter.unusedSimpArgs false
namespace Go.Pf
open Go
def qas.l0 : Nat → Int → LI → Int → Int → Option (Int ⊕ Bool)
 | 0,_,_,_,_ => none
 | n + 1,x3,x9,x10,x11 => if x11 < x10 then (if 0 ≤ x11 ∧ x11 < (x9.length : Int) then if x9.getD x11.toNat 0 < 0 then (some (.inr false)) else if 32 < x9.getD x11.toNat 0 then (some (.inr false)) else qas.l0 n (IntKind.i64.wrap (x3 * (x9.getD x11.toNat 0))) x9 x10 (IntKind.i64.wrap (x11 + 1)) else none) else some (.inl x3)
def qas.f (k : Nat) (a0 : LI) : Option (Bool) := if 4 < (a0.length : Int) then (some false) else (qas.l0 k 1 a0 (a0.length : Int) 0).bind fun t1 => Sum.elim (fun t1 => some (decide (t1 ≤ 4096))) (fun t1 => some t1) t1
def qax.l0 : Nat → LI → Int → Int → Int → Option (Unit ⊕ Int)
 | 0,_,_,_,_ => none
 | n + 1,x0,x1,x7,x8 => if x8 < x7 then (if 0 ≤ x8 ∧ x8 < (x0.length : Int) then if x1 = x0.getD x8.toNat 0 then (some (.inr x8)) else qax.l0 n x0 x1 x7 (IntKind.i64.wrap (x8 + 1)) else none) else some (.inl ())
def qax.f (k : Nat) (a0 : LI) (a1 : Int) : Option (Int) := (qax.l0 k a0 a1 (a0.length : Int) 0).bind fun t1 => Sum.elim (fun t1 => some (-1)) (fun t1 => some t1) t1
def qa8.f (k : Nat) (a0 : LI) (a1 : Int) : Option (Bool) := (qax.f k a0 a1).bind fun t1 => some (decide (0 ≤ t1))
end Go.Pf

namespace Go.Pf
open Go
def qaQ.f (a0 : LI) : Option (LI) := if 0 + a0.length ≤ 281474976710656 ∧ (0 + a0.length) * 8 ≤ 140737488355328 then some ([] ++ a0) else none
def qat.l1 : Nat → Int → LI → (List LI) → Int → Int → LI → Int → Int → LI → Option (Unit ⊕ Int)
 | 0,_,_,_,_,_,_,_,_,_ => none
 | n + 1,x0,x8,x33,x34,x35,x44,x45,x46,y0 => if x46 < x45 then (if 0 ≤ x46 ∧ x46 < (x44.length : Int) then if x46 = x0 then (qat.l1 n x0 x8 x33 x34 x35 x44 x45 (IntKind.i64.wrap (x46 + 1)) y0) else if 0 ≤ x46 ∧ x46 < (y0.length : Int) then if x46.toNat < y0.length then if x44.getD x46.toNat 0 = y0.getD x46.toNat 0 then (qat.l1 n x0 x8 x33 x34 x35 x44 x45 (IntKind.i64.wrap (x46 + 1)) y0) else some (.inr 13) else none else none else none) else some (.inl ())
def qat.l0 (k : Nat) : Nat → Int → (List LI) → Int → Int → LI → Option (LI ⊕ Int)
 | 0,_,_,_,_,_ => none
 | n + 1,x0,x33,x34,x35,y0 => if x35 < x34 then (if 0 ≤ x35 ∧ x35 < (x33.length : Int) then if ((x33.getD x35.toNat []).length : Int) = (y0.length : Int) then ((qat.l1 n x0 (x33.getD x35.toNat []) x33 x34 x35 (x33.getD x35.toNat []) ((x33.getD x35.toNat []).length : Int) 0 y0).bind fun t2 => Sum.elim (fun t2 => if 0 ≤ x0 ∧ x0 < (y0.length : Int) then if x0.toNat < y0.length then if 0 ≤ x0 ∧ x0 < ((x33.getD x35.toNat []).length : Int) then if 0 ≤ x0 ∧ x0 < ((y0.set x0.toNat (IntKind.i64.wrap ((y0.getD x0.toNat 0) + ((x33.getD x35.toNat []).getD x0.toNat 0)))).length : Int) then if x0.toNat < (y0.set x0.toNat (IntKind.i64.wrap ((y0.getD x0.toNat 0) + ((x33.getD x35.toNat []).getD x0.toNat 0)))).length then if 32 < (y0.set x0.toNat (IntKind.i64.wrap ((y0.getD x0.toNat 0) + ((x33.getD x35.toNat []).getD x0.toNat 0)))).getD x0.toNat 0 then (some (.inr 13)) else qat.l0 k n x0 x33 x34 (IntKind.i64.wrap (x35 + 1)) (y0.set x0.toNat (IntKind.i64.wrap ((y0.getD x0.toNat 0) + ((x33.getD x35.toNat []).getD x0.toNat 0)))) else none else none else none else none else none) (fun t2 => some (.inr t2)) t2) else some (.inr 13) else none) else some (.inl y0)
def qat.f (k : Nat) (a0 : Int) (a1 : List LI) : Option (Int × LI) := if (a1.length : Int) = 0 then (some (1,[])) else if a0 < 0 then (some (1,[])) else if (0 : Int) ≤ 0 ∧ 0 < (a1.length : Int) then if ((a1.getD 0 []).length : Int) ≤ a0 then (some (1,[])) else (qaQ.f (a1.getD 0 [])).bind fun t1 => if 0 ≤ a0 ∧ a0 < (t1.length : Int) then if a0.toNat < t1.length then (qat.l0 k k a0 a1 (a1.length : Int) 0 (t1.set a0.toNat 0)).bind fun t3 => Sum.elim (fun t3 => (qas.f k t3).bind fun t4 => if t4 = true then (some (0,t3)) else some (13,[])) (fun t3 => some (t3,[])) t3 else none else none else none
def qaV.l0 : Nat → LI → LI → Int → Int → LI → (List Bool) → Option (LI ⊕ Int)
 | 0,_,_,_,_,_,_ => none
 | n + 1,x0,x21,x22,x23,y0,y1 => if x23 < x22 then (if 0 ≤ x23 ∧ x23 < (x21.length : Int) then if x21.getD x23.toNat 0 < 0 then (some (.inr 1)) else if (x0.length : Int) ≤ x21.getD x23.toNat 0 then (some (.inr 1)) else if 0 ≤ x21.getD x23.toNat 0 ∧ x21.getD x23.toNat 0 < (y1.length : Int) then if (x21.getD x23.toNat 0).toNat < y1.length then if (y1.getD (x21.getD x23.toNat 0).toNat false) = true then (some (.inr 1)) else if 0 ≤ x21.getD x23.toNat 0 ∧ x21.getD x23.toNat 0 < (x0.length : Int) then if 0 ≤ x23 ∧ x23 < (y0.length : Int) then if x23.toNat < y0.length then qaV.l0 n x0 x21 x22 (IntKind.i64.wrap (x23 + 1)) (y0.set x23.toNat (x0.getD (x21.getD x23.toNat 0).toNat 0)) (y1.set (x21.getD x23.toNat 0).toNat true) else none else none else none else none else none else none) else some (.inl y0)
def qaV.f (k : Nat) (a0 : LI) (a1 : LI) : Option (Int × LI) := if (a1.length : Int) = (a0.length : Int) then (if 0 ≤ (a0.length : Int) ∧ (a0.length : Int) ≤ 281474976710656 ∧ ((8 : Nat) : Int) * (a0.length : Int) ≤ 140737488355328 then if 0 ≤ (a0.length : Int) ∧ (a0.length : Int) ≤ 281474976710656 ∧ ((1 : Nat) : Int) * (a0.length : Int) ≤ 140737488355328 then (qaV.l0 k a0 a1 (a1.length : Int) 0 (List.replicate (a0.length : Int).toNat (0 : Int)) (List.replicate (a0.length : Int).toNat (false : Bool))).bind fun t1 => Sum.elim (fun t1 => some (0,t1)) (fun t1 => some (t1,[])) t1 else none else none) else some (1,[])
def qaW.l0 : Nat → LI → LI → LI → Int → Int → Option (Unit ⊕ Int)
 | 0,_,_,_,_,_ => none
 | n + 1,x1,x2,x21,x22,x23 => if x23 < x22 then (if 0 ≤ x23 ∧ x23 < (x21.length : Int) then if 0 ≤ x23 ∧ x23 < (x1.length : Int) then if x1.getD x23.toNat 0 < 0 then (some (.inr 1)) else if x21.getD x23.toNat 0 < x1.getD x23.toNat 0 then (some (.inr 1)) else if 0 ≤ x23 ∧ x23 < (x2.length : Int) then if x2.getD x23.toNat 0 < 0 then (some (.inr 1)) else if IntKind.i64.wrap ((x21.getD x23.toNat 0) - (x1.getD x23.toNat 0)) < x2.getD x23.toNat 0 then (some (.inr 1)) else qaW.l0 n x1 x2 x21 x22 (IntKind.i64.wrap (x23 + 1)) else none else none else none) else some (.inl ())
def qaW.f (k : Nat) (a0 : LI) (a1 : LI) (a2 : LI) : Option (Int) := if (a1.length : Int) = (a0.length : Int) then (if (a2.length : Int) = (a0.length : Int) then ((qaW.l0 k a1 a2 a0 (a0.length : Int) 0).bind fun t1 => Sum.elim (fun t1 => some 0) (fun t1 => some t1) t1) else some 1) else some 1
def qbx.f (a0 : Int) : Option (Bool) := if 0 ≤ a0 then (some (decide (a0 ≤ 32))) else some false
def qaX.l0 : Nat → LI → LI → LI → Int → Int → LI → Option (LI ⊕ Int)
 | 0,_,_,_,_,_,_ => none
 | n + 1,x1,x2,x27,x28,x29,y0 => if x29 < x28 then (if 0 ≤ x29 ∧ x29 < (x27.length : Int) then if 0 ≤ x29 ∧ x29 < (x1.length : Int) then (qbx.f (x1.getD x29.toNat 0)).bind fun t1 => if t1 = true then (if 0 ≤ x29 ∧ x29 < (x2.length : Int) then (qbx.f (x2.getD x29.toNat 0)).bind fun t2 => if t2 = true then (if 0 ≤ x29 ∧ x29 < (y0.length : Int) then if x29.toNat < y0.length then qaX.l0 n x1 x2 x27 x28 (IntKind.i64.wrap (x29 + 1)) (y0.set x29.toNat (IntKind.i64.wrap ((IntKind.i64.wrap ((x1.getD x29.toNat 0) + (x27.getD x29.toNat 0))) + (x2.getD x29.toNat 0)))) else none else none) else some (.inr 1) else none) else some (.inr 1) else none else none) else some (.inl y0)
def qaX.f (k : Nat) (a0 : LI) (a1 : LI) (a2 : LI) : Option (Int × LI) := if (a1.length : Int) = (a0.length : Int) then (if (a2.length : Int) = (a0.length : Int) then (if 0 ≤ (a0.length : Int) ∧ (a0.length : Int) ≤ 281474976710656 ∧ ((8 : Nat) : Int) * (a0.length : Int) ≤ 140737488355328 then (qaX.l0 k a1 a2 a0 (a0.length : Int) 0 (List.replicate (a0.length : Int).toNat (0 : Int))).bind fun t3 => Sum.elim (fun t3 => (qas.f k t3).bind fun t4 => if t4 = true then (some (0,t3)) else some (13,[])) (fun t3 => some (t3,[])) t3 else none) else some (1,[])) else some (1,[])
def qaA.l0 : Nat → Int → Int → LI → Int → Int → Option (Unit ⊕ Bool)
 | 0,_,_,_,_,_ => none
 | n + 1,x1,x5,x8,x9,x10 => if x10 < x9 then (if 0 ≤ x10 ∧ x10 < (x8.length : Int) then if x8.getD x10.toNat 0 ≤ x5 then (some (.inr false)) else if x1 ≤ x8.getD x10.toNat 0 then (some (.inr false)) else qaA.l0 n x1 (x8.getD x10.toNat 0) x8 x9 (IntKind.i64.wrap (x10 + 1)) else none) else some (.inl ())
def qaA.f (k : Nat) (a0 : LI) (a1 : Int) : Option (Bool) := (qaA.l0 k a1 (-1) a0 (a0.length : Int) 0).bind fun t1 => Sum.elim (fun t1 => some true) (fun t1 => some t1) t1
def qa7.l0 : Nat → LI → LI → LI → Int → Int → Option (Unit ⊕ Int)
 | 0,_,_,_,_,_ => none
 | n + 1,x0,x1,x24,x25,x26 => if x26 < x25 then (if 0 ≤ x26 ∧ x26 < (x24.length : Int) then if 0 ≤ x24.getD x26.toNat 0 ∧ x24.getD x26.toNat 0 < (x1.length : Int) then if 0 ≤ x26 ∧ x26 < (x0.length : Int) then if x1.getD (x24.getD x26.toNat 0).toNat 0 = x0.getD x26.toNat 0 then (qa7.l0 n x0 x1 x24 x25 (IntKind.i64.wrap (x26 + 1))) else some (.inr 1) else none else none else none) else some (.inl ())
def qa7.f (k : Nat) (a0 : LI) (a1 : LI) (a2 : LI) : Option (Int) := (qas.f k a1).bind fun t1 => if t1 = true then (if (a2.length : Int) = (a0.length : Int) then ((qaA.f k a2 (a1.length : Int)).bind fun t2 => if t2 = true then ((qa7.l0 k a0 a1 a2 (a2.length : Int) 0).bind fun t3 => Sum.elim (fun t3 => some 0) (fun t3 => some t3) t3) else some 1) else some 1) else some 13
end Go.Pf

namespace Go.Pf
open Go
def qau.l0 : Nat → LI → LI → Int → Int → Option (Unit ⊕ Bool)
 | 0,_,_,_,_ => none
 | n + 1,x0,x1,x12,x13 => if x13 < x12 then (if 0 ≤ x13 ∧ x13 < (x0.length : Int) then if 0 ≤ x13 ∧ x13 < (x1.length : Int) then if x0.getD x13.toNat 0 = x1.getD x13.toNat 0 then (qau.l0 n x0 x1 x12 (IntKind.i64.wrap (x13 + 1))) else some (.inr false) else none else none) else some (.inl ())
def qau.f (k : Nat) (a0 : LI) (a1 : LI) : Option (Bool) := if (a0.length : Int) = (a1.length : Int) then ((qau.l0 k a0 a1 (a0.length : Int) 0).bind fun t1 => Sum.elim (fun t1 => some true) (fun t1 => some t1) t1) else some false
end Go.Pf

namespace Go.Pf
open Go
def qb0.f (k : Nat) (a0 : LI) (a1 : LI) : Option (Bool) := (qau.f k a0 a1).bind fun t1 => some t1
end Go.Pf

namespace Go.Pf
open Go
def qeY.l0 : Nat → LI → Int → Int → Int → Option (Unit ⊕ Bool)
 | 0,_,_,_,_ => none
 | n + 1,x0,x1,x7,x8 => if x8 < x7 then (if 0 ≤ x8 ∧ x8 < (x0.length : Int) then if x0.getD x8.toNat 0 < 0 then (some (.inr false)) else if x1 ≤ x0.getD x8.toNat 0 then (some (.inr false)) else if 0 < x8 then (if 0 ≤ IntKind.i64.wrap (x8 - 1) ∧ IntKind.i64.wrap (x8 - 1) < (x0.length : Int) then if x0.getD x8.toNat 0 ≤ x0.getD (IntKind.i64.wrap (x8 - 1)).toNat 0 then (some (.inr false)) else qeY.l0 n x0 x1 x7 (IntKind.i64.wrap (x8 + 1)) else none) else qeY.l0 n x0 x1 x7 (IntKind.i64.wrap (x8 + 1)) else none) else some (.inl ())
def qiA.l0 : Nat → LI → ByteArray → Nat → Option (LI)
 | 0,_,_,_ => none
 | n + 1,y0,y1_0,y1_1 => if y1_1 < y1_0.size then (if y0.length + [(((Utf8.decode y1_0 y1_1).1 : Nat) : Int)].length ≤ 281474976710656 ∧ (y0.length + [(((Utf8.decode y1_0 y1_1).1 : Nat) : Int)].length) * 4 ≤ 140737488355328 then qiA.l0 n (y0 ++ [(((Utf8.decode y1_0 y1_1).1 : Nat) : Int)]) y1_0 (y1_1 + (Utf8.decode y1_0 y1_1).2) else none) else some y0
def qaF.l0 : Nat → LI → ByteArray → Nat → Option (LI)
 | 0,_,_,_ => none
 | n + 1,y0,y1_0,y1_1 => if y1_1 < y1_0.size then (if y0.length + [(((Utf8.decode y1_0 y1_1).1 : Nat) : Int)].length ≤ 281474976710656 ∧ (y0.length + [(((Utf8.decode y1_0 y1_1).1 : Nat) : Int)].length) * 4 ≤ 140737488355328 then qaF.l0 n (y0 ++ [(((Utf8.decode y1_0 y1_1).1 : Nat) : Int)]) y1_0 (y1_1 + (Utf8.decode y1_0 y1_1).2) else none) else some y0
def qaF.f (k : Nat) (a0 : ByteArray) : Option (LI) := (qaF.l0 k [] a0 0).bind fun t1 => some t1
def qc1.f (a0 : Int) : Option (Bool) := if a0 = 46 then (some false) else if a0 = 45 then (some false) else if a0 = 40 then (some false) else if a0 = 41 then (some false) else if a0 = 65533 then (some false) else some (decide (33 ≤ a0))
def qak.l0 : Nat → LI → Int → Int → Int → Option (Unit ⊕ Int)
 | 0,_,_,_,_ => none
 | n + 1,x0,x1,x7,x8 => if x8 < x7 then (if 0 ≤ x8 ∧ x8 < (x0.length : Int) then if x1 = x0.getD x8.toNat 0 then (some (.inr x8)) else qak.l0 n x0 x1 x7 (IntKind.i64.wrap (x8 + 1)) else none) else some (.inl ())
def qak.f (k : Nat) (a0 : LI) (a1 : Int) : Option (Int) := (qak.l0 k a0 a1 (a0.length : Int) 0).bind fun t1 => Sum.elim (fun t1 => some (-1)) (fun t1 => some t1) t1
def qa3.f (k : Nat) (a0 : LI) (a1 : Int) : Option (Bool) := (qak.f k a0 a1).bind fun t1 => some (decide (0 ≤ t1))
def qaO.l0 (k : Nat) : Nat → Int → Int → LI → Option (Unit ⊕ Bool)
 | 0,_,_,_ => none
 | n + 1,x19,x20,y0 => if x20 < x19 then (if 0 ≤ x20 ∧ x20 < (y0.length : Int) then if x20.toNat < y0.length then (qc1.f (y0.getD x20.toNat 0)).bind fun t2 => if t2 = true then (if 0 ≤ ((0 : Nat) : Int) ∧ ((0 : Nat) : Int) ≤ x20 ∧ x20 ≤ (y0.length : Int) then (qa3.f k ((y0.take x20.toNat).drop 0) (y0.getD x20.toNat 0)).bind fun t3 => if t3 = true then (some (.inr false)) else qaO.l0 k n x19 (IntKind.i64.wrap (x20 + 1)) y0 else none) else some (.inr false) else none else none) else some (.inl ())
def qaO.f (k : Nat) (a0 : ByteArray) (a1 : Int) : Option (Bool) := (qaF.f k a0).bind fun t1 => if (t1.length : Int) = a1 then (if 3 < a1 then (some false) else (qaO.l0 k k (t1.length : Int) 0 t1).bind fun t4 => Sum.elim (fun t4 => some true) (fun t4 => some t4) t4) else some false
def qa6.l0 : Nat → Int → LI → Int → Int → LI → ByteArray → (List LN) → LI → Option (Int ⊕ Bool)
 | 0,_,_,_,_,_,_,_,_ => none
 | n + 1,x3,x11,x12,x13,y0_0,y0_1,y0_2,y0_3 => if x13 < x12 then (if 0 ≤ x13 ∧ x13 < (x11.length : Int) then if x11.getD x13.toNat 0 < 1 then (some (.inr false)) else if 8 < x11.getD x13.toNat 0 then (some (.inr false)) else qa6.l0 n (IntKind.i64.wrap (x3 * (x11.getD x13.toNat 0))) x11 x12 (IntKind.i64.wrap (x13 + 1)) y0_0 y0_1 y0_2 y0_3 else none) else some (.inl x3)
def qa6.f (k : Nat) (a0_0 : LI) (a0_1 : ByteArray) (a0_2 : List LN) (a0_3 : LI) : Option (Bool) := if 3 < (a0_0.length : Int) then (some false) else (qa6.l0 k 1 a0_0 (a0_0.length : Int) 0 a0_0 a0_1 a0_2 a0_3).bind fun t1 => Sum.elim (fun t1 => if t1 ≤ 8 then ((qaO.f k a0_1 (a0_0.length : Int)).bind fun t2 => some t2) else some false) (fun t1 => some t1) t1
def qcs.f (a0 : Int) : Option (Int × Bool × Bool × Bool × Bool × Bool × Bool) := if a0 = 1 then (some (0,false,true,false,false,false,true)) else if a0 = 2 then (some (0,false,true,false,true,false,true)) else if a0 = 3 then (some (0,false,true,true,false,false,true)) else if a0 = 4 then (some (1,false,false,false,false,false,true)) else if a0 = 5 then (some (1,false,false,false,false,false,true)) else if a0 = 6 then (some (2,false,false,false,false,false,true)) else if a0 = 7 then (some (2,false,false,false,false,false,true)) else if a0 = 8 then (some (2,false,false,false,false,false,true)) else if a0 = 9 then (some (2,false,false,false,false,false,true)) else if a0 = 10 then (some (2,false,false,false,false,false,true)) else if a0 = 11 then (some (2,false,false,false,false,false,true)) else if a0 = 12 then (some (3,false,false,false,false,false,true)) else if a0 = 13 then (some (1,false,false,true,false,false,true)) else if a0 = 15 then (some (1,false,false,true,false,false,true)) else if a0 = 14 then (some (1,false,true,true,false,false,true)) else if a0 = 16 then (some (1,false,false,true,true,false,true)) else if a0 = 17 then (some (2,true,false,true,false,false,true)) else if a0 = 18 then (some (1,false,false,true,false,true,true)) else if a0 = 20 then (some (1,false,false,true,false,true,true)) else if a0 = 19 then (some (2,false,false,true,false,false,true)) else some (0,false,false,false,false,false,false)
def qb9.f (a0_0 : Int) (a0_1 : LI) (a0_2 : LI) (a0_3 : LI) (a0_4 : Int) (a0_5 : Int) (a0_6 : ByteArray) (a1 : Int) : Option (Bool) := (qcs.f a0_0).bind fun t1 => if t1.2.2.2.2.2.2 = true then (if a1 < t1.1 then (some false) else if t1.1 < a1 then (if t1.2.1 = true then (if t1.2.2.1 = true then (if t1.2.2.2.1 = true then (if t1.2.2.2.2.1 = true then (if t1.2.2.2.2.2.1 = true then (some true) else some (decide (a0_5 = 0))) else if a0_4 = 0 then (if t1.2.2.2.2.2.1 = true then (some true) else some (decide (a0_5 = 0))) else some false) else if (a0_3.length : Int) = 0 then (if t1.2.2.2.2.1 = true then (if t1.2.2.2.2.2.1 = true then (some true) else some (decide (a0_5 = 0))) else if a0_4 = 0 then (if t1.2.2.2.2.2.1 = true then (some true) else some (decide (a0_5 = 0))) else some false) else some false) else if (a0_2.length : Int) = 0 then (if t1.2.2.2.1 = true then (if t1.2.2.2.2.1 = true then (if t1.2.2.2.2.2.1 = true then (some true) else some (decide (a0_5 = 0))) else if a0_4 = 0 then (if t1.2.2.2.2.2.1 = true then (some true) else some (decide (a0_5 = 0))) else some false) else if (a0_3.length : Int) = 0 then (if t1.2.2.2.2.1 = true then (if t1.2.2.2.2.2.1 = true then (some true) else some (decide (a0_5 = 0))) else if a0_4 = 0 then (if t1.2.2.2.2.2.1 = true then (some true) else some (decide (a0_5 = 0))) else some false) else some false) else some false) else some false) else if t1.2.2.1 = true then (if t1.2.2.2.1 = true then (if t1.2.2.2.2.1 = true then (if t1.2.2.2.2.2.1 = true then (some true) else some (decide (a0_5 = 0))) else if a0_4 = 0 then (if t1.2.2.2.2.2.1 = true then (some true) else some (decide (a0_5 = 0))) else some false) else if (a0_3.length : Int) = 0 then (if t1.2.2.2.2.1 = true then (if t1.2.2.2.2.2.1 = true then (some true) else some (decide (a0_5 = 0))) else if a0_4 = 0 then (if t1.2.2.2.2.2.1 = true then (some true) else some (decide (a0_5 = 0))) else some false) else some false) else if (a0_2.length : Int) = 0 then (if t1.2.2.2.1 = true then (if t1.2.2.2.2.1 = true then (if t1.2.2.2.2.2.1 = true then (some true) else some (decide (a0_5 = 0))) else if a0_4 = 0 then (if t1.2.2.2.2.2.1 = true then (some true) else some (decide (a0_5 = 0))) else some false) else if (a0_3.length : Int) = 0 then (if t1.2.2.2.2.1 = true then (if t1.2.2.2.2.2.1 = true then (some true) else some (decide (a0_5 = 0))) else if a0_4 = 0 then (if t1.2.2.2.2.2.1 = true then (some true) else some (decide (a0_5 = 0))) else some false) else some false) else some false) else some false
def qbZ.f (k : Nat) (a0 : LI) : Option (Bool) := (qas.f k a0).bind fun t1 => some (!t1)
def qad.l0 (k : Nat) : Nat → (List LI) → Int → Int → Option (Unit ⊕ Int)
 | 0,_,_,_ => none
 | n + 1,x0,x7,x8 => if x8 < x7 then (if 0 ≤ x8 ∧ x8 < (x0.length : Int) then (qbZ.f k (x0.getD x8.toNat [])).bind fun t1 => if t1 = true then (some (.inr x8)) else qad.l0 k n x0 x7 (IntKind.i64.wrap (x8 + 1)) else none) else some (.inl ())
def qad.f (k : Nat) (a0 : List LI) : Option (Int) := (qad.l0 k k a0 (a0.length : Int) 0).bind fun t2 => Sum.elim (fun t2 => some (-1)) (fun t2 => some t2) t2
def qai.f (k : Nat) (a0 : List LI) : Option (Bool) := (qad.f k a0).bind fun t1 => some (decide (0 ≤ t1))
def qbD.f (k : Nat) (a0_0 : Int) (a0_1 : LI) (a0_2 : LI) (a0_3 : LI) (a0_4 : Int) (a0_5 : Int) (a0_6 : ByteArray) : Option (LI × Int) := (qas.f k a0_2).bind fun t1 => if t1 = true then (if a0_0 = 3 then (if (a0_3.length : Int) = 1 then (if (0 : Int) ≤ 0 ∧ 0 < (a0_3.length : Int) then if a0_3.getD 0 0 < 0 then (some ([],1)) else if (a0_2.length : Int) ≤ a0_3.getD 0 0 then (some ([],1)) else some (a0_2,0) else none) else some ([],1)) else some (a0_2,0)) else some ([],13)
def qcr.f (k : Nat) (a0_0 : Int) (a0_1 : LI) (a0_2 : LI) (a0_3 : LI) (a0_4 : Int) (a0_5 : Int) (a0_6 : ByteArray) (a1 : LI) : Option (LI × Int) := if (a0_3.length : Int) = IntKind.i64.wrap (2 * (a1.length : Int)) then (if 0 ≤ ((0 : Nat) : Int) ∧ ((0 : Nat) : Int) ≤ (a1.length : Int) ∧ (a1.length : Int) ≤ (a0_3.length : Int) then if 0 ≤ (a1.length : Int) ∧ (a1.length : Int) ≤ (a0_3.length : Int) ∧ (a0_3.length : Int) ≤ (a0_3.length : Int) then if a0_0 = 15 then ((qaW.f k a1 ((a0_3.take (a1.length : Int).toNat).drop 0) ((a0_3.take a0_3.length).drop (a1.length : Int).toNat)).bind fun t1 => some ((a0_3.take a0_3.length).drop (a1.length : Int).toNat,t1)) else (qaX.f k a1 ((a0_3.take (a1.length : Int).toNat).drop 0) ((a0_3.take a0_3.length).drop (a1.length : Int).toNat)).bind fun t2 => some (t2.2,t2.1) else none else none) else some ([],1)
def qbs.f (a1 : Int) : Option (LI) := if a1 < 0 then (none) else if 0 < IntKind.i64.wrap (a1 - (IntKind.i64.wrap (0 - 0))) then (if ((0 : Nat) : Int) = 0 ∧ 0 = 0 then if 1 ≤ IntKind.i64.wrap (a1 - (IntKind.i64.wrap (0 - 0))) ∧ IntKind.i64.wrap (a1 - (IntKind.i64.wrap (0 - 0))) ≤ 281474976710656 ∧ ((8 : Nat) : Int) * (IntKind.i64.wrap (a1 - (IntKind.i64.wrap (0 - 0)))) ≤ 140737488355328 then if 0 ≤ ((0 : Nat) : Int) ∧ ((0 : Nat) : Int) ≤ 0 ∧ 0 ≤ ((List.replicate (IntKind.i64.wrap (a1 - (IntKind.i64.wrap (0 - 0)))).toNat (0 : Int)).length : Int) then some ((List.replicate (IntKind.i64.wrap (a1 - (IntKind.i64.wrap (0 - 0)))).toNat (0 : Int)).take 0) else none else none else none) else some []
def qaf.l0 : Nat → (List LI) → Int → (List LI) → Int → Int → Option (Int)
 | 0,_,_,_,_,_ => none
 | n + 1,x0,x3,x9,x10,x11 => if x11 < x10 then (if 0 ≤ x11 ∧ x11 < (x9.length : Int) then if IntKind.i64.wrap (x3 + ((x9.getD x11.toNat []).length : Int)) < 0 then (none) else qaf.l0 n x0 (IntKind.i64.wrap (x3 + ((x9.getD x11.toNat []).length : Int))) x9 x10 (IntKind.i64.wrap (x11 + 1)) else none) else some x3
def qaf.l1 : Nat → (List LI) → Int → Int → LI → Option (LI)
 | 0,_,_,_,_ => none
 | n + 1,x25,x26,x27,y0 => if x27 < x26 then (if 0 ≤ x27 ∧ x27 < (x25.length : Int) then if y0.length + (x25.getD x27.toNat []).length ≤ 281474976710656 ∧ (y0.length + (x25.getD x27.toNat []).length) * 8 ≤ 140737488355328 then qaf.l1 n x25 x26 (IntKind.i64.wrap (x27 + 1)) (y0 ++ (x25.getD x27.toNat [])) else none else none) else some y0
def qaf.f (k : Nat) (a0 : List LI) : Option (LI) := (qaf.l0 k a0 0 a0 (a0.length : Int) 0).bind fun t1 => (qbs.f t1).bind fun t2 => (qaf.l1 k a0 (a0.length : Int) 0 t2).bind fun t3 => some t3
def qc7.f (k : Nat) (a0 : LI) (a1 : LI) (a2 : Int) : Option (Int × LI) := if a2 < 0 then (some (1,[])) else if (a0.length : Int) ≤ a2 then (some (1,[])) else if (a1.length : Int) ≤ a2 then (some (1,[])) else (qas.f k a0).bind fun t1 => if t1 = true then ((qas.f k a1).bind fun t2 => if t2 = true then (if 0 ≤ ((0 : Nat) : Int) ∧ ((0 : Nat) : Int) ≤ a2 ∧ a2 ≤ (a0.length : Int) then if 0 ≤ ((0 : Nat) : Int) ∧ ((0 : Nat) : Int) ≤ a2 ∧ a2 ≤ (a1.length : Int) then (qb0.f k ((a0.take a2.toNat).drop 0) ((a1.take a2.toNat).drop 0)).bind fun t3 => if t3 = true then (if 0 ≤ IntKind.i64.wrap ((a0.length : Int) - 1) ∧ IntKind.i64.wrap ((a0.length : Int) - 1) < (a0.length : Int) then if 0 ≤ a2 ∧ a2 < (a1.length : Int) then if a0.getD (IntKind.i64.wrap ((a0.length : Int) - 1)).toNat 0 = a1.getD a2.toNat 0 then (if 0 ≤ ((0 : Nat) : Int) ∧ ((0 : Nat) : Int) ≤ IntKind.i64.wrap ((a0.length : Int) - 1) ∧ IntKind.i64.wrap ((a0.length : Int) - 1) ≤ (a0.length : Int) then if 0 ≤ IntKind.i64.wrap (a2 + 1) ∧ IntKind.i64.wrap (a2 + 1) ≤ (a1.length : Int) ∧ (a1.length : Int) ≤ (a1.length : Int) then (qaf.f k [(a0.take (IntKind.i64.wrap ((a0.length : Int) - 1)).toNat).drop 0,(a1.take a1.length).drop (IntKind.i64.wrap (a2 + 1)).toNat]).bind fun t4 => (qas.f k t4).bind fun t5 => if t5 = true then (some (0,t4)) else some (13,[]) else none else none) else some (13,[]) else none else none) else some (13,[]) else none else none) else some (13,[])) else some (13,[])
def qb2.f (a0 : Int) : Option (Bool) := if 1 ≤ a0 then (some (decide (a0 ≤ 4))) else some false
def qa0.l0 : Nat → LI → LI → Int → Int → LI → Option (LI)
 | 0,_,_,_,_,_ => none
 | n + 1,x1,x14,x15,x16,y0 => if x16 < x15 then (if 0 ≤ x16 ∧ x16 < (x14.length : Int) then if 0 < (x1.length : Int) then (if (0 : Int) ≤ 0 ∧ 0 < (x1.length : Int) then if x1.getD 0 0 = x16 then (if (0 : Int) ≤ 1 ∧ 1 ≤ (x1.length : Int) ∧ (x1.length : Int) ≤ (x1.length : Int) then qa0.l0 n ((x1.take x1.length).drop 1) x14 x15 (IntKind.i64.wrap (x16 + 1)) y0 else none) else if y0.length + [x14.getD x16.toNat 0].length ≤ 281474976710656 ∧ (y0.length + [x14.getD x16.toNat 0].length) * 8 ≤ 140737488355328 then qa0.l0 n x1 x14 x15 (IntKind.i64.wrap (x16 + 1)) (y0 ++ [x14.getD x16.toNat 0]) else none else none) else if y0.length + [x14.getD x16.toNat 0].length ≤ 281474976710656 ∧ (y0.length + [x14.getD x16.toNat 0].length) * 8 ≤ 140737488355328 then qa0.l0 n x1 x14 x15 (IntKind.i64.wrap (x16 + 1)) (y0 ++ [x14.getD x16.toNat 0]) else none else none) else some y0
def qa0.f (k : Nat) (a0 : LI) (a1 : LI) : Option (Int × LI) := (qaA.f k a1 (a0.length : Int)).bind fun t1 => if t1 = true then ((qa0.l0 k a1 a0 (a0.length : Int) 0 []).bind fun t2 => some (0,t2)) else some (1,[])
def qci.f (k : Nat) (a0_0 : Int) (a0_1 : LI) (a0_2 : LI) (a0_3 : LI) (a0_4 : Int) (a0_5 : Int) (a0_6 : ByteArray) (a1 : LI) : Option (Int × LI) := (qb2.f a0_5).bind fun t1 => if t1 = true then ((qa0.f k a1 a0_3).bind fun t2 => if t2.1 = 0 then ((qas.f k t2.2).bind fun t3 => if t3 = true then (some (t2.1,t2.2)) else some (13,t2.2)) else some (t2.1,t2.2)) else some (1,[])
def qbE.f (a0 : Int) : Option (Bool) := if 1 ≤ a0 then (some (decide (a0 ≤ 32))) else some false
def qco.f (a0 : Int) (a1 : Int) (a2 : Int) : Option (Bool) := (qb2.f a0).bind fun t1 => if t1 = true then ((qbE.f a1).bind fun t2 => if t2 = true then ((qbE.f a2).bind fun t3 => some t3) else some false) else some false
def qcn.f (a0 : Int) (a1 : Int) (a2 : Int) : Option (Int) := if a0 < 0 then (some 0) else if a1 < 1 then (some 0) else if a2 < 1 then (some 0) else if a0 < a1 then (some 0) else if a2 ≠ 0 then some (IntKind.i64.wrap ((IntKind.i64.wrap ((IntKind.i64.wrap (a0 - a1)).tdiv a2)) + 1)) else none
def qcG.f (a0_0 : Int) (a0_1 : LI) (a0_2 : LI) (a0_3 : LI) (a0_4 : Int) (a0_5 : Int) (a0_6 : ByteArray) (a1 : LI) : Option (Int × LI) := if (a0_3.length : Int) = 3 then (if (0 : Int) ≤ 1 ∧ 1 < (a0_3.length : Int) then if (0 : Int) ≤ 2 ∧ 2 < (a0_3.length : Int) then (qco.f a0_5 (a0_3.getD 1 0) (a0_3.getD 2 0)).bind fun t1 => if t1 = true then (if (0 : Int) ≤ 0 ∧ 0 < (a0_3.length : Int) then if a0_3.getD 0 0 < 0 then (some (1,[])) else if (a1.length : Int) ≤ a0_3.getD 0 0 then (some (1,[])) else (qaQ.f a1).bind fun t2 => if 0 ≤ a0_3.getD 0 0 ∧ a0_3.getD 0 0 < (a1.length : Int) then (qcn.f (a1.getD (a0_3.getD 0 0).toNat 0) (a0_3.getD 1 0) (a0_3.getD 2 0)).bind fun t3 => if 0 ≤ a0_3.getD 0 0 ∧ a0_3.getD 0 0 < (t2.length : Int) then if (a0_3.getD 0 0).toNat < t2.length then some (0,t2.set (a0_3.getD 0 0).toNat t3) else none else none else none else none) else some (1,[]) else none else none) else some (1,[])
def qbY.f (k : Nat) (a0 : LI) (o0 : List LI) : Option (Bool) := if (0 : Int) ≤ 0 ∧ 0 < (o0.length : Int) then (qb0.f k a0 (o0.getD 0 [])).bind fun t1 => some (!t1) else none
def qac.l0 (k : Nat) : Nat → (List LI) → Int → Int → (List LI) → Option (Unit ⊕ Int)
 | 0,_,_,_,_ => none
 | n + 1,x0,x7,x8,y0 => if x8 < x7 then (if 0 ≤ x8 ∧ x8 < (x0.length : Int) then (qbY.f k (x0.getD x8.toNat []) y0).bind fun t1 => if t1 = true then (some (.inr x8)) else qac.l0 k n x0 x7 (IntKind.i64.wrap (x8 + 1)) y0 else none) else some (.inl ())
def qac.f (k : Nat) (a0 : List LI) (o0 : List LI) : Option (Int) := (qac.l0 k k a0 (a0.length : Int) 0 o0).bind fun t2 => Sum.elim (fun t2 => some (-1)) (fun t2 => some t2) t2
def qap.f (k : Nat) (a0 : List LI) (o0 : List LI) : Option (Bool) := (qac.f k a0 o0).bind fun t1 => some (decide (0 ≤ t1))
def qca.f (k : Nat) (a0 : List LI) : Option (LI × Int) := (qap.f k a0 a0).bind fun t1 => if t1 = true then (some ([],13)) else if (0 : Int) ≤ 0 ∧ 0 < (a0.length : Int) then some (a0.getD 0 [],0) else none
def qav.f (k : Nat) (a0_0 : Int) (a0_1 : LI) (a0_2 : LI) (a0_3 : LI) (a0_4 : Int) (a0_5 : Int) (a0_6 : ByteArray) (a1 : List LI) : Option (LI × Int) := if a0_0 = 1 then ((qbD.f k a0_0 a0_1 a0_2 a0_3 a0_4 a0_5 a0_6).bind fun t1 => some (t1.1,t1.2)) else if a0_0 = 2 then ((qbD.f k a0_0 a0_1 a0_2 a0_3 a0_4 a0_5 a0_6).bind fun t2 => some (t2.1,t2.2)) else if a0_0 = 3 then ((qbD.f k a0_0 a0_1 a0_2 a0_3 a0_4 a0_5 a0_6).bind fun t3 => some (t3.1,t3.2)) else if a0_0 = 13 then (if (0 : Int) ≤ 0 ∧ 0 < (a1.length : Int) then (qaV.f k (a1.getD 0 []) a0_3).bind fun t4 => some (t4.2,t4.1) else none) else if a0_0 = 14 then (if (0 : Int) ≤ 0 ∧ 0 < (a1.length : Int) then (qa7.f k (a1.getD 0 []) a0_2 a0_3).bind fun t5 => some (a0_2,t5) else none) else if a0_0 = 15 then (if (0 : Int) ≤ 0 ∧ 0 < (a1.length : Int) then (qcr.f k a0_0 a0_1 a0_2 a0_3 a0_4 a0_5 a0_6 (a1.getD 0 [])).bind fun t6 => some (t6.1,t6.2) else none) else if a0_0 = 16 then (if (0 : Int) ≤ 0 ∧ 0 < (a1.length : Int) then (qcr.f k a0_0 a0_1 a0_2 a0_3 a0_4 a0_5 a0_6 (a1.getD 0 [])).bind fun t7 => some (t7.1,t7.2) else none) else if a0_0 = 17 then (if (a0_3.length : Int) = 1 then (if (0 : Int) ≤ 0 ∧ 0 < (a0_3.length : Int) then (qat.f k (a0_3.getD 0 0) a1).bind fun t8 => some (t8.2,t8.1) else none) else some ([],1)) else if a0_0 = 19 then (if (a0_3.length : Int) = 1 then (if (0 : Int) ≤ 0 ∧ 0 < (a1.length : Int) then if (0 : Int) ≤ 1 ∧ 1 < (a1.length : Int) then if (0 : Int) ≤ 0 ∧ 0 < (a0_3.length : Int) then (qc7.f k (a1.getD 0 []) (a1.getD 1 []) (a0_3.getD 0 0)).bind fun t9 => some (t9.2,t9.1) else none else none else none) else some ([],1)) else if a0_0 = 18 then (if (0 : Int) ≤ 0 ∧ 0 < (a1.length : Int) then (qci.f k a0_0 a0_1 a0_2 a0_3 a0_4 a0_5 a0_6 (a1.getD 0 [])).bind fun t10 => some (t10.2,t10.1) else none) else if a0_0 = 20 then (if (0 : Int) ≤ 0 ∧ 0 < (a1.length : Int) then (qcG.f a0_0 a0_1 a0_2 a0_3 a0_4 a0_5 a0_6 (a1.getD 0 [])).bind fun t11 => some (t11.2,t11.1) else none) else (qca.f k a1).bind fun t12 => some (t12.1,t12.2)
def qcb.f (k : Nat) (a0_0 : Int) (a0_1 : LI) (a0_2 : LI) (a0_3 : LI) (a0_4 : Int) (a0_5 : Int) (a0_6 : ByteArray) (a1 : List LI) : Option (Int × LI) := (qb9.f a0_0 a0_1 a0_2 a0_3 a0_4 a0_5 a0_6 (a1.length : Int)).bind fun t1 => if t1 = true then ((qai.f k a1).bind fun t2 => if t2 = true then (some (13,[])) else (qav.f k a0_0 a0_1 a0_2 a0_3 a0_4 a0_5 a0_6 a1).bind fun t3 => if t3.2 = 0 then ((qaQ.f t3.1).bind fun t4 => some (0,t4)) else some (t3.2,[])) else some (1,[])
def qcq.f (k : Nat) (a0 : ByteArray) (a1 : Int) : Option (Int) := (qaF.f k a0).bind fun t1 => (qak.f k t1 a1).bind fun t2 => some t2
def qaP.l0 (k : Nat) : Nat → ByteArray → Int → Int → Int → LI → LI → Option (LI ⊕ (Bool × Int))
 | 0,_,_,_,_,_,_ => none
 | n + 1,x0,x2,x20,x21,y0,y1 => if x21 < x20 then (if 0 ≤ x21 ∧ x21 < (y1.length : Int) then if x21.toNat < y1.length then (qcq.f k x0 (y1.getD x21.toNat 0)).bind fun t2 => if y1.getD x21.toNat 0 = 32 then (qaP.l0 k n x0 x2 x20 (IntKind.i64.wrap (x21 + 1)) y0 y1) else if y1.getD x21.toNat 0 = 46 then (if y0.length + ([-1] : LI).length ≤ 281474976710656 ∧ (y0.length + ([-1] : LI).length) * 8 ≤ 140737488355328 then qaP.l0 k n x0 x2 x20 (IntKind.i64.wrap (x21 + 1)) (y0 ++ ([-1] : LI)) y1 else none) else if t2 < 0 then (some (.inr (false,14))) else (qa8.f k y0 t2).bind fun t3 => if t3 = true then (some (.inr (false,14))) else if y0.length + [t2].length ≤ 281474976710656 ∧ (y0.length + [t2].length) * 8 ≤ 140737488355328 then qaP.l0 k n x0 x2 x20 (IntKind.i64.wrap (x21 + 1)) (y0 ++ [t2]) y1 else none else none else none) else some (.inl y0)
def qaP.f (k : Nat) (a0 : ByteArray) (a1 : ByteArray) (a2 : Int) : Option (Bool × Int × LI) := (qaF.f k a1).bind fun t1 => if 16 < (t1.length : Int) then (some (false,14,[])) else (qaP.l0 k k a0 a2 (t1.length : Int) 0 [] t1).bind fun t4 => Sum.elim (fun t4 => if (t4.length : Int) = 0 then (some (false,0,[])) else if (t4.length : Int) = a2 then (some (true,0,t4)) else some (false,14,[])) (fun t4 => some (t4.1,t4.2,[])) t4
def qa1.l0 : Nat → (List LI) → LI → Int → Int → LI → ByteArray → (List LN) → LI → Int → LI → LI → LI → Int → Int → ByteArray → (List LI) → Option ((List LI) ⊕ Int)
 | 0,_,_,_,_,_,_,_,_,_,_,_,_,_,_,_,_ => none
 | n + 1,x2,x14,x15,x16,y0_0,y0_1,y0_2,y0_3,y1_0,y1_1,y1_2,y1_3,y1_4,y1_5,y1_6,y2 => if x16 < x15 then (if 0 ≤ x16 ∧ x16 < (x14.length : Int) then if x14.getD x16.toNat 0 < 0 then (some (.inr 23)) else if (x2.length : Int) ≤ x14.getD x16.toNat 0 then (some (.inr 23)) else if 0 ≤ x14.getD x16.toNat 0 ∧ x14.getD x16.toNat 0 < (x2.length : Int) then if y2.length + [x2.getD (x14.getD x16.toNat 0).toNat []].length ≤ 281474976710656 ∧ (y2.length + [x2.getD (x14.getD x16.toNat 0).toNat []].length) * 24 ≤ 140737488355328 then qa1.l0 n x2 x14 x15 (IntKind.i64.wrap (x16 + 1)) y0_0 y0_1 y0_2 y0_3 y1_0 y1_1 y1_2 y1_3 y1_4 y1_5 y1_6 (y2 ++ [x2.getD (x14.getD x16.toNat 0).toNat []]) else none else none else none) else some (.inl y2)
def qa1.f (k : Nat) (a0_0 : LI) (a0_1 : ByteArray) (a0_2 : List LN) (a0_3 : LI) (a1_0 : Int) (a1_1 : LI) (a1_2 : LI) (a1_3 : LI) (a1_4 : Int) (a1_5 : Int) (a1_6 : ByteArray) (a2 : List LI) : Option (Int × LI) := (qa1.l0 k a2 a1_1 (a1_1.length : Int) 0 a0_0 a0_1 a0_2 a0_3 a1_0 a1_1 a1_2 a1_3 a1_4 a1_5 a1_6 []).bind fun t1 => Sum.elim (fun t1 => (qcb.f k a1_0 a1_1 a1_2 a1_3 a1_4 a1_5 a1_6 t1).bind fun t2 => if t2.1 = 0 then ((qaP.f k a0_1 a1_6 (t2.2.length : Int)).bind fun t3 => some (t3.2.1,t2.2)) else some (t2.1,[])) (fun t1 => some (t1,[])) t1
def qbA.f (a0 : Int) (o1 : List LI) : Option (Bool) := if a0 < 0 then (some true) else some (decide ((o1.length : Int) ≤ a0))
def qae.l0 : Nat → LI → Int → Int → (List LI) → Option (Unit ⊕ Int)
 | 0,_,_,_,_ => none
 | n + 1,x0,x7,x8,y1 => if x8 < x7 then (if 0 ≤ x8 ∧ x8 < (x0.length : Int) then (qbA.f (x0.getD x8.toNat 0) y1).bind fun t1 => if t1 = true then (some (.inr x8)) else qae.l0 n x0 x7 (IntKind.i64.wrap (x8 + 1)) y1 else none) else some (.inl ())
def qae.f (k : Nat) (a0 : LI) (o1 : List LI) : Option (Int) := (qae.l0 k a0 (a0.length : Int) 0 o1).bind fun t2 => Sum.elim (fun t2 => some (-1)) (fun t2 => some t2) t2
def qaj.f (k : Nat) (a0 : LI) (o1 : List LI) : Option (Bool) := (qae.f k a0 o1).bind fun t1 => some (decide (0 ≤ t1))
def qaG.l0 (k : Nat) : Nat → (List LN) → Int → Int → LI → ByteArray → (List LN) → LI → (List LI) → Option ((List LI) ⊕ Int)
 | 0,_,_,_,_,_,_,_,_ => none
 | n + 1,x25,x26,x27,y0_0,y0_1,y0_2,y0_3,y2 => if x27 < x26 then (if 0 ≤ x27 ∧ x27 < (x25.length : Int) then (qa1.f k y0_0 y0_1 y0_2 y0_3 (x25.getD x27.toNat ln0).1 (x25.getD x27.toNat ln0).2.1 (x25.getD x27.toNat ln0).2.2.1 (x25.getD x27.toNat ln0).2.2.2.1 (x25.getD x27.toNat ln0).2.2.2.2.1 (x25.getD x27.toNat ln0).2.2.2.2.2.1 (x25.getD x27.toNat ln0).2.2.2.2.2.2 y2).bind fun t2 => if t2.1 = 0 then (if y2.length + [t2.2].length ≤ 281474976710656 ∧ (y2.length + [t2.2].length) * 24 ≤ 140737488355328 then qaG.l0 k n x25 x26 (IntKind.i64.wrap (x27 + 1)) y0_0 y0_1 y0_2 y0_3 (y2 ++ [t2.2]) else none) else some (.inr t2.1) else none) else some (.inl y2)
def qaG.f (k : Nat) (a0_0 : LI) (a0_1 : ByteArray) (a0_2 : List LN) (a0_3 : LI) : Option (Int × (List LI)) := (qa6.f k a0_0 a0_1 a0_2 a0_3).bind fun t1 => if t1 = true then (if 48 < (a0_2.length : Int) then (some (3,[])) else if 48 < (a0_3.length : Int) then (some (3,[])) else (qaG.l0 k k a0_2 (a0_2.length : Int) 0 a0_0 a0_1 a0_2 a0_3 []).bind fun t3 => Sum.elim (fun t3 => (qaj.f k a0_3 t3).bind fun t4 => if t4 = true then (some (23,[])) else some (0,t3)) (fun t3 => some (t3,[])) t3) else some (15,[])
def qcc.f (k : Nat) (a0_0 : LI) (a0_1 : ByteArray) (a0_2 : List LN) (a0_3 : LI) : Option (Int) := (qaG.f k a0_0 a0_1 a0_2 a0_3).bind fun t1 => some t1.1
end Go.Pf

namespace Go.Pf
open Go
def qbl.f (a0 : ByteArray) : Option (ByteArray) := if (a0.toList == ByteArray.empty.toList) = true then (some (ByteArray.mk #[45])) else some a0
def qbr.f (a0 : Int) : Option (ByteArray) := (strconv_FormatInt.f a0 10).bind fun t1 => some t1
def qaD.l0 : Nat → LI → Int → Int → (List ByteArray) → Option ((List ByteArray))
 | 0,_,_,_,_ => none
 | n + 1,x6,x7,x8,y0 => if x8 < x7 then (if 0 ≤ x8 ∧ x8 < (x6.length : Int) then (qbr.f (x6.getD x8.toNat 0)).bind fun t1 => if y0.length + [t1].length ≤ 281474976710656 ∧ (y0.length + [t1].length) * 16 ≤ 140737488355328 then qaD.l0 n x6 x7 (IntKind.i64.wrap (x8 + 1)) (y0 ++ [t1]) else none else none) else some y0
def qaD.f (k : Nat) (a0 : LI) : Option ((List ByteArray)) := (qaD.l0 k a0 (a0.length : Int) 0 []).bind fun t2 => some t2
def qcm.f (a0 : Int) : Option (ByteArray) := if a0 < 1 then (some ByteArray.empty) else if 20 < a0 then (some ByteArray.empty) else if 0 ≤ IntKind.i64.wrap (a0 - 1) ∧ IntKind.i64.wrap (a0 - 1) < ([(ByteArray.mk #[112,97,114,97,109]),(ByteArray.mk #[102,105,108,108]),(ByteArray.mk #[105,111,116,97]),(ByteArray.mk #[110,101,103]),(ByteArray.mk #[110,111,116]),(ByteArray.mk #[97,100,100]),(ByteArray.mk #[115,117,98]),(ByteArray.mk #[109,117,108]),(ByteArray.mk #[109,105,110]),(ByteArray.mk #[109,97,120]),(ByteArray.mk #[108,101,115,115]),(ByteArray.mk #[115,101,108,101,99,116]),(ByteArray.mk #[116,117,114,110]),(ByteArray.mk #[115,112,114,101,97,100]),(ByteArray.mk #[115,108,105,99,101]),(ByteArray.mk #[112,97,100]),(ByteArray.mk #[106,111,105,110]),(ByteArray.mk #[102,111,108,100]),(ByteArray.mk #[100,111,116]),(ByteArray.mk #[119,105,110,100,111,119])].length : Int) then if (IntKind.i64.wrap (a0 - 1)).toNat < [(ByteArray.mk #[112,97,114,97,109]),(ByteArray.mk #[102,105,108,108]),(ByteArray.mk #[105,111,116,97]),(ByteArray.mk #[110,101,103]),(ByteArray.mk #[110,111,116]),(ByteArray.mk #[97,100,100]),(ByteArray.mk #[115,117,98]),(ByteArray.mk #[109,117,108]),(ByteArray.mk #[109,105,110]),(ByteArray.mk #[109,97,120]),(ByteArray.mk #[108,101,115,115]),(ByteArray.mk #[115,101,108,101,99,116]),(ByteArray.mk #[116,117,114,110]),(ByteArray.mk #[115,112,114,101,97,100]),(ByteArray.mk #[115,108,105,99,101]),(ByteArray.mk #[112,97,100]),(ByteArray.mk #[106,111,105,110]),(ByteArray.mk #[102,111,108,100]),(ByteArray.mk #[100,111,116]),(ByteArray.mk #[119,105,110,100,111,119])].length then some ([(ByteArray.mk #[112,97,114,97,109]),(ByteArray.mk #[102,105,108,108]),(ByteArray.mk #[105,111,116,97]),(ByteArray.mk #[110,101,103]),(ByteArray.mk #[110,111,116]),(ByteArray.mk #[97,100,100]),(ByteArray.mk #[115,117,98]),(ByteArray.mk #[109,117,108]),(ByteArray.mk #[109,105,110]),(ByteArray.mk #[109,97,120]),(ByteArray.mk #[108,101,115,115]),(ByteArray.mk #[115,101,108,101,99,116]),(ByteArray.mk #[116,117,114,110]),(ByteArray.mk #[115,112,114,101,97,100]),(ByteArray.mk #[115,108,105,99,101]),(ByteArray.mk #[112,97,100]),(ByteArray.mk #[106,111,105,110]),(ByteArray.mk #[102,111,108,100]),(ByteArray.mk #[100,111,116]),(ByteArray.mk #[119,105,110,100,111,119])].getD (IntKind.i64.wrap (a0 - 1)).toNat ByteArray.empty) else none else none
def qaU.l0 : Nat → LI → Int → Int → LI → LI → Option (LI)
 | 0,_,_,_,_,_ => none
 | n + 1,x11,x12,x13,y0,y1 => if x13 < x12 then (if 0 ≤ x13 ∧ x13 < (x11.length : Int) then if 0 ≤ x11.getD x13.toNat 0 then (if x11.getD x13.toNat 0 < (y0.length : Int) then (if 0 ≤ x11.getD x13.toNat 0 ∧ x11.getD x13.toNat 0 < (y0.length : Int) then if (x11.getD x13.toNat 0).toNat < y0.length then if y1.length + [y0.getD (x11.getD x13.toNat 0).toNat 0].length ≤ 281474976710656 ∧ (y1.length + [y0.getD (x11.getD x13.toNat 0).toNat 0].length) * 4 ≤ 140737488355328 then qaU.l0 n x11 x12 (IntKind.i64.wrap (x13 + 1)) y0 (y1 ++ [y0.getD (x11.getD x13.toNat 0).toNat 0]) else none else none else none) else if y1.length + ([46] : LI).length ≤ 281474976710656 ∧ (y1.length + ([46] : LI).length) * 4 ≤ 140737488355328 then qaU.l0 n x11 x12 (IntKind.i64.wrap (x13 + 1)) y0 (y1 ++ ([46] : LI)) else none) else if y1.length + ([46] : LI).length ≤ 281474976710656 ∧ (y1.length + ([46] : LI).length) * 4 ≤ 140737488355328 then qaU.l0 n x11 x12 (IntKind.i64.wrap (x13 + 1)) y0 (y1 ++ ([46] : LI)) else none else none) else some y1
def qaU.f (k : Nat) (a0 : ByteArray) (a1 : LI) : Option (ByteArray) := (qaF.f k a0).bind fun t1 => (qaU.l0 k a1 (a1.length : Int) 0 t1 []).bind fun t2 => some (runesBytes t2)
def qbb.l0 (k : Nat) : Nat → Int → Int → Int → LI → ByteArray → (List LN) → LI → Int → LI → LI → LI → Int → Int → ByteArray → (List ByteArray) → (List LI) → Option ((List ByteArray))
 | 0,_,_,_,_,_,_,_,_,_,_,_,_,_,_,_,_ => none
 | n + 1,x2,x24,x25,y0_0,y0_1,y0_2,y0_3,y1_0,y1_1,y1_2,y1_3,y1_4,y1_5,y1_6,y2,y3 => if x25 < x24 then (if 0 ≤ x25 ∧ x25 < (y3.length : Int) then if x25.toNat < y3.length then if y2.length + [(ByteArray.mk #[40])].length ≤ 281474976710656 ∧ (y2.length + [(ByteArray.mk #[40])].length) * 16 ≤ 140737488355328 then (qaD.f k (y3.getD x25.toNat [])).bind fun t2 => if (y2 ++ [(ByteArray.mk #[40])]).length + t2.length ≤ 281474976710656 ∧ ((y2 ++ [(ByteArray.mk #[40])]).length + t2.length) * 16 ≤ 140737488355328 then if ((y2 ++ [(ByteArray.mk #[40])]) ++ t2).length + [(ByteArray.mk #[41])].length ≤ 281474976710656 ∧ (((y2 ++ [(ByteArray.mk #[40])]) ++ t2).length + [(ByteArray.mk #[41])].length) * 16 ≤ 140737488355328 then qbb.l0 k n x2 x24 (IntKind.i64.wrap (x25 + 1)) y0_0 y0_1 y0_2 y0_3 y1_0 y1_1 y1_2 y1_3 y1_4 y1_5 y1_6 (((y2 ++ [(ByteArray.mk #[40])]) ++ t2) ++ [(ByteArray.mk #[41])]) y3 else none else none else none else none else none) else some y2
def qbb.f (k : Nat) (a0_0 : LI) (a0_1 : ByteArray) (a0_2 : List LN) (a0_3 : LI) (a1_0 : Int) (a1_1 : LI) (a1_2 : LI) (a1_3 : LI) (a1_4 : Int) (a1_5 : Int) (a1_6 : ByteArray) (a2 : Int) : Option ((List ByteArray)) := (qcm.f a1_0).bind fun t1 => (qbb.l0 k k a2 ([a1_1,a1_2,a1_3].length : Int) 0 a0_0 a0_1 a0_2 a0_3 a1_0 a1_1 a1_2 a1_3 a1_4 a1_5 a1_6 [t1] [a1_1,a1_2,a1_3]).bind fun t3 => (qaP.f k a0_1 a1_6 a2).bind fun t4 => (qbr.f a1_4).bind fun t5 => (qbr.f a1_5).bind fun t6 => (qaU.f k a0_1 t4.2.2).bind fun t7 => (qbl.f t7).bind fun t8 => if t3.length + [t5,t6,t8].length ≤ 281474976710656 ∧ (t3.length + [t5,t6,t8].length) * 16 ≤ 140737488355328 then some (t3 ++ [t5,t6,t8]) else none
def qam.f (a1 : ByteArray) (o1 : LI) : Option (Int × LI) := (qby.f).bind fun t1 => if o1.length + (a1.data.toList.map fun b => (b.toNat : Int)).length ≤ 281474976710656 ∧ (o1.length + (a1.data.toList.map fun b => (b.toNat : Int)).length) * 1 ≤ 140737488355328 then some ((a1.size : Int),o1 ++ (a1.data.toList.map fun b => (b.toNat : Int))) else none
def qaT.f (o1 : LI) : Option (Int) := some (o1.length : Int)
def qaE.l0 (k : Nat) : Nat → (List LN) → Int → Int → LI → ByteArray → (List LN) → LI → (List LI) → (List (List ByteArray)) → Option ((List (List ByteArray)))
 | 0,_,_,_,_,_,_,_,_,_ => none
 | n + 1,x30,x31,x32,y0_0,y0_1,y0_2,y0_3,y1,y2 => if x32 < x31 then (if 0 ≤ x32 ∧ x32 < (x30.length : Int) then if 0 ≤ x32 ∧ x32 < (y1.length : Int) then if x32.toNat < y1.length then (qbb.f k y0_0 y0_1 y0_2 y0_3 (x30.getD x32.toNat ln0).1 (x30.getD x32.toNat ln0).2.1 (x30.getD x32.toNat ln0).2.2.1 (x30.getD x32.toNat ln0).2.2.2.1 (x30.getD x32.toNat ln0).2.2.2.2.1 (x30.getD x32.toNat ln0).2.2.2.2.2.1 (x30.getD x32.toNat ln0).2.2.2.2.2.2 ((y1.getD x32.toNat []).length : Int)).bind fun t4 => if y2.length + [t4].length ≤ 281474976710656 ∧ (y2.length + [t4].length) * 24 ≤ 140737488355328 then qaE.l0 k n x30 x31 (IntKind.i64.wrap (x32 + 1)) y0_0 y0_1 y0_2 y0_3 y1 (y2 ++ [t4]) else none else none else none else none) else some y2
def qaE.l1 : Nat → Int → Int → (List (List ByteArray)) → LI → Option (LI)
 | 0,_,_,_,_ => none
 | n + 1,x58,x59,y1,y2 => if x59 < x58 then (if 0 ≤ x59 ∧ x59 < (y1.length : Int) then if x59.toNat < y1.length then (strings_Join.f (y1.getD x59.toNat []) (ByteArray.mk #[32])).bind fun t7 => (qam.f t7 y2).bind fun t8 => (qam.f (ByteArray.mk #[10]) t8.2).bind fun t9 => qaE.l1 n x58 (IntKind.i64.wrap (x59 + 1)) y1 t9.2 else none else none) else some y2
def qaE.f (k : Nat) (a0_0 : LI) (a0_1 : ByteArray) (a0_2 : List LN) (a0_3 : LI) : Option (ByteArray × Int) := (qaG.f k a0_0 a0_1 a0_2 a0_3).bind fun t1 => if t1.1 = 0 then ((qbl.f a0_1).bind fun t2 => (qaD.f k a0_0).bind fun t3 => if [(ByteArray.mk #[109,101,115,104]),t2].length + t3.length ≤ 281474976710656 ∧ ([(ByteArray.mk #[109,101,115,104]),t2].length + t3.length) * 16 ≤ 140737488355328 then (qaE.l0 k k a0_2 (a0_2.length : Int) 0 a0_0 a0_1 a0_2 a0_3 t1.2 [[(ByteArray.mk #[109,101,115,104]),t2] ++ t3]).bind fun t5 => (qaD.f k a0_3).bind fun t6 => if [(ByteArray.mk #[111,117,116,115])].length + t6.length ≤ 281474976710656 ∧ ([(ByteArray.mk #[111,117,116,115])].length + t6.length) * 16 ≤ 140737488355328 then if t5.length + [[(ByteArray.mk #[111,117,116,115])] ++ t6].length ≤ 281474976710656 ∧ (t5.length + [[(ByteArray.mk #[111,117,116,115])] ++ t6].length) * 24 ≤ 140737488355328 then (qaE.l1 k ((t5 ++ [[(ByteArray.mk #[111,117,116,115])] ++ t6]).length : Int) 0 (t5 ++ [[(ByteArray.mk #[111,117,116,115])] ++ t6]) []).bind fun t10 => (qaT.f t10).bind fun t11 => if 65536 < t11 then (some (ByteArray.empty,3)) else (strings_Builder_String.f t10).bind fun t12 => some (t12,0) else none else none else none) else some (ByteArray.empty,t1.1)
def qaB.l0 : Nat → Int → ByteArray → Int → Option (ByteArray)
 | 0,_,_,_ => none
 | n + 1,x0,x3,x4 => if x4 = 0 then (some x3) else if 10 ≠ 0 then if x4.tmod 10 < 0 then (if (Utf8.encode (IntKind.i32.wrap (IntKind.i64.wrap (48 + (IntKind.i64.wrap (0 - (x4.tmod 10))))))).size + x3.size ≤ 9223372036854775807 then qaB.l0 n x0 ((Utf8.encode (IntKind.i32.wrap (IntKind.i64.wrap (48 + (IntKind.i64.wrap (0 - (x4.tmod 10))))))) ++ x3) (IntKind.i64.wrap (x4.tdiv 10)) else none) else if (Utf8.encode (IntKind.i32.wrap (IntKind.i64.wrap (48 + (x4.tmod 10))))).size + x3.size ≤ 9223372036854775807 then qaB.l0 n x0 ((Utf8.encode (IntKind.i32.wrap (IntKind.i64.wrap (48 + (x4.tmod 10))))) ++ x3) (IntKind.i64.wrap (x4.tdiv 10)) else none else none
def qaB.f (k : Nat) (a0 : Int) : Option (ByteArray) := if a0 = 0 then (some (ByteArray.mk #[48])) else (qaB.l0 k a0 ByteArray.empty a0).bind fun t1 => if a0 < 0 then (if (ByteArray.mk #[45]).size + t1.size ≤ 9223372036854775807 then some ((ByteArray.mk #[45]) ++ t1) else none) else some t1
def qhv.f : Option ((List ByteArray)) := some [ByteArray.empty,(ByteArray.mk #[112,97,114,97,109]),(ByteArray.mk #[102,105,108,108]),(ByteArray.mk #[105,111,116,97]),(ByteArray.mk #[110,101,103]),(ByteArray.mk #[110,111,116]),(ByteArray.mk #[97,100,100]),(ByteArray.mk #[115,117,98]),(ByteArray.mk #[109,117,108]),(ByteArray.mk #[109,105,110]),(ByteArray.mk #[109,97,120]),(ByteArray.mk #[108,101,115,115]),(ByteArray.mk #[115,101,108,101,99,116]),(ByteArray.mk #[116,117,114,110]),(ByteArray.mk #[115,112,114,101,97,100]),(ByteArray.mk #[115,108,105,99,101]),(ByteArray.mk #[112,97,100]),(ByteArray.mk #[106,111,105,110]),(ByteArray.mk #[102,111,108,100]),(ByteArray.mk #[100,111,116]),(ByteArray.mk #[119,105,110,100,111,119])]
end Go.Pf

namespace Go.Pf
open Go
def qaw.l0 : Nat → ByteArray → Int → Int → (List ByteArray) → ByteArray → Nat → Option (Int × (List ByteArray))
 | 0,_,_,_,_,_,_ => none
 | n + 1,x0,x1,x6,y0,y1_0,y1_1 => if y1_1 < y1_0.size then (if (((Utf8.decode y1_0 y1_1).1 : Nat) : Int) = x1 then (if 0 ≤ x6 ∧ x6 ≤ ((y1_1 : Nat) : Int) ∧ ((y1_1 : Nat) : Int) ≤ (x0.size : Int) then if y0.length + [x0.extract x6.toNat ((y1_1 : Nat) : Int).toNat].length ≤ 281474976710656 ∧ (y0.length + [x0.extract x6.toNat ((y1_1 : Nat) : Int).toNat].length) * 16 ≤ 140737488355328 then qaw.l0 n x0 x1 (IntKind.i64.wrap (((y1_1 : Nat) : Int) + 1)) (y0 ++ [x0.extract x6.toNat ((y1_1 : Nat) : Int).toNat]) y1_0 (y1_1 + (Utf8.decode y1_0 y1_1).2) else none else none) else qaw.l0 n x0 x1 x6 y0 y1_0 (y1_1 + (Utf8.decode y1_0 y1_1).2)) else some (x6,y0)
def qaw.f (k : Nat) (a0 : ByteArray) (a1 : Int) : Option ((List ByteArray)) := (qaw.l0 k a0 a1 0 [] a0 0).bind fun t1 => if 0 ≤ t1.1 ∧ t1.1 ≤ (a0.size : Int) ∧ (a0.size : Int) ≤ (a0.size : Int) then if t1.2.length + [a0.extract t1.1.toNat (a0.size : Int).toNat].length ≤ 281474976710656 ∧ (t1.2.length + [a0.extract t1.1.toNat (a0.size : Int).toNat].length) * 16 ≤ 140737488355328 then some (t1.2 ++ [a0.extract t1.1.toNat (a0.size : Int).toNat]) else none else none
def qbc.f (k : Nat) (a0 : ByteArray) : Option ((List ByteArray)) := (qaw.f k a0 32).bind fun t1 => some t1
def qaH.f (o0_0 : List ByteArray) (o0_1 : Bool) : Option (ByteArray × (List ByteArray) × Bool) := if (o0_0.length : Int) = 0 then (some (ByteArray.empty,o0_0,true)) else if (0 : Int) ≤ 0 ∧ 0 < (o0_0.length : Int) then if ((o0_0.getD 0 ByteArray.empty).toList == ByteArray.empty.toList) = true then (some (ByteArray.empty,o0_0,true)) else if (0 : Int) ≤ 1 ∧ 1 ≤ (o0_0.length : Int) ∧ (o0_0.length : Int) ≤ (o0_0.length : Int) then some (o0_0.getD 0 ByteArray.empty,(o0_0.take o0_0.length).drop 1,o0_1) else none else none
def qaL.f (a1 : ByteArray) (o0_0 : List ByteArray) (o0_1 : Bool) : Option ((List ByteArray) × Bool) := (qaH.f o0_0 o0_1).bind fun t1 => if (t1.1.toList == a1.toList) = true then (some (t1.2.1,t1.2.2)) else some (t1.2.1,true)
def qbm.f (o0_0 : List ByteArray) (o0_1 : Bool) : Option (ByteArray × (List ByteArray) × Bool) := (qaH.f o0_0 o0_1).bind fun t1 => if (t1.1.toList == (ByteArray.mk #[45]).toList) = true then (some (ByteArray.empty,t1.2.1,t1.2.2)) else some (t1.1,t1.2.1,t1.2.2)
def qb3.f (a0 : ByteArray) : Option (Int × Bool) := (strconv_ParseInt.f a0 10 64).bind fun t1 => if t1.2 = true then (some (0,false)) else (qbr.f t1.1).bind fun t2 => if (t2.toList == a0.toList) = true then (some (t1.1,true)) else some (0,false)
def qaR.f (a0 : ByteArray) : Option (Int × Bool) := (qb3.f a0).bind fun t1 => some (t1.1,t1.2)
def qbn.f (o0_0 : List ByteArray) (o0_1 : Bool) : Option (Int × (List ByteArray) × Bool) := (qaH.f o0_0 o0_1).bind fun t1 => (qaR.f t1.1).bind fun t2 => if t1.2.2 = true then (some (t2.1,t1.2.1,true)) else some (t2.1,t1.2.1,!t2.2)
def qa2.f (o0_0 : List ByteArray) (o0_1 : Bool) : Option (Int × (List ByteArray) × Bool) := (qbn.f o0_0 o0_1).bind fun t1 => if t1.2.2 = true then (some (t1.1,t1.2.1,true)) else some (t1.1,t1.2.1,!(decide (t1.1 = t1.1)))
def qal.l0 : Nat → (List ByteArray) → Bool → LI → Option ((List ByteArray) × Bool × LI)
 | 0,_,_,_ => none
 | n + 1,y0_0,y0_1,y1 => if 0 < (y0_0.length : Int) then (if y0_1 = true then (some (y0_0,y0_1,y1)) else (qa2.f y0_0 y0_1).bind fun t1 => if y1.length + [t1.1].length ≤ 281474976710656 ∧ (y1.length + [t1.1].length) * 8 ≤ 140737488355328 then qal.l0 n t1.2.1 t1.2.2 (y1 ++ [t1.1]) else none) else some (y0_0,y0_1,y1)
def qal.f (k : Nat) (o0_0 : List ByteArray) (o0_1 : Bool) : Option ((List ByteArray) × Bool × LI) := (qal.l0 k o0_0 o0_1 []).bind fun t2 => some (t2.1,t2.2.1,t2.2.2)
def qaK.l0 : Nat → ByteArray → Int → (List ByteArray) → Bool → Option (Unit ⊕ Int)
 | 0,_,_,_,_ => none
 | n + 1,x3,x4,y0_0,y0_1 => if x4 ≤ 20 then ((qcm.f x4).bind fun t2 => if (t2.toList == x3.toList) = true then (some (.inr x4)) else qaK.l0 n x3 (IntKind.i64.wrap (x4 + 1)) y0_0 y0_1) else some (.inl ())
def qaK.f (k : Nat) (o0_0 : List ByteArray) (o0_1 : Bool) : Option (Int × (List ByteArray) × Bool) := (qaH.f o0_0 o0_1).bind fun t1 => (qaK.l0 k t1.1 1 t1.2.1 t1.2.2).bind fun t3 => Sum.elim (fun t3 => some (0,t1.2.1,true)) (fun t3 => some (t3,t1.2.1,t1.2.2)) t3
def qao.l0 : Nat → (List ByteArray) → Bool → LI → Option ((List ByteArray) × Bool × LI)
 | 0,_,_,_ => none
 | n + 1,y0_0,y0_1,y1 => if y0_1 = true then (some (y0_0,y0_1,y1)) else if 0 < (y0_0.length : Int) then (if (0 : Int) ≤ 0 ∧ 0 < (y0_0.length : Int) then if ((y0_0.getD 0 ByteArray.empty).toList == (ByteArray.mk #[41]).toList) = true then (some (y0_0,y0_1,y1)) else (qa2.f y0_0 y0_1).bind fun t2 => if y1.length + [t2.1].length ≤ 281474976710656 ∧ (y1.length + [t2.1].length) * 8 ≤ 140737488355328 then qao.l0 n t2.2.1 t2.2.2 (y1 ++ [t2.1]) else none else none) else some (y0_0,y0_1,y1)
def qao.f (k : Nat) (o0_0 : List ByteArray) (o0_1 : Bool) : Option ((List ByteArray) × Bool × LI) := (qaL.f (ByteArray.mk #[40]) o0_0 o0_1).bind fun t1 => (qao.l0 k t1.1 t1.2 []).bind fun t3 => (qaL.f (ByteArray.mk #[41]) t3.1 t3.2.1).bind fun t4 => some (t4.1,t4.2,t3.2.2)
def qbz.f (k : Nat) (o0_0 : List ByteArray) (o0_1 : Bool) : Option (Int × Int × Int × ByteArray × (List ByteArray) × Bool × LI × LI × LI) := (qaK.f k o0_0 o0_1).bind fun t1 => (qao.f k t1.2.1 t1.2.2).bind fun t2 => (qao.f k t2.1 t2.2.1).bind fun t3 => (qao.f k t3.1 t3.2.1).bind fun t4 => (qbn.f t4.1 t4.2.1).bind fun t5 => (qa2.f t5.2.1 t5.2.2).bind fun t6 => (qbm.f t6.2.1 t6.2.2).bind fun t7 => if t7.2.2 = true then (some (t1.1,t5.1,t6.1,t7.1,t7.2.1,true,t2.2.2,t3.2.2,t4.2.2)) else some (t1.1,t5.1,t6.1,t7.1,t7.2.1,decide (0 < (t7.2.1.length : Int)),t2.2.2,t3.2.2,t4.2.2)
def qaJ.l0 (k : Nat) : Nat → Bool → (List ByteArray) → Int → Int → ByteArray → ByteArray → (List ByteArray) → Bool → (List ByteArray) → Bool → LI → (List LN) → Option (Bool × (List LN))
 | 0,_,_,_,_,_,_,_,_,_,_,_,_ => none
 | n + 1,x8,x68,x69,x70,y0,y1,y2_0,y2_1,y3_0,y3_1,y4,y5 => if x70 < x69 then (if 0 ≤ x70 ∧ x70 < (x68.length : Int) then (qbc.f k (x68.getD x70.toNat ByteArray.empty)).bind fun t7 => (qbz.f k t7 false).bind fun t8 => if y5.length + [(t8.1,(t8.2.2.2.2.2.2.1,(t8.2.2.2.2.2.2.2.1,(t8.2.2.2.2.2.2.2.2,(t8.2.1,(t8.2.2.1,t8.2.2.2.1))))))].length ≤ 281474976710656 ∧ (y5.length + [(t8.1,(t8.2.2.2.2.2.2.1,(t8.2.2.2.2.2.2.2.1,(t8.2.2.2.2.2.2.2.2,(t8.2.1,(t8.2.2.1,t8.2.2.2.1))))))].length) * 112 ≤ 140737488355328 then if x8 = true then (qaJ.l0 k n true x68 x69 (IntKind.i64.wrap (x70 + 1)) y0 y1 y2_0 y2_1 y3_0 y3_1 y4 (y5 ++ [(t8.1,(t8.2.2.2.2.2.2.1,(t8.2.2.2.2.2.2.2.1,(t8.2.2.2.2.2.2.2.2,(t8.2.1,(t8.2.2.1,t8.2.2.2.1))))))])) else qaJ.l0 k n t8.2.2.2.2.2.1 x68 x69 (IntKind.i64.wrap (x70 + 1)) y0 y1 y2_0 y2_1 y3_0 y3_1 y4 (y5 ++ [(t8.1,(t8.2.2.2.2.2.2.1,(t8.2.2.2.2.2.2.2.1,(t8.2.2.2.2.2.2.2.2,(t8.2.1,(t8.2.2.1,t8.2.2.2.1))))))]) else none else none) else some (x8,y5)
def qaJ.f (k : Nat) (a0 : ByteArray) : Option (ByteArray × Bool × LI × (List LN) × LI) := (qaw.f k a0 10).bind fun t1 => if (t1.length : Int) < 3 then (some (ByteArray.empty,false,[],[],[])) else if 0 ≤ IntKind.i64.wrap ((t1.length : Int) - 1) ∧ IntKind.i64.wrap ((t1.length : Int) - 1) < (t1.length : Int) then if ((t1.getD (IntKind.i64.wrap ((t1.length : Int) - 1)).toNat ByteArray.empty).toList == ByteArray.empty.toList) = true then (if 0 ≤ ((0 : Nat) : Int) ∧ ((0 : Nat) : Int) ≤ IntKind.i64.wrap ((t1.length : Int) - 1) ∧ IntKind.i64.wrap ((t1.length : Int) - 1) ≤ (t1.length : Int) then if (0 : Int) ≤ 0 ∧ 0 < (((t1.take (IntKind.i64.wrap ((t1.length : Int) - 1)).toNat).drop 0).length : Int) then (qbc.f k (((t1.take (IntKind.i64.wrap ((t1.length : Int) - 1)).toNat).drop 0).getD 0 ByteArray.empty)).bind fun t2 => if 0 ≤ IntKind.i64.wrap ((((t1.take (IntKind.i64.wrap ((t1.length : Int) - 1)).toNat).drop 0).length : Int) - 1) ∧ IntKind.i64.wrap ((((t1.take (IntKind.i64.wrap ((t1.length : Int) - 1)).toNat).drop 0).length : Int) - 1) < (((t1.take (IntKind.i64.wrap ((t1.length : Int) - 1)).toNat).drop 0).length : Int) then (qbc.f k (((t1.take (IntKind.i64.wrap ((t1.length : Int) - 1)).toNat).drop 0).getD (IntKind.i64.wrap ((((t1.take (IntKind.i64.wrap ((t1.length : Int) - 1)).toNat).drop 0).length : Int) - 1)).toNat ByteArray.empty)).bind fun t3 => (qaL.f (ByteArray.mk #[109,101,115,104]) t2 false).bind fun t4 => (qbm.f t4.1 t4.2).bind fun t5 => (qal.f k t5.2.1 t5.2.2).bind fun t6 => if (t5.1.toList == ByteArray.empty.toList) = true then (if (0 : Int) ≤ 1 ∧ 1 ≤ IntKind.i64.wrap ((((t1.take (IntKind.i64.wrap ((t1.length : Int) - 1)).toNat).drop 0).length : Int) - 1) ∧ IntKind.i64.wrap ((((t1.take (IntKind.i64.wrap ((t1.length : Int) - 1)).toNat).drop 0).length : Int) - 1) ≤ (((t1.take (IntKind.i64.wrap ((t1.length : Int) - 1)).toNat).drop 0).length : Int) then (qaJ.l0 k k (decide (0 < (t6.2.2.length : Int))) ((((t1.take (IntKind.i64.wrap ((t1.length : Int) - 1)).toNat).drop 0).take (IntKind.i64.wrap ((((t1.take (IntKind.i64.wrap ((t1.length : Int) - 1)).toNat).drop 0).length : Int) - 1)).toNat).drop 1) (((((t1.take (IntKind.i64.wrap ((t1.length : Int) - 1)).toNat).drop 0).take (IntKind.i64.wrap ((((t1.take (IntKind.i64.wrap ((t1.length : Int) - 1)).toNat).drop 0).length : Int) - 1)).toNat).drop 1).length : Int) 0 ByteArray.empty t5.1 t6.1 t6.2.1 t3 false t6.2.2 []).bind fun t9 => (qaL.f (ByteArray.mk #[111,117,116,115]) t3 false).bind fun t10 => (qal.f k t10.1 t10.2).bind fun t11 => if t9.1 = true then (some (t5.1,false,t6.2.2,t9.2,t11.2.2)) else if t6.2.1 = true then (some (t5.1,false,t6.2.2,t9.2,t11.2.2)) else some (t5.1,!t11.2.1,t6.2.2,t9.2,t11.2.2) else none) else if (0 : Int) ≤ 1 ∧ 1 ≤ IntKind.i64.wrap ((((t1.take (IntKind.i64.wrap ((t1.length : Int) - 1)).toNat).drop 0).length : Int) - 1) ∧ IntKind.i64.wrap ((((t1.take (IntKind.i64.wrap ((t1.length : Int) - 1)).toNat).drop 0).length : Int) - 1) ≤ (((t1.take (IntKind.i64.wrap ((t1.length : Int) - 1)).toNat).drop 0).length : Int) then (qaJ.l0 k k false ((((t1.take (IntKind.i64.wrap ((t1.length : Int) - 1)).toNat).drop 0).take (IntKind.i64.wrap ((((t1.take (IntKind.i64.wrap ((t1.length : Int) - 1)).toNat).drop 0).length : Int) - 1)).toNat).drop 1) (((((t1.take (IntKind.i64.wrap ((t1.length : Int) - 1)).toNat).drop 0).take (IntKind.i64.wrap ((((t1.take (IntKind.i64.wrap ((t1.length : Int) - 1)).toNat).drop 0).length : Int) - 1)).toNat).drop 1).length : Int) 0 ByteArray.empty t5.1 t6.1 t6.2.1 t3 false t6.2.2 []).bind fun t12 => (qaL.f (ByteArray.mk #[111,117,116,115]) t3 false).bind fun t13 => (qal.f k t13.1 t13.2).bind fun t14 => if t12.1 = true then (some (t5.1,false,t6.2.2,t12.2,t14.2.2)) else if t6.2.1 = true then (some (t5.1,false,t6.2.2,t12.2,t14.2.2)) else some (t5.1,!t14.2.1,t6.2.2,t12.2,t14.2.2) else none else none else none else none) else some (ByteArray.empty,false,[],[],[]) else none
def qbM.f (k : Nat) (a0 : ByteArray) : Option (LI × ByteArray × (List LN) × LI × Int) := if 65536 < (a0.size : Int) then (some ([],ByteArray.empty,[],[],3)) else (qaJ.f k a0).bind fun t1 => if t1.2.1 = true then ((qcc.f k t1.2.2.1 t1.1 t1.2.2.2.1 t1.2.2.2.2).bind fun t2 => if t2 = 0 then ((qaE.f k t1.2.2.1 t1.1 t1.2.2.2.1 t1.2.2.2.2).bind fun t3 => if t3.2 = 0 then (if (t3.1.toList == a0.toList) = true then (some (t1.2.2.1,t1.1,t1.2.2.2.1,t1.2.2.2.2,0)) else some ([],ByteArray.empty,[],[],12)) else some ([],ByteArray.empty,[],[],12)) else some ([],ByteArray.empty,[],[],t2)) else some ([],ByteArray.empty,[],[],12)
def qb8.f (k : Nat) : Option (Bool) := (qbM.f k (ByteArray.mk #[109,101,115,104,32,45,10,111,117,116,115,10])).bind fun t1 => (qbM.f k ByteArray.empty).bind fun t2 => (qaR.f (ByteArray.mk #[45,55])).bind fun t3 => (qaR.f (ByteArray.mk #[48,49])).bind fun t4 => if t1.2.2.2.2 = 0 then (if (t1.2.2.1.length : Int) = 0 then (if t2.2.2.2.2 = 12 then (if t3.1 = -7 then (if t3.2 = true then (if t4.2 = true then (some false) else (qbc.f k (ByteArray.mk #[97,32,32,98])).bind fun t5 => if (t5.length : Int) = 3 then ((qbc.f k ByteArray.empty).bind fun t6 => some (decide ((t6.length : Int) = 1))) else some false) else some false) else some false) else some false) else some false) else some false
def qbg.f (k : Nat) (a0 : Int) : Option (Bool) := (qaB.f k a0).bind fun t1 => (qaR.f t1).bind fun t2 => if (ByteArray.mk #[48]).size + t1.size ≤ 9223372036854775807 then (qaR.f ((ByteArray.mk #[48]) ++ t1)).bind fun t3 => if t1.size + (ByteArray.mk #[32]).size ≤ 9223372036854775807 then (qaR.f (t1 ++ (ByteArray.mk #[32]))).bind fun t4 => if (ByteArray.mk #[43]).size + t1.size ≤ 9223372036854775807 then (qaR.f ((ByteArray.mk #[43]) ++ t1)).bind fun t5 => if (ByteArray.mk #[45]).size + t1.size ≤ 9223372036854775807 then (qaR.f ((ByteArray.mk #[45]) ++ t1)).bind fun t6 => if (t1 ++ (ByteArray.mk #[32])).size + t1.size ≤ 9223372036854775807 then (qbc.f k ((t1 ++ (ByteArray.mk #[32])) ++ t1)).bind fun t7 => if t2.2 = true then (if t2.1 = a0 then (if t3.2 = true then (some false) else if t4.2 = true then (some false) else if t5.2 = true then (some false) else if (t6.2 == (decide (0 < a0))) = true then (if (t7.length : Int) = 2 then (if (0 : Int) ≤ 0 ∧ 0 < (t7.length : Int) then if ((t7.getD 0 ByteArray.empty).toList == t1.toList) = true then (if (0 : Int) ≤ 1 ∧ 1 < (t7.length : Int) then if ((t7.getD 1 ByteArray.empty).toList == t1.toList) = true then ((qb8.f k).bind fun t8 => some t8) else some false else none) else some false else none) else some false) else some false) else some false) else some false else none else none else none else none else none
end Go.Pf

namespace Go.Proofs
open Go.Shelf
def Tryz.lays156_ren : Go.Shelf.Ren := ⟨fun | 156 => 71 | 165 => 108 | 166 => 70 | 169 => 73 | 240 => 107 | 241 => 132 | 276 => 131 | 277 => 150 | n => n,fun | 31 => 32 | 9 => 9 | 3 => 3 | 4 => 4 | 0 => 0 | 20 => 20 | 72 => 119 | 76 => 122 | 70 => 117 | 37 => 33 | 75 => 121 | 127 => 148 | 164 => 160 | 5 => 5 | 80 => 103 | n => n,fun | n => n⟩
theorem Tryz.lays156 : Go.Proofs.Lays.n156 Tryz.prog Tryz.lays156_ren := {
 mixed := by kernel_rfl
 f156 := Tryz.func71.trans (congrArg some (by kernel_rfl))
 f165 := Tryz.func108.trans (congrArg some (by kernel_rfl))
 f166 := Tryz.func70.trans (congrArg some (by kernel_rfl))
 f169 := Tryz.func73.trans (congrArg some (by kernel_rfl))
 f240 := Tryz.func107.trans (congrArg some (by kernel_rfl))
 f241 := Tryz.func132.trans (congrArg some (by kernel_rfl))
 f276 := Tryz.func131.trans (congrArg some (by kernel_rfl))
 f277 := Tryz.func150.trans (congrArg some (by kernel_rfl))
 t0 := Tryz.underlying0
 a0 := Tryz.isAgg0
 z0 := Tryz.sizeOf0
 v0 := Tryz.zeroValue0
 t3 := Tryz.underlying3
 a3 := Tryz.isAgg3
 z3 := Tryz.sizeOf3
 v3 := Tryz.zeroValue3
 t4 := Tryz.underlying4
 a4 := Tryz.isAgg4
 z4 := Tryz.sizeOf4
 v4 := Tryz.zeroValue4
 t9 := Tryz.underlying9
 a9 := Tryz.isAgg9
 z9 := Tryz.sizeOf9
 v9 := Tryz.zeroValue9
 t20 := Tryz.underlying20
 a20 := Tryz.isAgg20
 z20 := Tryz.sizeOf20
 v20 := Tryz.zeroValue20
 t31 := Tryz.underlying32
 a31 := Tryz.isAgg32
 z31 := Tryz.sizeOf32
 v31 := Tryz.zeroValue32
 t37 := Tryz.underlying33
 a37 := Tryz.isAgg33
 z37 := Tryz.sizeOf33
 v37 := Tryz.zeroValue33
 t70 := Tryz.underlying117
 a70 := Tryz.isAgg117
 z70 := Tryz.sizeOf117
 v70 := Tryz.zeroValue117
 t72 := Tryz.underlying119
 a72 := Tryz.isAgg119
 z72 := Tryz.sizeOf119
 v72 := Tryz.zeroValue119
 t75 := Tryz.underlying121
 a75 := Tryz.isAgg121
 z75 := Tryz.sizeOf121
 v75 := Tryz.zeroValue121
 t76 := Tryz.underlying122
 a76 := Tryz.isAgg122
 z76 := Tryz.sizeOf122
 v76 := Tryz.zeroValue122
 t127 := Tryz.underlying148
 a127 := Tryz.isAgg148
 z127 := Tryz.sizeOf148
 v127 := Tryz.zeroValue148
 t164 := Tryz.underlying160
 a164 := Tryz.isAgg160
 z164 := Tryz.sizeOf160
 v164 := Tryz.zeroValue160 }
theorem Tryz.Builder_Extra_156 : Builder.Extra Tryz.prog Tryz.lays156_ren := {
 sizeBuilder := by kernel_rfl
 liesBuilder := by kernel_rfl
 t5 := Tryz.underlying5
 a5 := Tryz.isAgg5
 z5 := Tryz.sizeOf5
 v5 := Tryz.zeroValue5
 infoByte := by kernel_rfl
 cellsByte := by kernel_rfl
 sizeByte := by kernel_rfl
 neB5 := by decide }
def Tryz.laysM173_ren : Go.Shelf.Ren := ⟨fun | 173 => 111 | 246 => 138 | 283 => 156 | 284 => 157 | 285 => 158 | 286 => 159 | 129 => 173 | 317 => 172 | 318 => 174 | 319 => 175 | 320 => 176 | 337 => 187 | 338 => 188 | n => n,fun | 2 => 2 | 3 => 3 | 9 => 9 | 4 => 4 | 171 => 182 | 0 => 0 | 53 => 163 | 37 => 33 | 5 => 5 | 173 => 185 | 212 => 202 | 51 => 203 | 20 => 20 | 213 => 204 | 46 => 166 | 232 => 210 | 233 => 211 | n => n,fun | 17 => 3 | 18 => 4 | 19 => 5 | n => n⟩
theorem Tryz.laysM173 : Go.Proofs.LaysM.n173 Tryz.prog Tryz.laysM173_ren := {
 mixed := by kernel_rfl
 f129 := Tryz.func173.trans (congrArg some (by kernel_rfl))
 f173 := Tryz.func111.trans (congrArg some (by kernel_rfl))
 f246 := Tryz.func138.trans (congrArg some (by kernel_rfl))
 f283 := Tryz.func156.trans (congrArg some (by kernel_rfl))
 f284 := Tryz.func157.trans (congrArg some (by kernel_rfl))
 f285 := Tryz.func158.trans (congrArg some (by kernel_rfl))
 f286 := Tryz.func159.trans (congrArg some (by kernel_rfl))
 f317 := Tryz.func172.trans (congrArg some (by kernel_rfl))
 f318 := Tryz.func174.trans (congrArg some (by kernel_rfl))
 f319 := Tryz.func175.trans (congrArg some (by kernel_rfl))
 f320 := Tryz.func176.trans (congrArg some (by kernel_rfl))
 f337 := Tryz.func187.trans (congrArg some (by kernel_rfl))
 f338 := Tryz.func188.trans (congrArg some (by kernel_rfl))
 t0 := Tryz.underlying0
 a0 := Tryz.isAgg0
 z0 := Tryz.sizeOf0
 v0 := Tryz.zeroValue0
 t2 := Tryz.underlying2
 a2 := Tryz.isAgg2
 z2 := Tryz.sizeOf2
 v2 := Tryz.zeroValue2
 t3 := Tryz.underlying3
 a3 := Tryz.isAgg3
 z3 := Tryz.sizeOf3
 v3 := Tryz.zeroValue3
 t4 := Tryz.underlying4
 a4 := Tryz.isAgg4
 z4 := Tryz.sizeOf4
 v4 := Tryz.zeroValue4
 t5 := Tryz.underlying5
 a5 := Tryz.isAgg5
 z5 := Tryz.sizeOf5
 v5 := Tryz.zeroValue5
 t9 := Tryz.underlying9
 a9 := Tryz.isAgg9
 z9 := Tryz.sizeOf9
 v9 := Tryz.zeroValue9
 t20 := Tryz.underlying20
 a20 := Tryz.isAgg20
 z20 := Tryz.sizeOf20
 v20 := Tryz.zeroValue20
 t37 := Tryz.underlying33
 a37 := Tryz.isAgg33
 z37 := Tryz.sizeOf33
 v37 := Tryz.zeroValue33
 t46 := Tryz.underlying166
 a46 := Tryz.isAgg166
 z46 := Tryz.sizeOf166
 v46 := Tryz.zeroValue166
 t51 := Tryz.underlying203
 a51 := Tryz.isAgg203
 z51 := Tryz.sizeOf203
 v51 := Tryz.zeroValue203
 t53 := Tryz.underlying163
 a53 := Tryz.isAgg163
 z53 := Tryz.sizeOf163
 v53 := Tryz.zeroValue163
 t171 := Tryz.underlying182
 a171 := Tryz.isAgg182
 z171 := Tryz.sizeOf182
 v171 := Tryz.zeroValue182
 t173 := Tryz.underlying185
 a173 := Tryz.isAgg185
 z173 := Tryz.sizeOf185
 v173 := Tryz.zeroValue185
 t212 := Tryz.underlying202
 a212 := Tryz.isAgg202
 z212 := Tryz.sizeOf202
 v212 := Tryz.zeroValue202
 t213 := Tryz.underlying204
 a213 := Tryz.isAgg204
 z213 := Tryz.sizeOf204
 t232 := Tryz.underlying210
 a232 := Tryz.isAgg210
 z232 := Tryz.sizeOf210
 v232 := Tryz.zeroValue210
 t233 := Tryz.underlying211
 a233 := Tryz.isAgg211
 z233 := Tryz.sizeOf211
 v233 := Tryz.zeroValue211
 g17 := by kernel_rfl
 g18 := by kernel_rfl
 g19 := by kernel_rfl
 i0 := by kernel_rfl
 i2 := by kernel_rfl
 i3 := by kernel_rfl
 i4 := by kernel_rfl
 i5 := by kernel_rfl
 i9 := by kernel_rfl
 i20 := by kernel_rfl
 i37 := by kernel_rfl
 i46 := by kernel_rfl
 i51 := by kernel_rfl
 i53 := by kernel_rfl
 i171 := by kernel_rfl
 i173 := by kernel_rfl
 i212 := by kernel_rfl
 i232 := by kernel_rfl
 i233 := by kernel_rfl
 m17 := by kernel_rfl
 m18 := by kernel_rfl
 m19 := by kernel_rfl }
def Tryz.laysC174_ren : Go.Shelf.Ren := ⟨fun | 174 => 74 | 247 => 109 | 245 => 110 | 287 => 133 | 279 => 134 | 280 => 135 | 281 => 136 | 282 => 137 | 321 => 151 | 322 => 152 | 316 => 153 | 171 => 155 | 205 => 154 | 243 => 171 | 246 => 138 | 283 => 156 | 284 => 157 | 285 => 158 | 286 => 159 | 129 => 173 | 317 => 172 | 318 => 174 | 319 => 175 | 320 => 176 | 337 => 187 | 338 => 188 | n => n,fun | 9 => 9 | 3 => 3 | 2 => 2 | 75 => 121 | 85 => 126 | 4 => 4 | 167 => 162 | 5 => 5 | 53 => 163 | 175 => 164 | 46 => 166 | 168 => 167 | 37 => 33 | 0 => 0 | 210 => 180 | 21 => 21 | 127 => 148 | 145 => 200 | 143 => 198 | 171 => 182 | 173 => 185 | 212 => 202 | 51 => 203 | 20 => 20 | 213 => 204 | 232 => 210 | 233 => 211 | 80 => 103 | n => n,fun | 15 => 0 | 16 => 1 | 17 => 3 | 18 => 4 | 19 => 5 | n => n⟩
theorem Tryz.laysC174 : Go.Proofs.LaysC.n174 Tryz.prog Tryz.laysC174_ren := {
 mixed := by kernel_rfl
 f129 := Tryz.func173.trans (congrArg some (by kernel_rfl))
 f171 := Tryz.func155.trans (congrArg some (by kernel_rfl))
 f174 := Tryz.func74.trans (congrArg some (by kernel_rfl))
 f205 := Tryz.func154.trans (congrArg some (by kernel_rfl))
 f243 := Tryz.func171.trans (congrArg some (by kernel_rfl))
 f245 := Tryz.func110.trans (congrArg some (by kernel_rfl))
 f246 := Tryz.func138.trans (congrArg some (by kernel_rfl))
 f247 := Tryz.func109.trans (congrArg some (by kernel_rfl))
 f279 := Tryz.func134.trans (congrArg some (by kernel_rfl))
 f280 := Tryz.func135.trans (congrArg some (by kernel_rfl))
 f281 := Tryz.func136.trans (congrArg some (by kernel_rfl))
 f282 := Tryz.func137.trans (congrArg some (by kernel_rfl))
 f283 := Tryz.func156.trans (congrArg some (by kernel_rfl))
 f284 := Tryz.func157.trans (congrArg some (by kernel_rfl))
 f285 := Tryz.func158.trans (congrArg some (by kernel_rfl))
 f286 := Tryz.func159.trans (congrArg some (by kernel_rfl))
 f287 := Tryz.func133.trans (congrArg some (by kernel_rfl))
 f316 := Tryz.func153.trans (congrArg some (by kernel_rfl))
 f317 := Tryz.func172.trans (congrArg some (by kernel_rfl))
 f318 := Tryz.func174.trans (congrArg some (by kernel_rfl))
 f319 := Tryz.func175.trans (congrArg some (by kernel_rfl))
 f320 := Tryz.func176.trans (congrArg some (by kernel_rfl))
 f321 := Tryz.func151.trans (congrArg some (by kernel_rfl))
 f322 := Tryz.func152.trans (congrArg some (by kernel_rfl))
 f337 := Tryz.func187.trans (congrArg some (by kernel_rfl))
 f338 := Tryz.func188.trans (congrArg some (by kernel_rfl))
 t0 := Tryz.underlying0
 a0 := Tryz.isAgg0
 z0 := Tryz.sizeOf0
 v0 := Tryz.zeroValue0
 t2 := Tryz.underlying2
 a2 := Tryz.isAgg2
 z2 := Tryz.sizeOf2
 v2 := Tryz.zeroValue2
 t3 := Tryz.underlying3
 a3 := Tryz.isAgg3
 z3 := Tryz.sizeOf3
 v3 := Tryz.zeroValue3
 t4 := Tryz.underlying4
 a4 := Tryz.isAgg4
 z4 := Tryz.sizeOf4
 v4 := Tryz.zeroValue4
 t5 := Tryz.underlying5
 a5 := Tryz.isAgg5
 z5 := Tryz.sizeOf5
 v5 := Tryz.zeroValue5
 t9 := Tryz.underlying9
 a9 := Tryz.isAgg9
 z9 := Tryz.sizeOf9
 v9 := Tryz.zeroValue9
 t20 := Tryz.underlying20
 a20 := Tryz.isAgg20
 z20 := Tryz.sizeOf20
 v20 := Tryz.zeroValue20
 t21 := Tryz.underlying21
 a21 := Tryz.isAgg21
 z21 := Tryz.sizeOf21
 v21 := Tryz.zeroValue21
 t37 := Tryz.underlying33
 a37 := Tryz.isAgg33
 z37 := Tryz.sizeOf33
 v37 := Tryz.zeroValue33
 t46 := Tryz.underlying166
 a46 := Tryz.isAgg166
 z46 := Tryz.sizeOf166
 v46 := Tryz.zeroValue166
 t51 := Tryz.underlying203
 a51 := Tryz.isAgg203
 z51 := Tryz.sizeOf203
 v51 := Tryz.zeroValue203
 t53 := Tryz.underlying163
 a53 := Tryz.isAgg163
 z53 := Tryz.sizeOf163
 v53 := Tryz.zeroValue163
 t75 := Tryz.underlying121
 a75 := Tryz.isAgg121
 z75 := Tryz.sizeOf121
 v75 := Tryz.zeroValue121
 t85 := Tryz.underlying126
 a85 := Tryz.isAgg126
 z85 := Tryz.sizeOf126
 v85 := Tryz.zeroValue126
 t127 := Tryz.underlying148
 a127 := Tryz.isAgg148
 z127 := Tryz.sizeOf148
 v127 := Tryz.zeroValue148
 t143 := Tryz.underlying198
 a143 := Tryz.isAgg198
 z143 := Tryz.sizeOf198
 v143 := Tryz.zeroValue198
 t145 := Tryz.underlying200
 a145 := Tryz.isAgg200
 z145 := Tryz.sizeOf200
 v145 := Tryz.zeroValue200
 t167 := Tryz.underlying162
 a167 := Tryz.isAgg162
 z167 := Tryz.sizeOf162
 v167 := Tryz.zeroValue162
 t168 := Tryz.underlying167
 a168 := Tryz.isAgg167
 z168 := Tryz.sizeOf167
 v168 := Tryz.zeroValue167
 t171 := Tryz.underlying182
 a171 := Tryz.isAgg182
 z171 := Tryz.sizeOf182
 v171 := Tryz.zeroValue182
 t173 := Tryz.underlying185
 a173 := Tryz.isAgg185
 z173 := Tryz.sizeOf185
 v173 := Tryz.zeroValue185
 t175 := Tryz.underlying164
 a175 := Tryz.isAgg164
 z175 := Tryz.sizeOf164
 v175 := Tryz.zeroValue164
 t210 := Tryz.underlying180
 a210 := Tryz.isAgg180
 z210 := Tryz.sizeOf180
 v210 := Tryz.zeroValue180
 t212 := Tryz.underlying202
 a212 := Tryz.isAgg202
 z212 := Tryz.sizeOf202
 v212 := Tryz.zeroValue202
 t213 := Tryz.underlying204
 a213 := Tryz.isAgg204
 z213 := Tryz.sizeOf204
 t232 := Tryz.underlying210
 a232 := Tryz.isAgg210
 z232 := Tryz.sizeOf210
 v232 := Tryz.zeroValue210
 t233 := Tryz.underlying211
 a233 := Tryz.isAgg211
 z233 := Tryz.sizeOf211
 v233 := Tryz.zeroValue211
 g15 := by kernel_rfl
 g16 := by kernel_rfl
 g17 := by kernel_rfl
 g18 := by kernel_rfl
 g19 := by kernel_rfl
 t80 := Tryz.underlying103
 a80 := Tryz.isAgg103
 z80 := Tryz.sizeOf103
 v80 := Tryz.zeroValue103
 i0 := by kernel_rfl
 i2 := by kernel_rfl
 i3 := by kernel_rfl
 i4 := by kernel_rfl
 i5 := by kernel_rfl
 i9 := by kernel_rfl
 i20 := by kernel_rfl
 i21 := by kernel_rfl
 i37 := by kernel_rfl
 i46 := by kernel_rfl
 i51 := by kernel_rfl
 i53 := by kernel_rfl
 i75 := by kernel_rfl
 i80 := by kernel_rfl
 i85 := by kernel_rfl
 i127 := by kernel_rfl
 i143 := by kernel_rfl
 i145 := by kernel_rfl
 i167 := by kernel_rfl
 i168 := by kernel_rfl
 i171 := by kernel_rfl
 i173 := by kernel_rfl
 i175 := by kernel_rfl
 i210 := by kernel_rfl
 i212 := by kernel_rfl
 i232 := by kernel_rfl
 i233 := by kernel_rfl
 m15 := by kernel_rfl
 m16 := by kernel_rfl
 m17 := by kernel_rfl
 m18 := by kernel_rfl
 m19 := by kernel_rfl
 c0 := by kernel_rfl
 c2 := by kernel_rfl
 c3 := by kernel_rfl
 c4 := by kernel_rfl
 c5 := by kernel_rfl
 c9 := by kernel_rfl
 c20 := by kernel_rfl
 c21 := by kernel_rfl
 c37 := by kernel_rfl
 c46 := by kernel_rfl
 c51 := by kernel_rfl
 c53 := by kernel_rfl
 c75 := by kernel_rfl
 c80 := by kernel_rfl
 c85 := by kernel_rfl
 c127 := by kernel_rfl
 c143 := by kernel_rfl
 c145 := by kernel_rfl
 c167 := by kernel_rfl
 c168 := by kernel_rfl
 c171 := by kernel_rfl
 c173 := by kernel_rfl
 c175 := by kernel_rfl
 c210 := by kernel_rfl
 c212 := by kernel_rfl
 c213 := by kernel_rfl
 c232 := by kernel_rfl
 c233 := by kernel_rfl }
theorem Tryz.Builder_X72_156 : Builder.X72 Tryz.prog Tryz.lays156_ren where
 sizeBuilder := by kernel_rfl
 liesBuilder := by kernel_rfl
end Go.Proofs

namespace Go.Pf
open Go Go.Vm
theorem qaZ {n : Int} (h1 : -9223372036854775808 ≤ n) (h2 : n < 9223372036854775808) : IntKind.i64.wrap n = n := by rw [IntKind.wrap_i64]; omega
theorem qlq {n : Int} (h : (Lit.int .i64 n).wf = true) : -9223372036854775808 ≤ n ∧ n < 9223372036854775808 := by
 simp only [Lit.wf,Bool.and_eq_true,decide_eq_true_eq] at h
 have h1 : IntKind.i64.min = -9223372036854775808 := by decide
 have h2 : IntKind.i64.max = 9223372036854775807 := by decide
 omega
theorem qar {α : Type} {l : List α} {i : Nat} (h : i < l.length) (d : α) : l.drop i = l.getD i d :: l.drop (i + 1) := by
 rw [List.drop_eq_getElem_cons h,List.getD_eq_getElem?_getD,List.getElem?_eq_getElem h]; rfl
theorem qaY {α : Type} {l : List α} {i : Nat} (h : i < l.length) (d : α) : l.getD i d ∈ l := by
 rw [List.getD_eq_getElem?_getD,List.getElem?_eq_getElem h]; exact List.getElem_mem h
end Go.Pf

namespace Go.Pf
open Go Go.Vm
def pd : LI → Int
 | [] => 1
 | x :: r => x * pd r
def okD (x : Int) : Bool := decide (1 ≤ x) && decide (x ≤ 8)
def mR (l : LI) : Bool := decide (l.length ≤ 3) && l.all okD && decide (pd l ≤ 8)
theorem qhz {x : Int} : okD x = true ↔ 1 ≤ x ∧ x ≤ 8 := by simp [okD]
theorem p8 {i : Nat} (h : i ≤ 3) : (1 : Int) ≤ 8 ^ i ∧ (8 : Int) ^ i ≤ 512 := by
 rcases (show i = 0 ∨ i = 1 ∨ i = 2 ∨ i = 3 by omega) with e | e | e | e <;> subst e <;> decide
theorem qj2 {p x : Int} {i : Nat} (h1 : 1 ≤ p) (h2 : p ≤ 8 ^ i) (hx : 1 ≤ x ∧ x ≤ 8) : 1 ≤ p * x ∧ p * x ≤ 8 ^ (i + 1) := by
 constructor
 ·have := Int.mul_le_mul h1 hx.1 (by omega) (by omega); simpa using this
 ·rw [Int.pow_succ]; exact Int.mul_le_mul h2 hx.2 (by omega) (by omega)
end Go.Pf

namespace Go.Pf
open Go Go.Vm
theorem n0 : ((0 : Nat) : Int) = 0 := rfl
theorem drop0 {α : Type} (l : List α) : l.drop 0 = l := rfl
theorem qcU (xs : LI) (v : Int) (hl : xs.length ≤ 4611686018427387904) : ∀ (d i n : Nat),xs.length = i + d → d < n →
  ∃ r,qax.l0 n xs v xs.length i = some r ∧ ((r = .inl () ∧ v ∉ xs.drop i) ∨ ∃ j : Int,r = .inr j ∧ 0 ≤ j ∧ v ∈ xs.drop i)
 | 0,i,n,hi,hn => by
  obtain ⟨n,rfl⟩ := sun (n := n)
  rw [qax.l0,ifq,List.drop_eq_nil_of_le (by omega)]
  exact ⟨_,rfl,.inl ⟨rfl,by simp⟩⟩
 | d + 1,i,n,hi,hn => by
  obtain ⟨n,rfl⟩ := sun (n := n)
  rw [qax.l0,ifp,ifp,Int.toNat_natCast,qar (show i < xs.length by omega) 0]
  by_cases c : v = xs.getD i 0
  ·rw [if_pos c]
   exact ⟨_,rfl,.inr ⟨_,rfl,by omega,by rw [c]; simp⟩⟩
  ·rw [if_neg c,qaZ (by omega) (by omega),show (i : Int) + 1 = ((i + 1 : Nat) : Int) by omega]
   obtain ⟨r,h1,h2⟩ := qcU xs v hl d (i + 1) n (by omega) (by omega)
   refine ⟨r,h1,?_⟩
   rcases h2 with ⟨h2,h3⟩ | ⟨j,h2,h3,h4⟩
   ·exact .inl ⟨h2,by simp only [List.mem_cons]; exact fun h => h.elim c h3⟩
   ·exact .inr ⟨j,h2,h3,List.mem_cons_of_mem _ h4⟩
theorem qd4 (xs : LI) (v : Int) (hl : xs.length ≤ 4611686018427387904) (k : Nat) (hk : xs.length < k) : qa8.f k xs v = some (decide (v ∈ xs)) := by
 unfold qa8.f qax.f
 obtain ⟨r,h1,h2⟩ := qcU xs v hl xs.length 0 k (by omega) hk
 rw [n0] at h1
 rw [h1,obs]
 rw [drop0] at h2
 rcases h2 with ⟨rfl,h3⟩ | ⟨j,rfl,h3,h4⟩
 ·simp [h3]
 ·simp [h3,h4]
theorem qeP {l : LI} {i : Nat} (h : i < l.length) : l.take (i + 1) = l.take i ++ [l.getD i 0] := by
 rw [List.take_add_one,List.getD_eq_getElem?_getD,List.getElem?_eq_getElem h]; rfl
end Go.Pf

namespace Go.Pf
open Go Go.Vm
def pr : LI → Int
 | [] => 1
 | x :: r => x * pr r
def okS (x : Int) : Bool := decide (0 ≤ x) && decide (x ≤ 32)
def mSR (l : LI) : Bool := decide (l.length ≤ 4) && l.all okS && decide (pr l ≤ 4096)
theorem qcC {x : Int} : okS x = true ↔ 0 ≤ x ∧ x ≤ 32 := by simp [okS]
theorem p32 {i : Nat} (h : i ≤ 4) : (1 : Int) ≤ 32 ^ i ∧ (32 : Int) ^ i ≤ 1048576 := by
 rcases (show i = 0 ∨ i = 1 ∨ i = 2 ∨ i = 3 ∨ i = 4 by omega) with e | e | e | e | e <;> subst e <;> decide
theorem qdf (l : LI) (hl : l.length ≤ 4) : ∀ (d i : Nat) (p : Int) (n : Nat),l.length = i + d → 0 ≤ p → p ≤ 32 ^ i → d < n →
  qas.l0 n p l l.length i = some (if (l.drop i).all okS = true then .inl (p * pr (l.drop i)) else .inr false)
 | 0,i,p,n,hi,h1,h2,hn => by
  obtain ⟨n,rfl⟩ := sun (n := n)
  rw [qas.l0,ifq,List.drop_eq_nil_of_le (by omega)]
  simp [pr]
 | d + 1,i,p,n,hi,h1,h2,hn => by
  obtain ⟨n,rfl⟩ := sun (n := n)
  rw [qas.l0,ifp,ifp,Int.toNat_natCast,qar (show i < l.length by omega) 0]
  generalize l.getD i 0 = x
  by_cases c1 : x < 0
  ·rw [if_pos c1]; simp [qcC]; omega
  by_cases c2 : 32 < x
  ·rw [if_neg c1,if_pos c2]; simp [qcC]; omega
  have hx : okS x = true := qcC.2 (by omega)
  have h8 := p32 (show i + 1 ≤ 4 by omega)
  have e8 : (32 : Int) ^ (i + 1) = 32 ^ i * 32 := Int.pow_succ ..
  have hm : 0 ≤ p * x ∧ p * x ≤ 32 ^ (i + 1) := ⟨Int.mul_nonneg h1 (by omega),by rw [e8]; exact Int.mul_le_mul h2 (by omega) (by omega) (by omega)⟩
  rw [if_neg c1,if_neg c2,qaZ (n := p * x) (by omega) (by omega),qaZ (n := (i : Int) + 1) (by omega) (by omega)]
  have := qdf l hl d (i + 1) (p * x) n (by omega) hm.1 hm.2 (by omega)
  rw [show (i : Int) + 1 = ((i + 1 : Nat) : Int) by omega,this]
  simp [hx,pr,Int.mul_assoc]
theorem qa4 (l : LI) (k : Nat) (hk : 10 ≤ k) : qas.f k l = some (mSR l) := by
 unfold qas.f
 by_cases h : 4 < (l.length : Int)
 ·rw [if_pos h]; simp [mSR]; omega
 ·have := qdf l (by omega) l.length 0 1 k (by omega) (by omega) (by simp) (by omega)
  rw [if_neg h,show (0 : Int) = ((0 : Nat) : Int) from rfl,this]
  have hl : l.length ≤ 4 := by omega
  by_cases ha : l.all okS = true
  ·simp [ha,mSR,hl]
  ·simp [ha,mSR]
theorem qbq {l : LI} (h : mSR l = true) : l.length ≤ 4 ∧ (∀ x ∈ l,0 ≤ x ∧ x ≤ 32) ∧ pr l ≤ 4096 := by
 unfold mSR at h
 simp only [Bool.and_eq_true,decide_eq_true_eq] at h
 exact ⟨h.1.1,fun x hx => qcC.1 (List.all_eq_true.1 h.1.2 x hx),h.2⟩
end Go.Pf

namespace Go.Pf
open Go Go.Vm
theorem qig {α : Type} (l : List α) (i j : Nat) (x d : α) : (l.set i x).getD j d = if i = j ∧ i < l.length then x else l.getD j d := by
 simp only [List.getD_eq_getElem?_getD,List.getElem?_set]
 by_cases h : i = j
 ·subst h
  by_cases h2 : i < l.length
  ·simp [h2]
  ·simp [h2]
 ·simp [h]
end Go.Pf

namespace Go.Pf
open Go Go.Vm
theorem setL {α : Type} (L r : List α) (x v : α) : (L ++ x :: r).set L.length v = (L ++ [v]) ++ r := by
 rw [List.set_append,ifq,Nat.sub_self]; simp
theorem qbG (s : LI) (h : s.length ≤ 1000000) : qaQ.f s = some s := by
 unfold qaQ.f
 rw [ifp]; rfl
def zSl : LI → LI → LI → Bool
 | [],[],[] => true
 | a :: s,f :: fr,z :: sz => decide (0 ≤ f ∧ f ≤ a ∧ 0 ≤ z ∧ z ≤ a - f) && zSl s fr sz
 | _,_,_ => false
theorem qcx {a f z : Int} {s fr sz : LI} : zSl (a :: s) (f :: fr) (z :: sz) = true ↔ (0 ≤ f ∧ f ≤ a ∧ 0 ≤ z ∧ z ≤ a - f) ∧ zSl s fr sz = true := by
 simp only [zSl,Bool.and_eq_true,decide_eq_true_eq]
theorem qhj : ∀ {s f z : LI},zSl s f z = true → f.length = s.length ∧ z.length = s.length
 | [],[],[],_ => ⟨rfl,rfl⟩
 | _ :: s,_ :: f,_ :: z,h => by
  have := qhj (qcx.1 h).2
  simp [this.1,this.2]
 | [],_ :: _,_,h => by simp [zSl] at h
 | [],[],_ :: _,h => by simp [zSl] at h
 | _ :: _,[],_,h => by simp [zSl] at h
 | _ :: _,_ :: _,[],h => by simp [zSl] at h
theorem qdl (s f z : LI) (hs : ∀ a ∈ s,0 ≤ a ∧ a ≤ 32) (hl : s.length ≤ 4) (hf : f.length = s.length) (hz : z.length = s.length) : ∀ (d i n : Nat),s.length = i + d → d < n →
  qaW.l0 n f z s s.length i = some (if zSl (s.drop i) (f.drop i) (z.drop i) = true then .inl () else .inr 1)
 | 0,i,n,hi,hn => by
  obtain ⟨n,rfl⟩ := sun (n := n)
  rw [qaW.l0,ifq,List.drop_eq_nil_of_le (by omega),List.drop_eq_nil_of_le (by omega),List.drop_eq_nil_of_le (by omega)]; rfl
 | d + 1,i,n,hi,hn => by
  obtain ⟨n,rfl⟩ := sun (n := n)
  have ha := hs _ (qaY (show i < s.length by omega) 0)
  have ih := qdl s f z hs hl hf hz d (i + 1) n (by omega) (by omega)
  rw [qaW.l0,ifp,ifp,ifp,if_pos (show 0 ≤ (i : Int) ∧ (i : Int) < (z.length : Int) by omega),Int.toNat_natCast,qar (show i < s.length by omega) (0 : Int),qar (show i < f.length by omega) (0 : Int),qar (show i < z.length by omega) (0 : Int)]
  generalize s.getD i 0 = a at ha ⊢
  generalize f.getD i 0 = b
  generalize z.getD i 0 = c
  by_cases c1 : b < 0
  ·rw [if_pos c1,if_neg (by rw [qcx]; omega)]
  by_cases c2 : a < b
  ·rw [if_neg c1,if_pos c2,if_neg (by rw [qcx]; omega)]
  by_cases c3 : c < 0
  ·rw [if_neg c1,if_neg c2,if_pos c3,if_neg (by rw [qcx]; omega)]
  rw [if_neg c1,if_neg c2,if_neg c3,qaZ (n := a - b) (by omega) (by omega)]
  by_cases c4 : a - b < c
  ·rw [if_pos c4,if_neg (by rw [qcx]; omega)]
  rw [if_neg c4,qaZ (n := (i : Int) + 1) (by omega) (by omega),show (i : Int) + 1 = ((i + 1 : Nat) : Int) by omega,ih]
  by_cases c : zSl (s.drop (i + 1)) (f.drop (i + 1)) (z.drop (i + 1)) = true
  ·rw [if_pos c,if_pos (qcx.2 ⟨by omega,c⟩)]
  ·rw [if_neg c,if_neg (fun hh => c (qcx.1 hh).2)]
theorem qgu {s : LI} (h : mSR s = true) (f z : LI) (k : Nat) (hk : 10 ≤ k) : qaW.f k s f z = some (if zSl s f z = true then 0 else 1) := by
 obtain ⟨hl,hs,_⟩ := qbq h
 unfold qaW.f
 by_cases hf : f.length = s.length
 ·by_cases hz : z.length = s.length
  ·have := qdl s f z hs hl hf hz s.length 0 k (by omega) (by omega)
   rw [n0,List.drop_zero,List.drop_zero,List.drop_zero] at this
   rw [ifp,ifp,this]
   by_cases c : zSl s f z = true
   ·rw [if_pos c,if_pos c]; rfl
   ·rw [if_neg c,if_neg c]; rfl
  ·rw [ifp,ifq,if_neg (fun hh => hz (qhj hh).2)]
 ·rw [ifq,if_neg (fun hh => hf (qhj hh).1)]
end Go.Pf

namespace Go.Pf
open Go Go.Vm
def zWi (o : LI) : Int → LI → LI → Bool
 | _,[],[] => true
 | last,x :: s,k :: a => decide (last < k ∧ k < (o.length : Int) ∧ o.getD k.toNat 0 = x) && zWi o k s a
 | _,_,_ => false
theorem qhR {o : LI} {l x k : Int} {s a : LI} : zWi o l (x :: s) (k :: a) = true ↔ (l < k ∧ k < (o.length : Int) ∧ o.getD k.toNat 0 = x) ∧ zWi o k s a = true := by
 simp only [zWi,Bool.and_eq_true,decide_eq_true_eq]
theorem qiT {o : LI} : ∀ {l : Int} {s a : LI},zWi o l s a = true → a.length = s.length
 | _,[],[],_ => rfl
 | _,_ :: s,_ :: a,h => by have := qiT (qhR.1 h).2; simp [this]
 | _,[],_ :: _,h => by simp [zWi] at h
 | _,_ :: _,[],h => by simp [zWi] at h
def zRi (m : Int) : Int → LI → Bool
 | _,[] => true
 | last,k :: a => decide (last < k ∧ k < m) && zRi m k a
theorem qbB {m l k : Int} {a : LI} : zRi m l (k :: a) = true ↔ (l < k ∧ k < m) ∧ zRi m k a = true := by
 simp only [zRi,Bool.and_eq_true,decide_eq_true_eq]
def zEq (o : LI) : LI → LI → Bool
 | x :: s,k :: a => decide (o.getD k.toNat 0 = x) && zEq o s a
 | _,_ => true
theorem qeE {o : LI} {x k : Int} {s a : LI} : zEq o (x :: s) (k :: a) = true ↔ o.getD k.toNat 0 = x ∧ zEq o s a = true := by
 simp only [zEq,Bool.and_eq_true,decide_eq_true_eq]
theorem qfR {o : LI} : ∀ {l : Int} {s a : LI},a.length = s.length → (zWi o l s a = true ↔ zRi o.length l a = true ∧ zEq o s a = true)
 | _,[],[],_ => by simp [zWi,zRi,zEq]
 | l,x :: s,k :: a,h => by
  rw [qhR,qbB,qeE,qfR (by simpa using h)]
  exact ⟨fun ⟨⟨h1,h2,h3⟩,h4,h5⟩ => ⟨⟨⟨h1,h2⟩,h4⟩,h3,h5⟩,fun ⟨⟨⟨h1,h2⟩,h4⟩,h3,h5⟩ => ⟨⟨h1,h2,h3⟩,h4,h5⟩⟩
 | _,[],_ :: _,h => by simp at h
 | _,_ :: _,[],h => by simp at h
theorem qiW {m : Int} : ∀ {l : Int} {a : LI},zRi m l a = true → ∀ k ∈ a,l < k ∧ k < m
 | _,[],_,k,h => by cases h
 | l,b :: a,h,k,hk => by
  obtain ⟨h1,h2⟩ := qbB.1 h
  rcases List.mem_cons.1 hk with e | hk
  ·omega
  ·have := qiW h2 k hk; omega
theorem qdm (m : Int) (a : LI) (hl : a.length ≤ 1000) : ∀ (d i : Nat) (l : Int) (n : Nat),a.length = i + d → d < n →
  qaA.l0 n m l a a.length i = some (if zRi m l (a.drop i) = true then .inl () else .inr false)
 | 0,i,l,n,hi,hn => by
  obtain ⟨n,rfl⟩ := sun (n := n)
  rw [qaA.l0,ifq,List.drop_eq_nil_of_le (by omega)]; rfl
 | d + 1,i,l,n,hi,hn => by
  obtain ⟨n,rfl⟩ := sun (n := n)
  have ih := qdm m a hl d (i + 1) (a.getD i 0) n (by omega) (by omega)
  rw [qaA.l0,ifp,ifp,Int.toNat_natCast,qar (show i < a.length by omega) (0 : Int)]
  generalize a.getD i 0 = b at ih ⊢
  by_cases c1 : b ≤ l
  ·rw [if_pos c1,if_neg (by rw [qbB]; omega)]
  by_cases c2 : m ≤ b
  ·rw [if_neg c1,if_pos c2,if_neg (by rw [qbB]; omega)]
  rw [if_neg c1,if_neg c2,qaZ (n := (i : Int) + 1) (by omega) (by omega),show (i : Int) + 1 = ((i + 1 : Nat) : Int) by omega,ih]
  by_cases c : zRi m b (a.drop (i + 1)) = true
  ·rw [if_pos c,if_pos (qbB.2 ⟨by omega,c⟩)]
  ·rw [if_neg c,if_neg (fun hh => c (qbB.1 hh).2)]
theorem qd2 (s o a : LI) (hl : s.length ≤ 4) (ha : a.length = s.length) (hr : ∀ k ∈ a,0 ≤ k ∧ k < (o.length : Int)) : ∀ (d i n : Nat),a.length = i + d → d < n →
  qa7.l0 n s o a a.length i = some (if zEq o (s.drop i) (a.drop i) = true then .inl () else .inr 1)
 | 0,i,n,hi,hn => by
  obtain ⟨n,rfl⟩ := sun (n := n)
  rw [qa7.l0,ifq,List.drop_eq_nil_of_le (by omega),List.drop_eq_nil_of_le (by omega)]; rfl
 | d + 1,i,n,hi,hn => by
  obtain ⟨n,rfl⟩ := sun (n := n)
  have ih := qd2 s o a hl ha hr d (i + 1) n (by omega) (by omega)
  have hk := hr _ (qaY (show i < a.length by omega) 0)
  rw [qa7.l0,ifp,ifp,Int.toNat_natCast,if_pos hk,ifp,qar (show i < a.length by omega) (0 : Int),qar (show i < s.length by omega) (0 : Int)]
  generalize a.getD i 0 = b
  generalize s.getD i 0 = x
  by_cases c1 : o.getD b.toNat 0 = x
  ·rw [if_pos c1,qaZ (n := (i : Int) + 1) (by omega) (by omega),show (i : Int) + 1 = ((i + 1 : Nat) : Int) by omega,ih]
   by_cases c : zEq o (s.drop (i + 1)) (a.drop (i + 1)) = true
   ·rw [if_pos c,if_pos (qeE.2 ⟨c1,c⟩)]
   ·rw [if_neg c,if_neg (fun hh => c (qeE.1 hh).2)]
  ·rw [if_neg c1,if_neg (fun hh => c1 (qeE.1 hh).1)]
theorem qhg {s : LI} (hl : s.length ≤ 4) (o a : LI) (k : Nat) (hk : 10 ≤ k) : qa7.f k s o a = some (if mSR o = true then (if zWi o (-1) s a = true then 0 else 1) else 13) := by
  unfold qa7.f
  rw [qa4 o k hk,obs]
  by_cases ho : mSR o = true
  · rw [if_pos ho,if_pos ho]
    by_cases ha : a.length = s.length
    · have e1 := qdm o.length a (by omega) a.length 0 (-1) k (by omega) (by omega)
      rw [n0,List.drop_zero] at e1
      rw [ifp]
      unfold qaA.f
      rw [e1]
      by_cases hr : zRi o.length (-1) a = true
      · have e2 := qd2 s o a hl ha (fun k hk => by have := qiW hr k hk; omega) a.length 0 k (by omega) (by omega)
        rw [n0,List.drop_zero,List.drop_zero] at e2
        rw [if_pos hr,obs,Sum.elim_inl,obs,if_pos rfl,e2]
        by_cases c : zEq o s a = true
        · rw [if_pos c,if_pos ((qfR ha).2 ⟨hr,c⟩)]; rfl
        · rw [if_neg c,if_neg (fun hh => c ((qfR ha).1 hh).2)]; rfl
      · rw [if_neg hr,if_neg (fun hh => hr ((qfR ha).1 hh).1)]; rfl
    · rw [ifq,if_neg (fun hh => ha (qiT hh))]
  · rw [if_neg ho,if_neg ho]
def pick (p a : LI) : LI := a.map fun k => p.getD k.toNat 0
end Go.Pf

namespace Go.Pf
open Go Go.Vm
def zPm (m : Int) : LI → LI → Bool
 | _,[] => true
 | seen,k :: a => decide (0 ≤ k ∧ k < m ∧ k ∉ seen) && zPm m (k :: seen) a
theorem qcy {m k : Int} {seen a : LI} : zPm m seen (k :: a) = true ↔ (0 ≤ k ∧ k < m ∧ k ∉ seen) ∧ zPm m (k :: seen) a = true := by
 simp only [zPm,Bool.and_eq_true,decide_eq_true_eq]
theorem qhk {m : Int} : ∀ {a seen : LI},zPm m seen a = true → (∀ k ∈ a,0 ≤ k ∧ k < m ∧ k ∉ seen) ∧ a.Nodup
 | [],_,_ => ⟨fun k hk => (by cases hk),List.nodup_nil⟩
 | b :: a,seen,h => by
  obtain ⟨h1,h2⟩ := qcy.1 h
  obtain ⟨i1,i2⟩ := qhk h2
  refine ⟨fun k hk => ?_,List.nodup_cons.2 ⟨fun hb => (i1 b hb).2.2 (List.mem_cons_self ..),i2⟩⟩
  rcases List.mem_cons.1 hk with e | hk
  ·subst e; exact h1
  ·have := i1 k hk
   exact ⟨this.1,this.2.1,fun hs => this.2.2 (List.mem_cons_of_mem _ hs)⟩
theorem qko {m : Int} : ∀ {a seen : LI},(∀ k ∈ a,0 ≤ k ∧ k < m ∧ k ∉ seen) → a.Nodup → zPm m seen a = true
 | [],_,_,_ => rfl
 | b :: a,seen,h,hn => by
  obtain ⟨n1,n2⟩ := List.nodup_cons.1 hn
  refine qcy.2 ⟨h b (List.mem_cons_self ..),qko (fun k hk => ?_) n2⟩
  have := h k (List.mem_cons_of_mem _ hk)
  refine ⟨this.1,this.2.1,fun hs => ?_⟩
  rcases List.mem_cons.1 hs with e | hs
  ·subst e; exact n1 hk
  ·exact this.2.2 hs
structure Perm' (n : Nat) (a : LI) : Prop where
 len : a.length = n
 mem : ∀ k ∈ a,0 ≤ k ∧ k < (n : Int)
 nd : a.Nodup
theorem qhU {n : Nat} {a : LI} (hl : a.length = n) : zPm n [] a = true ↔ Perm' n a :=
 ⟨fun h => ⟨hl,fun k hk => by have := (qhk h).1 k hk; omega,(qhk h).2⟩,fun h => qko (fun k hk => by have := h.mem k hk; exact ⟨this.1,this.2,by simp⟩) h.nd⟩
end Go.Pf

namespace Go.Pf
open Go Go.Vm
theorem qji {s a : LI} {i : Nat} (h : i < a.length) : pick s (a.take i) ++ [s.getD (a.getD i 0).toNat 0] = pick s (a.take (i + 1)) := by
 rw [qeP h,pick,pick,List.map_append]; rfl
theorem qdk (s a : LI) (hl : s.length ≤ 4) (ha : a.length = s.length) (y : LI) (hy : y.length = s.length) : ∀ (e i n : Nat) (seen : LI) (b : List Bool),s.length = i + e → e < n → b.length = s.length → (∀ j : Nat,j < s.length → (b.getD j false = true ↔ (j : Int) ∈ seen)) →
  qaV.l0 n s a a.length i (pick s (a.take i) ++ y.drop i) b = some (if zPm s.length seen (a.drop i) = true then .inl (pick s a) else .inr 1)
 | 0,i,n,seen,b,hi,hn,hb,hbs => by
  obtain ⟨n,rfl⟩ := sun (n := n)
  rw [qaV.l0,ifq,List.drop_eq_nil_of_le (by omega),List.drop_eq_nil_of_le (by omega),List.take_of_length_le (by omega),List.append_nil]; rfl
 | e + 1,i,n,seen,b,hi,hn,hb,hbs => by
  obtain ⟨n,rfl⟩ := sun (n := n)
  have hps := qji (s := s) (a := a) (i := i) (by omega)
  have hL : (pick s (a.take i)).length = i := by rw [pick,List.length_map,List.length_take]; omega
  have hset : (pick s (a.take i) ++ y.drop i).set i (s.getD (a.getD i 0).toNat 0) = pick s (a.take (i + 1)) ++ y.drop (i + 1) := by
   rw [qar (show i < y.length by omega) (0 : Int)]
   have := setL (pick s (a.take i)) (y.drop (i + 1)) (y.getD i 0) (s.getD (a.getD i 0).toNat 0)
   rw [hL] at this
   rw [this,hps]
  have hlen : (pick s (a.take i) ++ y.drop i).length = s.length := by rw [List.length_append,hL,List.length_drop]; omega
  rw [qaV.l0,ifp,ifp,Int.toNat_natCast,hset,qar (show i < a.length by omega) (0 : Int),hlen]
  generalize a.getD i 0 = k
  by_cases c1 : k < 0
  ·rw [if_pos c1,if_neg (by rw [qcy]; omega)]
  by_cases c2 : (s.length : Int) ≤ k
  ·rw [if_neg c1,if_pos c2,if_neg (by rw [qcy]; omega)]
  have hk := hbs k.toNat (by omega)
  rw [show ((k.toNat : Nat) : Int) = k by omega] at hk
  rw [if_neg c1,if_neg c2,ifp,ifp]
  by_cases c3 : b.getD k.toNat false = true
  ·rw [if_pos c3,if_neg (fun hh => (qcy.1 hh).1.2.2 (hk.1 c3))]
  have hns : k ∉ seen := fun h => c3 (hk.2 h)
  have ih := qdk s a hl ha y hy e (i + 1) n (k :: seen) (b.set k.toNat true) (by omega) (by omega) (by simp [hb]) fun j hj => by
   rw [qig]
   by_cases ej : k.toNat = j
   ·rw [if_pos ⟨ej,by omega⟩]
    exact ⟨fun _=>by rw [show (j : Int) = k by omega]; exact List.mem_cons_self ..,fun _=>rfl⟩
   ·rw [if_neg (fun hh => ej hh.1),hbs j hj,List.mem_cons]
    exact ⟨fun h => .inr h,fun h => h.resolve_left (by omega)⟩
  rw [if_neg c3,ifp,ifp,ifp,qaZ (n := (i : Int) + 1) (by omega) (by omega),show (i : Int) + 1 = ((i + 1 : Nat) : Int) by omega,ih]
  by_cases c : zPm s.length (k :: seen) (a.drop (i + 1)) = true
  ·rw [if_pos c,if_pos (qcy.2 ⟨⟨by omega,by omega,hns⟩,c⟩)]
  ·rw [if_neg c,if_neg (fun hh => c (qcy.1 hh).2)]
def isPerm (n : Nat) (a : LI) : Bool := decide (a.length = n) && zPm n [] a
theorem qiE {n : Nat} {a : LI} : isPerm n a = true ↔ Perm' n a := by
 unfold isPerm
 rw [Bool.and_eq_true,decide_eq_true_eq]
 exact ⟨fun h => (qhU h.1).1 h.2,fun h => ⟨h.len,(qhU h.len).2 h⟩⟩
theorem qgt {s : LI} (hl : s.length ≤ 4) (a : LI) (k : Nat) (hk : 10 ≤ k) : qaV.f k s a = some (if isPerm s.length a = true then (0,pick s a) else (1,[])) := by
 unfold qaV.f isPerm
 by_cases ha : a.length = s.length
 ·have l0 := qdk s a hl ha (List.replicate (s.length : Int).toNat 0) (by simp) s.length 0 k [] (List.replicate (s.length : Int).toNat false) (by omega) (by omega) (by simp) (fun j hj => by simp [List.getD_eq_getElem?_getD,List.getElem?_replicate,hj])
  rw [n0,List.drop_zero,List.drop_zero,List.take_zero] at l0
  rw [ifp,ifp,ifp]
  rw [show pick s [] ++ List.replicate (s.length : Int).toNat (0 : Int) = List.replicate (s.length : Int).toNat (0 : Int) from rfl] at l0
  rw [l0]
  by_cases c : zPm s.length [] a = true
  ·rw [if_pos c]; simp [ha,c]
  ·rw [if_neg c]; simp [c]
 ·rw [ifq]; simp [ha]
end Go.Pf

namespace Go.Pf
open Go Go.Vm
def zp : LI → LI → LI → LI
 | a :: s,l :: lo,h :: hi => (l + a + h) :: zp s lo hi
 | _,_,_ => []
def zMay : LI → LI → LI → Bool
 | [],[],[] => true
 | _ :: s,l :: lo,h :: hi => okS l && okS h && zMay s lo hi
 | _,_,_ => false
theorem qcT {a l h : Int} {s lo hi : LI} : zMay (a :: s) (l :: lo) (h :: hi) = true ↔ ((0 ≤ l ∧ l ≤ 32) ∧ (0 ≤ h ∧ h ≤ 32)) ∧ zMay s lo hi = true := by
 simp only [zMay,Bool.and_eq_true,qcC]
theorem qfV : ∀ {s lo hi : LI},zMay s lo hi = true → lo.length = s.length ∧ hi.length = s.length
 | [],[],[],_ => ⟨rfl,rfl⟩
 | _ :: s,_ :: f,_ :: z,h => by
  have := qfV (qcT.1 h).2
  simp [this.1,this.2]
 | [],_ :: _,_,h => by simp [zMay] at h
 | [],[],_ :: _,h => by simp [zMay] at h
 | _ :: _,[],_,h => by simp [zMay] at h
 | _ :: _,_ :: _,[],h => by simp [zMay] at h
theorem qda (a : Int) : qbx.f a = some (okS a) := by
 unfold qbx.f okS
 by_cases h : 0 ≤ a
 ·rw [if_pos h]; simp [h]
 ·rw [if_neg h]; simp [h]
theorem qdn (s lo hi : LI) (hs : ∀ a ∈ s,0 ≤ a ∧ a ≤ 32) (hl : s.length ≤ 4) (h1 : lo.length = s.length) (h2 : hi.length = s.length) (y : LI) (hy : y.length = s.length) : ∀ (e : Nat) (L : LI) (n : Nat),s.length = L.length + e → e < n →
  qaX.l0 n lo hi s s.length L.length (L ++ y.drop L.length) = some (if zMay (s.drop L.length) (lo.drop L.length) (hi.drop L.length) = true then .inl (L ++ zp (s.drop L.length) (lo.drop L.length) (hi.drop L.length)) else .inr 1)
 | 0,L,n,hi',hn => by
  obtain ⟨n,rfl⟩ := sun (n := n)
  rw [qaX.l0,ifq,List.drop_eq_nil_of_le (by omega),List.drop_eq_nil_of_le (by omega),List.drop_eq_nil_of_le (by omega),List.drop_eq_nil_of_le (by omega)]; rfl
 | e + 1,L,n,hi',hn => by
  obtain ⟨n,rfl⟩ := sun (n := n)
  have ha := hs _ (qaY (show L.length < s.length by omega) 0)
  have ih := qdn s lo hi hs hl h1 h2 y hy e (L ++ [lo.getD L.length 0 + s.getD L.length 0 + hi.getD L.length 0]) n (by simp; omega) (by omega)
  have hL : (L ++ y.drop L.length).length = s.length := by rw [List.length_append,List.length_drop]; omega
  rw [List.length_append,List.length_singleton] at ih
  rw [qaX.l0,ifp,ifp,ifp,Int.toNat_natCast,qda,obs,if_pos (show 0 ≤ (L.length : Int) ∧ (L.length : Int) < (hi.length : Int) by omega),qda,obs,hL,
   qar (show L.length < s.length by omega) (0 : Int),qar (show L.length < lo.length by omega) (0 : Int),qar (show L.length < hi.length by omega) (0 : Int),qar (show L.length < y.length by omega) (0 : Int),setL]
  generalize s.getD L.length 0 = a at *
  generalize lo.getD L.length 0 = l at *
  generalize hi.getD L.length 0 = h at *
  by_cases c1 : okS l = true
  ·by_cases c2 : okS h = true
   ·have b1 := qcC.1 c1
    have b2 := qcC.1 c2
    rw [if_pos c1,if_pos c2,ifp,ifp,qaZ (n := l + a) (by omega) (by omega),qaZ (n := l + a + h) (by omega) (by omega),qaZ (n := (L.length : Int) + 1) (by omega) (by omega),show (L.length : Int) + 1 = ((L.length + 1 : Nat) : Int) by omega,ih]
    by_cases c : zMay (s.drop (L.length + 1)) (lo.drop (L.length + 1)) (hi.drop (L.length + 1)) = true
    ·rw [if_pos c,if_pos (qcT.2 ⟨⟨b1,b2⟩,c⟩)]; simp [zp]
    ·rw [if_neg c,if_neg (fun hh => c (qcT.1 hh).2)]
   ·rw [if_pos c1,if_neg c2,if_neg (fun hh => c2 (qcC.2 (qcT.1 hh).1.2))]
  ·rw [if_neg c1,if_neg (fun hh => c1 (qcC.2 (qcT.1 hh).1.1))]
theorem qgw {s : LI} (h : mSR s = true) (lo hi : LI) (k : Nat) (hk : 10 ≤ k) : qaX.f k s lo hi = some (if zMay s lo hi = true then (if mSR (zp s lo hi) = true then (0,zp s lo hi) else (13,[])) else (1,[])) := by
 obtain ⟨hl,hs,_⟩ := qbq h
 unfold qaX.f
 by_cases h1 : lo.length = s.length
 ·by_cases h2 : hi.length = s.length
  ·have l0 := qdn s lo hi hs hl h1 h2 (List.replicate (s.length : Int).toNat 0) (by simp) s.length [] k (by simp) (by omega)
   rw [List.length_nil,n0,List.drop_zero,List.drop_zero,List.drop_zero,List.drop_zero,List.nil_append,List.nil_append] at l0
   rw [ifp,ifp,ifp,l0,obs]
   by_cases c : zMay s lo hi = true
   ·rw [if_pos c,if_pos c,Sum.elim_inl,qa4 _ k hk,obs]
    by_cases c2 : mSR (zp s lo hi) = true
    ·rw [if_pos c2,if_pos c2]
    ·rw [if_neg c2,if_neg c2]
   ·rw [if_neg c,if_neg c,Sum.elim_inr]
  ·rw [ifp,ifq,if_neg (fun hh => h2 (qfV hh).2)]
 ·rw [ifq,if_neg (fun hh => h1 (qfV hh).1)]
end Go.Pf

namespace Go.Pf
open Go Go.Vm
theorem qbK {l : LI} {i : Nat} {x d : Int} (h : i < l.length) : (l.set i x).getD i d = x := by rw [qig,if_pos ⟨rfl,h⟩]
def zMt (ax : Nat) (s out : LI) : Nat → Nat → Bool
 | 0,_ => true
 | d + 1,i => (decide (i = ax) || decide (s.getD i 0 = out.getD i 0)) && zMt ax s out d (i + 1)
theorem qdE {ax : Nat} {s out : LI} {d i : Nat} : zMt ax s out (d + 1) i = true ↔ (i = ax ∨ s.getD i 0 = out.getD i 0) ∧ zMt ax s out d (i + 1) = true := by
 simp only [zMt,Bool.and_eq_true,Bool.or_eq_true,decide_eq_true_eq]
def zJo (ax : Nat) : List LI → LI → Option LI
 | [],out => some out
 | s :: r,out => if s.length = out.length ∧ zMt ax s out s.length 0 = true ∧ out.getD ax 0 + s.getD ax 0 ≤ 32 then zJo ax r (out.set ax (out.getD ax 0 + s.getD ax 0)) else none
theorem qdo (ax : Nat) (s out : LI) (hl : s.length ≤ 1000) (he : s.length = out.length) (x33 : List LI) (x34 x35 : Int) (x8 : LI) : ∀ (d i n : Nat),s.length = i + d → d < n →
  qat.l1 n ax x8 x33 x34 x35 s s.length i out = some (if zMt ax s out d i = true then .inl () else .inr 13)
 | 0,i,n,hi,hn => by
  obtain ⟨n,rfl⟩ := sun (n := n)
  rw [qat.l1,ifq]; rfl
 | d + 1,i,n,hi,hn => by
  obtain ⟨n,rfl⟩ := sun (n := n)
  have ih := qdo ax s out hl he x33 x34 x35 x8 d (i + 1) n (by omega) (by omega)
  rw [qat.l1,ifp,ifp,qaZ (n := (i : Int) + 1) (by omega) (by omega),show (i : Int) + 1 = ((i + 1 : Nat) : Int) by omega,ih,Int.toNat_natCast]
  by_cases c1 : (i : Int) = ax
  ·rw [if_pos c1]
   by_cases c : zMt ax s out d (i + 1) = true
   ·rw [if_pos c,if_pos (qdE.2 ⟨.inl (by omega),c⟩)]
   ·rw [if_neg c,if_neg (fun hh => c (qdE.1 hh).2)]
  rw [if_neg c1,ifp,ifp]
  by_cases c2 : s.getD i 0 = out.getD i 0
  ·rw [if_pos c2]
   by_cases c : zMt ax s out d (i + 1) = true
   ·rw [if_pos c,if_pos (qdE.2 ⟨.inr c2,c⟩)]
   ·rw [if_neg c,if_neg (fun hh => c (qdE.1 hh).2)]
  ·rw [if_neg c2,if_neg (fun hh => by
    rcases (qdE.1 hh).1 with e | e
    ·omega
    ·exact c2 e)]
theorem qdp (ax : Nat) (k : Nat) (sh : List LI) (hsh : ∀ s ∈ sh,s.length ≤ 4 ∧ ∀ x ∈ s,0 ≤ x ∧ x ≤ 32) (hl : sh.length ≤ 17592186043904) : ∀ (d i n : Nat) (out : LI),sh.length = i + d → d + 10 < n → ax < out.length → 0 ≤ out.getD ax 0 → out.getD ax 0 ≤ 32 →
    qat.l0 k n ax sh sh.length i out = some (match zJo ax (sh.drop i) out with | some o => .inl o | none => .inr 13)
  | 0,i,n,out,hi,hn,hax,h0,h1 => by
    obtain ⟨n,rfl⟩ := sun (n := n)
    rw [qat.l0,ifq,List.drop_eq_nil_of_le (by omega)]; rfl
  | d + 1,i,n,out,hi,hn,hax,h0,h1 => by
    obtain ⟨n,rfl⟩ := sun (n := n)
    have hs := hsh _ (qaY (show i < sh.length by omega) [])
    rw [qat.l0,ifp,ifp,Int.toNat_natCast,qar (show i < sh.length by omega) ([] : LI)]
    generalize sh.getD i [] = s at hs ⊢
    by_cases c1 : s.length = out.length
    · rw [ifp]
      have l1 := qdo ax s out (by omega) c1 sh sh.length i s s.length 0 n (by omega) (by omega)
      rw [n0] at l1
      rw [l1,obs]
      by_cases c2 : zMt ax s out s.length 0 = true
      · have hx := hs.2 _ (qaY (show ax < s.length by omega) 0)
        rw [if_pos c2,Sum.elim_inl,Int.toNat_natCast,ifp,ifp,ifp,qaZ (n := out.getD ax 0 + s.getD ax 0) (by omega) (by omega),if_pos (by rw [List.length_set]; omega),if_pos (by rw [List.length_set]; omega),qbK hax]
        by_cases c3 : 32 < out.getD ax 0 + s.getD ax 0
        · rw [if_pos c3,zJo,ifq]
        · have ih := qdp ax k sh hsh hl d (i + 1) n (out.set ax (out.getD ax 0 + s.getD ax 0)) (by omega) (by omega) (by rw [List.length_set]; exact hax) (by rw [qbK hax]; omega) (by rw [qbK hax]; omega)
          rw [if_neg c3,qaZ (n := (i : Int) + 1) (by omega) (by omega),show (i : Int) + 1 = ((i + 1 : Nat) : Int) by omega,ih,zJo,if_pos ⟨c1,c2,by omega⟩]
      · rw [if_neg c2,Sum.elim_inr,zJo,if_neg (fun hh => c2 hh.2.1)]
    · rw [ifq,zJo,if_neg (fun hh => c1 hh.1)]
def zJs (ax : Int) (sh : List LI) : Int × LI :=
 if sh = [] ∨ ax < 0 ∨ ((sh.getD 0 []).length : Int) ≤ ax then (1,[]) else
 match zJo ax.toNat sh ((sh.getD 0 []).set ax.toNat 0) with
 | some o => if mSR o = true then (0,o) else (13,[])
 | none => (13,[])
theorem qgx (ax : Int) (sh : List LI) (hsh : ∀ s ∈ sh,s.length ≤ 4 ∧ ∀ x ∈ s,0 ≤ x ∧ x ≤ 32) (hl : sh.length ≤ 17592186043904) (k : Nat) (hk : sh.length + 100 ≤ k) : qat.f k ax sh = some (zJs ax sh) := by
 unfold qat.f zJs
 by_cases c1 : sh = []
 ·subst c1; rw [if_pos (show (([] : List LI).length : Int) = 0 from rfl),if_pos (.inl rfl)]
 have hpos : 0 < sh.length := List.length_pos_iff.2 c1
 rw [ifq]
 by_cases c2 : ax < 0
 ·rw [if_pos c2,if_pos (.inr (.inl c2))]
 rw [if_neg c2,ifp]
 by_cases c3 : ((sh.getD 0 []).length : Int) ≤ ax
 ·rw [if_pos c3,if_pos (.inr (.inr c3))]
 have hs := hsh _ (qaY hpos [])
 rw [if_neg c3,if_neg (fun hh => hh.elim c1 fun hh => hh.elim c2 c3),qbG _ (by omega),obs,ifp,ifp]
 have l0 := qdp ax.toNat k sh hsh hl sh.length 0 k ((sh.getD 0 []).set ax.toNat 0) (by omega) (by omega) (by rw [List.length_set]; omega) (by rw [qbK (by omega)]; omega) (by rw [qbK (by omega)]; omega)
 rw [n0,List.drop_zero,show ((ax.toNat : Nat) : Int) = ax by omega] at l0
 rw [l0,obs]
 cases zJo ax.toNat sh ((sh.getD 0 []).set ax.toNat 0) with
 | none => rfl
 | some o =>
  dsimp only
  rw [Sum.elim_inl,qa4 o k (by omega),obs]
  by_cases c : mSR o = true
  ·rw [if_pos c,if_pos c]
  ·rw [if_neg c,if_neg c]
end Go.Pf

namespace Go.Pf
open Go Go.Vm
theorem qkQ {l : LI} {i : Nat} {x : Int} : (l.set i x).length = l.length := List.length_set
end Go.Pf

namespace Go.Pf
open Go Go.Vm
theorem zJs_R {ax : Int} {sh : List LI} (h : (zJs ax sh).1 = 0) : mSR (zJs ax sh).2 = true := by
 unfold zJs at h ⊢
 split at h
 ·simp at h
 rename_i hc
 rw [if_neg hc]
 cases hz : zJo ax.toNat sh ((sh.getD 0 []).set ax.toNat 0) with
 | none => rw [hz] at h; simp at h
 | some o =>
  rw [hz] at h
  dsimp only at h ⊢
  by_cases ho : mSR o = true
  ·rw [if_pos ho]; exact ho
  ·rw [if_neg ho] at h; simp at h
end Go.Pf

namespace Go.Pf
open Go Go.Vm
theorem iterX {S R : Type} {L : Nat → Int → S → Option R} {st : Nat → S} (res : Nat → R) {m : Nat} (N : Nat)
  (hend : ∀ n,N ≤ n → L (n + 1) (m : Int) (st m) = some (res m))
  (hstep : ∀ i n,i < m → N ≤ n → L n ((i + 1 : Nat) : Int) (st (i + 1)) = some (res (i + 1)) → L (n + 1) (i : Int) (st i) = some (res i)) :
  ∀ (e i n : Nat),m = i + e → e + N < n → L n (i : Int) (st i) = some (res i)
 | 0,i,n,hi,hn => by
  obtain ⟨n,rfl⟩ := sun (n := n)
  obtain rfl : m = i := by omega
  exact hend n (by omega)
 | e + 1,i,n,hi,hn => by
  obtain ⟨n,rfl⟩ := sun (n := n)
  exact hstep i n (by omega) (by omega) (iterX res N hend hstep e (i + 1) n (by omega) (by omega))
theorem iter0 {S R : Type} {L : Nat → Int → S → Option R} {st : Nat → S} (res : Nat → R) {m : Nat} (N : Nat)
  (hend : ∀ n,N ≤ n → L (n + 1) (m : Int) (st m) = some (res m))
  (hstep : ∀ i n,i < m → N ≤ n → L n ((i + 1 : Nat) : Int) (st (i + 1)) = some (res (i + 1)) → L (n + 1) (i : Int) (st i) = some (res i)) (n : Nat) (hn : m + N < n) : L n 0 (st 0) = some (res 0) :=
 iterX res N hend hstep m 0 n (by omega) hn
theorem qbe {i m : Nat} (h : i < m) (hm : m ≤ 1152921504606846976) : IntKind.i64.wrap ((i : Int) + 1) = ((i + 1 : Nat) : Int) := by
 rw [qaZ (by omega) (by omega)]; omega
theorem qdG (a b : LI) (ha : a.length ≤ 17592186043904) (k : Nat) (hk : a.length < k) : qau.f k a b = some (decide (a = b)) := by
 unfold qau.f
 by_cases hl : a.length = b.length
 ·have := iter0 (L := fun n i (_ : Unit) => qau.l0 n a b a.length i) (st := fun _=>()) (fun i => if a.drop i = b.drop i then .inl () else .inr false) (m := a.length) 0
   (fun n _ => by rw [qau.l0,ifq,List.drop_eq_nil_of_le (Nat.le_refl _),List.drop_eq_nil_of_le (by omega),if_pos rfl])
   (fun i n hi _ ih => by
    rw [qau.l0,ifp,ifp,ifp,Int.toNat_natCast,qbe hi (by omega),ih,qar hi (0 : Int),qar (show i < b.length by omega) (0 : Int)]
    by_cases c : a.getD i 0 = b.getD i 0
    ·rw [if_pos c,c]
     by_cases c2 : a.drop (i + 1) = b.drop (i + 1)
     ·rw [if_pos c2,c2,if_pos rfl]
     ·rw [if_neg c2,if_neg (fun h => c2 (List.cons.inj h).2)]
    ·rw [if_neg c,if_neg (fun h => c (List.cons.inj h).1)]) k (by omega)
  rw [ifp,this,List.drop_zero,List.drop_zero]
  by_cases c : a = b
  ·rw [if_pos c,decide_eq_true c]; rfl
  ·rw [if_neg c,decide_eq_false c]; rfl
 ·rw [ifq,decide_eq_false (fun h => hl (by rw [h]))]
end Go.Pf

namespace Go.Pf
open Go Go.Vm
def lefI (a : LI) : Nat → LI → LI
 | _,[] => []
 | j,x :: r => if (j : Int) ∈ a then lefI a (j + 1) r else x :: lefI a (j + 1) r
def lef (a s : LI) : LI := lefI a 0 s
end Go.Pf

namespace Go.Pf
open Go Go.Vm
def dsh (a b : LI) (n : Nat) : LI := a.take (a.length - 1) ++ b.drop (n + 1)
def zDS (a b : LI) (n : Int) : Int × LI :=
 if n < 0 ∨ (a.length : Int) ≤ n ∨ (b.length : Int) ≤ n then (1,[]) else
 if mSR a = true ∧ mSR b = true ∧ a.take n.toNat = b.take n.toNat ∧ a.getD (a.length - 1) 0 = b.getD n.toNat 0 then
  (if mSR (dsh a b n.toNat) = true then (0,dsh a b n.toNat) else (13,[]))
 else (13,[])
theorem qli {a b : LI} {n : Int} (h : (zDS a b n).1 = 0) : (zDS a b n).2 = dsh a b n.toNat ∧ mSR (dsh a b n.toNat) = true ∧ 0 ≤ n ∧ n.toNat < a.length ∧ n.toNat < b.length ∧ a.take n.toNat = b.take n.toNat ∧ a.getD (a.length - 1) 0 = b.getD n.toNat 0 := by
 unfold zDS at h ⊢
 split at h
 ·simp at h
 rename_i c
 rw [if_neg c]
 split at h
 ·rename_i c2
  rw [if_pos c2]
  split at h
  ·rename_i c3
   rw [if_pos c3]
   exact ⟨rfl,c3,by omega,by omega,by omega,c2.2.2.1,c2.2.2.2⟩
  ·simp at h
 ·simp at h
def zWn (n w ap : Int) : Int := if n < 0 ∨ w < 1 ∨ ap < 1 ∨ n < w then 0 else (n - w) / ap + 1
def wsh (s : LI) (ax : Nat) (w ap : Int) : LI := s.set ax (zWn (s.getD ax 0) w ap)
end Go.Pf

namespace Go.Pf
open Go Go.Vm
def tq (op : Int) : Option (Int × Bool × Bool × Bool × Bool × Bool) :=
 if op = 1 then some (0,false,true,false,false,false) else if op = 2 then some (0,false,true,false,true,false) else if op = 3 then some (0,false,true,true,false,false)
 else if op = 4 ∨ op = 5 then some (1,false,false,false,false,false) else if 6 ≤ op ∧ op ≤ 11 then some (2,false,false,false,false,false) else if op = 12 then some (3,false,false,false,false,false)
 else if op = 13 ∨ op = 15 then some (1,false,false,true,false,false) else if op = 14 then some (1,false,true,true,false,false) else if op = 16 then some (1,false,false,true,true,false)
 else if op = 17 then some (2,true,false,true,false,false) else if op = 18 ∨ op = 20 then some (1,false,false,true,false,true) else if op = 19 then some (2,false,false,true,false,false) else none
def zF (op : Int) (ls la : Nat) (n h m : Int) : Bool :=
 match tq op with
 | none => false
 | some (lo,more,s,a,v,w) => decide (lo ≤ m) && (more || decide (m ≤ lo)) && (s || decide (ls = 0)) && (a || decide (la = 0)) && (v || decide (n = 0)) && (w || decide (h = 0))
theorem qeI (op : Int) : op = 1 ∨ op = 2 ∨ op = 3 ∨ op = 4 ∨ op = 5 ∨ op = 6 ∨ op = 7 ∨ op = 8 ∨ op = 9 ∨ op = 10 ∨ op = 11 ∨ op = 12 ∨ op = 13 ∨ op = 14 ∨ op = 15 ∨ op = 16 ∨ op = 17 ∨ op = 18 ∨ op = 19 ∨ op = 20 ∨ (op < 1 ∨ 20 < op) := by omega
theorem qkq {op : Int} (h : op < 1 ∨ 20 < op) : tq op = none := by
 unfold tq
 rw [ifq,ifq,ifq,ifq,ifq,ifq,ifq,ifq,ifq,ifq,ifq,ifq]
theorem qg4 (op : Int) : qcs.f op = some (match tq op with | none => (0,false,false,false,false,false,false) | some (lo,more,s,a,v,w) => (lo,more,s,a,v,w,true)) := by
 rcases qeI op with rfl | rfl | rfl | rfl | rfl | rfl | rfl | rfl | rfl | rfl | rfl | rfl | rfl | rfl | rfl | rfl | rfl | rfl | rfl | rfl | hout
 iterate 20 exact rfl
 rw [qkq hout]
 unfold qcs.f
 rw [ifq,ifq,ifq,ifq,ifq,ifq,ifq,ifq,ifq,ifq,ifq,ifq,ifq,ifq,ifq,ifq,ifq,ifq,ifq,ifq]
theorem qgm (op : Int) (i s a : LI) (n h : Int) (nt : ByteArray) (m : Int) : qb9.f op i s a n h nt m = some (zF op s.length a.length n h m) := by
 unfold qb9.f zF
 rw [qg4,obs]
 cases tq op with
 | none => rfl
 | some q =>
  obtain ⟨lo,more,qs,qa,qv,qw⟩ := q
  dsimp only
  rw [if_pos rfl]
  by_cases c1 : m < lo
  ·rw [if_pos c1,decide_eq_false (show ¬ lo ≤ m by omega)]; simp
  ·rw [if_neg c1,decide_eq_true (show lo ≤ m by omega),Bool.true_and]
   have e1 : decide ((s.length : Int) = 0) = decide (s.length = 0) := decide_eq_decide.2 (by omega)
   have e2 : decide ((a.length : Int) = 0) = decide (a.length = 0) := decide_eq_decide.2 (by omega)
   by_cases c2 : lo < m
   ·rw [if_pos c2,decide_eq_false (show ¬ m ≤ lo by omega)]
    cases more <;> cases qs <;> cases qa <;> cases qv <;> cases qw <;> simp <;> (repeat' split) <;> simp_all
   ·rw [if_neg c2,decide_eq_true (show m ≤ lo by omega)]
    cases more <;> cases qs <;> cases qa <;> cases qv <;> cases qw <;> simp <;> (repeat' split) <;> simp_all
end Go.Pf

namespace Go.Pf
open Go Go.Vm
def zShape (op : Int) (s a : LI) (h : Int) (l : List LI) : Int × LI :=
 if op = 1 ∨ op = 2 then (if mSR s = true then (0,s) else (13,[])) else
 if op = 3 then (if mSR s = true then (if a.length = 1 ∧ 0 ≤ a.getD 0 0 ∧ a.getD 0 0 < (s.length : Int) then (0,s) else (1,[])) else (13,[])) else
 if op = 13 then (if isPerm (l.getD 0 []).length a = true then (0,pick (l.getD 0 []) a) else (1,[])) else
 if op = 14 then (if mSR s = true then (if zWi s (-1) (l.getD 0 []) a = true then (0,s) else (1,[])) else (13,[])) else
 if op = 15 then (if a.length = 2 * (l.getD 0 []).length ∧ zSl (l.getD 0 []) (a.take (l.getD 0 []).length) (a.drop (l.getD 0 []).length) = true then (0,a.drop (l.getD 0 []).length) else (1,[])) else
 if op = 16 then (if a.length = 2 * (l.getD 0 []).length ∧ zMay (l.getD 0 []) (a.take (l.getD 0 []).length) (a.drop (l.getD 0 []).length) = true then
  (if mSR (zp (l.getD 0 []) (a.take (l.getD 0 []).length) (a.drop (l.getD 0 []).length)) = true then (0,zp (l.getD 0 []) (a.take (l.getD 0 []).length) (a.drop (l.getD 0 []).length)) else (13,[])) else (1,[])) else
 if op = 17 then (if a.length = 1 then zJs (a.getD 0 0) l else (1,[])) else
 if op = 18 then (if 1 ≤ h ∧ h ≤ 4 then (if zRi (l.getD 0 []).length (-1) a = true then (if mSR (lef a (l.getD 0 [])) = true then (0,lef a (l.getD 0 [])) else (13,[])) else (1,[])) else (1,[])) else
 if op = 19 then (if a.length = 1 then zDS (l.getD 0 []) (l.getD 1 []) (a.getD 0 0) else (1,[])) else
 if op = 20 then (if a.length = 3 ∧ ((1 ≤ h ∧ h ≤ 4) ∧ (1 ≤ a.getD 1 0 ∧ a.getD 1 0 ≤ 32) ∧ 1 ≤ a.getD 2 0 ∧ a.getD 2 0 ≤ 32) ∧ 0 ≤ a.getD 0 0 ∧ a.getD 0 0 < ((l.getD 0 []).length : Int) then (0,wsh (l.getD 0 []) (a.getD 0 0).toNat (a.getD 1 0) (a.getD 2 0)) else (1,[])) else
 if l.all (fun t => decide (t = l.getD 0 [])) = true then (0,l.getD 0 []) else (13,[])
end Go.Pf

namespace Go.Pf
open Go Go.Vm
set_option maxHeartbeats 2000000 in
theorem qlh {op : Int} {ls la : Nat} {n h m : Int} (hF : zF op ls la n h m = true) : (op = 1 ∧ m = 0) ∨ (op = 2 ∧ m = 0) ∨ (op = 3 ∧ m = 0) ∨ ((op = 4 ∨ op = 5) ∧ m = 1) ∨ ((6 ≤ op ∧ op ≤ 11) ∧ m = 2) ∨ (op = 12 ∧ m = 3) ∨ (op = 13 ∧ m = 1) ∨ (op = 14 ∧ m = 1) ∨ (op = 15 ∧ m = 1) ∨ (op = 16 ∧ m = 1) ∨ (op = 17 ∧ 2 ≤ m) ∨ (op = 18 ∧ m = 1) ∨ (op = 19 ∧ m = 2) ∨ (op = 20 ∧ m = 1) := by
 unfold zF at hF
 cases hq : tq op with
 | none => rw [hq] at hF; cases hF
 | some q =>
  obtain ⟨lo,more,qs,qa,qv,qw⟩ := q
  rw [hq] at hF
  simp only [Bool.and_eq_true,decide_eq_true_eq,Bool.or_eq_true] at hF
  obtain ⟨⟨⟨⟨⟨h1,h2⟩,_⟩,_⟩,_⟩,_⟩ := hF
  rcases qeI op with rfl | rfl | rfl | rfl | rfl | rfl | rfl | rfl | rfl | rfl | rfl | rfl | rfl | rfl | rfl | rfl | rfl | rfl | rfl | rfl | hout
  ·simp [tq] at hq
   obtain ⟨rfl,rfl,_⟩ := hq
   simp at h2
   exact .inl ⟨rfl,by omega⟩
  ·simp [tq] at hq
   obtain ⟨rfl,rfl,_⟩ := hq
   simp at h2
   exact .inr (.inl ⟨rfl,by omega⟩)
  ·simp [tq] at hq
   obtain ⟨rfl,rfl,_⟩ := hq
   simp at h2
   exact .inr (.inr (.inl ⟨rfl,by omega⟩))
  ·simp [tq] at hq
   obtain ⟨rfl,rfl,_⟩ := hq
   simp at h2
   exact .inr (.inr (.inr (.inl ⟨.inl rfl,by omega⟩)))
  ·simp [tq] at hq
   obtain ⟨rfl,rfl,_⟩ := hq
   simp at h2
   exact .inr (.inr (.inr (.inl ⟨.inr rfl,by omega⟩)))
  ·simp [tq] at hq
   obtain ⟨rfl,rfl,_⟩ := hq
   simp at h2
   exact .inr (.inr (.inr (.inr (.inl ⟨by omega,by omega⟩))))
  ·simp [tq] at hq
   obtain ⟨rfl,rfl,_⟩ := hq
   simp at h2
   exact .inr (.inr (.inr (.inr (.inl ⟨by omega,by omega⟩))))
  ·simp [tq] at hq
   obtain ⟨rfl,rfl,_⟩ := hq
   simp at h2
   exact .inr (.inr (.inr (.inr (.inl ⟨by omega,by omega⟩))))
  ·simp [tq] at hq
   obtain ⟨rfl,rfl,_⟩ := hq
   simp at h2
   exact .inr (.inr (.inr (.inr (.inl ⟨by omega,by omega⟩))))
  ·simp [tq] at hq
   obtain ⟨rfl,rfl,_⟩ := hq
   simp at h2
   exact .inr (.inr (.inr (.inr (.inl ⟨by omega,by omega⟩))))
  ·simp [tq] at hq
   obtain ⟨rfl,rfl,_⟩ := hq
   simp at h2
   exact .inr (.inr (.inr (.inr (.inl ⟨by omega,by omega⟩))))
  ·simp [tq] at hq
   obtain ⟨rfl,rfl,_⟩ := hq
   simp at h2
   exact .inr (.inr (.inr (.inr (.inr (.inl ⟨rfl,by omega⟩)))))
  ·simp [tq] at hq
   obtain ⟨rfl,rfl,_⟩ := hq
   simp at h2
   exact .inr (.inr (.inr (.inr (.inr (.inr (.inl ⟨rfl,by omega⟩))))))
  ·simp [tq] at hq
   obtain ⟨rfl,rfl,_⟩ := hq
   simp at h2
   exact .inr (.inr (.inr (.inr (.inr (.inr (.inr (.inl ⟨rfl,by omega⟩)))))))
  ·simp [tq] at hq
   obtain ⟨rfl,rfl,_⟩ := hq
   simp at h2
   exact .inr (.inr (.inr (.inr (.inr (.inr (.inr (.inr (.inl ⟨rfl,by omega⟩))))))))
  ·simp [tq] at hq
   obtain ⟨rfl,rfl,_⟩ := hq
   simp at h2
   exact .inr (.inr (.inr (.inr (.inr (.inr (.inr (.inr (.inr (.inl ⟨rfl,by omega⟩)))))))))
  ·simp [tq] at hq
   obtain ⟨rfl,rfl,_⟩ := hq
   simp at h2
   exact .inr (.inr (.inr (.inr (.inr (.inr (.inr (.inr (.inr (.inr (.inl ⟨rfl,by omega⟩))))))))))
  ·simp [tq] at hq
   obtain ⟨rfl,rfl,_⟩ := hq
   simp at h2
   exact .inr (.inr (.inr (.inr (.inr (.inr (.inr (.inr (.inr (.inr (.inr (.inl ⟨rfl,by omega⟩)))))))))))
  ·simp [tq] at hq
   obtain ⟨rfl,rfl,_⟩ := hq
   simp at h2
   exact .inr (.inr (.inr (.inr (.inr (.inr (.inr (.inr (.inr (.inr (.inr (.inr (.inl ⟨rfl,by omega⟩))))))))))))
  ·simp [tq] at hq
   obtain ⟨rfl,rfl,_⟩ := hq
   simp at h2
   exact .inr (.inr (.inr (.inr (.inr (.inr (.inr (.inr (.inr (.inr (.inr (.inr (.inr (⟨rfl,by omega⟩)))))))))))))
  rw [qkq hout] at hq; cases hq
def zSh (op : Int) (s a : LI) (n h : Int) (l : List LI) : Int × LI :=
 if zF op s.length a.length n h l.length = true then (if l.all mSR = true then zShape op s a h l else (13,[])) else (1,[])
end Go.Pf

namespace Go.Pf
open Go Go.Vm
theorem qgv (a : LI) (m : Int) (ha : a.length ≤ 17592186043904) (k : Nat) (hk : a.length < k) : qaA.f k a m = some (zRi m (-1) a) := by
 have := iter0 (L := fun n i l => qaA.l0 n m l a a.length i) (st := fun i => if i = 0 then -1 else a.getD (i - 1) 0) (fun i => if zRi m (if i = 0 then -1 else a.getD (i - 1) 0) (a.drop i) = true then .inl () else .inr false) (m := a.length) 0
  (fun n _ => by rw [qaA.l0,ifq,List.drop_eq_nil_of_le (Nat.le_refl _)]; rfl)
  (fun i n hi _ ih => by
   rw [if_neg (show ¬ i + 1 = 0 by omega),Nat.add_sub_cancel] at ih
   generalize (if i = 0 then (-1 : Int) else a.getD (i - 1) 0) = l
   rw [qaA.l0,ifp,ifp,Int.toNat_natCast,qar hi (0 : Int)]
   generalize a.getD i 0 = b at ih ⊢
   by_cases c1 : b ≤ l
   ·rw [if_pos c1,if_neg (by rw [qbB]; omega)]
   by_cases c2 : m ≤ b
   ·rw [if_neg c1,if_pos c2,if_neg (by rw [qbB]; omega)]
   rw [if_neg c1,if_neg c2,qbe hi (by omega),ih]
   by_cases c : zRi m b (a.drop (i + 1)) = true
   ·rw [if_pos c,if_pos (qbB.2 ⟨by omega,c⟩)]
   ·rw [if_neg c,if_neg (fun hh => c (qbB.1 hh).2)]) k (by omega)
 unfold qaA.f
 have this : qaA.l0 k m (-1) a a.length 0 = some (if zRi m (-1) (a.drop 0) = true then .inl () else .inr false) := this
 rw [this,List.drop_zero,obs]
 cases zRi m (-1) a <;> rfl
theorem qen (a b : LI) (ha : a.length ≤ 17592186043904) (k : Nat) (hk : a.length < k) : qb0.f k a b = some (decide (a = b)) := by
 unfold qb0.f
 rw [qdG a b ha k hk,obs]
theorem qlC {n : Int} (h0 : 0 ≤ n) (h : n ≤ 1000000) : qbs.f n = some [] := by
 unfold qbs.f
 rw [ifq,show (IntKind.i64.wrap (0 - 0) : Int) = 0 by decide,Int.sub_zero,qaZ (by omega) (by omega)]
 by_cases c : 0 < n
 ·rw [if_pos c,if_pos (by decide),ifp,ifp,List.take_zero]
 ·rw [if_neg c]
theorem qkm {a b : LI} (ha : a.length ≤ 1000) (hb : b.length ≤ 1000) (k : Nat) (hk : 10 ≤ k) : qaf.f k [a,b] = some (a ++ b) := by
 obtain ⟨n,rfl⟩ : ∃ m,k = m + 3 := ⟨k - 3,by omega⟩
 have l0 : qaf.l0 (n + 3) [a,b] 0 [a,b] 2 0 = some ((a.length : Int) + (b.length : Int)) := by
  rw [qaf.l0,if_pos (by decide),if_pos ⟨by decide,by show (0 : Int) < 2; decide⟩,show ([a,b].getD (0 : Int).toNat []) = a from rfl,Int.zero_add,qaZ (n := (a.length : Int)) (by omega) (by omega),ifq,
   show (IntKind.i64.wrap (0 + 1) : Int) = 1 by decide,qaf.l0,if_pos (by decide),if_pos ⟨by decide,by show (1 : Int) < 2; decide⟩,show ([a,b].getD (1 : Int).toNat []) = b from rfl,qaZ (n := (a.length : Int) + (b.length : Int)) (by omega) (by omega),ifq,
   show (IntKind.i64.wrap (1 + 1) : Int) = 2 by decide,qaf.l0,if_neg (by decide)]
 have l1 : qaf.l1 (n + 3) [a,b] 2 0 [] = some (a ++ b) := by
  rw [qaf.l1,if_pos (by decide),if_pos ⟨by decide,by show (0 : Int) < 2; decide⟩,show ([a,b].getD (0 : Int).toNat []) = a from rfl,if_pos (by rw [List.length_nil]; omega),
   show (IntKind.i64.wrap (0 + 1) : Int) = 1 by decide,qaf.l1,if_pos (by decide),if_pos ⟨by decide,by show (1 : Int) < 2; decide⟩,show ([a,b].getD (1 : Int).toNat []) = b from rfl,List.nil_append,ifp,
   show (IntKind.i64.wrap (1 + 1) : Int) = 2 by decide,qaf.l1,if_neg (by decide)]
 unfold qaf.f
 rw [show (([a,b] : List LI).length : Int) = 2 from rfl,l0,obs,qlC (by omega) (by omega),obs,l1,obs]
theorem qhL (a b : LI) (n : Int) (k : Nat) (hk : 120000 ≤ k) : qc7.f k a b n = some (zDS a b n) := by
 unfold qc7.f zDS
 by_cases c1 : n < 0
 ·rw [if_pos c1,if_pos (.inl c1)]
 by_cases c2 : (a.length : Int) ≤ n
 ·rw [if_neg c1,if_pos c2,if_pos (.inr (.inl c2))]
 by_cases c3 : (b.length : Int) ≤ n
 ·rw [if_neg c1,if_neg c2,if_pos c3,if_pos (.inr (.inr c3))]
 rw [if_neg c1,if_neg c2,if_neg c3,if_neg (show ¬ (n < 0 ∨ (a.length : Int) ≤ n ∨ (b.length : Int) ≤ n) by omega),qa4 a k (by omega),obs]
 by_cases ra : mSR a = true
 rotate_left
 ·rw [if_neg ra,if_neg (fun h => ra h.1)]
 rw [if_pos ra,qa4 b k (by omega),obs]
 by_cases rb : mSR b = true
 rotate_left
 ·rw [if_neg rb,if_neg (fun h => rb h.2.1)]
 have ha := qbq ra
 have hb := qbq rb
 rw [if_pos rb,ifp,ifp,List.drop_zero,List.drop_zero,qen _ _ (by rw [List.length_take]; omega) k (by rw [List.length_take]; omega),obs]
 by_cases c4 : a.take n.toNat = b.take n.toNat
 rotate_left
 ·rw [decide_eq_false c4,if_neg (by decide),if_neg (fun h => c4 h.2.2.1)]
 rw [decide_eq_true c4,if_pos rfl,qaZ (n := (a.length : Int) - 1) (by omega) (by omega),ifp,ifp,show ((a.length : Int) - 1).toNat = a.length - 1 by omega]
 by_cases c5 : a.getD (a.length - 1) 0 = b.getD n.toNat 0
 rotate_left
 ·rw [if_neg c5,if_neg (fun h => c5 h.2.2.2)]
 rw [if_pos c5,ifp,List.drop_zero,qaZ (n := n + 1) (by omega) (by omega),ifp,List.take_length,show (n + 1).toNat = n.toNat + 1 by omega,qkm (by rw [List.length_take]; omega) (by rw [List.length_drop]; omega) k (by omega),obs,if_pos ⟨ra,rb,c4,c5⟩]
 show (qas.f k (dsh a b n.toNat)).bind _ = _
 rw [qa4 _ k (by omega),obs]
 by_cases c6 : mSR (dsh a b n.toNat) = true
 ·rw [if_pos c6,if_pos c6]; rfl
 ·rw [if_neg c6,if_neg c6]
theorem qhT {m : Int} : ∀ {l : Int} {a : LI},zRi m l a = true → ∀ k ∈ a,l < k
 | _,[],_,_,h => by cases h
 | l,b :: a,h,k,hk => by
  obtain ⟨h1,h2⟩ := qbB.1 h
  rcases List.mem_cons.1 hk with e | hk
  ·omega
  ·have := qhT h2 k hk; omega
theorem qc5 (s : LI) (hs : s.length ≤ 1000) (a0 : LI) : ∀ (e i : Nat) (a y : LI) (l : Int) (n : Nat),s.length = i + e → e < n → y.length ≤ i → zRi s.length l a = true → l < i → (∀ x ∈ a,(i : Int) ≤ x) → (∀ j : Nat,i ≤ j → ((j : Int) ∈ a0 ↔ (j : Int) ∈ a)) →
    qa0.l0 n a s s.length i y = some (y ++ lefI a0 i (s.drop i))
  | 0,i,a,y,l,n,hi,hn,_,_,_,_,_ => by
    obtain ⟨n,rfl⟩ := sun (n := n)
    rw [qa0.l0,ifq,List.drop_eq_nil_of_le (by omega),lefI,List.append_nil]
  | e + 1,i,a,y,l,n,hi,hn,hy,hr,hl,hm,ha => by
    obtain ⟨n,rfl⟩ := sun (n := n)
    rw [qa0.l0,ifp,ifp,Int.toNat_natCast,qbe (show i < s.length by omega) (by omega),qar (show i < s.length by omega) (0 : Int),lefI]
    have keep : ((i : Int) ∉ a) → qa0.l0 n a s s.length ((i + 1 : Nat) : Int) (y ++ [s.getD i 0]) = some (y ++ (if (i : Int) ∈ a0 then lefI a0 (i + 1) (s.drop (i + 1)) else s.getD i 0 :: lefI a0 (i + 1) (s.drop (i + 1)))) := fun hna => by
      rw [qc5 s hs a0 e (i + 1) a (y ++ [s.getD i 0]) l n (by omega) (by omega) (by simp; omega) hr (by omega) (fun x hx => by
        have := hm x hx
        have : x ≠ (i : Int) := fun h => hna (h ▸ hx)
        omega) (fun j hj => ha j (by omega)),if_neg (fun h => hna ((ha i (Nat.le_refl _)).1 h)),List.append_assoc]; rfl
    have hb : y.length + [s.getD i 0].length ≤ 281474976710656 ∧ (y.length + [s.getD i 0].length) * 8 ≤ 140737488355328 := by rw [List.length_singleton]; omega
    cases a with
    | nil =>
      rw [if_neg (by simp),if_pos hb]
      exact keep (by simp)
    | cons b r =>
      rw [if_pos (by simp),if_pos ⟨by decide,by simp⟩]
      show (if b = (i : Int) then _ else _) = _
      obtain ⟨h1,h2⟩ := qbB.1 hr
      have hbi := hm b (List.mem_cons_self ..)
      by_cases c : b = (i : Int)
      · rw [if_pos c,if_pos ⟨by decide,by simp; omega,by omega⟩,List.take_length,List.drop_one]
        show qa0.l0 n r s s.length ((i + 1 : Nat) : Int) y = _
        rw [qc5 s hs a0 e (i + 1) r y b n (by omega) (by omega) (by omega) h2 (by omega) (fun x hx => by
          have := qhT h2 x hx
          omega) (fun j hj => by
            rw [ha j (by omega),List.mem_cons]
            constructor
            · rintro (h | h)
              · omega
              · exact h
            · exact .inr),if_pos ((ha i (Nat.le_refl _)).2 (by rw [c]; exact List.mem_cons_self ..))]
      · rw [if_neg c,if_pos hb]
        exact keep (fun h => by
          rcases List.mem_cons.1 h with h | h
          · exact c h.symm
          · have := qhT h2 _ h; omega)
theorem qhH (s a : LI) (hs : s.length ≤ 1000) (ha : a.length ≤ 17592186043904) (k : Nat) (hk : a.length + 1001 ≤ k) : qa0.f k s a = some (if zRi s.length (-1) a = true then (0,lef a s) else (1,[])) := by
 unfold qa0.f
 rw [qgv a _ ha k (by omega),obs]
 by_cases c : zRi s.length (-1) a = true
 ·have := qc5 s hs a s.length 0 a [] (-1) k (by omega) (by omega) (by simp) c (by omega) (fun x hx => by have := qhT c x hx; omega) (fun _ _ => Iff.rfl)
  rw [n0,List.drop_zero,List.nil_append] at this
  rw [if_pos c,if_pos c,this,obs]; rfl
 ·rw [if_neg c,if_neg c]
theorem qeq (h : Int) : qb2.f h = some (decide (1 ≤ h ∧ h ≤ 4)) := by
 unfold qb2.f
 by_cases c : 1 ≤ h
 ·rw [if_pos c]; simp [c]
 ·rw [if_neg c]; simp [c]
theorem qgH (h w a : Int) : qco.f h w a = some (decide ((1 ≤ h ∧ h ≤ 4) ∧ (1 ≤ w ∧ w ≤ 32) ∧ 1 ≤ a ∧ a ≤ 32)) := by
 have m : ∀ x,qbE.f x = some (decide (1 ≤ x ∧ x ≤ 32)) := fun x => by
  unfold qbE.f
  by_cases c : 1 ≤ x
  ·rw [if_pos c]; simp [c]
  ·rw [if_neg c]; simp [c]
 unfold qco.f
 rw [qeq,obs,m,m]
 by_cases c1 : 1 ≤ h ∧ h ≤ 4
 rotate_left
 ·rw [decide_eq_false c1,if_neg (by decide),decide_eq_false (fun h => c1 h.1)]
 rw [decide_eq_true c1,if_pos rfl,obs]
 by_cases c2 : 1 ≤ w ∧ w ≤ 32
 rotate_left
 ·rw [decide_eq_false c2,if_neg (by decide),decide_eq_false (fun h => c2 h.2.1)]
 rw [decide_eq_true c2,if_pos rfl,obs]
 simp [c1,c2]
theorem qgG {n w ap : Int} (hn : n ≤ 1000) (hn0 : 0 ≤ n) (hw : w ≤ 1000) (hw0 : 0 ≤ w) : qcn.f n w ap = some (zWn n w ap) := by
 unfold qcn.f zWn
 by_cases c1 : n < 0
 ·omega
 by_cases c2 : w < 1
 ·rw [if_neg c1,if_pos c2,if_pos (.inr (.inl c2))]
 by_cases c3 : ap < 1
 ·rw [if_neg c1,if_neg c2,if_pos c3,if_pos (.inr (.inr (.inl c3)))]
 by_cases c4 : n < w
 ·rw [if_neg c1,if_neg c2,if_neg c3,if_pos c4,if_pos (.inr (.inr (.inr c4)))]
 have h1 : 0 ≤ (n - w) / ap := Int.ediv_nonneg (by omega) (by omega)
 have h2 : (n - w) / ap ≤ n - w := Int.ediv_le_self _ (by omega)
 rw [if_neg c1,if_neg c2,if_neg c3,if_neg c4,ifp,ifq,qaZ (n := n - w) (by omega) (by omega),Int.tdiv_eq_ediv_of_nonneg (by omega),qaZ (n := (n - w) / ap) (by omega) (by omega),qaZ (n := (n - w) / ap + 1) (by omega) (by omega)]
theorem qgn (k : Nat) (l : List LI) (h0 : 0 < l.length) (hl : l.length ≤ 100000) (hb : ∀ s ∈ l,s.length ≤ 1000) (hk : 120000 ≤ k) :
  qca.f k l = some (if l.all (fun t => decide (t = l.getD 0 [])) = true then (l.getD 0 [],0) else ([],13)) := by
 have := iter0 (L := fun n i (_ : Unit) => qac.l0 k n l l.length i l) (st := fun _=>()) (fun i => if (l.drop i).all (fun t => decide (t = l.getD 0 [])) = true then .inl () else .inr ((i + ((l.drop i).takeWhile (fun t => decide (t = l.getD 0 []))).length : Nat) : Int)) (m := l.length) 0
  (fun n _ => by rw [qac.l0,ifq,List.drop_eq_nil_of_le (Nat.le_refl _)]; rfl)
  (fun i n hi _ ih => by
   have hm := hb _ (qaY hi ([] : LI))
   rw [qac.l0,ifp,ifp,Int.toNat_natCast,qbY.f,ifp,qen _ _ (by omega) k (by omega),obs,obs,qar hi ([] : LI),List.all_cons,List.takeWhile_cons]
   by_cases c : l.getD i [] = l.getD 0 []
   ·rw [decide_eq_true c,if_neg (show ¬ (!true) = true from Bool.false_ne_true),qbe hi (by omega),ih,Bool.true_and,if_pos rfl,List.length_cons,Nat.add_assoc i 1,Nat.add_comm 1]
   ·rw [decide_eq_false c,if_pos (show (!false) = true from rfl),Bool.false_and,if_neg Bool.false_ne_true,if_neg Bool.false_ne_true]; rfl) k (by omega)
 rw [List.drop_zero] at this
 unfold qca.f qap.f qac.f
 rw [this,obs]
 by_cases c : l.all (fun t => decide (t = l.getD 0 [])) = true
 ·rw [if_pos c,if_pos c,Sum.elim_inl,obs,obs,if_neg (by decide),ifp]
 ·rw [if_neg c,if_neg c,Sum.elim_inr,obs,obs,if_pos (by rw [decide_eq_true_eq]; omega)]
theorem qez (k : Nat) (l : List LI) (hl : l.length ≤ 100000) (hk : 120000 ≤ k) : qai.f k l = some (!l.all mSR) := by
 have := iter0 (L := fun n i (_ : Unit) => qad.l0 k n l l.length i) (st := fun _=>()) (fun i => if (l.drop i).all mSR = true then .inl () else .inr ((i + ((l.drop i).takeWhile mSR).length : Nat) : Int)) (m := l.length) 0
  (fun n _ => by rw [qad.l0,ifq,List.drop_eq_nil_of_le (Nat.le_refl _)]; rfl)
  (fun i n hi _ ih => by
   rw [qad.l0,ifp,ifp,Int.toNat_natCast,qbZ.f,qa4 _ k (by omega),obs,obs,qar hi ([] : LI),List.all_cons,List.takeWhile_cons]
   cases c : mSR (l.getD i [])
   ·rw [if_pos (show (!false) = true from rfl),Bool.false_and,if_neg Bool.false_ne_true,if_neg Bool.false_ne_true]; rfl
   ·rw [if_neg (show ¬ (!true) = true from Bool.false_ne_true),qbe hi (by omega),ih,Bool.true_and,if_pos rfl,List.length_cons,Nat.add_assoc i 1,Nat.add_comm 1]) k (by omega)
 rw [List.drop_zero] at this
 unfold qai.f qad.f
 rw [this,obs]
 cases c : l.all mSR
 ·rw [if_neg (by decide),Sum.elim_inr,obs,decide_eq_true (by omega)]; rfl
 ·rw [if_pos rfl,Sum.elim_inl,obs]; rfl
end Go.Pf

namespace Go.Pf
open Go Go.Vm
theorem qeS {l : List LI} (h : l.all mSR = true) : ∀ s ∈ l,s.length ≤ 4 ∧ ∀ x ∈ s,0 ≤ x ∧ x ≤ 32 := fun s hs => by
 have := qbq (List.all_eq_true.1 h s hs)
 exact ⟨this.1,this.2.1⟩
set_option maxHeartbeats 1000000 in
theorem qe9 (op : Int) (i s a : LI) (n h : Int) (nt : ByteArray) (l : List LI) (hl : l.length ≤ 100000) (hA : l.all mSR = true) (hF : zF op s.length a.length n h l.length = true) (ha : a.length ≤ 17592186043904) (k : Nat) (hk : a.length + 120000 ≤ k) :
    ∃ x,qav.f k op i s a n h nt l = some (x,(zShape op s a h l).1) ∧ ((zShape op s a h l).1 = 0 → x = (zShape op s a h l).2 ∧ x.length ≤ 1000) := by
  have hR : ∀ j,j < l.length → mSR (l.getD j []) = true := fun j hj => List.all_eq_true.1 hA _ (qaY hj _)
  have fin : ∀ {o : Option (LI × Int)} {z : Int × LI},o = some (z.2,z.1) → (z.1 = 0 → z.2.length ≤ 1000) → ∃ x,o = some (x,z.1) ∧ (z.1 = 0 → x = z.2 ∧ x.length ≤ 1000) := fun {o z} e hz => ⟨z.2,e,fun h => ⟨rfl,hz h⟩⟩
  have len4 : ∀ {x : LI},mSR x = true → x.length ≤ 1000 := fun h => by have := (qbq h).1; omega
  have given : ∀ op,op = 1 ∨ op = 2 ∨ op = 3 → qbD.f k op i s a n h nt = some ((zShape op s a h l).2,(zShape op s a h l).1) ∧ ((zShape op s a h l).1 = 0 → (zShape op s a h l).2.length ≤ 1000) := fun op ho => by
    unfold qbD.f
    rw [qa4 _ k (by omega),obs]
    by_cases c : mSR s = true
    · have h4 := (qbq c).1
      rw [if_pos c]
      by_cases c3 : op = 3
      · subst c3
        simp only [zShape,Int.reduceEq,reduceIte,or_self,if_pos c]
        by_cases c1 : a.length = 1
        · rw [ifp,ifp]
          by_cases c2 : a.getD 0 0 < 0
          · rw [if_pos c2,ifq]; exact ⟨rfl,fun h => by simp at h⟩
          by_cases c3 : (s.length : Int) ≤ a.getD 0 0
          · rw [if_neg c2,if_pos c3,ifq]; exact ⟨rfl,fun h => by simp at h⟩
          rw [if_neg c2,if_neg c3,ifp]; exact ⟨rfl,fun _=>by show s.length ≤ 1000; omega⟩
        · rw [ifq,ifq]; exact ⟨rfl,fun h => by simp at h⟩
      · have e : zShape op s a h l = (0,s) := by
          unfold zShape
          rw [ifp,if_pos c]
        rw [if_neg c3,e]; exact ⟨rfl,fun _=>by show s.length ≤ 1000; omega⟩
    · have e : zShape op s a h l = (13,[]) := by
        unfold zShape
        by_cases c3 : op = 3
        · rw [ifq,if_pos c3,if_neg c]
        · rw [ifp,if_neg c]
      rw [if_neg c,e]; exact ⟨rfl,fun h => by simp at h⟩
  have alike : ∀ op,4 ≤ op ∧ op ≤ 12 → 0 < l.length → ∃ x,qav.f k op i s a n h nt l = some (x,(zShape op s a h l).1) ∧ ((zShape op s a h l).1 = 0 → x = (zShape op s a h l).2 ∧ x.length ≤ 1000) := fun op ho h0 => by
    have h4 := (qbq (hR 0 h0)).1
    have e2 : zShape op s a h l = if l.all (fun t => decide (t = l.getD 0 [])) = true then (0,l.getD 0 []) else (13,[]) := by
      unfold zShape
      rw [ifq,ifq,ifq,ifq,ifq,ifq,ifq,ifq,ifq,ifq]
    rw [e2]
    unfold qav.f
    rw [ifq,ifq,ifq,ifq,ifq,ifq,ifq,ifq,ifq,ifq,ifq,
      qgn k l h0 (by omega) (fun s hs => by have := (qeS hA s hs).1; omega) (by omega),obs]
    split
    · exact ⟨l.getD 0 [],rfl,fun _=>⟨rfl,by omega⟩⟩
    · exact ⟨_,rfl,fun h => by simp at h⟩
  rcases qlh hF with ⟨rfl,m⟩ | ⟨rfl,m⟩ | ⟨rfl,m⟩ | ⟨rfl | rfl,m⟩ | ⟨c,m⟩ | ⟨rfl,m⟩ | ⟨rfl,m⟩ | ⟨rfl,m⟩ | ⟨rfl,m⟩ | ⟨rfl,m⟩ | ⟨rfl,m⟩ | ⟨rfl,m⟩ | ⟨rfl,m⟩ | ⟨rfl,m⟩
  · obtain ⟨g1,g2⟩ := given 1 (by omega)
    refine fin ?_ g2
    unfold qav.f
    rw [if_pos rfl,g1,obs]
  · obtain ⟨g1,g2⟩ := given 2 (by omega)
    refine fin ?_ g2
    unfold qav.f
    rw [if_neg (by decide),if_pos rfl,g1,obs]
  · obtain ⟨g1,g2⟩ := given 3 (by omega)
    refine fin ?_ g2
    unfold qav.f
    rw [if_neg (by decide),if_neg (by decide),if_pos rfl,g1,obs]
  · exact alike 4 (by omega) (by omega)
  · exact alike 5 (by omega) (by omega)
  · exact alike op (by omega) (by omega)
  · exact alike 12 (by omega) (by omega)
  · -- turn
    have hr := hR 0 (by omega)
    have h4 := (qbq hr).1
    simp only [qav.f,zShape,Int.reduceEq,reduceIte,or_self]
    rw [ifp,qgt h4 a k (by omega),obs]
    refine fin rfl fun _=>?_
    split
    · rename_i hp
      show (List.map _ a).length ≤ 1000
      have := (qiE.1 hp).len
      rw [List.length_map]; omega
    · rename_i hp
      exact Nat.zero_le _
  · -- spread
    have hr := hR 0 (by omega)
    have h4 := (qbq hr).1
    simp only [qav.f,zShape,Int.reduceEq,reduceIte,or_self]
    rw [ifp,qhg h4 s a k (by omega),obs]
    by_cases c : mSR s = true
    · rw [if_pos c,if_pos c]
      by_cases c2 : zWi s (-1) (l.getD 0 []) a = true
      · rw [if_pos c2,if_pos c2]; exact ⟨s,rfl,fun _=>⟨rfl,len4 c⟩⟩
      · rw [if_neg c2,if_neg c2]; exact ⟨s,rfl,fun h => by simp at h⟩
    · rw [if_neg c,if_neg c]; exact ⟨s,rfl,fun h => by simp at h⟩
  · -- slice
    have hr := hR 0 (by omega)
    have h4 := (qbq hr).1
    simp only [qav.f,qcr.f,zShape,Int.reduceEq,reduceIte,or_self]
    rw [ifp,qaZ (n := 2 * ((l.getD 0 []).length : Int)) (by omega) (by omega)]
    by_cases c : a.length = 2 * (l.getD 0 []).length
    · rw [ifp,ifp,ifp,Int.toNat_natCast,List.drop_zero,List.take_length,qgu hr _ _ k (by omega),obs,obs]
      refine ⟨a.drop (l.getD 0 []).length,?_,fun hz => ?_⟩
      · by_cases c2 : zSl (l.getD 0 []) (a.take (l.getD 0 []).length) (a.drop (l.getD 0 []).length) = true
        · rw [if_pos c2,if_pos ⟨c,c2⟩]
        · rw [if_neg c2,if_neg (fun hh => c2 hh.2)]
      · by_cases c2 : zSl (l.getD 0 []) (a.take (l.getD 0 []).length) (a.drop (l.getD 0 []).length) = true
        · rw [if_pos ⟨c,c2⟩]; exact ⟨rfl,by rw [List.length_drop]; omega⟩
        · rw [if_neg (fun hh => c2 hh.2)] at hz; simp at hz
    · rw [ifq,if_neg (fun hh => c hh.1)]
      exact ⟨[],rfl,fun h => by simp at h⟩
  · -- pad
    have hr := hR 0 (by omega)
    have h4 := (qbq hr).1
    simp only [qav.f,qcr.f,zShape,Int.reduceEq,reduceIte,or_self]
    rw [ifp,qaZ (n := 2 * ((l.getD 0 []).length : Int)) (by omega) (by omega)]
    by_cases c : a.length = 2 * (l.getD 0 []).length
    · rw [ifp,ifp,ifp,Int.toNat_natCast,List.drop_zero,List.take_length,qgw hr _ _ k (by omega),obs,obs]
      by_cases c2 : zMay (l.getD 0 []) (a.take (l.getD 0 []).length) (a.drop (l.getD 0 []).length) = true
      · have cc := And.intro c c2
        rw [if_pos c2,if_pos cc]
        refine fin rfl fun hz => ?_
        split at hz
        · rename_i c3
          rw [if_pos c3]; exact len4 c3
        · simp at hz
      · rw [if_neg c2,if_neg (fun hh => c2 hh.2)]
        exact ⟨[],rfl,fun h => by simp at h⟩
    · rw [ifq,if_neg (fun hh => c hh.1)]
      exact ⟨[],rfl,fun h => by simp at h⟩
  · -- join
    simp only [qav.f,zShape,Int.reduceEq,reduceIte,or_self]
    by_cases c : a.length = 1
    · rw [ifp,ifp,qgx _ l (qeS hA) (by omega) k (by omega),obs,if_pos c]
      exact fin rfl fun hz => len4 (zJs_R hz)
    · rw [ifq,if_neg c]
      exact ⟨[],rfl,fun h => by simp at h⟩
  · -- fold
    have hr := hR 0 (by omega)
    have h4 := (qbq hr).1
    simp only [qav.f,qci.f,zShape,Int.reduceEq,reduceIte,or_self]
    rw [ifp,qeq,obs]
    by_cases c : 1 ≤ h ∧ h ≤ 4
    · rw [decide_eq_true c,if_pos rfl,if_pos c,qhH _ _ (by omega) ha k (by omega),obs]
      by_cases c2 : zRi (l.getD 0 []).length (-1) a = true
      · rw [if_pos c2,if_pos c2,if_pos rfl,qa4 _ k (by omega),obs]
        by_cases c3 : mSR (lef a (l.getD 0 [])) = true
        · rw [if_pos c3,if_pos c3,obs]; exact fin rfl fun _=>len4 c3
        · rw [if_neg c3,if_neg c3,obs]; exact ⟨_,rfl,fun h => by simp at h⟩
      · rw [if_neg c2,if_neg c2,if_neg (by decide),obs]; exact ⟨_,rfl,fun h => by simp at h⟩
    · rw [decide_eq_false c,if_neg (by decide),if_neg c,obs]; exact ⟨_,rfl,fun h => by simp at h⟩
  · -- dot
    simp only [qav.f,zShape,Int.reduceEq,reduceIte,or_self]
    by_cases c : a.length = 1
    · rw [ifp,ifp,ifp,ifp,qhL _ _ _ k (by omega),obs,if_pos c]
      exact fin rfl fun hz => by
        have := qli hz
        rw [this.1]; exact len4 this.2.1
    · rw [ifq,if_neg c]
      exact ⟨[],rfl,fun h => by simp at h⟩
  · -- window
    have hr := hR 0 (by omega)
    have h4 := qbq hr
    simp only [qav.f,qcG.f,zShape,Int.reduceEq,reduceIte,or_self]
    rw [ifp]
    by_cases c : a.length = 3
    · rw [ifp,ifp,ifp,qgH,obs]
      by_cases c2 : (1 ≤ h ∧ h ≤ 4) ∧ (1 ≤ a.getD 1 0 ∧ a.getD 1 0 ≤ 32) ∧ 1 ≤ a.getD 2 0 ∧ a.getD 2 0 ≤ 32
      · rw [decide_eq_true c2,if_pos rfl,ifp]
        by_cases c3 : a.getD 0 0 < 0
        · rw [if_pos c3,obs,ifq]; exact ⟨_,rfl,fun h => by simp at h⟩
        by_cases c4 : ((l.getD 0 []).length : Int) ≤ a.getD 0 0
        · rw [if_neg c3,if_pos c4,obs,ifq]; exact ⟨_,rfl,fun h => by simp at h⟩
        have hj : (a.getD 0 0).toNat < (l.getD 0 []).length := by omega
        have hbd := h4.2.1 _ (qaY hj (0 : Int))
        rw [if_neg c3,if_neg c4,qbG _ (by omega),obs,ifp,qgG (by omega) (by omega) (by omega) (by omega),obs,ifp,if_pos hj,obs,if_pos ⟨c,c2,by omega⟩]
        exact fin rfl fun _=>by
          show (List.set _ _ _).length ≤ 1000
          rw [qkQ]; omega
      · rw [decide_eq_false c2,if_neg (by decide),obs,if_neg (fun hh => c2 hh.2.1)]; exact ⟨_,rfl,fun h => by simp at h⟩
    · rw [ifq,obs,if_neg (fun hh => c hh.1)]; exact ⟨_,rfl,fun h => by simp at h⟩
theorem qkL {ax : Int} {l : List LI} (h : (zJs ax l).1 ≠ 0) : (zJs ax l).2 = [] := by
 unfold zJs at h ⊢
 split
 ·rfl
 rename_i c
 rw [if_neg c] at h
 split
 ·rename_i o ho
  rw [ho] at h
  dsimp only at h
  split
  ·rename_i c2
   rw [if_pos c2] at h; exact absurd rfl h
  ·rfl
 ·rfl
theorem qkM {a b : LI} {n : Int} (h : (zDS a b n).1 ≠ 0) : (zDS a b n).2 = [] := by
 unfold zDS at h ⊢
 split
 ·rfl
 rename_i c
 rw [if_neg c] at h
 split
 ·rename_i c2
  rw [if_pos c2] at h
  split
  ·rename_i c3
   rw [if_pos c3] at h; exact absurd rfl h
  ·rfl
 ·rfl
theorem qiu {op : Int} {s a : LI} {h : Int} {l : List LI} (e : (zShape op s a h l).1 ≠ 0) : (zShape op s a h l).2 = [] := by
 have t : ∀ {p : Prop} [Decidable p] {x y : Int × LI},(x.1 ≠ 0 → x.2 = []) → (y.1 ≠ 0 → y.2 = []) → (if p then x else y).1 ≠ 0 → (if p then x else y).2 = [] := fun hx hy => by
  split
  ·exact hx
  ·exact hy
 have z : ∀ {x : LI},((0,x) : Int × LI).1 ≠ 0 → ((0,x) : Int × LI).2 = [] := fun h => absurd rfl h
 have w : ∀ {x : Int},((x,[]) : Int × LI).1 ≠ 0 → ((x,[]) : Int × LI).2 = [] := fun _=>rfl
 revert e
 unfold zShape
 exact t (t z w) (t (t (t z w) w) (t (t z w) (t (t (t z w) w) (t (t z w) (t (t (t z w) w) (t (t qkL w) (t (t (t (t z w) w) w) (t (t qkM w) (t (t z w) (t z w))))))))))
theorem qgo (op : Int) (i s a : LI) (n h : Int) (nt : ByteArray) (l : List LI) (hl : l.length ≤ 100000) (ha : a.length ≤ 17592186043904) (k : Nat) (hk : a.length + 120000 ≤ k) :
  qcb.f k op i s a n h nt l = some (zSh op s a n h l) := by
 unfold qcb.f zSh
 rw [qgm,obs]
 by_cases hF : zF op s.length a.length n h l.length = true
 rotate_left
 ·rw [if_neg hF,if_neg hF]
 rw [if_pos hF,if_pos hF,qez k l (by omega) (by omega),obs]
 by_cases hA : l.all mSR = true
 rotate_left
 ·rw [if_neg hA,Bool.eq_false_iff.2 hA,if_pos (show (!false) = true from rfl)]
 rw [hA,if_neg (show ¬ (!true) = true from Bool.false_ne_true),if_pos rfl]
 obtain ⟨x,e,hx⟩ := qe9 op i s a n h nt l hl hA hF ha k hk
 rw [e,obs]
 by_cases c : (zShape op s a h l).1 = 0
 ·obtain ⟨rfl,hx2⟩ := hx c
  rw [if_pos c,qbG _ (by dsimp only; omega),obs,← c]
 ·rw [if_neg c,← qiu c]
end Go.Pf

namespace Go.Pf
open Go Go.Vm
theorem qcg (s t : ByteArray) : (s ++ t).size = s.size + t.size := ByteArray.size_append
theorem qir (s t u : ByteArray) : s ++ t ++ u = s ++ (t ++ u) := ByteArray.append_assoc
theorem qkn (s : ByteArray) : ByteArray.empty ++ s = s := ByteArray.empty_append
theorem qhi (s : ByteArray) : s ++ ByteArray.empty = s := ByteArray.append_empty
theorem qfO (s : ByteArray) (i : Nat) : 1 ≤ (Utf8.decode s i).2 := by
 unfold Utf8.decode
 dsimp only
 repeat' split
 all_goals simp
def rsx (s : ByteArray) : Nat → Nat → LI
 | 0,_ => []
 | n + 1,i => if i < s.size then ((Utf8.decode s i).1 : Int) :: rsx s n (i + (Utf8.decode s i).2) else []
def rs (s : ByteArray) : LI := rsx s s.size 0
theorem qjd (s : ByteArray) : ∀ n i,(rsx s n i).length ≤ n
 | 0,_ => Nat.le_refl _
 | n + 1,i => by
  rw [rsx]
  split
  ·have := qjd s n (i + (Utf8.decode s i).2)
   simp; omega
  ·simp
theorem qkr (s : ByteArray) : (rs s).length ≤ s.size := qjd s _ _
def enc : LI → ByteArray
 | [] => ByteArray.empty
 | r :: l => Utf8.encode r ++ enc l
theorem qdh (s : ByteArray) (hs : s.size ≤ 17592186043904) : ∀ (e i n : Nat) (y : LI),s.size ≤ i + e → e < n → y.length ≤ i → qaF.l0 n y s i = some (y ++ rsx s e i)
 | 0,i,n,y,hi,hn,hy => by
  obtain ⟨n,rfl⟩ := sun (n := n)
  rw [qaF.l0,ifq,rsx,List.append_nil]
 | e + 1,i,n,y,hi,hn,hy => by
  obtain ⟨n,rfl⟩ := sun (n := n)
  have hp := qfO s i
  rw [qaF.l0,rsx]
  by_cases c : i < s.size
  ·rw [if_pos c,if_pos c,if_pos (by rw [List.length_singleton]; omega),qdh s hs e _ n _ (by omega) (by omega) (by simp; omega),List.append_assoc]; rfl
  ·rw [if_neg c,if_neg c,List.append_nil]
theorem qbW (s : ByteArray) (hs : s.size ≤ 17592186043904) (k : Nat) (hk : s.size < k) : qaF.f k s = some (rs s) := by
 unfold qaF.f
 rw [qdh s hs s.size 0 k [] (by omega) hk (Nat.le_refl _)]; rfl
end Go.Pf

namespace Go.Pf
open Go Go.Vm
def fnI (x : Int) : Nat → LI → Int
 | _,[] => -1
 | i,y :: l => if y = x then (i : Int) else fnI x (i + 1) l
def fnd (l : LI) (x : Int) : Int := fnI x 0 l
theorem qih (x : Int) : ∀ (l : LI) (i : Nat),(fnI x i l = -1 ∧ x ∉ l) ∨ ∃ j : Nat,fnI x i l = ((i + j : Nat) : Int) ∧ j < l.length ∧ l.getD j 0 = x ∧ x ∉ l.take j
 | [],i => .inl ⟨rfl,by simp⟩
 | y :: l,i => by
  rw [fnI]
  by_cases c : y = x
  ·rw [if_pos c]
   exact .inr ⟨0,rfl,by simp,c,by simp⟩
  ·rw [if_neg c]
   rcases qih x l (i + 1) with ⟨h1,h2⟩ | ⟨j,h1,h2,h3,h4⟩
   ·exact .inl ⟨h1,by simp [h2]; exact fun h => c h.symm⟩
   ·exact .inr ⟨j + 1,by rw [h1]; omega,by simp; omega,h3,by simp [h4]; exact fun h => c h.symm⟩
theorem qka (l : LI) (x : Int) : (fnd l x = -1 ∧ x ∉ l) ∨ ∃ j : Nat,fnd l x = (j : Int) ∧ j < l.length ∧ l.getD j 0 = x ∧ x ∉ l.take j := by
 have := qih x l 0
 simp only [Nat.zero_add] at this
 exact this
theorem qev (l : LI) (x : Int) (hl : l.length ≤ 17592186043904) (k : Nat) (hk : l.length < k) : qak.f k l x = some (fnd l x) := by
 have := iter0 (L := fun n i (_ : Unit) => qak.l0 n l x l.length i) (st := fun _=>()) (fun i => if fnI x i (l.drop i) = -1 then .inl () else .inr (fnI x i (l.drop i))) (m := l.length) 0
  (fun n _ => by rw [qak.l0,ifq,List.drop_eq_nil_of_le (Nat.le_refl _)]; rfl)
  (fun i n hi _ ih => by
   rw [qak.l0,ifp,ifp,Int.toNat_natCast,qar hi (0 : Int),fnI]
   by_cases c : l.getD i 0 = x
   ·rw [if_pos c.symm,if_pos c,ifq]
   ·rw [if_neg (fun h => c h.symm),if_neg c,qbe hi (by omega),ih]) k (by omega)
 rw [List.drop_zero] at this
 unfold qak.f fnd
 rw [this,obs]
 by_cases c : fnI x 0 l = -1
 ·rw [if_pos c,c]; rfl
 ·rw [if_neg c]; rfl
theorem qfr (l : LI) (x : Int) (hl : l.length ≤ 17592186043904) (k : Nat) (hk : l.length < k) : qa3.f k l x = some (decide (x ∈ l)) := by
 unfold qa3.f
 rw [qev l x hl k hk,obs]
 rcases qka l x with ⟨h1,h2⟩ | ⟨j,h1,h2,h3,h4⟩
 ·rw [h1,decide_eq_false h2]; rfl
 ·rw [h1,decide_eq_true (by omega),decide_eq_true (by rw [← h3]; exact qaY h2 _)]
theorem qgX (s : ByteArray) (x : Int) (hs : s.size ≤ 17592186043904) (k : Nat) (hk : s.size < k) : qcq.f k s x = some (fnd (rs s) x) := by
 have := qkr s
 unfold qcq.f
 rw [qbW s hs k hk,obs,qev _ _ (by omega) k (by omega),obs]
def nmay (x : Int) : Bool := decide (33 ≤ x ∧ x ≠ 46 ∧ x ≠ 45 ∧ x ≠ 40 ∧ x ≠ 41 ∧ x ≠ 65533)
def nR (l : LI) : Nat → Nat → Bool
 | 0,_ => true
 | e + 1,i => nmay (l.getD i 0) && !decide (l.getD i 0 ∈ l.take i) && nR l e (i + 1)
def zNR (l : LI) (n : Int) : Bool := decide ((l.length : Int) = n ∧ n ≤ 3) && nR l l.length 0
theorem qhC (x : Int) : qc1.f x = some (nmay x) := by
 unfold qc1.f nmay
 by_cases c1 : x = 46
 ·rw [if_pos c1]; subst c1; rfl
 by_cases c2 : x = 45
 ·rw [if_neg c1,if_pos c2]; subst c2; rfl
 by_cases c3 : x = 40
 ·rw [if_neg c1,if_neg c2,if_pos c3]; subst c3; rfl
 by_cases c4 : x = 41
 ·rw [if_neg c1,if_neg c2,if_neg c3,if_pos c4]; subst c4; rfl
 by_cases c5 : x = 65533
 ·rw [if_neg c1,if_neg c2,if_neg c3,if_neg c4,if_pos c5]; subst c5; rfl
 rw [if_neg c1,if_neg c2,if_neg c3,if_neg c4,if_neg c5]
 congr 1
 simp [c1,c2,c3,c4,c5]
theorem qgc (s : ByteArray) (n : Int) (hs : s.size ≤ 17592186043904) (k : Nat) (hk : s.size < k) : qaO.f k s n = some (zNR (rs s) n) := by
 have hl := qkr s
 unfold qaO.f zNR
 rw [qbW s hs k hk,obs]
 generalize rs s = l at hl ⊢
 by_cases c1 : (l.length : Int) = n
 rotate_left
 ·rw [if_neg c1,decide_eq_false (fun h => c1 h.1)]; rfl
 by_cases c2 : 3 < n
 ·rw [if_pos c1,if_pos c2,decide_eq_false (by omega)]; rfl
 rw [if_pos c1,if_neg c2,decide_eq_true ⟨c1,by omega⟩,Bool.true_and]
 have := iter0 (L := fun n i (_ : Unit) => qaO.l0 k n l.length i l) (st := fun _=>()) (fun i => if nR l (l.length - i) i = true then .inl () else .inr false) (m := l.length) 0
  (fun n _ => by rw [qaO.l0,ifq,Nat.sub_self]; rfl)
  (fun i n hi _ ih => by
   rw [qaO.l0,ifp,ifp,ifp,Int.toNat_natCast,qhC,obs,show l.length - i = (l.length - (i + 1)) + 1 by omega,nR]
   cases c : nmay (l.getD i 0)
   ·rw [if_neg Bool.false_ne_true,Bool.false_and,Bool.false_and,if_neg Bool.false_ne_true]
   rw [if_pos rfl,Bool.true_and,ifp,List.drop_zero,qfr _ _ (by rw [List.length_take]; omega) k (by rw [List.length_take]; omega),obs]
   cases c3 : decide (l.getD i 0 ∈ l.take i)
   ·rw [if_neg Bool.false_ne_true,qbe hi (by omega),ih]; rfl
   ·rw [if_pos rfl]; rfl) k (by omega)
 rw [Nat.sub_zero] at this
 have this : qaO.l0 k k l.length 0 l = _ := this
 rw [this,obs]
 cases nR l l.length 0 <;> rfl
def zNl (nm : LI) : LI → LI → Option LI
 | [],y => some y
 | r :: l,y => if r = 32 then zNl nm l y else if r = 46 then zNl nm l (y ++ [-1]) else if fnd nm r < 0 ∨ fnd nm r ∈ y then none else zNl nm l (y ++ [fnd nm r])
def zNote (nm l : LI) (rank : Int) : Bool × Int × LI :=
 if 16 < l.length then (false,14,[]) else
 match zNl nm l [] with
 | none => (false,14,[])
 | some y => if y.length = 0 then (false,0,[]) else if (y.length : Int) = rank then (true,0,y) else (false,14,[])
theorem qdP (s : ByteArray) (hs : s.size ≤ 17592186043904) (l : LI) (hl : l.length ≤ 16) (rank : Int) (k : Nat) (hk : s.size + 100 < k) : ∀ (e i n : Nat) (y : LI),l.length = i + e → e < n → y.length ≤ i →
  qaP.l0 k n s rank l.length i y l = some (match zNl (rs s) (l.drop i) y with | some y => .inl y | none => .inr (false,14))
 | 0,i,n,y,hi,hn,_ => by
  obtain ⟨n,rfl⟩ := sun (n := n)
  rw [qaP.l0,ifq,List.drop_eq_nil_of_le (by omega)]; rfl
 | e + 1,i,n,y,hi,hn,hy => by
  obtain ⟨n,rfl⟩ := sun (n := n)
  have ih := fun y hy => qdP s hs l hl rank k hk e (i + 1) n y (by omega) (by omega) hy
  rw [qaP.l0,ifp,ifp,ifp,Int.toNat_natCast,qgX s _ hs k (by omega),obs,qbe (show i < l.length by omega) (by omega),qar (show i < l.length by omega) (0 : Int),zNl]
  by_cases c1 : l.getD i 0 = 32
  ·rw [if_pos c1,if_pos c1,ih y (by omega)]
  by_cases c2 : l.getD i 0 = 46
  ·rw [if_neg c1,if_pos c2,if_neg c1,if_pos c2,if_pos (by simp; omega),ih _ (by simp; omega)]
  rw [if_neg c1,if_neg c2,if_neg c1,if_neg c2]
  by_cases c3 : fnd (rs s) (l.getD i 0) < 0
  ·rw [if_pos c3,if_pos (.inl c3)]
  rw [if_neg c3,qd4 _ _ (by omega) k (by omega),obs]
  by_cases c4 : fnd (rs s) (l.getD i 0) ∈ y
  ·rw [decide_eq_true c4,if_pos rfl,if_pos (show fnd (rs s) (l.getD i 0) < 0 ∨ fnd (rs s) (l.getD i 0) ∈ y from .inr c4)]
  ·rw [decide_eq_false c4,if_neg Bool.false_ne_true,if_neg (show ¬ (fnd (rs s) (l.getD i 0) < 0 ∨ fnd (rs s) (l.getD i 0) ∈ y) from fun h => h.elim c3 c4),if_pos (by simp; omega),ih _ (by simp; omega)]
theorem qep (s t : ByteArray) (rank : Int) (hs : s.size ≤ 17592186043904) (ht : t.size ≤ 17592186043904) (k : Nat) (hk : s.size + 100 < k) (hk2 : t.size < k) : qaP.f k s t rank = some (zNote (rs s) (rs t) rank) := by
 unfold qaP.f zNote
 rw [qbW t ht k hk2,obs]
 by_cases c : 16 < (rs t).length
 ·rw [ifp,if_pos c]
 ·have := qdP s hs (rs t) (by omega) rank k hk (rs t).length 0 k [] (by omega) (by omega) (Nat.le_refl _)
  rw [n0,List.drop_zero] at this
  rw [ifq,if_neg c,this,obs]
  cases zNl (rs s) (rs t) [] with
  | none => rfl
  | some y =>
   dsimp only [Sum.elim_inl]
   by_cases c1 : y.length = 0
   ·rw [ifp,if_pos c1]
   ·rw [ifq,if_neg c1]
    split <;> rfl
end Go.Pf

namespace Go.Pf
open Go Go.Vm
abbrev Nd := Int × LI × LI × LI × Int × Int × ByteArray
abbrev nd0 : Nd := ln0
def zIn (out : List LI) : LI → Option (List LI)
 | [] => some []
 | x :: l => if x < 0 ∨ (out.length : Int) ≤ x then none else (zIn out l).map (out.getD x.toNat [] :: ·)
theorem qiZ {out : List LI} : ∀ {l : LI} {r : List LI},zIn out l = some r → r.length = l.length
 | [],r,h => by cases h; rfl
 | x :: l,r,h => by
  rw [zIn] at h
  split at h
  ·cases h
  ·cases e : zIn out l with
   | none => rw [e] at h; cases h
   | some q =>
    rw [e] at h
    cases h
    rw [List.length_cons,List.length_cons,qiZ e]
def zNd (nm : LI) (out : List LI) (x : Nd) : Int × LI :=
 match zIn out x.2.1 with
 | none => (23,[])
 | some l => if (zSh x.1 x.2.2.1 x.2.2.2.1 x.2.2.2.2.1 x.2.2.2.2.2.1 l).1 = 0 then
   ((zNote nm (rs x.2.2.2.2.2.2) (zSh x.1 x.2.2.1 x.2.2.2.1 x.2.2.2.2.1 x.2.2.2.2.2.1 l).2.length).2.1,(zSh x.1 x.2.2.1 x.2.2.2.1 x.2.2.2.2.1 x.2.2.2.2.2.1 l).2)
  else ((zSh x.1 x.2.2.1 x.2.2.2.1 x.2.2.2.2.1 x.2.2.2.2.2.1 l).1,[])
def zGo (nm : LI) : List Nd → List LI → Int × List LI
 | [],out => (0,out)
 | x :: r,out => if (zNd nm out x).1 = 0 then zGo nm r (out ++ [(zNd nm out x).2]) else ((zNd nm out x).1,[])
def zMs (s : LI) (nm : LI) : Bool := mR s && zNR nm s.length
def zShs (s : LI) (nm : ByteArray) (N : List Nd) (O : LI) : Int × List LI :=
 if zMs s (rs nm) = true then
  (if 48 < N.length then (3,[]) else if 48 < O.length then (3,[]) else
   if (zGo (rs nm) N []).1 = 0 then (if O.all (fun k => decide (0 ≤ k ∧ k < (N.length : Int))) = true then zGo (rs nm) N [] else (23,[])) else ((zGo (rs nm) N []).1,[]))
 else (15,[])
def okN (x : Nd) : Prop := x.2.1.length ≤ 100000 ∧ x.2.2.2.1.length ≤ 100000 ∧ x.2.2.2.2.2.2.size ≤ 100000
theorem qhm (nm : LI) : ∀ (N : List Nd) (out : List LI),(zGo nm N out).1 = 0 → (zGo nm N out).2.length = out.length + N.length
 | [],out,_ => rfl
 | x :: r,out,h => by
  rw [zGo] at h ⊢
  by_cases c : (zNd nm out x).1 = 0
  ·rw [if_pos c] at h ⊢
   rw [qhm nm r _ h]; simp; omega
  ·rw [if_neg c] at h; exact absurd h c
theorem qdS (l : LI) (hl : l.length ≤ 3) (nm : ByteArray) (N : List Nd) (O : LI) : ∀ (d i : Nat) (p : Int) (n : Nat),l.length = i + d → 1 ≤ p → p ≤ 8 ^ i → d < n →
  qa6.l0 n p l l.length i l nm N O = some (if (l.drop i).all okD = true then .inl (p * pd (l.drop i)) else .inr false)
 | 0,i,p,n,hi,h1,h2,hn => by
  obtain ⟨n,rfl⟩ := sun (n := n)
  rw [qa6.l0,ifq,List.drop_eq_nil_of_le (by omega)]
  simp [pd]
 | d + 1,i,p,n,hi,h1,h2,hn => by
  obtain ⟨n,rfl⟩ := sun (n := n)
  rw [qa6.l0,ifp,ifp,Int.toNat_natCast,qar (show i < l.length by omega) 0]
  generalize l.getD i 0 = x
  by_cases c1 : x < 1
  ·rw [if_pos c1]; simp [qhz]; omega
  by_cases c2 : 8 < x
  ·rw [if_neg c1,if_pos c2]; simp [qhz]; omega
  have hx : okD x = true := qhz.2 (by omega)
  have hm := qj2 h1 h2 (show 1 ≤ x ∧ x ≤ 8 by omega)
  have h8 := p8 (show i + 1 ≤ 3 by omega)
  rw [if_neg c1,if_neg c2,qaZ (n := p * x) (by omega) (by omega),qaZ (n := (i : Int) + 1) (by omega) (by omega)]
  have := qdS l hl nm N O d (i + 1) (p * x) n (by omega) hm.1 hm.2 (by omega)
  rw [show (i : Int) + 1 = ((i + 1 : Nat) : Int) by omega,this]
  simp [hx,pd,Int.mul_assoc]
theorem qg3 (l : LI) (nm : ByteArray) (N : List Nd) (O : LI) (hn : nm.size ≤ 100000) (k : Nat) (hk : 300000 ≤ k) : qa6.f k l nm N O = some (zMs l (rs nm)) := by
 unfold qa6.f zMs
 by_cases h : 3 < (l.length : Int)
 ·rw [if_pos h]; simp [mR]; omega
 ·have := qdS l (by omega) nm N O l.length 0 1 k (by omega) (by omega) (by simp) (by omega)
  rw [if_neg h,show (0 : Int) = ((0 : Nat) : Int) from rfl,this,qgc nm _ (by omega) k (by omega)]
  have hl : l.length ≤ 3 := by omega
  by_cases ha : l.all okD = true
  ·simp only [List.drop_zero,ha,if_true,obs,Sum.elim_inl,Int.one_mul]
   by_cases c : pd l ≤ 8
   ·simp [mR,hl,ha,c]
   ·simp [mR,c]
  ·simp [ha,mR]
theorem qgl (out : List LI) (l : LI) (hl : l.length ≤ 100000) (g1 : LI) (g2 : ByteArray) (g3 : List Nd) (g4 : LI) (x1 : Int) (x2 x3 x4 : LI) (x5 x6 : Int) (x7 : ByteArray) (n : Nat) (hn : 100001 ≤ n) :
  qa1.l0 n out l l.length 0 g1 g2 g3 g4 x1 x2 x3 x4 x5 x6 x7 [] = some (match zIn out l with | some r => .inl r | none => .inr 23) := by
 have : ∀ (e i n : Nat) (y : List LI),l.length = i + e → e < n → y.length ≤ i → qa1.l0 n out l l.length i g1 g2 g3 g4 x1 x2 x3 x4 x5 x6 x7 y = some (match zIn out (l.drop i) with | some r => .inl (y ++ r) | none => .inr 23) := by
  intro e
  induction e with
  | zero =>
   intro i n y hi hn hy
   obtain ⟨n,rfl⟩ := sun (n := n)
   rw [qa1.l0,ifq,List.drop_eq_nil_of_le (by omega),zIn]
   simp
  | succ e ih =>
   intro i n y hi hn hy
   obtain ⟨n,rfl⟩ := sun (n := n)
   rw [qa1.l0,ifp,ifp,Int.toNat_natCast,qar (show i < l.length by omega) 0,zIn]
   by_cases c1 : l.getD i 0 < 0
   ·rw [if_pos c1,if_pos (.inl c1)]
   by_cases c2 : (out.length : Int) ≤ l.getD i 0
   ·rw [if_neg c1,if_pos c2,if_pos (.inr c2)]
   rw [if_neg c1,if_neg c2,if_neg (show ¬ (l.getD i 0 < 0 ∨ (out.length : Int) ≤ l.getD i 0) by omega),ifp,if_pos (by rw [List.length_singleton]; omega),qbe (show i < l.length by omega) (by omega),ih (i + 1) n _ (by omega) (by omega) (by simp; omega)]
   cases zIn out (l.drop (i + 1)) with
   | none => rfl
   | some r => simp
 have := this l.length 0 n [] (by omega) (by omega) (Nat.le_refl _)
 rw [n0,List.drop_zero] at this
 rw [this]
 cases zIn out l <;> simp
theorem qg2 (s : LI) (nm : ByteArray) (N : List Nd) (O : LI) (x : Nd) (out : List LI) (hn : nm.size ≤ 100000) (hx : okN x) (k : Nat) (hk : 300000 ≤ k) :
  qa1.f k s nm N O x.1 x.2.1 x.2.2.1 x.2.2.2.1 x.2.2.2.2.1 x.2.2.2.2.2.1 x.2.2.2.2.2.2 out = some (zNd (rs nm) out x) := by
 obtain ⟨h1,h2,h3⟩ := hx
 unfold qa1.f zNd
 rw [qgl out x.2.1 h1 s nm N O _ _ _ _ _ _ _ k (by omega),obs]
 cases e : zIn out x.2.1 with
 | none => rfl
 | some l =>
  have hl := qiZ e
  dsimp only [Sum.elim_inl]
  rw [qgo _ _ _ _ _ _ _ l (by omega) (by omega) k (by omega),obs]
  split
  ·rename_i c
   rw [qep _ _ _ (by omega) (by omega) k (by omega) (by omega),obs]
  ·rfl
theorem qc2 (s : LI) (nm : ByteArray) (N : List Nd) (O : LI) (hn : nm.size ≤ 100000) (hN : ∀ x ∈ N,okN x) (h48 : N.length ≤ 48) (k : Nat) (hk : 300000 ≤ k) : ∀ (e i n : Nat) (out : List LI),N.length = i + e → e < n → out.length = i →
  qaG.l0 k n N N.length i s nm N O out = some (if (zGo (rs nm) (N.drop i) out).1 = 0 then .inl (zGo (rs nm) (N.drop i) out).2 else .inr (zGo (rs nm) (N.drop i) out).1)
 | 0,i,n,out,hi,hn',ho => by
  obtain ⟨n,rfl⟩ := sun (n := n)
  rw [qaG.l0,ifq,List.drop_eq_nil_of_le (by omega),zGo,if_pos rfl]
 | e + 1,i,n,out,hi,hn',ho => by
  obtain ⟨n,rfl⟩ := sun (n := n)
  have hx := hN _ (qaY (show i < N.length by omega) nd0)
  rw [qaG.l0,ifp,ifp,Int.toNat_natCast,qg2 s nm N O (N.getD i nd0) out hn hx k hk,obs,qar (show i < N.length by omega) nd0,zGo]
  by_cases c : (zNd (rs nm) out (N.getD i nd0)).1 = 0
  ·rw [if_pos c,if_pos c,if_pos (by rw [List.length_singleton]; omega),qbe (show i < N.length by omega) (by omega),qc2 s nm N O hn hN h48 k hk e (i + 1) n _ (by omega) (by omega) (by simp; omega)]
  ·rw [if_neg c,if_neg c,if_neg c]
theorem qeC (O : LI) (hO : O.length ≤ 48) (out : List LI) (k : Nat) (hk : 100 ≤ k) : qaj.f k O out = some (!O.all (fun x => decide (0 ≤ x ∧ x < (out.length : Int)))) := by
  have := iter0 (L := fun n i (_ : Unit) => qae.l0 n O O.length i out) (st := fun _=>()) (fun i => if (O.drop i).all (fun x => decide (0 ≤ x ∧ x < (out.length : Int))) = true then .inl () else .inr ((i + ((O.drop i).takeWhile (fun x => decide (0 ≤ x ∧ x < (out.length : Int)))).length : Nat) : Int)) (m := O.length) 0
    (fun n _ => by rw [qae.l0,ifq,List.drop_eq_nil_of_le (Nat.le_refl _)]; rfl)
    (fun i n hi _ ih => by
      have e1 : qbA.f (O.getD i 0) out = some (!decide (0 ≤ O.getD i 0 ∧ O.getD i 0 < (out.length : Int))) := by
        unfold qbA.f
        by_cases c : O.getD i 0 < 0
        · rw [if_pos c,decide_eq_false (by omega)]; rfl
        · rw [if_neg c]
          by_cases c2 : (out.length : Int) ≤ O.getD i 0
          · rw [decide_eq_true c2,decide_eq_false (by omega)]; rfl
          · rw [decide_eq_false c2,decide_eq_true (by omega)]; rfl
      rw [qae.l0,ifp,ifp,Int.toNat_natCast,e1,obs,qar hi (0 : Int),List.all_cons,List.takeWhile_cons]
      cases c : decide (0 ≤ O.getD i 0 ∧ O.getD i 0 < (out.length : Int))
      · rw [if_pos (show (!false) = true from rfl),Bool.false_and,if_neg Bool.false_ne_true,if_neg Bool.false_ne_true]; rfl
      · rw [if_neg (show ¬ (!true) = true from Bool.false_ne_true),qbe hi (by omega),ih,Bool.true_and,if_pos rfl,List.length_cons,Nat.add_assoc i 1,Nat.add_comm 1]) k (by omega)
  rw [List.drop_zero] at this
  unfold qaj.f qae.f
  rw [this,obs]
  cases c : O.all (fun x => decide (0 ≤ x ∧ x < (out.length : Int)))
  · rw [if_neg (by decide),Sum.elim_inr,obs,decide_eq_true (by omega)]; rfl
  · rw [if_pos rfl,Sum.elim_inl,obs]; rfl
theorem qdi (s : LI) (nm : ByteArray) (N : List Nd) (O : LI) (hn : nm.size ≤ 100000) (hN : ∀ x ∈ N,okN x) (k : Nat) (hk : 300000 ≤ k) : qaG.f k s nm N O = some (zShs s nm N O) := by
 unfold qaG.f zShs
 rw [qg3 s nm N O hn k hk,obs]
 by_cases c1 : zMs s (rs nm) = true
 rotate_left
 ·rw [if_neg c1,if_neg c1]
 rw [if_pos c1,if_pos c1]
 by_cases c2 : 48 < N.length
 ·rw [ifp,if_pos c2]
 by_cases c3 : 48 < O.length
 ·rw [ifq,ifp,if_neg c2,if_pos c3]
 have h0 := qc2 s nm N O hn hN (by omega) k hk N.length 0 k [] (by omega) (by omega) rfl
 rw [n0,List.drop_zero] at h0
 rw [ifq,ifq,if_neg c2,if_neg c3,h0,obs]
 by_cases c4 : (zGo (rs nm) N []).1 = 0
 ·have hlen := qhm _ N [] c4
  rw [List.length_nil,Nat.zero_add] at hlen
  rw [if_pos c4,if_pos c4,Sum.elim_inl,qeC O (by omega) _ k (by omega),obs,hlen]
  cases c5 : O.all (fun x => decide (0 ≤ x ∧ x < (N.length : Int)))
  ·rfl
  ·rw [if_neg (show ¬ (!true) = true from Bool.false_ne_true),if_pos rfl,← c4]
 ·rw [if_neg c4,if_neg c4]; rfl
theorem qgp (s : LI) (nm : ByteArray) (N : List Nd) (O : LI) (hn : nm.size ≤ 100000) (hN : ∀ x ∈ N,okN x) (k : Nat) (hk : 300000 ≤ k) : qcc.f k s nm N O = some (zShs s nm N O).1 := by
 unfold qcc.f
 rw [qdi s nm N O hn hN k hk,obs]
end Go.Pf

namespace Go.Pf
open Go Go.Vm
def zTx (nm : LI) (k : Int) : Int := if k < 0 ∨ (nm.length : Int) ≤ k then 46 else nm.getD k.toNat 0
theorem qim : ∀ l : LI,(enc l).size ≤ 4 * l.length
 | [] => Nat.le_refl _
 | r :: l => by
  have h := qim l
  have : (Utf8.encode r).size ≤ 4 := by
   unfold Utf8.encode
   dsimp only
   generalize (if Utf8.valid r = true then r.toNat else Utf8.runeError) = c
   by_cases c1 : c < 128
   ·rw [if_pos c1]; show 1 ≤ 4; omega
   by_cases c2 : c < 2048
   ·rw [if_neg c1,if_pos c2]; show 2 ≤ 4; omega
   by_cases c3 : c < 65536
   ·rw [if_neg c1,if_neg c2,if_pos c3]; show 3 ≤ 4; omega
   ·rw [if_neg c1,if_neg c2,if_neg c3]; exact Nat.le_refl _
  rw [enc,qcg,List.length_cons]; omega
end Go.Pf

namespace Go.Pf
open Go Go.Vm
def bA (l : List UInt8) : ByteArray := ⟨l.toArray⟩
theorem qfo (a b : List UInt8) : bA a ++ bA b = bA (a ++ b) := by
 apply ByteArray.ext
 rw [ByteArray.data_append]
 simp [bA]
theorem qbd (a : List UInt8) : (bA a).size = a.length := rfl
theorem qhP (a : List UInt8) : (bA a).data.toList = a := by simp [bA]
theorem qlc (s : ByteArray) : bA s.data.toList = s := by cases s; simp [bA]
theorem qkG {a b : List UInt8} (h : bA a = bA b) : a = b := by
 have := congrArg (fun s : ByteArray => s.data.toList) h
 simpa [bA] using this
def zNum (n : Int) : ByteArray := bA (Lib.itoa n)
theorem qbU {n : Int} (h1 : -9223372036854775808 ≤ n) (h2 : n < 9223372036854775808) : qbr.f n = some (zNum n) := by
 unfold qbr.f strconv_FormatInt.f
 rw [if_pos ⟨rfl,h1,by omega⟩]; rfl
def dig (u : Nat) : List UInt8 := if u = 0 then [] else Lib.decDigits u
theorem qkh {u : Nat} (h : u ≠ 0) : dig u = dig (u / 10) ++ [UInt8.ofNat (48 + u % 10)] := by
 unfold dig
 rw [if_neg h]
 rw [Lib.decDigits]
 by_cases h10 : u < 10
 ·rw [dif_pos h10,ifp,Nat.mod_eq_of_lt h10]; rfl
 ·rw [dif_neg h10,ifq]
theorem qk7 {d : Nat} (h : d < 10) : Utf8.encode (48 + (d : Int)) = bA [UInt8.ofNat (48 + d)] := by
 match d,h with
 | 0,_ | 1,_ | 2,_ | 3,_ | 4,_ | 5,_ | 6,_ | 7,_ | 8,_ | 9,_ => rfl
 | d + 10,h => omega
theorem qcY (x0 : Int) : ∀ (e : Nat) (x : Int) (s : ByteArray) (n : Nat),x.natAbs < 10 ^ e → x.natAbs < 9223372036854775809 → e < n → s.size + e ≤ 100000 → qaB.l0 n x0 s x = some (bA (dig x.natAbs) ++ s)
 | 0,x,s,n,h,_,hn,_ => by
  obtain ⟨n,rfl⟩ := sun (n := n)
  have hx : x = 0 := by simp at h; omega
  subst hx
  rw [qaB.l0,if_pos rfl]
  show some s = some (bA [] ++ s)
  congr 1
 | e + 1,x,s,n,h,hb,hn,hs => by
  obtain ⟨n,rfl⟩ := sun (n := n)
  by_cases hx : x = 0
  ·subst hx
   rw [qaB.l0,if_pos rfl]
   show some s = some (bA [] ++ s)
   congr 1
  rw [qaB.l0,if_neg hx,ifp]
  have hdiv : (x.tdiv 10).natAbs = x.natAbs / 10 := by rw [Int.natAbs_tdiv]; rfl
  have hmod : (x.tmod 10).natAbs = x.natAbs % 10 := by rw [Int.natAbs_tmod]; rfl
  have hd : x.natAbs / 10 < 10 ^ e := by rw [Nat.pow_succ] at h; omega
  have hw : IntKind.i64.wrap (x.tdiv 10) = x.tdiv 10 := qaZ (by omega) (by omega)
  have fin : ∀ c : Int,c = ((x.natAbs % 10 : Nat) : Int) → (if (Utf8.encode (IntKind.i32.wrap (IntKind.i64.wrap (48 + c)))).size + s.size ≤ 9223372036854775807 then qaB.l0 n x0 ((Utf8.encode (IntKind.i32.wrap (IntKind.i64.wrap (48 + c)))) ++ s) (IntKind.i64.wrap (x.tdiv 10)) else none) = some (bA (dig x.natAbs) ++ s) := by
   rintro c rfl
   have hr : x.natAbs % 10 < 10 := Nat.mod_lt _ (by omega)
   have h32 : IntKind.i32.wrap (IntKind.i64.wrap (48 + ((x.natAbs % 10 : Nat) : Int))) = 48 + ((x.natAbs % 10 : Nat) : Int) := by
    rw [qaZ (by omega) (by omega)]
    generalize x.natAbs % 10 = d at hr
    match d,hr with
    | 0,_ | 1,_ | 2,_ | 3,_ | 4,_ | 5,_ | 6,_ | 7,_ | 8,_ | 9,_ => rfl
    | d + 10,h => omega
   rw [h32,qk7 hr,qbd,if_pos (by simp only [List.length_singleton]; omega),hw,qcY x0 e _ _ n (by rw [hdiv]; exact hd) (by rw [hdiv]; omega) (by omega) (by rw [qcg,qbd]; simp only [List.length_singleton]; omega),hdiv,
    qkh (show x.natAbs ≠ 0 by omega),← qfo,qir]
  by_cases hneg : x.tmod 10 < 0
  ·rw [if_pos hneg]
   exact fin _ (by rw [qaZ (by omega) (by omega)]; omega)
  ·rw [if_neg hneg]
   exact fin _ (by omega)
theorem qfs {n : Int} (h1 : -9223372036854775808 ≤ n) (h2 : n < 9223372036854775808) (k : Nat) (hk : 100 ≤ k) : qaB.f k n = some (zNum n) := by
 unfold qaB.f zNum Lib.itoa
 by_cases h0 : n = 0
 ·subst h0; rw [if_pos rfl,ifq]
  simp only [Int.toNat_zero]
  rw [Lib.decDigits,dif_pos (by omega)]; rfl
 have hl := qcY n 19 n ByteArray.empty k (by omega) (by omega) (by omega) (by simp)
 rw [if_neg h0,hl,obs,qhi]
 have hdg : dig n.natAbs = Lib.decDigits n.natAbs := by unfold dig; rw [ifq]
 rw [hdg]
 have hlen : (Lib.decDigits n.natAbs).length ≤ 20 := by
  have key : ∀ e u,u < 10 ^ e → (Lib.decDigits u).length ≤ e + 1 := fun e => by
   induction e with
   | zero => intro u h; rw [Lib.decDigits,dif_pos (by omega)]; simp
   | succ e ih =>
    intro u h
    rw [Lib.decDigits]
    split
    ·simp
    ·rw [List.length_append]; have := ih (u / 10) (by rw [Nat.pow_succ] at h; omega); simp only [List.length_singleton]; omega
  exact key 19 _ (by omega)
 by_cases hn : n < 0
 ·rw [if_pos hn,if_pos hn,qbd,if_pos (by show 1 + _ ≤ _; omega)]
  show some (bA [45] ++ _) = _
  rw [qfo]; rfl
 ·rw [if_neg hn,if_neg hn]
  congr 3; omega
end Go.Pf

namespace Go.Pf
open Go Go.Vm
def rng (n : Int) : Prop := -9223372036854775808 ≤ n ∧ n < 9223372036854775808
theorem qip : ∀ e u,u < 10 ^ e → (Lib.decDigits u).length ≤ e + 1 := fun e => by
 induction e with
 | zero => intro u h; rw [Lib.decDigits,dif_pos (by omega)]; simp
 | succ e ih =>
  intro u h
  rw [Lib.decDigits]
  split
  ·simp
  ·rw [List.length_append]; have := ih (u / 10) (by rw [Nat.pow_succ] at h; omega); simp only [List.length_singleton]; omega
theorem qgi {n : Int} (h : rng n) : (Lib.itoa n).length ≤ 21 := by
 obtain ⟨h1,h2⟩ := h
 unfold Lib.itoa
 split
 ·have := qip 19 n.natAbs (by omega); simp only [List.length_cons]; omega
 ·have := qip 19 n.toNat (by omega); omega
def zTl (l : LI) : List UInt8 := l.flatMap fun n => 32 :: Lib.itoa n
theorem qjK (n : Int) (l : LI) : zTl (n :: l) = 32 :: Lib.itoa n ++ zTl l := rfl
theorem qeM : ∀ {l : LI},(∀ n ∈ l,rng n) → (zTl l).length ≤ 22 * l.length
 | [],_ => Nat.le_refl _
 | n :: l,h => by
  have h1 := qgi (h n (List.mem_cons_self ..))
  have h2 := qeM (l := l) fun m hm => h m (List.mem_cons_of_mem _ hm)
  rw [qjK,List.length_append,List.length_cons,List.length_cons]; omega
theorem qck (l : LI) (hl : l.length ≤ 1000000) (hr : ∀ n ∈ l,rng n) (k : Nat) (hk : l.length < k) : qaD.f k l = some (l.map zNum) := by
 unfold qaD.f
 have := iter0 (L := fun n i y => qaD.l0 n l l.length i y) (st := fun i => (l.take i).map zNum) (fun _=>l.map zNum) (m := l.length) 0
  (fun n _ => by rw [qaD.l0,ifq,List.take_length])
  (fun i n hi _ ih => by
   have hm := hr _ (qaY hi 0)
   rw [qeP hi,List.map_append,List.map_cons,List.map_nil] at ih
   rw [qaD.l0,ifp,ifp,Int.toNat_natCast,qbU hm.1 hm.2,obs,qbe hi (by omega),if_pos (by rw [List.length_map,List.length_take,List.length_singleton]; omega)]
   exact ih) k (by omega)
 rw [List.take_zero,List.map_nil] at this
 rw [this]; rfl
def zName (op : Int) : ByteArray := if op < 1 ∨ 20 < op then ByteArray.empty else (qhv.f.getD []).getD op.toNat ByteArray.empty
theorem qeO (op : Int) : qcm.f op = some (zName op) := by
 rcases qeI op with rfl | rfl | rfl | rfl | rfl | rfl | rfl | rfl | rfl | rfl | rfl | rfl | rfl | rfl | rfl | rfl | rfl | rfl | rfl | rfl | hout
 iterate 20 rfl
 unfold qcm.f zName
 rw [if_pos hout]
 rcases hout with h | h
 ·rw [if_pos h]
 ·rw [ifq,if_pos h]
theorem qiw (op : Int) : (zName op).size ≤ 6 := by
 rcases qeI op with rfl | rfl | rfl | rfl | rfl | rfl | rfl | rfl | rfl | rfl | rfl | rfl | rfl | rfl | rfl | rfl | rfl | rfl | rfl | rfl | hout
 iterate 20 decide
 unfold zName
 rw [if_pos hout]; decide
end Go.Pf

namespace Go.Pf
open Go Go.Vm
theorem qjJ (s : ByteArray) : ∀ (e i : Nat) (r : List UInt8),s.size ≤ i + e → ByteArray.toList.loop s i r = r.reverse ++ s.data.toList.drop i
 | 0,i,r,h => by
  rw [ByteArray.toList.loop,ifq,List.drop_eq_nil_of_le (by rw [Array.length_toList]; show s.size ≤ i; omega),List.append_nil]
 | e + 1,i,r,h => by
  rw [ByteArray.toList.loop]
  by_cases c : i < s.size
  ·have c' : i < s.data.toList.length := by rw [Array.length_toList]; exact c
   rw [if_pos c,qjJ s e (i + 1) _ (by omega),List.reverse_cons,List.append_assoc,qar c' 0]
   have e : s.get! i = s.data.toList.getD i 0 := by
    show s.data[i]! = _
    rw [Array.getElem!_eq_getD,Array.getD_eq_getD_getElem?,List.getD_eq_getElem?_getD,Array.getElem?_toList]; rfl
   rw [e]; rfl
  ·rw [if_neg c,List.drop_eq_nil_of_le (by rw [Array.length_toList]; show s.size ≤ i; omega),List.append_nil]
theorem qhh (s : ByteArray) : s.toList = s.data.toList := by
 show ByteArray.toList.loop s 0 [] = _
 rw [qjJ s s.size 0 [] (by omega)]; rfl
theorem qbS (a b : ByteArray) : (a.toList == b.toList) = decide (a = b) := by
 rw [qhh,qhh]
 by_cases h : a = b
 ·subst h; simp
 ·have h2 : a.data.toList ≠ b.data.toList := fun e => h (by rw [← qlc a,e,qlc])
  rw [decide_eq_false h]
  exact beq_false_of_ne h2
theorem qfQ (a b : ByteArray) : ((a.toList == b.toList) = true) ↔ a = b := by rw [qbS,decide_eq_true_eq]
theorem qcJ (s : ByteArray) : qbl.f s = some (if s = ByteArray.empty then bA [45] else s) := by
 unfold qbl.f
 by_cases h : s = ByteArray.empty
 ·rw [if_pos ((qfQ _ _).2 h),if_pos h]; rfl
 ·rw [if_neg (fun hh => h ((qfQ _ _).1 hh)),if_neg h]
theorem qjc (l : LI) : runesBytes l = enc l := by
 have key : ∀ (l : LI) (a : ByteArray),l.foldl (fun r n => r ++ Utf8.encode n) a = a ++ enc l := fun l => by
  induction l with
  | nil => intro a; rw [List.foldl_nil,enc,qhi]
  | cons r l ih => intro a; rw [List.foldl_cons,ih,enc,qir]
 unfold runesBytes
 rw [key,qkn]
def zTxt (nm : ByteArray) (sp : LI) : ByteArray := enc (sp.map (zTx (rs nm)))
theorem qgW (nm : ByteArray) (hn : nm.size ≤ 100000) (sp : LI) (hs : sp.length ≤ 1000) (k : Nat) (hk : 500000 ≤ k) : qaU.f k nm sp = some (zTxt nm sp) := by
  unfold qaU.f zTxt
  rw [qbW nm (by omega) k (by omega),obs]
  generalize rs nm = l
  have := iter0 (L := fun n i y => qaU.l0 n sp sp.length i l y) (st := fun i => (sp.take i).map (zTx l)) (fun _=>sp.map (zTx l)) (m := sp.length) 0
    (fun n _ => by rw [qaU.l0,ifq,List.take_length])
    (fun i n hi _ ih => by
      have hb : ((sp.take i).map (zTx l)).length ≤ 1000 := by rw [List.length_map,List.length_take]; omega
      rw [qeP hi,List.map_append,List.map_cons,List.map_nil] at ih
      rw [qaU.l0,ifp,ifp,Int.toNat_natCast,qbe hi (by omega)]
      by_cases c1 : 0 ≤ sp.getD i 0
      · by_cases c2 : sp.getD i 0 < (l.length : Int)
        · have e : zTx l (sp.getD i 0) = l.getD (sp.getD i 0).toNat 0 := ifq
          rw [e] at ih
          rw [if_pos c1,if_pos c2,if_pos ⟨c1,c2⟩,ifp,if_pos (by simp only [List.length_singleton]; omega),ih]
        · have e : zTx l (sp.getD i 0) = 46 := ifp
          rw [e] at ih
          rw [if_pos c1,if_neg c2,if_pos (by simp only [List.length_singleton]; omega),ih]
      · have e : zTx l (sp.getD i 0) = 46 := ifp
        rw [e] at ih
        rw [if_neg c1,if_pos (by simp only [List.length_singleton]; omega),ih]) k (by omega)
  rw [List.take_zero,List.map_nil] at this
  rw [this,obs,qjc]
theorem qiJ (r : Int) : 1 ≤ (Utf8.encode r).size := by
 unfold Utf8.encode
 dsimp only
 generalize (if Utf8.valid r = true then r.toNat else Utf8.runeError) = c
 by_cases c1 : c < 128
 ·rw [if_pos c1]; exact Nat.le_refl _
 by_cases c2 : c < 2048
 ·rw [if_neg c1,if_pos c2]; show 1 ≤ 2; omega
 by_cases c3 : c < 65536
 ·rw [if_neg c1,if_neg c2,if_pos c3]; show 1 ≤ 3; omega
 ·rw [if_neg c1,if_neg c2,if_neg c3]; show 1 ≤ 4; omega
def zNW (nm nt : ByteArray) (rank : Int) : ByteArray := if (zNote (rs nm) (rs nt) rank).1 = true then zTxt nm (zNote (rs nm) (rs nt) rank).2.2 else bA [45]
theorem qfU (nm : LI) : ∀ (l y r : LI),zNl nm l y = some r → r.length ≤ y.length + l.length
 | [],y,r,h => by rw [zNl] at h; cases h; simp
 | x :: l,y,r,h => by
  rw [zNl] at h
  split at h
  ·have := qfU nm l y r h; rw [List.length_cons]; omega
  split at h
  ·have := qfU nm l _ r h; rw [List.length_append] at this; simp only [List.length_cons,List.length_nil] at this ⊢; omega
  split at h
  ·cases h
  ·have := qfU nm l _ r h; rw [List.length_append] at this; simp only [List.length_cons,List.length_nil] at this ⊢; omega
theorem qgC (nm l : LI) (rank : Int) : (zNote nm l rank).2.2.length ≤ 16 := by
 unfold zNote
 by_cases c : 16 < l.length
 ·rw [if_pos c]; exact Nat.zero_le _
 rw [if_neg c]
 cases h : zNl nm l [] with
 | none => exact Nat.zero_le _
 | some y =>
  have := qfU nm l [] y h
  dsimp only
  by_cases c1 : y.length = 0
  ·rw [if_pos c1]; exact Nat.zero_le _
  by_cases c2 : (y.length : Int) = rank
  ·rw [if_neg c1,if_pos c2]; simp at this; show y.length ≤ 16; omega
  ·rw [if_neg c1,if_neg c2]; exact Nat.zero_le _
theorem qiv (nm l : LI) (rank : Int) : ((zNote nm l rank).1 = true ∧ (zNote nm l rank).2.2 ≠ []) ∨ ((zNote nm l rank).1 = false ∧ (zNote nm l rank).2.2 = []) := by
 unfold zNote
 by_cases c : 16 < l.length
 ·rw [if_pos c]; exact .inr ⟨rfl,rfl⟩
 rw [if_neg c]
 cases h : zNl nm l [] with
 | none => exact .inr ⟨rfl,rfl⟩
 | some y =>
  dsimp only
  by_cases c1 : y.length = 0
  ·rw [if_pos c1]; exact .inr ⟨rfl,rfl⟩
  by_cases c2 : (y.length : Int) = rank
  ·rw [if_neg c1,if_pos c2]; exact .inl ⟨rfl,fun e => by dsimp only at e; subst e; exact c1 rfl⟩
  ·rw [if_neg c1,if_neg c2]; exact .inr ⟨rfl,rfl⟩
theorem qjM (nm nt : ByteArray) (rank : Int) : (zNW nm nt rank).size ≤ 64 := by
 unfold zNW
 split
 ·have h1 := qim ((zNote (rs nm) (rs nt) rank).2.2.map (zTx (rs nm)))
  have h2 := qgC (rs nm) (rs nt) rank
  rw [List.length_map] at h1
  unfold zTxt; omega
 ·show 1 ≤ 64; omega
theorem qi0 (nm nt : ByteArray) (rank : Int) : (if zTxt nm (zNote (rs nm) (rs nt) rank).2.2 = ByteArray.empty then bA [45] else zTxt nm (zNote (rs nm) (rs nt) rank).2.2) = zNW nm nt rank := by
 unfold zNW
 rcases qiv (rs nm) (rs nt) rank with ⟨h1,h2⟩ | ⟨h1,h2⟩
 ·rw [if_pos h1,if_neg]
  intro e
  cases hx : (zNote (rs nm) (rs nt) rank).2.2 with
  | nil => exact h2 hx
  | cons x r =>
   rw [hx] at e
   have hs := congrArg ByteArray.size e
   rw [zTxt,List.map_cons,enc,qcg] at hs
   have := qiJ (zTx (rs nm) x)
   rw [show ByteArray.empty.size = 0 from rfl] at hs
   omega
 ·rw [h1,h2]; rfl
end Go.Pf

namespace Go.Pf
open Go Go.Vm
theorem qhs {α : Type} {l : List α} {i : Nat} (h : i < l.length) (d : α) : l.take (i + 1) = l.take i ++ [l.getD i d] := by
 rw [List.take_add_one,List.getD_eq_getElem?_getD,List.getElem?_eq_getElem h]; rfl
def lst (l : LI) : List ByteArray := [bA [40]] ++ l.map zNum ++ [bA [41]]
def zWds (nm : ByteArray) (x : Nd) (rank : Int) : List ByteArray :=
 [zName x.1] ++ (lst x.2.1 ++ (lst x.2.2.1 ++ lst x.2.2.2.1)) ++ [zNum x.2.2.2.2.1,zNum x.2.2.2.2.2.1,zNW nm x.2.2.2.2.2.2 rank]
structure wtN (x : Nd) : Prop where
 i : x.2.1.length ≤ 100000
 s : x.2.2.1.length ≤ 100000
 a : x.2.2.2.1.length ≤ 100000
 nt : x.2.2.2.2.2.2.size ≤ 100000
 ri : ∀ n ∈ x.2.1,rng n
 rs : ∀ n ∈ x.2.2.1,rng n
 ra : ∀ n ∈ x.2.2.2.1,rng n
 rn : rng x.2.2.2.2.1
 rh : rng x.2.2.2.2.2.1
theorem wtN.ok {x : Nd} (h : wtN x) : okN x := ⟨h.i,h.a,h.nt⟩
theorem qgD (Y : List LI) (hY : Y.length ≤ 10) (hl : ∀ l ∈ Y,l.length ≤ 100000 ∧ ∀ n ∈ l,rng n) (t : ByteArray) (r : Int) (g1 : LI) (g2 : ByteArray) (g3 : List Nd) (g4 : LI) (x1 : Int) (x2 x3 x4 : LI) (x5 x6 : Int) (x7 : ByteArray) (k : Nat) (hk : 500000 ≤ k) :
    qbb.l0 k k r Y.length 0 g1 g2 g3 g4 x1 x2 x3 x4 x5 x6 x7 [t] Y = some ([t] ++ Y.flatMap lst) := by
  have := iter0 (L := fun n i y => qbb.l0 k n r Y.length i g1 g2 g3 g4 x1 x2 x3 x4 x5 x6 x7 y Y) (st := fun i => [t] ++ (Y.take i).flatMap lst) (fun _=>[t] ++ Y.flatMap lst) (m := Y.length) 0
    (fun n _ => by rw [qbb.l0,ifq,List.take_length])
    (fun i n hi _ ih => by
      obtain ⟨h1,h2⟩ := hl _ (qaY hi [])
      have hb : ((Y.take i).flatMap lst).length ≤ 100002 * i := by
        have key : ∀ (e : Nat) (Z : List LI),Z.length ≤ e → (∀ l ∈ Z,l ∈ Y) → (Z.flatMap lst).length ≤ 100002 * e := fun e => by
          induction e with
          | zero => intro Z hz _; cases Z with
            | nil => simp
            | cons => simp at hz
          | succ e ih =>
            intro Z hz hm
            cases Z with
            | nil => simp
            | cons z Z =>
              have h3 := ih Z (by simpa using hz) fun l hl => hm l (List.mem_cons_of_mem _ hl)
              have h4 := (hl z (hm z (List.mem_cons_self ..))).1
              rw [List.flatMap_cons,List.length_append]
              have h5 : (lst z).length = z.length + 2 := by simp [lst]
              omega
        exact key i _ (by rw [List.length_take]; omega) fun l hl => List.mem_of_mem_take hl
      rw [qhs hi ([] : LI),List.flatMap_append,List.flatMap_cons,List.flatMap_nil,List.append_nil,← List.append_assoc] at ih
      have hz : (([t] ++ (Y.take i).flatMap lst)).length ≤ 2000000 := by rw [List.length_append,List.length_singleton]; omega
      rw [qbb.l0,ifp,ifp,Int.toNat_natCast,if_pos hi,if_pos (by rw [List.length_singleton]; omega),qck _ (by omega) h2 k (by omega),obs,
        if_pos (by clear ih; generalize [t] ++ (Y.take i).flatMap lst = A at hz; simp only [List.length_append,List.length_singleton,List.length_map]; omega),if_pos (by clear ih; generalize [t] ++ (Y.take i).flatMap lst = A at hz; simp only [List.length_append,List.length_singleton,List.length_map]; omega),qbe hi (by omega)]
      refine Eq.trans ?_ ih
      congr 1
      simp only [lst,List.append_assoc]; rfl) k (by omega)
  rw [List.take_zero,List.flatMap_nil,List.append_nil] at this
  exact this
theorem qhn (g1 : LI) (nm : ByteArray) (g3 : List Nd) (g4 : LI) (x : Nd) (rank : Int) (hn : nm.size ≤ 100000) (hx : wtN x) (k : Nat) (hk : 500000 ≤ k) :
  qbb.f k g1 nm g3 g4 x.1 x.2.1 x.2.2.1 x.2.2.2.1 x.2.2.2.2.1 x.2.2.2.2.2.1 x.2.2.2.2.2.2 rank = some (zWds nm x rank) := by
 have hi := hx.i; have hs := hx.s; have ha := hx.a; have hnt := hx.nt
 unfold qbb.f
 rw [qeO,obs,qgD [x.2.1,x.2.2.1,x.2.2.2.1] (by simp) (fun l hl => by
  rcases List.mem_cons.1 hl with rfl | hl
  ·exact ⟨by omega,hx.ri⟩
  rcases List.mem_cons.1 hl with rfl | hl
  ·exact ⟨by omega,hx.rs⟩
  rw [List.mem_singleton] at hl; subst hl
  exact ⟨by omega,hx.ra⟩) _ _ _ _ _ _ _ _ _ _ _ _ _ k (by omega),obs,qep nm _ _ (by omega) (by omega) k (by omega) (by omega),obs,qbU hx.rn.1 hx.rn.2,obs,qbU hx.rh.1 hx.rh.2,obs,
  qgW nm hn _ (by have := qgC (rs nm) (rs x.2.2.2.2.2.2) rank; omega) k (by omega),obs,qcJ,obs,qi0]
 have hl : ([zName x.1] ++ [x.2.1,x.2.2.1,x.2.2.2.1].flatMap lst).length ≤ 400000 := by
  simp only [List.length_append,List.length_singleton,List.flatMap_cons,List.flatMap_nil,List.length_nil,lst,List.length_map]; omega
 rw [if_pos (by rw [show [zNum x.2.2.2.2.1,zNum x.2.2.2.2.2.1,zNW nm x.2.2.2.2.2.2 rank].length = 3 from rfl]; omega)]
 simp [zWds]
def zLn (ws : List ByteArray) : List UInt8 := Lib.join (ws.map (·.data.toList)) [32] ++ [10]
def tl (ws : List ByteArray) : List UInt8 := ws.flatMap fun w => 32 :: w.data.toList
theorem qfW (w : ByteArray) (ws : List ByteArray) : zLn (w :: ws) = w.data.toList ++ tl ws ++ [10] := by
 unfold zLn tl
 rw [List.map_cons,Lib.join_cons]
 congr 2
 unfold Lib.joinTail
 rw [List.map_map,List.flatMap_def]; rfl
theorem qfw (a b : List ByteArray) : tl (a ++ b) = tl a ++ tl b := List.flatMap_append
theorem qi4 (l : LI) : tl (l.map zNum) = zTl l := by
 unfold tl zTl
 rw [List.flatMap_map]
 congr 1
theorem qi5 (l : LI) : tl (lst l) = [32,40] ++ zTl l ++ [32,41] := by
 unfold lst
 rw [qfw,qfw,qi4]; rfl
theorem qkK (nm : ByteArray) (x : Nd) (rank : Int) : zLn (zWds nm x rank) =
  (zName x.1).data.toList ++ (([32,40] ++ zTl x.2.1 ++ [32,41]) ++ (([32,40] ++ zTl x.2.2.1 ++ [32,41]) ++ ([32,40] ++ zTl x.2.2.2.1 ++ [32,41]))) ++ (32 :: Lib.itoa x.2.2.2.2.1 ++ (32 :: Lib.itoa x.2.2.2.2.2.1 ++ (32 :: (zNW nm x.2.2.2.2.2.2 rank).data.toList ++ [10]))) := by
 unfold zWds
 rw [List.append_assoc [zName x.1],List.singleton_append,qfW,qfw,qfw,qfw,qi5,qi5,qi5]
 have e : tl [zNum x.2.2.2.2.1,zNum x.2.2.2.2.2.1,zNW nm x.2.2.2.2.2.2 rank] = 32 :: Lib.itoa x.2.2.2.2.1 ++ (32 :: Lib.itoa x.2.2.2.2.2.1 ++ (32 :: (zNW nm x.2.2.2.2.2.2 rank).data.toList)) := by
  simp [tl,zNum,bA]
 rw [e]
 simp only [List.append_assoc]
theorem qhl (nm : ByteArray) (x : Nd) (rank : Int) (hx : wtN x) : (zLn (zWds nm x rank)).length ≤ 150 + 22 * (x.2.1.length + x.2.2.1.length + x.2.2.2.1.length) := by
 have h1 := qeM hx.ri; have h2 := qeM hx.rs; have h3 := qeM hx.ra
 have h4 := qgi hx.rn; have h5 := qgi hx.rh
 have h6 := qiw x.1; have h7 := qjM nm x.2.2.2.2.2.2 rank
 have e6 : (zName x.1).data.toList.length = (zName x.1).size := Array.length_toList
 have e7 : (zNW nm x.2.2.2.2.2.2 rank).data.toList.length = (zNW nm x.2.2.2.2.2.2 rank).size := Array.length_toList
 rw [qkK]
 simp only [List.length_append,List.length_cons,List.length_nil,e6,e7]
 omega
end Go.Pf

namespace Go.Pf
open Go Go.Vm
def zNs (nm : ByteArray) (N : List Nd) (S : List LI) : List (List ByteArray) := List.zipWith (fun x s => zWds nm x (s.length : Int)) N S
theorem qfT {nm : ByteArray} {N : List Nd} {S : List LI} (h : S.length = N.length) : (zNs nm N S).length = N.length := by
 unfold zNs; rw [List.length_zipWith,h,Nat.min_self]
theorem qiY {nm : ByteArray} {N : List Nd} {S : List LI} (h : S.length = N.length) {i : Nat} (hi : i < N.length) : (zNs nm N S).getD i [] = zWds nm (N.getD i nd0) ((S.getD i []).length : Int) := by
 unfold zNs
 simp only [List.getD_eq_getElem?_getD,List.getElem?_zipWith,List.getElem?_eq_getElem hi,List.getElem?_eq_getElem (show i < S.length by omega)]
 rfl
def mesh5 : List UInt8 := [109,101,115,104]
def outs4 : List UInt8 := [111,117,116,115]
def zHd (s : LI) (nm : ByteArray) : List ByteArray := [bA mesh5,if nm = ByteArray.empty then bA [45] else nm] ++ s.map zNum
def zOt (O : LI) : List ByteArray := [bA outs4] ++ O.map zNum
def zLs (s : LI) (nm : ByteArray) (N : List Nd) (O : LI) (S : List LI) : List (List ByteArray) := [zHd s nm] ++ zNs nm N S ++ [zOt O]
def zTB (s : LI) (nm : ByteArray) (N : List Nd) (O : LI) (S : List LI) : List UInt8 := (zLs s nm N O S).flatMap zLn
def zTx2 (s : LI) (nm : ByteArray) (N : List Nd) (O : LI) (S : List LI) : ByteArray × Int := if 65536 < (zTB s nm N O S).length then (ByteArray.empty,3) else (bA (zTB s nm N O S),0)
structure wtG (s : LI) (nm : ByteArray) (N : List Nd) (O : LI) : Prop where
 n : ∀ x ∈ N,wtN x
 nm : nm.size ≤ 100000
 rs : ∀ n ∈ s,rng n
 ro : ∀ n ∈ O,rng n
theorem qlg (s : LI) (nm : ByteArray) : zLn (zHd s nm) = mesh5 ++ (32 :: (if nm = ByteArray.empty then bA [45] else nm).data.toList ++ zTl s) ++ [10] := by
 unfold zHd
 rw [List.cons_append,qfW,List.cons_append,List.nil_append]
 congr 2
 unfold tl
 rw [List.flatMap_cons]
 show _ ++ tl (s.map zNum) = _
 rw [qi4]
theorem qgF (s : LI) (nm : ByteArray) (N : List Nd) (O : LI) (S : List LI) (hS : S.length = N.length) (hN : N.length ≤ 100000) (hn : nm.size ≤ 100000) (hw : ∀ x ∈ N,wtN x) (hd : List ByteArray) (k : Nat) (hk : 500000 ≤ k) :
  qaE.l0 k k N N.length 0 s nm N O S [hd] = some ([hd] ++ zNs nm N S) := by
 have := iter0 (L := fun n i y => qaE.l0 k n N N.length i s nm N O S y) (st := fun i => [hd] ++ (zNs nm N S).take i) (fun _=>[hd] ++ zNs nm N S) (m := N.length) 0
  (fun n _ => by rw [qaE.l0,ifq,List.take_of_length_le (by rw [qfT hS]; omega)])
  (fun i n hi _ ih => by
   have hx := hw _ (qaY hi nd0)
   have hl := qfT (nm := nm) hS
   have h0 : ((zNs nm N S).take i).length ≤ 100000 := by rw [List.length_take,hl]; omega
   rw [qhs (show i < (zNs nm N S).length by rw [hl]; exact hi) ([] : List ByteArray),qiY hS hi,← List.append_assoc] at ih
   rw [qaE.l0,ifp,ifp,Int.toNat_natCast,if_pos (by rw [hS]; omega),if_pos (by rw [hS]; exact hi),qhn s nm N O (N.getD i nd0) _ hn hx k (by omega),obs,
    if_pos (by clear ih; generalize (zNs nm N S).take i = A at h0; simp only [List.length_append,List.length_singleton]; omega),qbe hi (by omega)]
   exact ih) k (by omega)
 rw [List.take_zero,List.append_nil] at this
 exact this
def ints (l : List UInt8) : LI := l.map fun b => (b.toNat : Int)
theorem qid (l : List UInt8) : (ints l).length = l.length := List.length_map _
theorem WS_f (s : ByteArray) (l : List UInt8) (h1 : s.size ≤ 1000000000000) (h2 : l.length ≤ 1000000000000) : qam.f s (ints l) = some ((s.size : Int),ints (l ++ s.data.toList)) := by
 unfold qam.f qby.f
 have e : s.data.toList.length = s.size := Array.length_toList
 rw [obs,if_pos (by rw [qid,List.length_map,e]; omega)]
 unfold ints
 rw [List.map_append]
theorem qgq {B : Nat} : ∀ {L : List (List ByteArray)},(∀ l ∈ L,(zLn l).length ≤ B) → (L.flatMap zLn).length ≤ B * L.length
 | [],_ => by simp
 | l :: L,h => by
  have h1 := h l (List.mem_cons_self ..)
  have h2 := qgq (L := L) fun m hm => h m (List.mem_cons_of_mem _ hm)
  rw [List.flatMap_cons,List.length_append,List.length_cons,Nat.mul_add]; omega
theorem qgE (L : List (List ByteArray)) (hL : L.length ≤ 1000) (hb : ∀ l ∈ L,l.length ≤ 10000000 ∧ (zLn l).length ≤ 100000000) (k : Nat) (hk : 2000 ≤ k) :
  qaE.l1 k L.length 0 L [] = some (ints (L.flatMap zLn)) := by
 have := iter0 (L := fun n i y => qaE.l1 n L.length i L y) (st := fun i => ints ((L.take i).flatMap zLn)) (fun _=>ints (L.flatMap zLn)) (m := L.length) 0
  (fun n _ => by rw [qaE.l1,ifq,List.take_length])
  (fun i n hi _ ih => by
   obtain ⟨h1,h2⟩ := hb _ (qaY hi [])
   have h3 := qgq (B := 100000000) (L := L.take i) fun l hl => (hb l (List.mem_of_mem_take hl)).2
   rw [List.length_take] at h3
   have h4 : ((L.take i).flatMap zLn).length ≤ 100000000000 := by
    refine Nat.le_trans h3 ?_
    have : min i L.length ≤ 1000 := by omega
    omega
   have h5 : (Lib.join ((L.getD i []).map (·.data.toList)) [32]).length ≤ 100000000 := by unfold zLn at h2; rw [List.length_append] at h2; omega
   have hj : strings_Join.f (L.getD i []) (ByteArray.mk #[32]) = some (bA (Lib.join ((L.getD i []).map (·.data.toList)) [32])) := by
    unfold strings_Join.f
    rw [show (ByteArray.mk #[32]).data.toList = [32] from rfl,if_pos ⟨by omega,by omega⟩]; rfl
   rw [qhs hi ([] : List ByteArray),List.flatMap_append,List.flatMap_cons,List.flatMap_nil,List.append_nil] at ih
   rw [qaE.l1,ifp,ifp,Int.toNat_natCast,if_pos hi,hj,obs,WS_f _ _ (by rw [qbd]; omega) (by omega),obs]
   dsimp only
   rw [qhP,WS_f _ _ (by decide) (by rw [List.length_append]; omega),obs]
   dsimp only
   rw [qbe hi (by omega),List.append_assoc]
   exact ih) k (by omega)
 rw [List.take_zero] at this
 exact this
theorem qkO (l : List UInt8) : u8s (ints l) = l := by
 unfold u8s ints
 rw [List.map_map]
 have : ((fun x : Int => UInt8.ofNat x.toNat) ∘ fun b : UInt8 => (b.toNat : Int)) = id := by
  funext b; simp
 rw [this,List.map_id]
theorem qjO {l : List UInt8} (h : l ≠ []) : strings_Builder_String.f (ints l) = some (bA l) := by
 unfold strings_Builder_String.f
 rw [if_pos ⟨by unfold ints; simpa using h,fun x hx => by
  obtain ⟨b,_,rfl⟩ := List.mem_map.1 hx
  have := b.toNat_lt
  omega⟩,qkO]; rfl
theorem qhV (w : ByteArray) (l : List ByteArray) (m : LI) (hr : ∀ n ∈ m,rng n) (h : ∀ x ∈ l,x.size ≤ 100000) (hw : w.size ≤ 100000) (hl : l.length ≤ 2) : (zLn (w :: (l ++ m.map zNum))).length ≤ 400000 + 22 * m.length := by
 have h1 := qeM hr
 have h2 : (tl l).length ≤ 200002 := by
  match l,hl with
  | [],_ => simp [tl]
  | [a],_ =>
   have := h a (by simp)
   have e : a.data.toList.length = a.size := Array.length_toList
   simp only [tl,List.flatMap_cons,List.flatMap_nil,List.append_nil,List.length_cons,e]; omega
  | [a,b],_ =>
   have h3 := h a (by simp); have h4 := h b (by simp)
   have e : a.data.toList.length = a.size := Array.length_toList
   have e' : b.data.toList.length = b.size := Array.length_toList
   simp only [tl,List.flatMap_cons,List.flatMap_nil,List.append_nil,List.length_cons,List.length_append,e,e']; omega
 have e : w.data.toList.length = w.size := Array.length_toList
 rw [qfW,qfw,qi4]
 simp only [List.length_append,List.length_singleton,e]; omega
theorem qit {s : LI} {nm : ByteArray} {N : List Nd} {O : LI} (h : (zShs s nm N O).1 = 0) : s.length ≤ 3 ∧ N.length ≤ 48 ∧ O.length ≤ 48 ∧ (zShs s nm N O).2.length = N.length ∧ zShs s nm N O = zGo (rs nm) N [] ∧ (∀ x ∈ O,0 ≤ x ∧ x < (N.length : Int)) := by
 unfold zShs at h ⊢
 by_cases c1 : zMs s (rs nm) = true
 rotate_left
 ·rw [if_neg c1] at h; cases h
 rw [if_pos c1] at h ⊢
 by_cases c2 : 48 < N.length
 ·rw [if_pos c2] at h; cases h
 rw [if_neg c2] at h ⊢
 by_cases c3 : 48 < O.length
 ·rw [if_pos c3] at h; cases h
 rw [if_neg c3] at h ⊢
 by_cases c4 : (zGo (rs nm) N []).1 = 0
 rotate_left
 ·rw [if_neg c4] at h; exact absurd h c4
 rw [if_pos c4] at h ⊢
 by_cases c5 : O.all (fun k => decide (0 ≤ k ∧ k < (N.length : Int))) = true
 rotate_left
 ·rw [if_neg c5] at h; cases h
 rw [if_pos c5]
 have h6 := qhm (rs nm) N [] c4
 refine ⟨?_,by omega,by omega,by simpa using h6,rfl,fun x hx => by simpa using List.all_eq_true.1 c5 x hx⟩
 unfold zMs zNR at c1
 simp only [Bool.and_eq_true,decide_eq_true_eq] at c1
 omega
theorem qlf {s : LI} {nm : ByteArray} {N : List Nd} {O : LI} (hw : wtG s nm N O) {S : List LI} (hs : s.length ≤ 3) (hN : N.length ≤ 48) (hO : O.length ≤ 48) (hS : S.length = N.length) :
  (zLs s nm N O S).length = N.length + 2 ∧ ∀ l ∈ zLs s nm N O S,l.length ≤ 10000000 ∧ (zLn l).length ≤ 100000000 := by
 have hl := qfT (nm := nm) hS
 refine ⟨by unfold zLs; simp only [List.length_append,List.length_singleton,hl]; omega,fun l h => ?_⟩
 unfold zLs at h
 rcases List.mem_append.1 h with h | h
 ·rcases List.mem_append.1 h with h | h
  ·rw [List.mem_singleton] at h; subst h
   have hnm := hw.nm
   have h5 : (if nm = ByteArray.empty then bA [45] else nm).size ≤ 100000 := by
    by_cases c : nm = ByteArray.empty
    ·rw [if_pos c]; decide
    ·rw [if_neg c]; exact hnm
   refine ⟨by unfold zHd; simp only [List.length_append,List.length_cons,List.length_nil,List.length_map]; omega,?_⟩
   have := qhV (bA mesh5) [if nm = ByteArray.empty then bA [45] else nm] s hw.rs (fun x hx => by rw [List.mem_singleton] at hx; rw [hx]; exact h5) (by decide) (by simp)
   unfold zHd
   rw [List.cons_append]
   omega
  ·obtain ⟨i,hi,rfl⟩ := List.getElem_of_mem h
   have hi' : i < N.length := by rw [← hl]; exact hi
   have hx := hw.n _ (qaY hi' nd0)
   have e : (zNs nm N S)[i] = zWds nm (N.getD i nd0) ((S.getD i []).length : Int) := by
    rw [← qiY hS hi',List.getD_eq_getElem?_getD,List.getElem?_eq_getElem hi]; rfl
   rw [e]
   have h1 := hx.i; have h2 := hx.s; have h3 := hx.a
   refine ⟨by simp only [zWds,lst,List.length_append,List.length_cons,List.length_nil,List.length_map]; omega,?_⟩
   have := qhl nm _ ((S.getD i []).length : Int) hx
   omega
 ·rw [List.mem_singleton] at h; subst h
  refine ⟨by unfold zOt; simp only [List.length_append,List.length_cons,List.length_nil,List.length_map]; omega,?_⟩
  have := qhV (bA outs4) [] O hw.ro (fun x hx => by cases hx) (by decide) (by simp)
  unfold zOt
  rw [List.nil_append] at this
  rw [List.singleton_append]; omega
theorem qho {s : LI} {nm : ByteArray} {N : List Nd} {O : LI} (hw : wtG s nm N O) (k : Nat) (hk : 500000 ≤ k) :
  qaE.f k s nm N O = some (if (zShs s nm N O).1 = 0 then zTx2 s nm N O (zShs s nm N O).2 else (ByteArray.empty,(zShs s nm N O).1)) := by
 unfold qaE.f
 rw [qdi s nm N O hw.nm (fun x hx => (hw.n x hx).ok) k (by omega),obs]
 by_cases h0 : (zShs s nm N O).1 = 0
 rotate_left
 ·rw [if_neg h0,if_neg h0]
 obtain ⟨h1,h2,h3,h4,_,_⟩ := qit h0
 rw [if_pos h0,if_pos h0]
 generalize (zShs s nm N O).2 = S at h4
 obtain ⟨g1,g2⟩ := qlf hw h1 h2 h3 h4
 have hl := qfT (nm := nm) h4
 have e5 : (if nm = ByteArray.empty then bA [45] else nm) = (if nm = ByteArray.empty then bA [45] else nm) := rfl
 have hT : (zTB s nm N O S).length ≤ 100000000 * 50 := by
  refine Nat.le_trans (qgq (B := 100000000) fun l h => (g2 l h).2) ?_
  rw [g1]; omega
 have hne : zTB s nm N O S ≠ [] := by
  unfold zTB zLs
  rw [List.append_assoc,List.singleton_append,List.flatMap_cons,qlg]
  simp [mesh5]
 have hd : [(ByteArray.mk #[109,101,115,104]),if nm = ByteArray.empty then bA [45] else nm] ++ s.map zNum = zHd s nm := rfl
 have ho : [(ByteArray.mk #[111,117,116,115])] ++ O.map zNum = zOt O := rfl
 rw [qcJ,obs,qck s (by omega) hw.rs k (by omega),obs,if_pos (by simp only [List.length_cons,List.length_nil,List.length_map]; omega),hd,
  qgF s nm N O S h4 (by omega) hw.nm hw.n _ k (by omega),obs,qck O (by omega) hw.ro k (by omega),obs,if_pos (by simp only [List.length_cons,List.length_nil,List.length_map]; omega),ho,
  if_pos (by simp only [List.length_append,List.length_singleton,hl]; omega)]
 have hL : [zHd s nm] ++ zNs nm N S ++ [zOt O] = zLs s nm N O S := rfl
 rw [hL,qgE _ (by rw [g1]; omega) g2 k (by omega),obs]
 show (qaT.f (ints (zTB s nm N O S))).bind _ = _
 unfold qaT.f
 rw [obs,qid]
 unfold zTx2
 by_cases c : 65536 < (zTB s nm N O S).length
 ·rw [ifp,if_pos c]
 ·rw [ifq,if_neg c]
  show (strings_Builder_String.f (ints (zTB s nm N O S))).bind _ = _
  rw [qjO hne]; rfl
end Go.Pf

namespace Go.Pf
open Go Go.Vm
theorem qkE {e : Nat} (he : 1 ≤ e) {u : Nat} (h : u < 10 ^ e) : (Lib.decDigits u).length ≤ e := by
 rw [Lib.decDigits_length]
 induction e generalizing u with
 | zero => omega
 | succ e ih =>
  by_cases h10 : u < 10
  ·rw [Lib.nDigits_small h10]; omega
  ·rw [Lib.nDigits_big h10]
   have he' : 1 ≤ e := by rcases e with _ | e; (· simp at h; omega); omega
   have := ih he' (u := u / 10) (by rw [Nat.pow_succ] at h; omega); omega
theorem qjy (u : Nat) : 1 ≤ (Lib.decDigits u).length := by rw [Lib.decDigits_length]; exact Lib.nDigits_pos u
theorem qiD {n : Int} (h : rng n) : (Lib.itoa n).length ≤ 20 := by
 obtain ⟨h1,h2⟩ := h
 unfold Lib.itoa
 split
 ·have := qkE (e := 19) (by omega) (u := n.natAbs) (by omega); simp only [List.length_cons]; omega
 ·have := qkE (e := 19) (by omega) (u := n.toNat) (by omega); omega
theorem qic (n : Int) : 1 ≤ (Lib.itoa n).length := by
 unfold Lib.itoa; split
 ·simp
 ·exact qjy _
theorem qdZ (d : Nat) (h : d < 10) : (UInt8.ofNat (48 + d)).toNat = 48 + d := by
 rw [UInt8.toNat_ofNat']; omega
theorem qhd (u : Nat) : ∀ c ∈ Lib.decDigits u,48 ≤ c.toNat ∧ c.toNat ≤ 57 := by
 induction u using Nat.strongRecOn with
 | _ u ih =>
  intro c hc
  rw [Lib.decDigits] at hc
  split at hc
  ·simp only [List.mem_singleton] at hc; subst hc; rw [qdZ _ (by omega)]; omega
  ·rcases List.mem_append.1 hc with hc | hc
   ·exact ih _ (by omega) c hc
   ·simp only [List.mem_singleton] at hc; subst hc; rw [qdZ _ (by omega)]; omega
theorem pU_dd (M : Nat) (hM : M < 18446744073709551616) (u : Nat) : ∀ r : List UInt8,u ≤ M → Lib.parseUintM M 0 (Lib.decDigits u ++ r) = Lib.parseUintM M u r := by
 induction u using Nat.strongRecOn with
 | _ u ih =>
  intro r hu
  by_cases h10 : u < 10
  ·rw [Lib.decDigits,dif_pos h10,List.singleton_append,Lib.parseUintM,qdZ _ h10,ifp,ifq,ifq]
   congr 1; omega
  ·rw [Lib.decDigits,dif_neg h10,List.append_assoc,ih (u / 10) (by omega) _ (by omega),List.singleton_append,Lib.parseUintM,qdZ _ (by omega),ifp,ifq,ifq]
   congr 1; omega
theorem qkt {u : Nat} (h : u < 18446744073709551616) : Lib.parseUintB 64 (Lib.decDigits u) = .ok u := by
 unfold Lib.parseUintB
 rw [if_neg (fun h => by have := qjy u; rw [h] at this; simp at this)]
 have := pU_dd (2 ^ 64 - 1) (by decide) u [] (by omega)
 rw [List.append_nil] at this
 rw [this]; rfl
theorem qjA (u : Nat) : ∃ c r,Lib.decDigits u = c :: r ∧ 48 ≤ c.toNat ∧ c.toNat ≤ 57 := by
 have h1 := qjy u; have h2 := qhd u
 cases h : Lib.decDigits u with
 | nil => rw [h] at h1; simp at h1
 | cons c r => rw [h] at h2; exact ⟨c,r,rfl,h2 c (by simp)⟩
theorem qlo {r : List UInt8} {u : Nat} (h : Lib.parseUintB 64 r = .ok u) (hu : u ≤ 9223372036854775808) : Lib.parseIntB 64 (45 :: r) = .ok (-(u : Int)) := by
 unfold Lib.parseIntB
 dsimp only
 rw [if_pos (show (45 : UInt8).toNat = 43 ∨ (45 : UInt8).toNat = 45 from .inr rfl),h]
 dsimp only
 rw [if_neg (fun h => h.1 rfl),if_neg (fun h => by have := h.2; omega),if_pos (show (45 : UInt8).toNat = 45 from rfl)]
theorem qln {c : UInt8} {r : List UInt8} {u : Nat} (h1 : 48 ≤ c.toNat) (h2 : c.toNat ≤ 57) (h : Lib.parseUintB 64 (c :: r) = .ok u) (hu : u < 9223372036854775808) : Lib.parseIntB 64 (c :: r) = .ok (u : Int) := by
 unfold Lib.parseIntB
 dsimp only
 rw [if_neg (show ¬ (c.toNat = 43 ∨ c.toNat = 45) by omega),h]
 dsimp only
 rw [if_neg (fun h => by have := h.2; omega),if_neg (fun h => by have := h.1; omega),ifq]
theorem qkX {n : Int} (h : rng n) : Lib.parseIntB 64 (Lib.itoa n) = .ok n := by
 obtain ⟨h1,h2⟩ := h
 unfold Lib.itoa
 by_cases hn : n < 0
 ·rw [if_pos hn,qlo (qkt (u := n.natAbs) (by omega)) (by omega)]
  congr 1; omega
 ·rw [if_neg hn]
  obtain ⟨c,r,e,hc1,hc2⟩ := qjA n.toNat
  have hp := qkt (u := n.toNat) (by omega)
  rw [e] at hp ⊢
  rw [qln hc1 hc2 hp (by omega)]
  congr 1; omega
theorem qkx {l : List UInt8} {v : Int} (h : Lib.parseIntB 64 l = .ok v) : rng v := by
 unfold Lib.parseIntB at h
 split at h
 ·cases h
 ·rename_i c r
  split at h
  ·cases h
  ·cases h
  ·rename_i u _
   simp only at h
   split at h
   ·cases h
   ·split at h
    ·cases h
    ·rename_i h1 h2
     cases h
     unfold rng
     by_cases hc : c.toNat = 45
     ·rw [if_pos hc]; simp [hc] at h2; omega
     ·rw [if_neg hc]; simp [hc] at h1; omega
def zVal (s : ByteArray) : Option Int := match Lib.parseIntB 64 s.data.toList with
 | .ok v => if zNum v = s then some v else none
 | _ => none
theorem qfS {n : Int} (h : rng n) : zVal (zNum n) = some n := by
 unfold zVal zNum
 rw [qhP,qkX h]
 simp
theorem qcS {s : ByteArray} {n : Int} (h : zVal s = some n) : s = zNum n ∧ rng n := by
 unfold zVal at h
 split at h
 ·rename_i v hv
  split at h
  ·rename_i he; cases h; exact ⟨he.symm,qkx hv⟩
  ·cases h
 ·cases h
theorem qgA {s : ByteArray} (h : ∀ n,rng n → s ≠ zNum n) : zVal s = none := by
 cases e : zVal s with
 | none => rfl
 | some n => exact absurd (qcS e).1 (h n (qcS e).2)
def zV2 (s : ByteArray) : Int × Bool := match zVal s with | some n => (n,true) | none => (0,false)
theorem qfX (s : ByteArray) (hs : s.size ≤ 281474976710656) : qb3.f s = some (zV2 s) := by
 unfold qb3.f strconv_ParseInt.f zV2 zVal
 rw [if_pos ⟨rfl,rfl,hs⟩,obs]
 cases h : Lib.parseIntB 64 s.data.toList with
 | ok v =>
  have hr := qkx h
  dsimp only
  rw [if_neg (by decide),qbU hr.1 hr.2,obs,qbS]
  by_cases he : zNum v = s
  ·rw [decide_eq_true he,if_pos rfl,if_pos he]
  ·rw [decide_eq_false he,if_neg (by decide),if_neg he]
 | «syntax» => rfl
 | range => rfl
theorem qaM (s : ByteArray) (hs : s.size ≤ 281474976710656) : qaR.f s = some (zV2 s) := by
 unfold qaR.f; rw [qfX s hs]; rfl
end Go.Pf

namespace Go.Pf
open Go Go.Vm
theorem qkI (s : ByteArray) (i : Nat) : s.get! i = s.data.toList.getD i 0 := by
 rw [List.getD_eq_getElem?_getD]
 simp only [ByteArray.get!,Array.getElem?_toList]
 rw [getElem!_def]
 cases s.data[i]? <;> rfl
theorem qiL (s : ByteArray) (i : Nat) (h : (s.get! i).toNat < 128) : Utf8.decode s i = ((s.get! i).toNat,1) := by
 unfold Utf8.decode
 dsimp only
 rw [if_pos (by simpa using h)]; rfl
theorem qhM (s : ByteArray) (i c : Nat) (hi : i < s.size) (hc : c < 128) (h : (s.get! i).toNat ≠ c) :
  (Utf8.decode s i).1 ≠ c ∧ ∀ j,j < (Utf8.decode s i).2 → i + j < s.size ∧ (s.get! (i + j)).toNat ≠ c := by
 have one : ∀ j,j < 1 → i + j < s.size ∧ (s.get! (i + j)).toNat ≠ c := fun j hj => by
  have : j = 0 := by omega
  subst this; exact ⟨by omega,by simpa using h⟩
 have cn : ∀ k,(decide (i + k < s.size) && (s.get! (i + k)).toNat / 64 == 2) = true → i + k < s.size ∧ (s.get! (i + k)).toNat ≠ c := fun k hk => by
  simp only [Bool.and_eq_true,decide_eq_true_eq,beq_iff_eq] at hk
  exact ⟨hk.1,by omega⟩
 unfold Utf8.decode
 dsimp only
 split
 ·exact ⟨by simpa using h,one⟩
 split
 ·rename_i h2
  split
  ·rename_i h3
   refine ⟨by simp only []; omega,fun j hj => ?_⟩
   simp only [Bool.and_eq_true] at h2
   have c1 := cn 1 (by simpa only [Bool.and_eq_true] using h2.2)
   rcases (show j = 0 ∨ j = 1 by simp only [] at hj; omega) with rfl | rfl
   ·exact one 0 (by omega)
   ·exact c1
  ·exact ⟨by simp only [Utf8.runeError]; omega,one⟩
 split
 ·rename_i h2
  split
  ·rename_i h3
   simp only [Bool.and_eq_true] at h2
   have h3' : 0x800 ≤ (s.get! (i + 0)).toNat % 16 * 4096 + (s.get! (i + 1)).toNat % 64 * 64 + (s.get! (i + 2)).toNat % 64 := by
    simp only [ge_iff_le,Bool.and_eq_true,decide_eq_true_eq] at h3; exact h3.1
   refine ⟨by simp only []; omega,fun j hj => ?_⟩
   have c1 := cn 1 (by simpa only [Bool.and_eq_true] using h2.1.2)
   have c2 := cn 2 (by simpa only [Bool.and_eq_true] using h2.2)
   rcases (show j = 0 ∨ j = 1 ∨ j = 2 by simp only [] at hj; omega) with rfl | rfl | rfl
   ·exact one 0 (by omega)
   ·exact c1
   ·exact c2
  ·exact ⟨by simp only [Utf8.runeError]; omega,one⟩
 split
 ·rename_i h2
  split
  ·rename_i h3
   simp only [Bool.and_eq_true] at h2
   have h3' : 0x10000 ≤ (s.get! (i + 0)).toNat % 8 * 262144 + (s.get! (i + 1)).toNat % 64 * 4096 + (s.get! (i + 2)).toNat % 64 * 64 + (s.get! (i + 3)).toNat % 64 := by
    simp only [ge_iff_le,Bool.and_eq_true,decide_eq_true_eq] at h3; exact h3.1
   refine ⟨by simp only []; omega,fun j hj => ?_⟩
   have c1 := cn 1 (by simpa only [Bool.and_eq_true] using h2.1.1.2)
   have c2 := cn 2 (by simpa only [Bool.and_eq_true] using h2.1.2)
   have c3 := cn 3 (by simpa only [Bool.and_eq_true] using h2.2)
   rcases (show j = 0 ∨ j = 1 ∨ j = 2 ∨ j = 3 by simp only [] at hj; omega) with rfl | rfl | rfl | rfl
   ·exact one 0 (by omega)
   ·exact c1
   ·exact c2
   ·exact c3
  ·exact ⟨by simp only [Utf8.runeError]; omega,one⟩
 ·exact ⟨by simp only [Utf8.runeError]; omega,one⟩
def sp (c : UInt8) : List UInt8 → List UInt8 → List (List UInt8) × List UInt8
 | cur,[] => ([],cur)
 | cur,x :: r => if x = c then (cur :: (sp c [] r).1,(sp c [] r).2) else sp c (cur ++ [x]) r
theorem qfZ (c : UInt8) : ∀ (a cur r : List UInt8),(∀ x ∈ a,x ≠ c) → sp c cur (a ++ r) = sp c (cur ++ a) r
 | [],cur,r,_ => by simp
 | x :: a,cur,r,h => by
  rw [List.cons_append,sp,if_neg (h x (by simp)),qfZ c a _ r (fun y hy => h y (by simp [hy])),List.append_assoc]; rfl
theorem qi8 (c : UInt8) (cur r : List UInt8) : sp c cur (c :: r) = (cur :: (sp c [] r).1,(sp c [] r).2) := by rw [sp,if_pos rfl]
theorem qfK (s : ByteArray) (a b : Nat) : s.extract a b = bA ((s.data.toList.drop a).take (b - a)) := by
 rw [← qlc (s.extract a b)]
 congr 1
 rw [ByteArray.data_extract,Array.toList_extract]
theorem qi6 {α : Type} (l : List α) {f i : Nat} (h : f ≤ i) (w : Nat) : (l.drop f).take (i + w - f) = (l.drop f).take (i - f) ++ (l.drop i).take w := by
 rw [show i + w - f = (i - f) + w by omega,List.take_add,List.drop_drop,show f + (i - f) = i by omega]
def At (c : UInt8) (s : ByteArray) (f i : Nat) (y : List ByteArray) (r : Option (Int × List ByteArray)) : Prop :=
 ∃ f' : Nat,r = some ((f' : Int),y ++ (sp c ((s.data.toList.drop f).take (i - f)) (s.data.toList.drop i)).1.map bA) ∧ f' ≤ s.size ∧ s.data.toList.drop f' = (sp c ((s.data.toList.drop f).take (i - f)) (s.data.toList.drop i)).2
theorem At.fin {c : UInt8} {s : ByteArray} {f : Nat} (hf : f ≤ s.size) (y : List ByteArray) {i : Nat} (hi : s.size ≤ i) : At c s f i y (some ((f : Int),y)) := by
 have hl : s.data.toList.length = s.size := Array.length_toList
 have hd : s.data.toList.drop i = [] := List.drop_eq_nil_of_le (by omega)
 refine ⟨f,?_,hf,?_⟩
 ·rw [hd]; simp [sp]
 ·rw [hd]; simp only [sp]
  rw [List.take_of_length_le (by rw [List.length_drop]; omega)]
theorem At.hit {c : UInt8} {s : ByteArray} {f i : Nat} {y : List ByteArray} {r : Option (Int × List ByteArray)} (hi : i < s.size) (hc : s.get! i = c) (h : At c s (i + 1) (i + 1) (y ++ [s.extract f i]) r) : At c s f i y r := by
 have hl : s.data.toList.length = s.size := Array.length_toList
 obtain ⟨f',e,h1,h2⟩ := h
 have hd : s.data.toList.drop i = c :: s.data.toList.drop (i + 1) := by
  rw [qar (by omega) 0,← qkI,hc]
 rw [Nat.sub_self,List.take_zero] at e h2
 refine ⟨f',?_,h1,?_⟩
 ·rw [e,hd,qi8,qfK,List.append_assoc]; rfl
 ·rw [h2,hd,qi8]
theorem At.miss {c : UInt8} {s : ByteArray} {f i w : Nat} {y : List ByteArray} {r : Option (Int × List ByteArray)} (hf : f ≤ i) (hc : ∀ j,j < w → i + j < s.size ∧ s.get! (i + j) ≠ c) (h : At c s f (i + w) y r) : At c s f i y r := by
 have hl : s.data.toList.length = s.size := Array.length_toList
 have hd : s.data.toList.drop i = (s.data.toList.drop i).take w ++ s.data.toList.drop (i + w) := by
  rw [← List.drop_drop,List.take_append_drop]
 have hx : ∀ x ∈ (s.data.toList.drop i).take w,x ≠ c := fun x hx => by
  obtain ⟨j,hj,e⟩ := List.getElem_of_mem hx
  have hjw : j < w := by rw [List.length_take] at hj; omega
  obtain ⟨h1,h2⟩ := hc j hjw
  rw [qkI,List.getD_eq_getElem?_getD,List.getElem?_eq_getElem (by omega)] at h2
  rw [← e]
  simpa using h2
 have e : sp c ((s.data.toList.drop f).take (i - f)) (s.data.toList.drop i) = sp c ((s.data.toList.drop f).take (i + w - f)) (s.data.toList.drop (i + w)) := by
  rw [hd,qfZ c _ _ _ hx,qi6 _ hf]
 obtain ⟨f',e',h1,h2⟩ := h
 exact ⟨f',by rw [e',e],h1,by rw [h2,e]⟩
theorem u8_eq {a b : UInt8} (h : a.toNat = b.toNat) : a = b := UInt8.toNat_inj.1 h
theorem qeZ (s : ByteArray) (hs : s.size ≤ 100000000000) (c : UInt8) (hc : c.toNat < 128) : ∀ (e i f n : Nat) (y : List ByteArray),s.size ≤ i + e → e < n → f ≤ i → f ≤ s.size → y.length ≤ i → i ≤ s.size →
  At c s f i y (qaw.l0 n s (c.toNat : Int) (f : Int) y s i)
 | e,i,f,0,y,_,hn,_,_,_,_ => by omega
 | 0,i,f,n + 1,y,he,hn,hf,hf',hy,hi => by
  rw [qaw.l0,ifq]
  exact At.fin hf' y (by omega)
 | e + 1,i,f,n + 1,y,he,hn,hf,hf',hy,hi => by
  rw [qaw.l0]
  by_cases hlt : i < s.size
  ·rw [if_pos hlt]
   by_cases hit : (s.get! i).toNat = c.toNat
   ·rw [qiL s i (by omega),if_pos (by rw [hit]),ifp,if_pos (by simp only [List.length_append,List.length_singleton]; omega)]
    refine At.hit hlt (u8_eq hit) ?_
    rw [show IntKind.i64.wrap ((i : Int) + 1) = ((i + 1 : Nat) : Int) by rw [qaZ (by omega) (by omega)]; omega]
    exact qeZ s hs c hc e (i + 1) (i + 1) n _ (by omega) (by omega) (by omega) (by omega) (by simp only [List.length_append,List.length_singleton]; omega) (by omega)
   ·obtain ⟨h1,h2⟩ := qhM s i c.toNat hlt hc hit
    have hp := qfO s i
    rw [ifq]
    refine At.miss hf (w := (Utf8.decode s i).2) (fun j hj => ⟨(h2 j hj).1,fun e => (h2 j hj).2 (by rw [e])⟩) ?_
    have hw := (h2 ((Utf8.decode s i).2 - 1) (by omega)).1
    exact qeZ s hs c hc e _ f n y (by omega) (by omega) (by omega) hf' (by omega) (by omega)
  ·rw [if_neg hlt]
   exact At.fin hf' y (by omega)
def zWd (c : UInt8) (s : ByteArray) : List ByteArray := (sp c [] s.data.toList).1.map bA ++ [bA (sp c [] s.data.toList).2]
theorem qh2 (s : ByteArray) (hs : s.size ≤ 100000000000) (c : UInt8) (hc : c.toNat < 128) (hl : (sp c [] s.data.toList).1.length ≤ 1000000000000) (k : Nat) (hk : s.size < k) : qaw.f k s (c.toNat : Int) = some (zWd c s) := by
 have hsz : s.data.toList.length = s.size := Array.length_toList
 obtain ⟨f',e,h1,h2⟩ := qeZ s hs c hc s.size 0 0 k [] (by omega) hk (by omega) (by omega) (by simp) (by omega)
 unfold qaw.f
 have e0 : qaw.l0 k s (c.toNat : Int) 0 [] s 0 = some ((f' : Int),(sp c [] s.data.toList).1.map bA) := by simpa using e
 have h2' : s.data.toList.drop f' = (sp c [] s.data.toList).2 := by simpa using h2
 rw [e0,obs,if_pos (by simp only []; omega),if_pos (by simp only [List.length_append,List.length_singleton,List.length_map]; omega)]
 unfold zWd
 rw [qfK,← h2']
 congr 4
 rw [List.take_of_length_le (by simp only [List.length_drop,Int.toNat_natCast]; omega)]; rfl
theorem qem (c : UInt8) : ∀ (l cur : List UInt8),(sp c cur l).1.length ≤ l.length
 | [],_ => by simp [sp]
 | x :: l,cur => by
  rw [sp]
  split
  ·simp only [List.length_cons]; have := qem c l []; omega
  ·have := qem c l (cur ++ [x]); simp only [List.length_cons]; omega
theorem qbw (s : ByteArray) (hs : s.size ≤ 100000000000) (k : Nat) (hk : s.size < k) : qbc.f k s = some (zWd 32 s) := by
 have hsz : s.data.toList.length = s.size := Array.length_toList
 have hl := qem 32 s.data.toList []
 unfold qbc.f
 rw [show qaw.f k s 32 = some (zWd 32 s) from qh2 s hs 32 (by decide) (by omega) k hk]; rfl
end Go.Pf

namespace Go.Pf
open Go Go.Vm
def wl (l : List ByteArray) : Prop := l.length ≤ 1000000 ∧ ∀ w ∈ l,w.size ≤ 100000000000
theorem wl.tail {w : ByteArray} {r : List ByteArray} (h : wl (w :: r)) : wl r := ⟨by have := h.1; simp only [List.length_cons] at this; omega,fun x hx => h.2 x (List.mem_cons_of_mem _ hx)⟩
def Rz {α : Type} (p : Option (α × List ByteArray)) (a : α) (l' : List ByteArray) (b' : Bool) : Prop := match p with
 | some x => b' = false ∧ l' = x.2 ∧ a = x.1
 | none => b' = true
def Cz {α : Type} (p : List ByteArray → Option (α × List ByteArray)) (l : List ByteArray) (b : Bool) (a : α) (l' : List ByteArray) (b' : Bool) : Prop :=
 wl l' ∧ (b = true → b' = true) ∧ (b = false → Rz (p l) a l' b')
def seqP {α β : Type} (p : List ByteArray → Option (α × List ByteArray)) (q : List ByteArray → Option (β × List ByteArray)) (l : List ByteArray) : Option ((α × β) × List ByteArray) :=
 (p l).bind fun x => (q x.2).bind fun y => some ((x.1,y.1),y.2)
theorem Cz.seq {α β : Type} {p : List ByteArray → Option (α × List ByteArray)} {q : List ByteArray → Option (β × List ByteArray)} {l : List ByteArray} {b : Bool} {a : α} {l1 : List ByteArray} {b1 : Bool} {a2 : β} {l2 : List ByteArray} {b2 : Bool}
  (h1 : Cz p l b a l1 b1) (h2 : Cz q l1 b1 a2 l2 b2) : Cz (seqP p q) l b (a,a2) l2 b2 := by
 obtain ⟨w1,t1,f1⟩ := h1
 obtain ⟨w2,t2,f2⟩ := h2
 refine ⟨w2,fun hb => t2 (t1 hb),fun hb => ?_⟩
 have f1 := f1 hb
 unfold seqP
 cases hp : p l with
 | none => rw [hp] at f1; exact t2 f1
 | some x =>
  rw [hp] at f1
  obtain ⟨e1,e2,e3⟩ := f1
  have f2 := f2 e1
  rw [e2] at f2
  simp only [obs]
  cases hq : q x.2 with
  | none => rw [hq] at f2; exact f2
  | some y =>
   rw [hq] at f2
   obtain ⟨g1,g2,g3⟩ := f2
   exact ⟨g1,g2,by rw [e3,g3]⟩
theorem qlB : bA [] = ByteArray.empty := rfl
theorem qis : zVal ByteArray.empty = none := qgA fun n hn e => by
 have := qic n
 have h : (zNum n).size = (Lib.itoa n).length := rfl
 rw [← e] at h
 have : ByteArray.empty.size = 0 := rfl
 omega
theorem qeD {s : ByteArray} {n : Int} (h : zVal s = some n) : zV2 s = (n,true) := by unfold zV2; rw [h]
theorem qhS {s : ByteArray} (h : zVal s = none) : zV2 s = (0,false) := by unfold zV2; rw [h]
def pN : List ByteArray → Option (Int × List ByteArray)
 | [] => none
 | w :: r => (zVal w).map fun n => (n,r)
def nums : List ByteArray → Option LI
 | [] => some []
 | w :: r => match zVal w with
  | some n => (nums r).map (n :: ·)
  | none => none
def pLt : List ByteArray → Option (LI × List ByteArray)
 | [] => none
 | w :: r => if w = bA [41] then some ([],r) else match zVal w with
  | some n => (pLt r).map fun p => (n :: p.1,p.2)
  | none => none
def pL : List ByteArray → Option (LI × List ByteArray)
 | [] => none
 | w :: r => if w = bA [40] then pLt r else none
def pNm : List ByteArray → Option (ByteArray × List ByteArray)
 | [] => none
 | w :: r => if w = ByteArray.empty then none else some (if w = bA [45] then ByteArray.empty else w,r)
def pMu (a : ByteArray) : List ByteArray → Option (Unit × List ByteArray)
 | [] => none
 | w :: r => if w = a then some ((),r) else none
theorem pN_c (w : ByteArray) (r : List ByteArray) : pN (w :: r) = (zVal w).map fun n => (n,r) := rfl
theorem qky (w : ByteArray) (r : List ByteArray) : nums (w :: r) = match zVal w with | some n => (nums r).map (n :: ·) | none => none := rfl
theorem qlm (w : ByteArray) (r : List ByteArray) : pLt (w :: r) = if w = bA [41] then some ([],r) else match zVal w with | some n => (pLt r).map fun p => (n :: p.1,p.2) | none => none := rfl
theorem pL_c (w : ByteArray) (r : List ByteArray) : pL (w :: r) = if w = bA [40] then pLt r else none := rfl
theorem qjZ (w : ByteArray) (r : List ByteArray) : pNm (w :: r) = if w = ByteArray.empty then none else some (if w = bA [45] then ByteArray.empty else w,r) := rfl
theorem qhy (a w : ByteArray) (r : List ByteArray) : pMu a (w :: r) = if w = a then some ((),r) else none := rfl
theorem qcj (b : Bool) : qaH.f [] b = some (ByteArray.empty,[],true) := rfl
theorem qdW (w : ByteArray) (r : List ByteArray) (b : Bool) (hl : wl (w :: r)) : qaH.f (w :: r) b = some (if w = ByteArray.empty then (ByteArray.empty,w :: r,true) else (w,r,b)) := by
 unfold qaH.f
 have h1 := hl.1
 simp only [List.length_cons] at h1
 rw [if_neg (by simp only [List.length_cons]; omega),if_pos (by simp only [List.length_cons]; omega),qbS]
 simp only [List.getD_cons_zero]
 by_cases h : w = ByteArray.empty
 ·rw [decide_eq_true h,if_pos rfl,if_pos h]
 ·rw [decide_eq_false h,if_neg (by decide),if_pos (by simp only [List.length_cons]; omega),if_neg h]
  simp
theorem qdd {w : ByteArray} (h : w = ByteArray.empty) (r : List ByteArray) (b : Bool) (hl : wl (w :: r)) : qaH.f (w :: r) b = some (ByteArray.empty,w :: r,true) := by rw [qdW w r b hl,if_pos h]
theorem qdc {w : ByteArray} (h : w ≠ ByteArray.empty) (r : List ByteArray) (b : Bool) (hl : wl (w :: r)) : qaH.f (w :: r) b = some (w,r,b) := by rw [qdW w r b hl,if_neg h]
theorem qfJ (l : List ByteArray) (b : Bool) (hl : wl l) : ∃ a l' b',qbn.f l b = some (a,l',b') ∧ Cz pN l b a l' b' := by
 unfold qbn.f
 cases l with
 | nil =>
  rw [qcj,obs]
  dsimp only
  rw [qaM _ (by decide),obs,if_pos rfl]
  exact ⟨_,_,_,rfl,hl,fun _=>rfl,fun _=>rfl⟩
 | cons w r =>
  by_cases h : w = ByteArray.empty
  ·rw [qdd h r b hl,obs]
   dsimp only
   rw [qaM _ (by decide),obs,if_pos rfl]
   refine ⟨_,_,_,rfl,hl,fun _=>rfl,fun _=>?_⟩
   rw [pN_c,h,qis]; rfl
  ·rw [qdc h r b hl,obs]
   dsimp only
   have hw := hl.2 w (by simp)
   rw [qaM _ (by omega),obs]
   cases b with
   | true => rw [if_pos rfl]; exact ⟨_,_,_,rfl,hl.tail,fun _=>rfl,fun h => by cases h⟩
   | false =>
    rw [if_neg (by decide)]
    refine ⟨_,_,_,rfl,hl.tail,fun h => (by cases h),fun _=>?_⟩
    rw [pN_c]
    cases hv : zVal w with
    | none => rw [qhS hv]; rfl
    | some n => rw [qeD hv]; exact ⟨rfl,rfl,rfl⟩
theorem qc6 (l : List ByteArray) (b : Bool) (hl : wl l) : ∃ a l' b',qa2.f l b = some (a,l',b') ∧ Cz pN l b a l' b' := by
 obtain ⟨a,l',b',e,h⟩ := qfJ l b hl
 unfold qa2.f
 rw [e,obs]
 cases b' with
 | true => exact ⟨_,_,_,rfl,h⟩
 | false => rw [if_neg (fun h : (false : Bool) = true => by cases h),decide_eq_true rfl]; exact ⟨_,_,_,rfl,h⟩
theorem qct (w : ByteArray) (hw : w ≠ ByteArray.empty) (l : List ByteArray) (b : Bool) (hl : wl l) : ∃ l' b',qaL.f w l b = some (l',b') ∧ Cz (pMu w) l b () l' b' := by
 unfold qaL.f
 cases l with
 | nil =>
  rw [qcj,obs]
  dsimp only
  rw [qbS,decide_eq_false (fun e => hw e.symm),if_neg (by decide)]
  exact ⟨_,_,rfl,hl,fun _=>rfl,fun _=>rfl⟩
 | cons x r =>
  by_cases h : x = ByteArray.empty
  ·rw [qdd h r b hl,obs]
   dsimp only
   rw [qbS,decide_eq_false (fun e => hw e.symm),if_neg (by decide)]
   refine ⟨_,_,rfl,hl,fun _=>rfl,fun _=>?_⟩
   rw [qhy,if_neg (fun e => hw (e.symm.trans h))]; rfl
  ·rw [qdc h r b hl,obs]
   dsimp only
   rw [qbS]
   by_cases hx : x = w
   ·rw [decide_eq_true hx,if_pos rfl]
    refine ⟨_,_,rfl,hl.tail,fun h => h,fun hb => ?_⟩
    rw [qhy,if_pos hx]; exact ⟨hb,rfl,rfl⟩
   ·rw [decide_eq_false hx,if_neg (by decide)]
    refine ⟨_,_,rfl,hl.tail,fun _=>rfl,fun hb => ?_⟩
    rw [qhy,if_neg hx]; rfl
theorem qfI (l : List ByteArray) (b : Bool) (hl : wl l) : ∃ a l' b',qbm.f l b = some (a,l',b') ∧ Cz pNm l b a l' b' := by
 have e45 : ByteArray.mk #[45] = bA [45] := rfl
 have ne : ByteArray.empty ≠ bA [45] := fun h => by have := congrArg ByteArray.size h; simp [qbd] at this
 unfold qbm.f
 rw [e45]
 cases l with
 | nil =>
  rw [qcj,obs]
  dsimp only
  rw [qbS,decide_eq_false ne,if_neg (by decide)]
  exact ⟨_,_,_,rfl,hl,fun _=>rfl,fun _=>rfl⟩
 | cons x r =>
  by_cases h : x = ByteArray.empty
  ·rw [qdd h r b hl,obs]
   dsimp only
   rw [qbS,decide_eq_false ne,if_neg (by decide)]
   refine ⟨_,_,_,rfl,hl,fun _=>rfl,fun _=>?_⟩
   rw [qjZ,if_pos h]; rfl
  ·rw [qdc h r b hl,obs]
   dsimp only
   rw [qbS]
   by_cases hx : x = bA [45]
   ·rw [decide_eq_true hx,if_pos rfl]
    refine ⟨_,_,_,rfl,hl.tail,fun h => h,fun hb => ?_⟩
    rw [qjZ,if_neg h,if_pos hx]; exact ⟨hb,rfl,rfl⟩
   ·rw [decide_eq_false hx,if_neg (by decide)]
    refine ⟨_,_,_,rfl,hl.tail,fun h => h,fun hb => ?_⟩
    rw [qjZ,if_neg h,if_neg hx]; exact ⟨hb,rfl,rfl⟩
theorem qfc : ∀ (l : List ByteArray) (n : Nat) (y : LI),wl l → l.length < n → y.length + l.length ≤ 2000000 → ∃ l' b' y',qal.l0 n l false y = some (l',b',y') ∧ match nums l with | some ns => b' = false ∧ y' = y ++ ns | none => b' = true
 | [],n,y,hl,hn,hy => by
  obtain ⟨n,rfl⟩ := sun (n := n)
  exact ⟨_,_,_,by rw [qal.l0,if_neg (by decide)],rfl,by simp⟩
 | w :: r,n,y,hl,hn,hy => by
  obtain ⟨n,rfl⟩ : ∃ m,n = m + 1 := ⟨n - 1,by simp only [List.length_cons] at hn; omega⟩
  simp only [List.length_cons] at hn hy
  obtain ⟨a,l',b',e,hw,_,hf⟩ := qc6 (w :: r) false hl
  have hf := hf rfl
  rw [qal.l0,if_pos (by simp only [List.length_cons]; omega),if_neg (by decide),e,obs]
  dsimp only
  rw [if_pos (by simp only [List.length_singleton]; omega)]
  rw [qky]
  rw [pN_c] at hf
  cases hv : zVal w with
  | none =>
   rw [hv] at hf
   have hb : b' = true := hf
   subst hb
   obtain ⟨n,rfl⟩ := sun (n := n)
   rw [qal.l0]
   by_cases hz : 0 < (l'.length : Int)
   ·rw [if_pos hz,if_pos rfl]; exact ⟨_,_,_,rfl,rfl⟩
   ·rw [if_neg hz]; exact ⟨_,_,_,rfl,rfl⟩
  | some m =>
   rw [hv] at hf
   obtain ⟨hb,hl2,ha⟩ := hf
   have hl2 : l' = r := hl2
   have ha : a = m := ha
   rw [hb,hl2,ha]
   obtain ⟨l2,b2,y2,e2,h2⟩ := qfc r n (y ++ [m]) hl.tail (by omega) (by simp only [List.length_append,List.length_singleton]; omega)
   refine ⟨l2,b2,y2,e2,?_⟩
   cases hr : nums r with
   | none => rw [hr] at h2; exact h2
   | some ns => rw [hr] at h2; exact ⟨h2.1,by rw [h2.2,List.append_assoc]; rfl⟩
theorem qfH (l : List ByteArray) (b : Bool) (hl : wl l) (k : Nat) (hk : 1000010 ≤ k) : ∃ l' b' y',qal.f k l b = some (l',b',y') ∧ (b = true → b' = true) ∧ (b = false → match nums l with | some ns => b' = false ∧ y' = ns | none => b' = true) := by
 have h1 := hl.1
 unfold qal.f
 cases b with
 | true =>
  obtain ⟨k,rfl⟩ : ∃ m,k = m + 1 := ⟨k - 1,by omega⟩
  rw [qal.l0]
  by_cases hz : 0 < (l.length : Int)
  ·rw [if_pos hz,if_pos rfl]; exact ⟨_,_,_,rfl,fun _=>rfl,fun h => by cases h⟩
  ·rw [if_neg hz]; exact ⟨_,_,_,rfl,fun _=>rfl,fun h => by cases h⟩
 | false =>
  obtain ⟨l',b',y',e,h⟩ := qfc l k [] hl (by omega) (by simp; omega)
  rw [e,obs]
  refine ⟨_,_,_,rfl,fun h => (by cases h),fun _=>?_⟩
  cases hn : nums l with
  | none => rw [hn] at h; exact h
  | some ns => rw [hn] at h; exact ⟨h.1,by simpa using h.2⟩
theorem qfd : ∀ (l : List ByteArray) (n : Nat) (y : LI),wl l → l.length < n → y.length + l.length ≤ 2000000 → ∃ l' b' y',qao.l0 n l false y = some (l',b',y') ∧ wl l' ∧ match pLt l with | some x => b' = false ∧ l' = bA [41] :: x.2 ∧ y' = y ++ x.1 | none => b' = true ∨ (b' = false ∧ l' = [])
 | [],n,y,hl,hn,hy => by
  obtain ⟨n,rfl⟩ := sun (n := n)
  exact ⟨_,_,_,by rw [qao.l0,if_neg (by decide),if_neg (by decide)],hl,.inr ⟨rfl,rfl⟩⟩
 | w :: r,n,y,hl,hn,hy => by
  obtain ⟨n,rfl⟩ : ∃ m,n = m + 1 := ⟨n - 1,by simp only [List.length_cons] at hn; omega⟩
  simp only [List.length_cons] at hn hy
  have e41 : ByteArray.mk #[41] = bA [41] := rfl
  obtain ⟨a,l',b',e,hw,_,hf⟩ := qc6 (w :: r) false hl
  have hf := hf rfl
  rw [qao.l0,if_neg (by decide),if_pos (by simp only [List.length_cons]; omega),if_pos (by simp only [List.length_cons]; omega),qbS,e41]
  simp only [List.getD_cons_zero]
  rw [qlm]
  by_cases hc : w = bA [41]
  ·rw [decide_eq_true hc,if_pos rfl,if_pos hc]
   exact ⟨_,_,_,rfl,hl,rfl,by rw [hc],by simp⟩
  rw [decide_eq_false hc,if_neg (by decide),if_neg hc,e,obs]
  dsimp only
  rw [if_pos (by simp only [List.length_singleton]; omega)]
  rw [pN_c] at hf
  cases hv : zVal w with
  | none =>
   rw [hv] at hf
   have hb : b' = true := hf
   subst hb
   obtain ⟨n,rfl⟩ := sun (n := n)
   rw [qao.l0,if_pos rfl]
   exact ⟨_,_,_,rfl,hw,.inl rfl⟩
  | some m =>
   rw [hv] at hf
   obtain ⟨hb,hl2,ha⟩ := hf
   have hl2 : l' = r := hl2
   have ha : a = m := ha
   rw [hb,hl2,ha]
   obtain ⟨l2,b2,y2,e2,hw2,h2⟩ := qfd r n (y ++ [m]) hl.tail (by omega) (by simp only [List.length_append,List.length_singleton]; omega)
   refine ⟨l2,b2,y2,e2,hw2,?_⟩
   cases hr : pLt r with
   | none => rw [hr] at h2; exact h2
   | some x => rw [hr] at h2; exact ⟨h2.1,h2.2.1,by rw [h2.2.2,List.append_assoc]; rfl⟩
theorem qef (l : List ByteArray) (b : Bool) (hl : wl l) (k : Nat) (hk : 1000010 ≤ k) : ∃ l' b' y',qao.f k l b = some (l',b',y') ∧ Cz pL l b y' l' b' := by
 have e40 : ByteArray.mk #[40] = bA [40] := rfl
 have e41 : ByteArray.mk #[41] = bA [41] := rfl
 have n40 : bA [40] ≠ ByteArray.empty := fun h => by have := congrArg ByteArray.size h; simp [qbd] at this
 have n41 : bA [41] ≠ ByteArray.empty := fun h => by have := congrArg ByteArray.size h; simp [qbd] at this
 unfold qao.f
 obtain ⟨l1,b1,e1,w1,t1,f1⟩ := qct (bA [40]) n40 l b hl
 rw [e40,e1,obs,e41]
 dsimp only
 cases b1 with
 | true =>
  obtain ⟨k,rfl⟩ : ∃ m,k = m + 1 := ⟨k - 1,by omega⟩
  rw [qao.l0,if_pos rfl,obs]
  dsimp only
  obtain ⟨l2,b2,e2,w2,t2,f2⟩ := qct (bA [41]) n41 l1 true w1
  rw [e2,obs]
  refine ⟨_,_,_,rfl,w2,fun _=>t2 rfl,fun hb => ?_⟩
  have f1 := f1 hb
  have hp : pL l = none := by
   cases l with
   | nil => rfl
   | cons w r =>
    rw [qhy] at f1
    by_cases hw : w = bA [40]
    ·rw [if_pos hw] at f1; cases f1.1
    ·rw [pL_c,if_neg hw]
  rw [hp]; exact t2 rfl
 | false =>
  have hb : b = false := by cases b with | false => rfl | true => cases t1 rfl
  have f1 := f1 hb
  cases l with
  | nil => cases f1
  | cons w r =>
   rw [qhy] at f1
   by_cases hw : w = bA [40]
   ·rw [if_pos hw] at f1
    obtain ⟨_,hl1,_⟩ := f1
    have hl1 : l1 = r := hl1
    rw [hl1] at w1 ⊢
    have h1 := w1.1
    obtain ⟨l2,b2,y2,e2,w2,h2⟩ := qfd r k [] w1 (by omega) (by simp; omega)
    rw [e2,obs]
    dsimp only
    obtain ⟨l3,b3,e3,w3,t3,f3⟩ := qct (bA [41]) n41 l2 b2 w2
    rw [e3,obs]
    refine ⟨_,_,_,rfl,w3,fun h => (by rw [hb] at h; cases h),fun _=>?_⟩
    rw [pL_c,if_pos hw]
    cases hp : pLt r with
    | none =>
     rw [hp] at h2
     rcases h2 with h2 | ⟨h2,h2'⟩
     ·exact t3 h2
     ·have := f3 h2; rw [h2'] at this; exact this
    | some x =>
     rw [hp] at h2
     obtain ⟨h2a,h2b,h2c⟩ := h2
     have := f3 h2a
     rw [h2b] at this
     rw [qhy] at this
     rw [if_pos rfl] at this
     exact ⟨this.1,this.2.1,by simpa using h2c⟩
   ·rw [if_neg hw] at f1; cases f1
end Go.Pf

namespace Go.Pf
open Go Go.Vm
def zOpF : Nat → Int → ByteArray → Option Int
 | 0,_,_ => none
 | e + 1,op,w => if zName op = w then some op else zOpF e (op + 1) w
def zOp (w : ByteArray) : Option Int := zOpF 20 1 w
theorem qiX : ∀ (e : Nat) (op : Int) (w : ByteArray) (r : Int),zOpF e op w = some r → op ≤ r ∧ r < op + e ∧ zName r = w
 | 0,_,_,_,h => by cases h
 | e + 1,op,w,r,h => by
  rw [zOpF] at h
  by_cases c : zName op = w
  ·rw [if_pos c] at h; cases h; exact ⟨by omega,by omega,c⟩
  ·rw [if_neg c] at h
   obtain ⟨h1,h2,h3⟩ := qiX e (op + 1) w r h
   exact ⟨by omega,by omega,h3⟩
theorem qjL (op : Int) (h1 : 1 ≤ op) (h2 : op ≤ 20) : zName op ≠ ByteArray.empty := by
 have : ∀ i : Fin 21,1 ≤ i.val → (zName (i.val : Int)).size ≠ 0 := by decide +kernel
 intro e
 have h := this ⟨op.toNat,by omega⟩ (by show 1 ≤ op.toNat; omega)
 rw [show ((⟨op.toNat,by omega⟩ : Fin 21).val : Int) = op by show (op.toNat : Int) = op; omega,e] at h
 exact h rfl
theorem qeN : zOp ByteArray.empty = none := by
 cases h : zOp ByteArray.empty with
 | none => rfl
 | some r =>
  obtain ⟨h1,h2,h3⟩ := qiX 20 1 _ r h
  exact absurd h3 (qjL r (by omega) (by omega))
theorem qdX (w : ByteArray) (y0 : List ByteArray) (y1 : Bool) : ∀ (e : Nat) (op : Int) (n : Nat),op + e = 21 → 1 ≤ op → e < n → qaK.l0 n w op y0 y1 = some (match zOpF e op w with | some r => .inr r | none => .inl ())
 | 0,op,n,h,_,hn => by
  obtain ⟨n,rfl⟩ := sun (n := n)
  rw [qaK.l0,ifq]; rfl
 | e + 1,op,n,h,h1,hn => by
  obtain ⟨n,rfl⟩ := sun (n := n)
  rw [qaK.l0,ifp,qeO,obs,qbS,zOpF]
  by_cases c : zName op = w
  ·rw [decide_eq_true c,if_pos rfl,if_pos c]
  ·rw [decide_eq_false c,if_neg (by decide),if_neg c,qaZ (by omega) (by omega)]
   exact qdX w y0 y1 e (op + 1) n (by omega) (by omega) (by omega)
def pOp : List ByteArray → Option (Int × List ByteArray)
 | [] => none
 | w :: r => (zOp w).map fun op => (op,r)
theorem qjY (w : ByteArray) (r : List ByteArray) : pOp (w :: r) = (zOp w).map fun op => (op,r) := rfl
theorem qkc (l : List ByteArray) (b : Bool) (hl : wl l) (k : Nat) (hk : 200 ≤ k) : ∃ a l' b',qaK.f k l b = some (a,l',b') ∧ Cz pOp l b a l' b' := by
 unfold qaK.f
 cases l with
 | nil =>
  rw [qcj,obs]
  dsimp only
  rw [qdX _ _ _ 20 1 k (by omega) (by omega) (by omega),obs]
  rw [show zOpF 20 1 ByteArray.empty = none from qeN]
  exact ⟨_,_,_,rfl,hl,fun _=>rfl,fun _=>rfl⟩
 | cons w r =>
  by_cases h : w = ByteArray.empty
  ·rw [qdd h r b hl,obs]
   dsimp only
   rw [qdX _ _ _ 20 1 k (by omega) (by omega) (by omega),obs]
   rw [show zOpF 20 1 ByteArray.empty = none from qeN]
   refine ⟨_,_,_,rfl,hl,fun _=>rfl,fun _=>?_⟩
   rw [qjY,h,qeN]; rfl
  ·rw [qdc h r b hl,obs]
   dsimp only
   rw [qdX _ _ _ 20 1 k (by omega) (by omega) (by omega),obs]
   rw [show zOpF 20 1 w = zOp w from rfl]
   cases ho : zOp w with
   | none =>
    refine ⟨_,_,_,rfl,hl.tail,fun _=>rfl,fun _=>?_⟩
    rw [qjY,ho]; rfl
   | some op =>
    refine ⟨_,_,_,rfl,hl.tail,fun h => h,fun hb => ?_⟩
    rw [qjY,ho]; exact ⟨hb,rfl,rfl⟩
end Go.Pf

namespace Go.Pf
open Go Go.Vm
def pAll := seqP (seqP (seqP (seqP (seqP (seqP pOp pL) pL) pL) pN) pN) pNm
def toNd (x : (((((Int × LI) × LI) × LI) × Int) × Int) × ByteArray) : Nd := (x.1.1.1.1.1.1,(x.1.1.1.1.1.2,(x.1.1.1.1.2,(x.1.1.1.2,(x.1.1.2,(x.1.2,x.2))))))
def pNd (l : List ByteArray) : Option Nd := match pAll l with
 | some x => if x.2 = [] then some (toNd x.1) else none
 | none => none
theorem qiG (l : List ByteArray) (hl : wl l) (k : Nat) (hk : 1000010 ≤ k) : ∃ o,qbz.f k l false = some o ∧ match pNd l with
  | some x => o.2.2.2.2.2.1 = false ∧ (o.1,(o.2.2.2.2.2.2.1,(o.2.2.2.2.2.2.2.1,(o.2.2.2.2.2.2.2.2,(o.2.1,(o.2.2.1,o.2.2.2.1)))))) = x
  | none => o.2.2.2.2.2.1 = true := by
 unfold qbz.f
 obtain ⟨a1,l1,b1,e1,c1⟩ := qkc l false hl k (by omega)
 rw [e1,obs]; dsimp only
 obtain ⟨l2,b2,a2,e2,c2⟩ := qef l1 b1 c1.1 k hk
 rw [e2,obs]; dsimp only
 obtain ⟨l3,b3,a3,e3,c3⟩ := qef l2 b2 c2.1 k hk
 rw [e3,obs]; dsimp only
 obtain ⟨l4,b4,a4,e4,c4⟩ := qef l3 b3 c3.1 k hk
 rw [e4,obs]; dsimp only
 obtain ⟨a5,l5,b5,e5,c5⟩ := qfJ l4 b4 c4.1
 rw [e5,obs]; dsimp only
 obtain ⟨a6,l6,b6,e6,c6⟩ := qc6 l5 b5 c5.1
 rw [e6,obs]; dsimp only
 obtain ⟨a7,l7,b7,e7,c7⟩ := qfI l6 b6 c6.1
 rw [e7,obs]; dsimp only
 have c := ((((((c1.seq c2).seq c3).seq c4).seq c5).seq c6).seq c7).2.2 rfl
 rw [show seqP (seqP (seqP (seqP (seqP (seqP pOp pL) pL) pL) pN) pN) pNm l = pAll l from rfl] at c
 unfold pNd
 cases hp : pAll l with
 | none =>
  rw [hp] at c
  have hb : b7 = true := c
  rw [if_pos hb]; exact ⟨_,rfl,rfl⟩
 | some x =>
  rw [hp] at c
  obtain ⟨hb,hl7,ha⟩ := c
  rw [hb,if_neg (by decide)]
  refine ⟨_,rfl,?_⟩
  dsimp only
  by_cases hx : x.2 = []
  ·rw [if_pos hx]
   have : l7 = [] := hl7.trans hx
   rw [this]
   refine ⟨by simp,?_⟩
   rw [← ha]; rfl
  ·rw [if_neg hx]
   have : l7 ≠ [] := fun e => hx (hl7 ▸ e)
   have h0 : 0 < (l7.length : Int) := by have := List.length_pos_iff.2 this; omega
   exact decide_eq_true h0
def pNds : List ByteArray → Option (List Nd)
 | [] => some []
 | s :: r => match pNd (zWd 32 s) with
  | some x => (pNds r).map (x :: ·)
  | none => none
def ln (M : List ByteArray) : Prop := M.length ≤ 1000000 ∧ ∀ s ∈ M,s.size ≤ 900000
theorem qiU {s : ByteArray} (h : s.size ≤ 900000) : wl (zWd 32 s) := by
 have hsz : s.data.toList.length = s.size := Array.length_toList
 have h1 := qem 32 s.data.toList []
 have key : ∀ (l cur : List UInt8),(∀ x ∈ (sp 32 cur l).1,x.length ≤ cur.length + l.length) ∧ (sp 32 cur l).2.length ≤ cur.length + l.length := by
  intro l
  induction l with
  | nil => intro cur; simp [sp]
  | cons x l ih =>
   intro cur
   rw [sp]
   split
   ·obtain ⟨i1,i2⟩ := ih []
    simp only [List.length_nil,List.length_cons] at i1 i2 ⊢
    refine ⟨fun y hy => ?_,by omega⟩
    rcases List.mem_cons.1 hy with rfl | hy
    ·omega
    ·have := i1 y hy; omega
   ·obtain ⟨i1,i2⟩ := ih (cur ++ [x])
    simp only [List.length_append,List.length_cons,List.length_nil] at i1 i2 ⊢
    exact ⟨fun y hy => by have := i1 y hy; omega,by omega⟩
 obtain ⟨k1,k2⟩ := key s.data.toList []
 simp only [List.length_nil] at k1 k2
 unfold zWd
 refine ⟨by simp only [List.length_append,List.length_map,List.length_singleton]; omega,fun w hw => ?_⟩
 rcases List.mem_append.1 hw with hw | hw
 ·obtain ⟨x,hx,rfl⟩ := List.mem_map.1 hw
  have := k1 x hx; rw [qbd]; omega
 ·rw [List.mem_singleton] at hw; subst hw; rw [qbd]; omega
theorem qhw (k : Nat) (hk : 1000010 ≤ k) (M : List ByteArray) (hM : ln M) (y0 y1 : ByteArray) (y2 : List ByteArray) (c2 : Bool) (y3 : List ByteArray) (c3 : Bool) (y4 : LI) : ∀ (e i n : Nat) (b : Bool) (y : List Nd),M.length = i + e → e < n → y.length ≤ i →
  ∃ b' y',qaJ.l0 k n b M (M.length : Int) (i : Int) y0 y1 y2 c2 y3 c3 y4 y = some (b',y') ∧ (b = true → b' = true) ∧ (b = false → match pNds (M.drop i) with | some ns => b' = false ∧ y' = y ++ ns | none => b' = true)
 | 0,i,n,b,y,hi,hn,hy => by
  obtain ⟨n,rfl⟩ := sun (n := n)
  refine ⟨_,_,by rw [qaJ.l0,ifq],fun h => h,fun h => ?_⟩
  rw [List.drop_eq_nil_of_le (by omega)]
  exact ⟨h,by simp⟩
 | e + 1,i,n,b,y,hi,hn,hy => by
  obtain ⟨n,rfl⟩ := sun (n := n)
  have h1 := hM.1
  have hm := hM.2 _ (qaY (show i < M.length by omega) ByteArray.empty)
  rw [qaJ.l0,ifp,ifp,Int.toNat_natCast,qbw _ (by omega) k (by omega),obs]
  obtain ⟨o,eo,ho⟩ := qiG (zWd 32 (M.getD i ByteArray.empty)) (qiU hm) k hk
  rw [eo,obs,if_pos (by simp only [List.length_singleton]; omega),qaZ (n := (i : Int) + 1) (by omega) (by omega),show (i : Int) + 1 = ((i + 1 : Nat) : Int) by omega,qar (show i < M.length by omega) ByteArray.empty]
  cases b with
  | true =>
   rw [if_pos rfl]
   obtain ⟨b',y',e',t',_⟩ := qhw k hk M hM y0 y1 y2 c2 y3 c3 y4 e (i + 1) n true (y ++ [_]) (by omega) (by omega) (by simp only [List.length_append,List.length_singleton]; omega)
   exact ⟨b',y',e',t',fun h => by cases h⟩
  | false =>
   rw [if_neg (by decide)]
   obtain ⟨b',y',e',t',f'⟩ := qhw k hk M hM y0 y1 y2 c2 y3 c3 y4 e (i + 1) n o.2.2.2.2.2.1 (y ++ [(o.1,(o.2.2.2.2.2.2.1,(o.2.2.2.2.2.2.2.1,(o.2.2.2.2.2.2.2.2,(o.2.1,(o.2.2.1,o.2.2.2.1))))))]) (by omega) (by omega) (by simp only [List.length_append,List.length_singleton]; omega)
   refine ⟨b',y',e',fun h => (by cases h),fun _=>?_⟩
   rw [pNds]
   cases hp : pNd (zWd 32 (M.getD i ByteArray.empty)) with
   | none => rw [hp] at ho; exact t' ho
   | some x =>
    rw [hp] at ho
    obtain ⟨h2,h3⟩ := ho
    have f' := f' h2
    rw [h3] at f'
    cases hr : pNds (M.drop (i + 1)) with
    | none => rw [hr] at f'; exact f'
    | some ns => rw [hr] at f'; exact ⟨f'.1,by rw [f'.2,List.append_assoc]; rfl⟩
end Go.Pf

namespace Go.Pf
open Go Go.Vm
theorem qlj (c : UInt8) : ∀ (l cur : List UInt8),(∀ x ∈ (sp c cur l).1,x.length ≤ cur.length + l.length) ∧ (sp c cur l).2.length ≤ cur.length + l.length := by
 intro l
 induction l with
 | nil => intro cur; simp [sp]
 | cons x l ih =>
  intro cur
  rw [sp]
  split
  ·obtain ⟨i1,i2⟩ := ih []
   simp only [List.length_nil,List.length_cons] at i1 i2 ⊢
   refine ⟨fun y hy => ?_,by omega⟩
   rcases List.mem_cons.1 hy with rfl | hy
   ·omega
   ·have := i1 y hy; omega
  ·obtain ⟨i1,i2⟩ := ih (cur ++ [x])
   simp only [List.length_append,List.length_cons,List.length_nil] at i1 i2 ⊢
   exact ⟨fun y hy => by have := i1 y hy; omega,by omega⟩
def zLi (s : ByteArray) : List ByteArray := (sp 10 [] s.data.toList).1.map bA
theorem qkp {s : ByteArray} (h : s.size ≤ 65536) : ln (zLi s) ∧ ∀ x ∈ zLi s,x.size ≤ 65536 := by
 have hsz : s.data.toList.length = s.size := Array.length_toList
 have h1 := qem 10 s.data.toList []
 obtain ⟨k1,k2⟩ := qlj 10 s.data.toList []
 simp only [List.length_nil] at k1
 have key : ∀ x ∈ zLi s,x.size ≤ 65536 := fun w hw => by
  obtain ⟨x,hx,rfl⟩ := List.mem_map.1 hw
  have := k1 x hx; rw [qbd]; omega
 exact ⟨⟨by unfold zLi; rw [List.length_map]; omega,fun w hw => by have := key w hw; omega⟩,key⟩
def pMs (ws : List ByteArray) : Option (ByteArray × LI) := match seqP (pMu (bA mesh5)) pNm ws with
 | some x => match nums x.2 with
  | some ns => if x.1.2 = ByteArray.empty ∧ 0 < ns.length then none else some (x.1.2,ns)
  | none => none
 | none => none
def pOu (ws : List ByteArray) : Option LI := match pMu (bA outs4) ws with
 | some x => nums x.2
 | none => none
def rdL (L : List ByteArray) : Option (ByteArray × LI × List Nd × LI) := match pMs (zWd 32 (L.getD 0 ByteArray.empty)) with
 | none => none
 | some m => match pNds ((L.take (L.length - 1)).drop 1) with
  | none => none
  | some N => match pOu (zWd 32 (L.getD (L.length - 1) ByteArray.empty)) with
   | none => none
   | some O => some (m.1,m.2,N,O)
def zRd (s : ByteArray) : Option (ByteArray × LI × List Nd × LI) := if (sp 10 [] s.data.toList).2 = [] ∧ 2 ≤ (zLi s).length then rdL (zLi s) else none
theorem qj3 : bA mesh5 ≠ ByteArray.empty := fun h => by have := congrArg ByteArray.size h; simp [qbd,mesh5] at this
theorem qj0 : bA outs4 ≠ ByteArray.empty := fun h => by have := congrArg ByteArray.size h; simp [qbd,outs4] at this
theorem qkH (l : List UInt8) : bA l = ByteArray.empty ↔ l = [] := by
 rw [← qlB]
 exact ⟨qkG,fun h => by rw [h]⟩
set_option maxHeartbeats 1000000 in
theorem qgU (s : ByteArray) (hs : s.size ≤ 65536) (k : Nat) (hk : 1000010 ≤ k) : ∃ o,qaJ.f k s = some o ∧ match zRd s with
    | some z => o = (z.1,true,z.2.1,z.2.2.1,z.2.2.2)
    | none => o.2.1 = false := by
  have hsz : s.data.toList.length = s.size := Array.length_toList
  have hspl := qem 10 s.data.toList []
  obtain ⟨hln,hsm⟩ := qkp hs
  unfold qaJ.f zRd
  rw [show qaw.f k s 10 = some (zWd 10 s) from qh2 s (by omega) 10 (by decide) (by omega) k (by omega),obs]
  have ht : zWd 10 s = zLi s ++ [bA (sp 10 [] s.data.toList).2] := rfl
  rw [ht]
  generalize hL : zLi s = L at hln hsm ⊢
  generalize (sp 10 [] s.data.toList).2 = q
  have hl1 := hln.1
  have hlen : ((L ++ [bA q]).length : Int) = (L.length : Int) + 1 := by rw [List.length_append,List.length_singleton]; omega
  by_cases h3 : L.length < 2
  · rw [ifp,ifq]; exact ⟨_,rfl,rfl⟩
  have hw : IntKind.i64.wrap (((L ++ [bA q]).length : Int) - 1) = (L.length : Int) := by rw [hlen,qaZ (by omega) (by omega)]; omega
  have hw2 : IntKind.i64.wrap ((L.length : Int) - 1) = ((L.length - 1 : Nat) : Int) := by rw [qaZ (by omega) (by omega)]; omega
  have htk : (L ++ [bA q]).take L.length = L := by simp
  have hgt : (L ++ [bA q]).getD L.length ByteArray.empty = bA q := by simp
  simp only [hw,Int.toNat_natCast,htk,List.drop_zero,hw2,hgt]
  rw [ifq,ifp,qbS]
  by_cases hq : q ≠ []
  · rw [decide_eq_false (fun e => hq ((qkH q).1 e)),if_neg (by decide),if_neg (fun h => hq h.1)]; exact ⟨_,rfl,rfl⟩
  have hq : q = [] := Classical.not_not.1 hq
  rw [decide_eq_true ((qkH q).2 hq),if_pos rfl,if_pos (show q = [] ∧ 2 ≤ L.length from ⟨hq,by omega⟩),ifp,ifp]
  have m0 := hsm _ (qaY (show 0 < L.length by omega) ByteArray.empty)
  have m1 := hsm _ (qaY (show L.length - 1 < L.length by omega) ByteArray.empty)
  rw [qbw _ (by omega) k (by omega),obs,ifp,qbw _ (by omega) k (by omega),obs]
  have w0 := qiU (s := L.getD 0 ByteArray.empty) (by omega)
  have w1 := qiU (s := L.getD (L.length - 1) ByteArray.empty) (by omega)
  obtain ⟨l1,b1,e1,c1⟩ := qct (bA mesh5) qj3 _ false w0
  rw [show ByteArray.mk #[109,101,115,104] = bA mesh5 from rfl,e1,obs]; dsimp only
  obtain ⟨nm,l2,b2,e2,c2⟩ := qfI l1 b1 c1.1
  rw [e2,obs]; dsimp only
  obtain ⟨l3,b3,sz,e3,t3,f3⟩ := qfH l2 b2 c2.1 k hk
  rw [e3,obs]; dsimp only
  have c12 := (c1.seq c2).2.2 rfl
  -- the rest
  obtain ⟨l4,b4,e4,c4⟩ := qct (bA outs4) qj0 _ false w1
  obtain ⟨l5,b5,O,e5,t5,f5⟩ := qfH l4 b4 c4.1 k hk
  have hO : match pOu (zWd 32 (L.getD (L.length - 1) ByteArray.empty)) with | some o => b5 = false ∧ O = o | none => b5 = true := by
    have c4 := c4.2.2 rfl
    unfold pOu
    cases hp : pMu (bA outs4) (zWd 32 (L.getD (L.length - 1) ByteArray.empty)) with
    | none => rw [hp] at c4; exact t5 c4
    | some x =>
      rw [hp] at c4
      obtain ⟨g1,g2,_⟩ := c4
      have f5 := f5 g1
      rw [g2] at f5
      exact f5
  have hMl : ln ((L.take (L.length - 1)).drop 1) := ⟨by rw [List.length_drop,List.length_take]; omega,fun x hx => by have := hsm x (List.mem_of_mem_take (List.mem_of_mem_drop hx)); omega⟩
  have tail : ∀ b0 : Bool,∃ b9 N,qaJ.l0 k k b0 ((L.take (L.length - 1)).drop 1) (((L.take (L.length - 1)).drop 1).length : Int) 0 ByteArray.empty nm l3 b3 (zWd 32 (L.getD (L.length - 1) ByteArray.empty)) false sz [] = some (b9,N) ∧ (b0 = true → b9 = true) ∧ (b0 = false → match pNds ((L.take (L.length - 1)).drop 1) with | some ns => b9 = false ∧ N = ns | none => b9 = true) := fun b0 => by
    obtain ⟨b9,N,e9,t9,f9⟩ := qhw k hk _ hMl ByteArray.empty nm l3 b3 (zWd 32 (L.getD (L.length - 1) ByteArray.empty)) false sz ((L.take (L.length - 1)).drop 1).length 0 k b0 [] (by omega) (by have := hMl.1; omega) (by simp)
    refine ⟨b9,N,e9,t9,fun h => ?_⟩
    have f9 := f9 h
    rw [List.drop_zero] at f9
    cases hN : pNds ((L.take (L.length - 1)).drop 1) with
    | none => rw [hN] at f9; exact f9
    | some ns => rw [hN] at f9; exact ⟨f9.1,by simpa using f9.2⟩
  have fin : ∀ b0 : Bool,b0 = decide (nm = ByteArray.empty ∧ 0 < sz.length) → ∃ o,(qaJ.l0 k k b0 ((L.take (L.length - 1)).drop 1) (((L.take (L.length - 1)).drop 1).length : Int) 0 ByteArray.empty nm l3 b3 (zWd 32 (L.getD (L.length - 1) ByteArray.empty)) false sz []).bind (fun t9 => (qaL.f (ByteArray.mk #[111,117,116,115]) (zWd 32 (L.getD (L.length - 1) ByteArray.empty)) false).bind fun t10 => (qal.f k t10.1 t10.2).bind fun t11 => if t9.1 = true then (some (nm,false,sz,t9.2,t11.2.2)) else if b3 = true then (some (nm,false,sz,t9.2,t11.2.2)) else some (nm,!t11.2.1,sz,t9.2,t11.2.2)) = some o ∧ match rdL L with
      | some z => o = (z.1,true,z.2.1,z.2.2.1,z.2.2.2)
      | none => o.2.1 = false := fun b0 hb0 => by
    obtain ⟨b9,N,e9,t9,f9⟩ := tail b0
    rw [e9,obs,show ByteArray.mk #[111,117,116,115] = bA outs4 from rfl,e4,obs]; dsimp only
    rw [e5,obs]; dsimp only
    have hbad : (b9 = true ∨ b3 = true ∨ b5 = true) → rdL L = none → ∃ o,(if b9 = true then some (nm,false,sz,N,O) else if b3 = true then some (nm,false,sz,N,O) else some (nm,!b5,sz,N,O)) = some o ∧ match rdL L with
      | some z => o = (z.1,true,z.2.1,z.2.2.1,z.2.2.2)
      | none => o.2.1 = false := fun hb hr => by
      rw [hr]
      by_cases h9 : b9 = true
      · rw [if_pos h9]; exact ⟨_,rfl,rfl⟩
      · by_cases h3 : b3 = true
        · rw [if_neg h9,if_pos h3]; exact ⟨_,rfl,rfl⟩
        · rw [if_neg h9,if_neg h3]
          rcases hb with h | h | h
          · exact absurd h h9
          · exact absurd h h3
          · exact ⟨_,rfl,by rw [h]; rfl⟩
    cases hp : seqP (pMu (bA mesh5)) pNm (zWd 32 (L.getD 0 ByteArray.empty)) with
    | none =>
      rw [hp] at c12
      exact hbad (.inr (.inl (t3 c12))) (by unfold rdL pMs; rw [hp])
    | some x =>
      rw [hp] at c12
      obtain ⟨g1,g2,g3⟩ := c12
      have g3 : nm = x.1.2 := congrArg Prod.snd g3
      have f3 := f3 g1
      rw [g2] at f3
      cases hn : nums x.2 with
      | none =>
        rw [hn] at f3
        exact hbad (.inr (.inl f3)) (by unfold rdL pMs; rw [hp]; dsimp only; rw [hn])
      | some ns =>
        rw [hn] at f3
        obtain ⟨g4,g5⟩ := f3
        by_cases hz : nm = ByteArray.empty ∧ 0 < sz.length
        · rw [decide_eq_true hz] at hb0
          exact hbad (.inl (t9 hb0)) (by unfold rdL pMs; rw [hp]; dsimp only; rw [hn]; dsimp only; rw [← g3,← g5,if_pos hz])
        · rw [decide_eq_false hz] at hb0
          have f9 := f9 hb0
          have hms : pMs (zWd 32 (L.getD 0 ByteArray.empty)) = some (nm,sz) := by unfold pMs; rw [hp]; dsimp only; rw [hn]; dsimp only; rw [← g3,← g5,if_neg hz]
          cases hN : pNds ((L.take (L.length - 1)).drop 1) with
          | none =>
            rw [hN] at f9
            exact hbad (.inl f9) (by unfold rdL; rw [hms]; dsimp only; rw [hN])
          | some Ns =>
            rw [hN] at f9
            obtain ⟨g6,g7⟩ := f9
            cases hou : pOu (zWd 32 (L.getD (L.length - 1) ByteArray.empty)) with
            | none =>
              rw [hou] at hO
              exact hbad (.inr (.inr hO)) (by unfold rdL; rw [hms]; dsimp only; rw [hN]; dsimp only; rw [hou])
            | some Os =>
              rw [hou] at hO
              obtain ⟨g8,g9⟩ := hO
              have hr : rdL L = some (nm,sz,Ns,Os) := by unfold rdL; rw [hms]; dsimp only; rw [hN]; dsimp only; rw [hou]
              rw [hr,g6,if_neg (by decide),g4,if_neg (by decide),g8]
              exact ⟨_,rfl,by rw [g7,g9]; rfl⟩
  rw [qbS]
  by_cases hnm : nm = ByteArray.empty
  · rw [decide_eq_true hnm,if_pos rfl,ifp]
    exact fin _ (decide_eq_decide.2 ⟨fun h => ⟨hnm,by omega⟩,fun h => by have := h.2; omega⟩)
  · rw [decide_eq_false hnm,if_neg (by decide),ifp]
    exact fin _ (decide_eq_false (fun h => hnm h.1)).symm
end Go.Pf

namespace Go.Pf
open Go Go.Vm
def Bd (l : List ByteArray) : Prop := l.length ≤ 65537 ∧ ∀ w ∈ l,w.size ≤ 65537
theorem Bd.tail {w : ByteArray} {r : List ByteArray} (h : Bd (w :: r)) : Bd r := ⟨by have := h.1; simp only [List.length_cons] at this; omega,fun x hx => h.2 x (List.mem_cons_of_mem _ hx)⟩
theorem qiV {s : ByteArray} (h : s.size ≤ 65536) : Bd (zWd 32 s) := by
 have hsz : s.data.toList.length = s.size := Array.length_toList
 have h1 := qem 32 s.data.toList []
 obtain ⟨k1,k2⟩ := qlj 32 s.data.toList []
 simp only [List.length_nil] at k1 k2
 unfold zWd
 refine ⟨by simp only [List.length_append,List.length_map,List.length_singleton]; omega,fun w hw => ?_⟩
 rcases List.mem_append.1 hw with hw | hw
 ·obtain ⟨x,hx,rfl⟩ := List.mem_map.1 hw
  have := k1 x hx; rw [qbd]; omega
 ·rw [List.mem_singleton] at hw; subst hw; rw [qbd]; omega
theorem qb4 {α β : Type} {p : List ByteArray → Option (α × List ByteArray)} {q : List ByteArray → Option (β × List ByteArray)} {l : List ByteArray} {z : (α × β) × List ByteArray} (h : seqP p q l = some z) : ∃ x y,p l = some x ∧ q x.2 = some y ∧ z = ((x.1,y.1),y.2) := by
 unfold seqP at h
 cases hp : p l with
 | none => rw [hp] at h; cases h
 | some x =>
  rw [hp,obs] at h
  cases hq : q x.2 with
  | none => rw [hq] at h; cases h
  | some y => rw [hq,obs] at h; cases h; exact ⟨x,y,rfl,hq,rfl⟩
theorem qll {l : List ByteArray} (hl : Bd l) {x : Int × List ByteArray} (h : pN l = some x) : rng x.1 ∧ Bd x.2 := by
 cases l with
 | nil => cases h
 | cons w r =>
  rw [pN_c] at h
  cases hv : zVal w with
  | none => rw [hv] at h; cases h
  | some n => rw [hv] at h; cases h; exact ⟨(qcS hv).2,hl.tail⟩
theorem qhA : ∀ {l : List ByteArray} {ns : LI},nums l = some ns → ns.length = l.length ∧ ∀ n ∈ ns,rng n
 | [],ns,h => by cases h; exact ⟨rfl,fun _ h => by cases h⟩
 | w :: r,ns,h => by
  rw [qky] at h
  cases hv : zVal w with
  | none => rw [hv] at h; cases h
  | some n =>
   rw [hv] at h
   cases hr : nums r with
   | none => rw [hr] at h; cases h
   | some m =>
    rw [hr] at h; cases h
    obtain ⟨h1,h2⟩ := qhA hr
    refine ⟨by simp only [List.length_cons]; omega,fun x hx => ?_⟩
    rcases List.mem_cons.1 hx with rfl | hx
    ·exact (qcS hv).2
    ·exact h2 x hx
theorem qkw : ∀ {l : List ByteArray} {x : LI × List ByteArray},Bd l → pLt l = some x → x.1.length ≤ l.length ∧ (∀ n ∈ x.1,rng n) ∧ Bd x.2
 | [],x,_,h => by cases h
 | w :: r,x,hl,h => by
  rw [qlm] at h
  by_cases hw : w = bA [41]
  ·rw [if_pos hw] at h; cases h; exact ⟨by simp,fun _ h => (by cases h),hl.tail⟩
  rw [if_neg hw] at h
  cases hv : zVal w with
  | none => rw [hv] at h; cases h
  | some n =>
   rw [hv] at h
   cases hr : pLt r with
   | none => rw [hr] at h; cases h
   | some y =>
    rw [hr] at h; cases h
    obtain ⟨h1,h2,h3⟩ := qkw hl.tail hr
    refine ⟨by simp only [List.length_cons]; omega,fun m hm => ?_,h3⟩
    rcases List.mem_cons.1 hm with rfl | hm
    ·exact (qcS hv).2
    ·exact h2 m hm
theorem qkW {l : List ByteArray} {x : LI × List ByteArray} (hl : Bd l) (h : pL l = some x) : x.1.length ≤ 65537 ∧ (∀ n ∈ x.1,rng n) ∧ Bd x.2 := by
 cases l with
 | nil => cases h
 | cons w r =>
  rw [pL_c] at h
  by_cases hw : w = bA [40]
  ·rw [if_pos hw] at h
   obtain ⟨h1,h2,h3⟩ := qkw hl.tail h
   have := hl.tail.1
   exact ⟨by omega,h2,h3⟩
  ·rw [if_neg hw] at h; cases h
theorem qku {l : List ByteArray} {x : ByteArray × List ByteArray} (hl : Bd l) (h : pNm l = some x) : x.1.size ≤ 65537 ∧ Bd x.2 := by
 cases l with
 | nil => cases h
 | cons w r =>
  rw [qjZ] at h
  have hw := hl.2 w (by simp)
  by_cases h1 : w = ByteArray.empty
  ·rw [if_pos h1] at h; cases h
  rw [if_neg h1] at h
  cases h
  refine ⟨?_,hl.tail⟩
  dsimp only
  by_cases h2 : w = bA [45]
  ·rw [if_pos h2]; decide
  ·rw [if_neg h2]; exact hw
theorem qkv {a : ByteArray} {l : List ByteArray} {x : Unit × List ByteArray} (hl : Bd l) (h : pMu a l = some x) : Bd x.2 := by
 cases l with
 | nil => cases h
 | cons w r =>
  rw [qhy] at h
  by_cases hw : w = a
  ·rw [if_pos hw] at h; cases h; exact hl.tail
  ·rw [if_neg hw] at h; cases h
theorem qlk {l : List ByteArray} (hl : Bd l) {x : Nd} (h : pNd l = some x) : wtN x := by
  unfold pNd at h
  cases hp : pAll l with
  | none => rw [hp] at h; cases h
  | some z =>
    rw [hp] at h
    dsimp only at h
    by_cases hz : z.2 = []
    · rw [if_pos hz] at h
      cases h
      obtain ⟨z6,x7,e6,e7,rfl⟩ := qb4 hp
      obtain ⟨z5,x6,e5,f6,rfl⟩ := qb4 e6
      obtain ⟨z4,x5,e4,f5,rfl⟩ := qb4 e5
      obtain ⟨z3,x4,e3,f4,rfl⟩ := qb4 e4
      obtain ⟨z2,x3,e2,f3,rfl⟩ := qb4 e3
      obtain ⟨x1,x2,e1,f2,rfl⟩ := qb4 e2
      have b1 : Bd x1.2 := by
        cases l with
        | nil => cases e1
        | cons w r =>
          rw [qjY] at e1
          cases ho : zOp w with
          | none => rw [ho] at e1; cases e1
          | some op => rw [ho] at e1; cases e1; exact hl.tail
      obtain ⟨a2,r2,b2⟩ := qkW b1 f2
      obtain ⟨a3,r3,b3⟩ := qkW b2 f3
      obtain ⟨a4,r4,b4⟩ := qkW b3 f4
      obtain ⟨r5,b5⟩ := qll b4 f5
      obtain ⟨r6,b6⟩ := qll b5 f6
      obtain ⟨a7,_⟩ := qku b6 e7
      exact ⟨by show x2.1.length ≤ _; omega,by show x3.1.length ≤ _; omega,by show x4.1.length ≤ _; omega,by show x7.1.size ≤ _; omega,r2,r3,r4,r5,r6⟩
    · rw [if_neg hz] at h; cases h
theorem qjj : ∀ {M : List ByteArray} {N : List Nd},(∀ s ∈ M,s.size ≤ 65536) → pNds M = some N → N.length = M.length ∧ ∀ x ∈ N,wtN x
 | [],N,_,h => by cases h; exact ⟨rfl,fun _ h => by cases h⟩
 | s :: r,N,hM,h => by
  rw [pNds] at h
  cases hp : pNd (zWd 32 s) with
  | none => rw [hp] at h; cases h
  | some x =>
   rw [hp] at h
   cases hr : pNds r with
   | none => rw [hr] at h; cases h
   | some m =>
    rw [hr] at h; cases h
    obtain ⟨h1,h2⟩ := qjj (fun s hs => hM s (List.mem_cons_of_mem _ hs)) hr
    refine ⟨by simp only [List.length_cons]; omega,fun y hy => ?_⟩
    rcases List.mem_cons.1 hy with rfl | hy
    ·exact qlk (qiV (hM s (by simp))) hp
    ·exact h2 y hy
theorem qle {s : ByteArray} (hs : s.size ≤ 65536) {z : ByteArray × LI × List Nd × LI} (h : zRd s = some z) : wtG z.2.1 z.1 z.2.2.1 z.2.2.2 ∧ z.2.1.length ≤ 100000 ∧ z.2.2.1.length ≤ 100000 ∧ z.2.2.2.length ≤ 100000 ∧ s ≠ ByteArray.empty := by
  obtain ⟨hln,hsm⟩ := qkp hs
  have hsz : s.data.toList.length = s.size := Array.length_toList
  have hspl := qem 10 s.data.toList []
  unfold zRd at h
  by_cases hc' : ¬ ((sp 10 [] s.data.toList).2 = [] ∧ 2 ≤ (zLi s).length)
  · rw [if_neg hc'] at h; cases h
  have hc := Classical.not_not.1 hc'
  rw [if_pos hc] at h
  have hne : s ≠ ByteArray.empty := fun e => by
    have h2 := hc.2
    unfold zLi at h2
    rw [List.length_map,e] at h2
    exact absurd h2 (by decide)
  have hlen : (zLi s).length ≤ 65536 := by unfold zLi; rw [List.length_map]; omega
  have m0 := hsm _ (qaY (show 0 < (zLi s).length by omega) ByteArray.empty)
  have m1 := hsm _ (qaY (show (zLi s).length - 1 < (zLi s).length by omega) ByteArray.empty)
  unfold rdL at h
  cases h1 : pMs (zWd 32 ((zLi s).getD 0 ByteArray.empty)) with
  | none => rw [h1] at h; cases h
  | some m =>
    rw [h1] at h
    dsimp only at h
    cases h2 : pNds (((zLi s).take ((zLi s).length - 1)).drop 1) with
    | none => rw [h2] at h; cases h
    | some N =>
      rw [h2] at h
      dsimp only at h
      cases h3 : pOu (zWd 32 ((zLi s).getD ((zLi s).length - 1) ByteArray.empty)) with
      | none => rw [h3] at h; cases h
      | some O =>
        rw [h3] at h
        cases h
        obtain ⟨n1,n2⟩ := qjj (fun x hx => hsm x (List.mem_of_mem_take (List.mem_of_mem_drop hx))) h2
        have b0 := qiV m0
        have b1 := qiV m1
        have hm : m.1.size ≤ 65537 ∧ m.2.length ≤ 65537 ∧ ∀ n ∈ m.2,rng n := by
          unfold pMs at h1
          cases hp : seqP (pMu (bA mesh5)) pNm (zWd 32 ((zLi s).getD 0 ByteArray.empty)) with
          | none => rw [hp] at h1; cases h1
          | some y =>
            rw [hp] at h1
            dsimp only at h1
            cases hn : nums y.2 with
            | none => rw [hn] at h1; cases h1
            | some ns =>
              rw [hn] at h1
              dsimp only at h1
              obtain ⟨y1,y2,e1,e2,rfl⟩ := qb4 hp
              obtain ⟨p1,p2⟩ := qku (qkv b0 e1) e2
              obtain ⟨q1,q2⟩ := qhA hn
              by_cases hz : y2.1 = ByteArray.empty ∧ 0 < ns.length
              · rw [if_pos hz] at h1; cases h1
              · rw [if_neg hz] at h1; cases h1
                exact ⟨p1,by have := p2.1; show ns.length ≤ _; rw [q1]; exact this,q2⟩
        have ho : O.length ≤ 65537 ∧ ∀ n ∈ O,rng n := by
          unfold pOu at h3
          cases hp : pMu (bA outs4) (zWd 32 ((zLi s).getD ((zLi s).length - 1) ByteArray.empty)) with
          | none => rw [hp] at h3; cases h3
          | some y =>
            rw [hp] at h3
            obtain ⟨q1,q2⟩ := qhA h3
            have := (qkv b1 hp).1
            exact ⟨by rw [q1]; exact this,q2⟩
        exact ⟨⟨n2,by show m.1.size ≤ _; omega,hm.2.2,ho.2⟩,by show m.2.length ≤ _; omega,by show N.length ≤ _; rw [n1,List.length_drop,List.length_take]; omega,by show O.length ≤ _; omega,hne⟩
end Go.Pf

namespace Go.Pf
open Go Go.Vm
def zE (e : Int) : ByteArray × Int × LI × List Nd × LI := (ByteArray.empty,e,[],[],[])
def zGr (s : ByteArray) (z : ByteArray × LI × List Nd × LI) : ByteArray × Int × LI × List Nd × LI :=
 if (zShs z.2.1 z.1 z.2.2.1 z.2.2.2).1 = 0 then (if (zTx2 z.2.1 z.1 z.2.2.1 z.2.2.2 (zShs z.2.1 z.1 z.2.2.1 z.2.2.2).2).1 = s then (z.1,0,z.2.1,z.2.2.1,z.2.2.2) else zE 12) else zE (zShs z.2.1 z.1 z.2.2.1 z.2.2.2).1
def zPa (s : ByteArray) : ByteArray × Int × LI × List Nd × LI := if 65536 < (s.size : Int) then zE 3 else match zRd s with
 | none => zE 12
 | some z => zGr s z
theorem qkJ {s : LI} {nm : ByteArray} {N : List Nd} {O : LI} {S : List LI} {t : ByteArray} (ht : t ≠ ByteArray.empty) : (zTx2 s nm N O S).1 = t → (zTx2 s nm N O S).2 = 0 := by
 unfold zTx2
 by_cases h : 65536 < (zTB s nm N O S).length
 ·rw [if_pos h]; intro e; exact absurd e.symm ht
 ·rw [if_neg h]; intro _; rfl
theorem qdM (s : ByteArray) (k : Nat) (hk : 2000000 ≤ k) : qbM.f k s = some ((zPa s).2.2.1,(zPa s).1,(zPa s).2.2.2.1,(zPa s).2.2.2.2,(zPa s).2.1) := by
 unfold qbM.f zPa
 by_cases hs : 65536 < (s.size : Int)
 ·rw [if_pos hs,if_pos hs]; rfl
 rw [if_neg hs,if_neg hs]
 obtain ⟨o,eo,ho⟩ := qgU s (by omega) k (by omega)
 rw [eo,obs]
 cases hz : zRd s with
 | none =>
  rw [hz] at ho
  rw [ho,if_neg (by decide)]; rfl
 | some z =>
  rw [hz] at ho
  obtain ⟨hg,_,_,_,hne⟩ := qle (show s.size ≤ 65536 by omega) hz
  rw [ho]
  dsimp only
  rw [if_pos rfl,qgp _ _ _ _ hg.nm (fun x hx => (hg.n x hx).ok) k (by omega),obs]
  unfold zGr
  by_cases h0 : (zShs z.2.1 z.1 z.2.2.1 z.2.2.2).1 = 0
  ·rw [if_pos h0,if_pos h0,qho hg k (by omega),if_pos h0,obs]
   by_cases ht : (zTx2 z.2.1 z.1 z.2.2.1 z.2.2.2 (zShs z.2.1 z.1 z.2.2.1 z.2.2.2).2).1 = s
   ·rw [if_pos (qkJ hne ht),qbS,decide_eq_true ht,if_pos rfl,if_pos ht]
   ·rw [if_neg ht,qbS,decide_eq_false ht]
    by_cases h2 : (zTx2 z.2.1 z.1 z.2.2.1 z.2.2.2 (zShs z.2.1 z.1 z.2.2.1 z.2.2.2).2).2 = 0
    ·rw [if_pos h2,if_neg (by decide)]; rfl
    ·rw [if_neg h2]; rfl
  ·rw [if_neg h0,if_neg h0]; rfl
end Go.Pf
