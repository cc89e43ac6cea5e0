/- Own texts put together: P14, P16, P5 .. -/
import Derived.Test.YtcpgpddecdlocaaVm1
namespace Go.Pf
abbrev LI := List Int
abbrev LN := Int × LI × LI × LI × Int × Int × ByteArray
abbrev ln0 : LN := (0,([],([],([],(0,(0,ByteArray.empty))))))
abbrev LT := LI × LI
theorem obs {α β : Type} (a : α) (f : α → Option β) : (some a).bind f = f a := rfl
end Go.Pf

set_option linter.unusedVariables false
set_option linter.unusedSimpArgs false
namespace Go.Pf
open Go
def qaF.l0 : Nat → LI → Int → Int → Int → Option (Int ⊕ Bool)
 | 0,_,_,_,_ => none
 | n + 1,x0,x3,x6,x7 => if x7 < x6 then (if 3 ≤ x7 then (some (.inr false)) else if 0 ≤ x7 ∧ x7 < (x0.length : Int) then if x0.getD x7.toNat 0 < 1 then (some (.inr false)) else if 8 < x0.getD x7.toNat 0 then (some (.inr false)) else qaF.l0 n x0 (IntKind.i64.wrap (x3 * (x0.getD x7.toNat 0))) x6 (IntKind.i64.wrap (x7 + 1)) else none) else some (.inl x3)
def qaF.f (k : Nat) (a0 : LI) : Option (Bool) := (qaF.l0 k a0 1 (a0.length : Int) 0).bind fun t1 => Sum.elim (fun t1 => some (decide (t1 ≤ 8))) (fun t1 => some t1) t1
def qar.l0 : Nat → LI → Int → Int → Int → Option (Int)
 | 0,_,_,_,_ => none
 | n + 1,x0,x3,x9,x10 => if x10 < x9 then (if 0 ≤ x10 ∧ x10 < (x0.length : Int) then qar.l0 n x0 (IntKind.i64.wrap (x3 * (x0.getD x10.toNat 0))) x9 (IntKind.i64.wrap (x10 + 1)) else none) else some x3
def qar.f (k : Nat) (a0 : LI) : Option (Int) := (qaF.f k a0).bind fun t1 => if t1 = true then ((qar.l0 k a0 1 (a0.length : Int) 0).bind fun t2 => some t2) else some 0
def qbu.l0 : Nat → LI → Int → Int → LI → Option (LI)
 | 0,_,_,_,_ => none
 | n + 1,x0,x1,x6,y0 => if 0 ≤ x6 then (if 0 ≤ x6 ∧ x6 < (x0.length : Int) then if x0.getD x6.toNat 0 ≠ 0 then if 0 ≤ x6 ∧ x6 < (y0.length : Int) then if x6.toNat < y0.length then qbu.l0 n x0 (IntKind.i64.wrap (x1.tdiv (x0.getD x6.toNat 0))) (IntKind.i64.wrap (x6 - 1)) (y0.set x6.toNat (x1.tmod (x0.getD x6.toNat 0))) else none else none else none else none) else some y0
def qbu.f (k : Nat) (a0 : LI) (a1 : Int) : Option (LI) := if a1 < 0 then (some []) else (qar.f k a0).bind fun t1 => if t1 ≤ a1 then (some []) else if 0 ≤ (a0.length : Int) ∧ (a0.length : Int) ≤ 281474976710656 ∧ ((8 : Nat) : Int) * (a0.length : Int) ≤ 140737488355328 then (qbu.l0 k a0 a1 (IntKind.i64.wrap ((a0.length : Int) - 1)) (List.replicate (a0.length : Int).toNat (0 : Int))).bind fun t2 => some t2 else none
def qaP.l0 : Nat → Int → LI → Int → Int → Option (Int ⊕ Bool)
 | 0,_,_,_,_ => none
 | n + 1,x3,x9,x10,x11 => if x11 < x10 then (if 0 ≤ x11 ∧ x11 < (x9.length : Int) then if x9.getD x11.toNat 0 < 1 then (some (.inr false)) else if 8 < x9.getD x11.toNat 0 then (some (.inr false)) else qaP.l0 n (IntKind.i64.wrap (x3 * (x9.getD x11.toNat 0))) x9 x10 (IntKind.i64.wrap (x11 + 1)) else none) else some (.inl x3)
def qaP.f (k : Nat) (a0 : LI) : Option (Bool) := if 3 < (a0.length : Int) then (some false) else (qaP.l0 k 1 a0 (a0.length : Int) 0).bind fun t1 => Sum.elim (fun t1 => some (decide (t1 ≤ 8))) (fun t1 => some t1) t1
def qay.l0 : Nat → Int → LI → Int → Int → Option (Int)
 | 0,_,_,_,_ => none
 | n + 1,x3,x9,x10,x11 => if x11 < x10 then (if 0 ≤ x11 ∧ x11 < (x9.length : Int) then qay.l0 n (IntKind.i64.wrap (x3 * (x9.getD x11.toNat 0))) x9 x10 (IntKind.i64.wrap (x11 + 1)) else none) else some x3
def qay.f (k : Nat) (a0 : LI) : Option (Int) := (qaP.f k a0).bind fun t1 => if t1 = true then ((qay.l0 k 1 a0 (a0.length : Int) 0).bind fun t2 => some t2) else some 0
def qbL.l0 : Nat → LI → Int → Int → LI → Option (LI)
 | 0,_,_,_,_ => none
 | n + 1,x0,x1,x6,y0 => if 0 ≤ x6 then (if 0 ≤ x6 ∧ x6 < (x0.length : Int) then if x0.getD x6.toNat 0 ≠ 0 then if 0 ≤ x6 ∧ x6 < (y0.length : Int) then if x6.toNat < y0.length then qbL.l0 n x0 (IntKind.i64.wrap (x1.tdiv (x0.getD x6.toNat 0))) (IntKind.i64.wrap (x6 - 1)) (y0.set x6.toNat (x1.tmod (x0.getD x6.toNat 0))) else none else none else none else none) else some y0
def qbL.f (k : Nat) (a0 : LI) (a1 : Int) : Option (LI) := if a1 < 0 then (some []) else (qay.f k a0).bind fun t1 => if t1 ≤ a1 then (some []) else if 0 ≤ (a0.length : Int) ∧ (a0.length : Int) ≤ 281474976710656 ∧ ((8 : Nat) : Int) * (a0.length : Int) ≤ 140737488355328 then (qbL.l0 k a0 a1 (IntKind.i64.wrap ((a0.length : Int) - 1)) (List.replicate (a0.length : Int).toNat (0 : Int))).bind fun t2 => some t2 else none
def qbK.l0 : Nat → LI → Int → LI → Int → Int → Option (Int ⊕ Int)
 | 0,_,_,_,_,_ => none
 | n + 1,x0,x5,x18,x19,x20 => if x20 < x19 then (if 0 ≤ x20 ∧ x20 < (x18.length : Int) then if x18.getD x20.toNat 0 < 0 then (some (.inr (-1))) else if 0 ≤ x20 ∧ x20 < (x0.length : Int) then if x0.getD x20.toNat 0 ≤ x18.getD x20.toNat 0 then (some (.inr (-1))) else qbK.l0 n x0 (IntKind.i64.wrap ((IntKind.i64.wrap (x5 * (x0.getD x20.toNat 0))) + (x18.getD x20.toNat 0))) x18 x19 (IntKind.i64.wrap (x20 + 1)) else none else none) else some (.inl x5)
def qbK.f (k : Nat) (a0 : LI) (a1 : LI) : Option (Int) := (qaP.f k a0).bind fun t1 => if t1 = true then (if (a1.length : Int) = (a0.length : Int) then ((qbK.l0 k a0 0 a1 (a1.length : Int) 0).bind fun t2 => Sum.elim (fun t2 => some t2) (fun t2 => some t2) t2) else some (-1)) else some (-1)
def qbt.l0 : Nat → LI → LI → Int → Int → Int → Option (Int ⊕ Int)
 | 0,_,_,_,_,_ => none
 | n + 1,x0,x1,x5,x18,x19 => if x19 < x18 then (if 0 ≤ x19 ∧ x19 < (x1.length : Int) then if x1.getD x19.toNat 0 < 0 then (some (.inr (-1))) else if 0 ≤ x19 ∧ x19 < (x0.length : Int) then if x0.getD x19.toNat 0 ≤ x1.getD x19.toNat 0 then (some (.inr (-1))) else qbt.l0 n x0 x1 (IntKind.i64.wrap ((IntKind.i64.wrap (x5 * (x0.getD x19.toNat 0))) + (x1.getD x19.toNat 0))) x18 (IntKind.i64.wrap (x19 + 1)) else none else none) else some (.inl x5)
def qbt.f (k : Nat) (a0 : LI) (a1 : LI) : Option (Int) := (qaF.f k a0).bind fun t1 => if t1 = true then (if (a1.length : Int) = (a0.length : Int) then ((qbt.l0 k a0 a1 0 (a0.length : Int) 0).bind fun t2 => Sum.elim (fun t2 => some t2) (fun t2 => some t2) t2) else some (-1)) else some (-1)
def qcl.f (a0 : Int) (a1 : Int) (a2 : Int) : Option (Int) := if a1 ≤ a0 then (if a0 ≤ a2 then (some a0) else if IntKind.i64.wrap ((IntKind.i64.wrap (a2 - a1)) + 1) ≠ 0 then if a0.tmod (IntKind.i64.wrap ((IntKind.i64.wrap (a2 - a1)) + 1)) < 0 then (some (IntKind.i64.wrap (a1 + (IntKind.i64.wrap ((IntKind.i64.wrap ((IntKind.i64.wrap ((a0.tmod (IntKind.i64.wrap ((IntKind.i64.wrap (a2 - a1)) + 1))) + a2)) - a1)) + 1))))) else some (IntKind.i64.wrap (a1 + (a0.tmod (IntKind.i64.wrap ((IntKind.i64.wrap (a2 - a1)) + 1))))) else none) else if IntKind.i64.wrap ((IntKind.i64.wrap (a2 - a1)) + 1) ≠ 0 then if a0.tmod (IntKind.i64.wrap ((IntKind.i64.wrap (a2 - a1)) + 1)) < 0 then (some (IntKind.i64.wrap (a1 + (IntKind.i64.wrap ((IntKind.i64.wrap ((IntKind.i64.wrap ((a0.tmod (IntKind.i64.wrap ((IntKind.i64.wrap (a2 - a1)) + 1))) + a2)) - a1)) + 1))))) else some (IntKind.i64.wrap (a1 + (a0.tmod (IntKind.i64.wrap ((IntKind.i64.wrap (a2 - a1)) + 1))))) else none
end Go.Pf

namespace Go.Pf
open Go
def qcC.f (a0 : Int) (a1 : Int) : Option (Int) := if a0 < 0 then (some 0) else if a1 < 1 then (some 0) else if a0 = 0 then (some 0) else if a1 ≠ 0 then some (IntKind.i64.wrap ((IntKind.i64.wrap ((IntKind.i64.wrap (a0 - 1)).tdiv a1)) + 1)) else none
def qb7.f (a0 : Int) (a1 : Int) (a2 : Int) : Option (Int) := if 0 < a0 then (if a0 ≠ 0 then if IntKind.i64.wrap (a2.tdiv a0) < a1 then (some a2) else some (if a2 < IntKind.i64.wrap (a0 * a1) then a2 else IntKind.i64.wrap (a0 * a1)) else none) else some (if a2 < IntKind.i64.wrap (a0 * a1) then a2 else IntKind.i64.wrap (a0 * a1))
def qd7.f (a0 : Int) (a1 : Int) (a2 : Int) : Option (Int × Int) := (qcC.f a0 a1).bind fun t1 => if t1 = 0 then (some (0,0)) else if a2 < 0 then (some (0,0)) else if a1 ≤ a2 then (some (0,0)) else (qb7.f t1 a2 a0).bind fun t2 => (qb7.f t1 (IntKind.i64.wrap (a2 + 1)) a0).bind fun t3 => some (t2,t3)
def qaE.l0 : Nat → Int → LI → Int → Int → Option (Int ⊕ Bool)
 | 0,_,_,_,_ => none
 | n + 1,x3,x9,x10,x11 => if x11 < x10 then (if 0 ≤ x11 ∧ x11 < (x9.length : Int) then if x9.getD x11.toNat 0 < 0 then (some (.inr false)) else if 32 < x9.getD x11.toNat 0 then (some (.inr false)) else qaE.l0 n (IntKind.i64.wrap (x3 * (x9.getD x11.toNat 0))) x9 x10 (IntKind.i64.wrap (x11 + 1)) else none) else some (.inl x3)
def qaE.f (k : Nat) (a0 : LI) : Option (Bool) := if 4 < (a0.length : Int) then (some false) else (qaE.l0 k 1 a0 (a0.length : Int) 0).bind fun t1 => Sum.elim (fun t1 => some (decide (t1 ≤ 4096))) (fun t1 => some t1) t1
def qaz.l0 : Nat → LI → Int → Int → Int → Option (Unit ⊕ Int)
 | 0,_,_,_,_ => none
 | n + 1,x0,x1,x7,x8 => if x8 < x7 then (if 0 ≤ x8 ∧ x8 < (x0.length : Int) then if x1 = x0.getD x8.toNat 0 then (some (.inr x8)) else qaz.l0 n x0 x1 x7 (IntKind.i64.wrap (x8 + 1)) else none) else some (.inl ())
def qaz.f (k : Nat) (a0 : LI) (a1 : Int) : Option (Int) := (qaz.l0 k a0 a1 (a0.length : Int) 0).bind fun t1 => Sum.elim (fun t1 => some (-1)) (fun t1 => some t1) t1
def qaY.f (k : Nat) (a0 : LI) (a1 : Int) : Option (Bool) := (qaz.f k a0 a1).bind fun t1 => some (decide (0 ≤ t1))
def qaL.l0 (k : Nat) : Nat → LI → LI → LI → Int → Int → Option (Unit ⊕ Bool)
 | 0,_,_,_,_,_ => none
 | n + 1,x0,x1,x18,x19,x20 => if x20 < x19 then (if 0 ≤ x20 ∧ x20 < (x18.length : Int) then if x18.getD x20.toNat 0 < -1 then (some (.inr false)) else if (x0.length : Int) ≤ x18.getD x20.toNat 0 then (some (.inr false)) else if x18.getD x20.toNat 0 = -1 then (qaL.l0 k n x0 x1 x18 x19 (IntKind.i64.wrap (x20 + 1))) else if 0 ≤ ((0 : Nat) : Int) ∧ ((0 : Nat) : Int) ≤ x20 ∧ x20 ≤ (x1.length : Int) then (qaY.f k ((x1.take x20.toNat).drop 0) (x18.getD x20.toNat 0)).bind fun t2 => if t2 = true then (some (.inr false)) else qaL.l0 k n x0 x1 x18 x19 (IntKind.i64.wrap (x20 + 1)) else none else none) else some (.inl ())
def qaL.f (k : Nat) (a0 : LI) (a1 : LI) (a2 : Int) : Option (Bool) := (qaP.f k a0).bind fun t1 => if t1 = true then (if (a1.length : Int) = a2 then ((qaL.l0 k k a0 a1 a1 (a1.length : Int) 0).bind fun t3 => Sum.elim (fun t3 => some true) (fun t3 => some t3) t3) else some false) else some false
def qa5.l0 : Nat → LI → LI → LI → Int → Int → LI → (List (Int × Int)) → Option ((List (Int × Int)))
 | 0,_,_,_,_,_,_,_ => none
 | n + 1,x0,x1,x39,x40,x41,y0,y1 => if x41 < x40 then (if 0 ≤ x41 ∧ x41 < (x39.length : Int) then if 0 ≤ x41 ∧ x41 < (x0.length : Int) then if 0 ≤ x39.getD x41.toNat 0 then (if 0 ≤ x39.getD x41.toNat 0 ∧ x39.getD x41.toNat 0 < (x1.length : Int) then if 0 ≤ x39.getD x41.toNat 0 ∧ x39.getD x41.toNat 0 < (y0.length : Int) then if (x39.getD x41.toNat 0).toNat < y0.length then (qd7.f (x0.getD x41.toNat 0) (x1.getD (x39.getD x41.toNat 0).toNat 0) (y0.getD (x39.getD x41.toNat 0).toNat 0)).bind fun t5 => if y1.length + [(t5.1,t5.2)].length ≤ 281474976710656 ∧ (y1.length + [(t5.1,t5.2)].length) * 16 ≤ 140737488355328 then qa5.l0 n x0 x1 x39 x40 (IntKind.i64.wrap (x41 + 1)) y0 (y1 ++ [(t5.1,t5.2)]) else none else none else none else none) else if y1.length + [(0,x0.getD x41.toNat 0)].length ≤ 281474976710656 ∧ (y1.length + [(0,x0.getD x41.toNat 0)].length) * 16 ≤ 140737488355328 then qa5.l0 n x0 x1 x39 x40 (IntKind.i64.wrap (x41 + 1)) y0 (y1 ++ [(0,x0.getD x41.toNat 0)]) else none else none else none) else some y1
def qa5.f (k : Nat) (a0 : LI) (a1 : LI) (a2 : LI) (a3 : Int) : Option (Bool × (List (Int × Int))) := (qaE.f k a0).bind fun t1 => if t1 = true then ((qaL.f k a1 a2 (a0.length : Int)).bind fun t2 => if t2 = true then (if a3 < 0 then (some (false,[])) else (qay.f k a1).bind fun t3 => if t3 ≤ a3 then (some (false,[])) else (qbL.f k a1 a3).bind fun t4 => (qa5.l0 k a0 a1 a2 (a2.length : Int) 0 t4 []).bind fun t6 => some (true,t6)) else some (false,[])) else some (false,[])
def qa8.l0 : Nat → Int → Int → LI → (List (Int × Int)) → Option (LI)
 | 0,_,_,_,_ => none
 | n + 1,x23,x24,y0,y1 => if x24 < x23 then (if 0 ≤ x24 ∧ x24 < (y1.length : Int) then if x24.toNat < y1.length then if y0.length + [IntKind.i64.wrap ((y1.getD x24.toNat (0,0)).2 - (y1.getD x24.toNat (0,0)).1)].length ≤ 281474976710656 ∧ (y0.length + [IntKind.i64.wrap ((y1.getD x24.toNat (0,0)).2 - (y1.getD x24.toNat (0,0)).1)].length) * 8 ≤ 140737488355328 then qa8.l0 n x23 (IntKind.i64.wrap (x24 + 1)) (y0 ++ [IntKind.i64.wrap ((y1.getD x24.toNat (0,0)).2 - (y1.getD x24.toNat (0,0)).1)]) y1 else none else none else none) else some y0
def qa8.f (k : Nat) (a0 : LI) (a1 : LI) (a2 : LI) (a3 : Int) : Option (LI) := (qa5.f k a0 a1 a2 a3).bind fun t1 => (qa8.l0 k (t1.2.length : Int) 0 [] t1.2).bind fun t2 => some t2
def qa1.l0 : Nat → Int → Int → LI → (List (Int × Int)) → Option (LI)
 | 0,_,_,_,_ => none
 | n + 1,x23,x24,y0,y1 => if x24 < x23 then (if 0 ≤ x24 ∧ x24 < (y1.length : Int) then if x24.toNat < y1.length then if y0.length + [(y1.getD x24.toNat (0,0)).1].length ≤ 281474976710656 ∧ (y0.length + [(y1.getD x24.toNat (0,0)).1].length) * 8 ≤ 140737488355328 then qa1.l0 n x23 (IntKind.i64.wrap (x24 + 1)) (y0 ++ [(y1.getD x24.toNat (0,0)).1]) y1 else none else none else none) else some y0
def qa1.f (k : Nat) (a0 : LI) (a1 : LI) (a2 : LI) (a3 : Int) : Option (LI) := (qa5.f k a0 a1 a2 a3).bind fun t1 => (qa1.l0 k (t1.2.length : Int) 0 [] t1.2).bind fun t2 => some t2
def qaC.f (a1 : Int) (o0_0 : LI) (o0_1 : Int) : Option (Int × Int) := if (o0_0.length : Int) ≤ o0_1 then (some (0,o0_1)) else if a1 < 1 then (some (0,o0_1)) else if 0 ≤ IntKind.i64.wrap ((IntKind.i64.wrap (o0_1 + 1)) - 1) ∧ IntKind.i64.wrap ((IntKind.i64.wrap (o0_1 + 1)) - 1) < (o0_0.length : Int) then (qcl.f (o0_0.getD (IntKind.i64.wrap ((IntKind.i64.wrap (o0_1 + 1)) - 1)).toNat 0) 0 1073741824).bind fun t1 => if a1 ≠ 0 then some (t1.tmod a1,IntKind.i64.wrap (o0_1 + 1)) else none else none
def qaA.l0 : Nat → Int → LI → Int → LI → Option (Int × LI)
 | 0,_,_,_,_ => none
 | n + 1,x4,y0_0,y0_1,y1 => if 0 < x4 then ((qaC.f 8 y0_0 y0_1).bind fun t2 => if 0 ≤ t2.1 ∧ t2.1 < (([1,2,3,4,5,0,7,2] : LI).length : Int) then if t2.1.toNat < ([1,2,3,4,5,0,7,2] : LI).length then if y1.length + [([1,2,3,4,5,0,7,2] : LI).getD t2.1.toNat 0].length ≤ 281474976710656 ∧ (y1.length + [([1,2,3,4,5,0,7,2] : LI).getD t2.1.toNat 0].length) * 8 ≤ 140737488355328 then qaA.l0 n (IntKind.i64.wrap (x4 - 1)) y0_0 t2.2 (y1 ++ [([1,2,3,4,5,0,7,2] : LI).getD t2.1.toNat 0]) else none else none else none) else some (y0_1,y1)
def qaA.f (k : Nat) (o0_0 : LI) (o0_1 : Int) : Option (Int × LI) := (qaC.f 4 o0_0 o0_1).bind fun t1 => (qaA.l0 k t1.1 o0_0 t1.2 []).bind fun t3 => some (t3.1,t3.2)
def qas.l0 : Nat → LI → Int → Int → LI → Int → LI → (List Bool) → Option (Int × LI)
 | 0,_,_,_,_,_,_,_ => none
 | n + 1,x1,x17,x18,y0_0,y0_1,y1,y2 => if x18 < x17 then (if 0 ≤ x18 ∧ x18 < (y1.length : Int) then if x18.toNat < y1.length then if 0 < (x1.length : Int) then ((qaC.f 2 y0_0 y0_1).bind fun t1 => if t1.1 = 0 then ((qaC.f (x1.length : Int) y0_0 t1.2).bind fun t2 => if 0 ≤ t2.1 ∧ t2.1 < (y2.length : Int) then if t2.1.toNat < y2.length then if (y2.getD t2.1.toNat false) = true then (qas.l0 n x1 x17 (IntKind.i64.wrap (x18 + 1)) y0_0 t2.2 (y1.set x18.toNat (-1)) y2) else if 0 ≤ x18 ∧ x18 < ((y1.set x18.toNat (-1)).length : Int) then if x18.toNat < (y1.set x18.toNat (-1)).length then qas.l0 n x1 x17 (IntKind.i64.wrap (x18 + 1)) y0_0 t2.2 ((y1.set x18.toNat (-1)).set x18.toNat t2.1) (y2.set t2.1.toNat true) else none else none else none else none) else qas.l0 n x1 x17 (IntKind.i64.wrap (x18 + 1)) y0_0 t1.2 (y1.set x18.toNat (-1)) y2) else qas.l0 n x1 x17 (IntKind.i64.wrap (x18 + 1)) y0_0 y0_1 (y1.set x18.toNat (-1)) y2 else none else none) else some (y0_1,y1)
def qas.f (k : Nat) (a1 : LI) (a2 : Int) (o0_0 : LI) (o0_1 : Int) : Option (Int × LI) := if 0 ≤ a2 ∧ a2 ≤ 281474976710656 ∧ ((8 : Nat) : Int) * a2 ≤ 140737488355328 then if 0 ≤ (a1.length : Int) ∧ (a1.length : Int) ≤ 281474976710656 ∧ ((1 : Nat) : Int) * (a1.length : Int) ≤ 140737488355328 then (qas.l0 k a1 ((List.replicate a2.toNat (0 : Int)).length : Int) 0 o0_0 o0_1 (List.replicate a2.toNat (0 : Int)) (List.replicate (a1.length : Int).toNat (false : Bool))).bind fun t3 => some (t3.1,t3.2) else none else none
def qaw.l1 : Nat → LI → LI → Int → Int → Int → Int → Option (Unit ⊕ Bool)
 | 0,_,_,_,_,_,_ => none
 | n + 1,x0,x1,x7,x8,x19,x20 => if x8 < x7 then (if 0 ≤ x8 ∧ x8 < (x1.length : Int) then if 0 ≤ x7 ∧ x7 < (x1.length : Int) then if x1.getD x8.toNat 0 = x1.getD x7.toNat 0 then (if 0 ≤ x1.getD x7.toNat 0 then (some (.inr false)) else qaw.l1 n x0 x1 x7 (IntKind.i64.wrap (x8 + 1)) x19 x20) else qaw.l1 n x0 x1 x7 (IntKind.i64.wrap (x8 + 1)) x19 x20 else none else none) else some (.inl ())
def qaw.l0 (k : Nat) : Nat → LI → LI → Int → Int → Option (Unit ⊕ Bool)
 | 0,_,_,_,_ => none
 | n + 1,x0,x1,x19,x20 => if x20 < x19 then (if 0 ≤ x20 ∧ x20 < (x1.length : Int) then if x1.getD x20.toNat 0 < -1 then (some (.inr false)) else if (x0.length : Int) ≤ x1.getD x20.toNat 0 then (some (.inr false)) else (qaw.l1 n x0 x1 x20 0 x19 x20).bind fun t2 => Sum.elim (fun t2 => qaw.l0 k n x0 x1 x19 (IntKind.i64.wrap (x20 + 1))) (fun t2 => some (.inr t2)) t2 else none) else some (.inl ())
def qaw.f (k : Nat) (a0 : LI) (a1 : LI) (a2 : Int) : Option (Bool) := (qaF.f k a0).bind fun t1 => if t1 = true then (if (a1.length : Int) = a2 then ((qaw.l0 k k a0 a1 (a1.length : Int) 0).bind fun t3 => Sum.elim (fun t3 => some true) (fun t3 => some t3) t3) else some false) else some false
def qaT.l0 : Nat → LI → LI → Int → Int → LI → Option (LI)
 | 0,_,_,_,_,_ => none
 | n + 1,x0,x1,x20,x21,y0 => if x21 < x20 then (if 0 ≤ x21 ∧ x21 < (x1.length : Int) then if 0 ≤ x1.getD x21.toNat 0 then (if 0 ≤ x1.getD x21.toNat 0 ∧ x1.getD x21.toNat 0 < (x0.length : Int) then if y0.length + [x0.getD (x1.getD x21.toNat 0).toNat 0].length ≤ 281474976710656 ∧ (y0.length + [x0.getD (x1.getD x21.toNat 0).toNat 0].length) * 8 ≤ 140737488355328 then qaT.l0 n x0 x1 x20 (IntKind.i64.wrap (x21 + 1)) (y0 ++ [x0.getD (x1.getD x21.toNat 0).toNat 0]) else none else none) else if y0.length + ([1] : LI).length ≤ 281474976710656 ∧ (y0.length + ([1] : LI).length) * 8 ≤ 140737488355328 then qaT.l0 n x0 x1 x20 (IntKind.i64.wrap (x21 + 1)) (y0 ++ ([1] : LI)) else none else none) else some y0
def qaT.f (k : Nat) (a0 : LI) (a1 : LI) : Option (LI) := (qaF.f k a0).bind fun t1 => if t1 = true then ((qaw.f k a0 a1 (a1.length : Int)).bind fun t2 => if t2 = true then ((qaT.l0 k a0 a1 (a1.length : Int) 0 []).bind fun t3 => some t3) else some []) else some []
def qaO.l0 : Nat → Int → Int → Int → LI → Option (Int)
 | 0,_,_,_,_ => none
 | n + 1,x5,x24,x25,y0 => if x25 < x24 then (if 0 ≤ x25 ∧ x25 < (y0.length : Int) then if x25.toNat < y0.length then if y0.getD x25.toNat 0 ≠ 0 then qaO.l0 n (IntKind.i64.wrap (x5.tdiv (y0.getD x25.toNat 0))) x24 (IntKind.i64.wrap (x25 + 1)) y0 else none else none else none) else some x5
def qaO.f (k : Nat) (a0 : LI) (a1 : LI) : Option (Int) := (qaF.f k a0).bind fun t1 => if t1 = true then ((qaw.f k a0 a1 (a1.length : Int)).bind fun t2 => if t2 = true then ((qar.f k a0).bind fun t3 => (qaT.f k a0 a1).bind fun t4 => (qaO.l0 k t3 (t4.length : Int) 0 t4).bind fun t5 => some t5) else some 0) else some 0
end Go.Pf

namespace Go.Pf
open Go
def qaG.l0 : Nat → LI → Int → Int → Option (Int ⊕ Bool)
 | 0,_,_,_ => none
 | n + 1,x0,x3,x4 => if x4 < (x0.length : Int) then (if 0 ≤ x4 ∧ x4 < (x0.length : Int) then if x0.getD x4.toNat 0 < 0 then (some (.inr false)) else if 32 < x0.getD x4.toNat 0 then (some (.inr false)) else if 4 ≤ x4 then (some (.inr false)) else qaG.l0 n x0 (IntKind.i64.wrap (x3 * (x0.getD x4.toNat 0))) (IntKind.i64.wrap (x4 + 1)) else none) else some (.inl x3)
def qaG.f (k : Nat) (a0 : LI) : Option (Bool) := (qaG.l0 k a0 1 0).bind fun t1 => Sum.elim (fun t1 => some (decide (t1 ≤ 4096))) (fun t1 => some t1) t1
def qba.l0 : Nat → LI → Int → Int → Option (Int)
 | 0,_,_,_ => none
 | n + 1,x0,x3,x4 => if x4 < (x0.length : Int) then (if 0 ≤ x4 ∧ x4 < (x0.length : Int) then qba.l0 n x0 (IntKind.i64.wrap (x3 * (x0.getD x4.toNat 0))) (IntKind.i64.wrap (x4 + 1)) else none) else some x3
def qba.f (k : Nat) (a0 : LI) : Option (Int) := (qaG.f k a0).bind fun t1 => if t1 = true then ((qba.l0 k a0 1 0).bind fun t2 => some t2) else some 0
def qbb.l0 (k : Nat) : Nat → LI → Int → Int → LI → LI → Option (LI)
 | 0,_,_,_,_,_ => none
 | n + 1,x0,x1,x6,y2,y3 => (qba.f k x0).bind fun t1 => if x6 < t1 then (if y3.length + [x1].length ≤ 281474976710656 ∧ (y3.length + [x1].length) * 8 ≤ 140737488355328 then qbb.l0 k n x0 x1 (IntKind.i64.wrap (x6 + 1)) y2 (y3 ++ [x1]) else none) else some y3
def qbb.f (k : Nat) (a0 : LI) (a1 : Int) : Option LT := if 0 + a0.length ≤ 281474976710656 ∧ (0 + a0.length) * 8 ≤ 140737488355328 then (qbb.l0 k k a0 a1 0 ([] ++ a0) []).bind fun t2 => some ([] ++ a0,t2) else none
def qbp.f (o0_0 : LI) (o0_1 : Int) : Option (Int × Int) := (qaC.f 9 o0_0 o0_1).bind fun t1 => if t1.1 = 0 then ((qaC.f 6 o0_0 t1.2).bind fun t2 => if 0 ≤ t2.1 ∧ t2.1 < (([9223372036854775807,-9223372036854775808,4611686018427387904,-1099511627776,8589934592,3037000500] : LI).length : Int) then if t2.1.toNat < ([9223372036854775807,-9223372036854775808,4611686018427387904,-1099511627776,8589934592,3037000500] : LI).length then some (([9223372036854775807,-9223372036854775808,4611686018427387904,-1099511627776,8589934592,3037000500] : LI).getD t2.1.toNat 0,t2.2) else none else none) else if t1.1 = 1 then (some (0,t1.2)) else (qaC.f 19 o0_0 t1.2).bind fun t3 => some (IntKind.i64.wrap (t3.1 - 9),t3.2)
def qax.l0 : Nat → Int → Int → LI → Int → LI → LI → Option (Int × LI)
 | 0,_,_,_,_,_,_ => none
 | n + 1,x11,x12,y0_0,y0_1,y3,y4 => if x12 < x11 then ((qbp.f y0_0 y0_1).bind fun t2 => if 0 ≤ x12 ∧ x12 < (y4.length : Int) then if x12.toNat < y4.length then qax.l0 n x11 (IntKind.i64.wrap (x12 + 1)) y0_0 t2.2 y3 (y4.set x12.toNat t2.1) else none else none) else some (y0_1,y4)
def qax.f (k : Nat) (a1 : LI) (o0_0 : LI) (o0_1 : Int) : Option (Int × LI × LI) := (qbb.f k a1 0).bind fun t1 => (qax.l0 k (t1.2.length : Int) 0 o0_0 o0_1 t1.1 t1.2).bind fun t3 => some (t3.1,t1.1,t3.2)
def qaU.l0 : Nat → Int → LI → Int → Int → Option (Int)
 | 0,_,_,_,_ => none
 | n + 1,x3,x9,x10,x11 => if x11 < x10 then (if 0 ≤ x11 ∧ x11 < (x9.length : Int) then qaU.l0 n (IntKind.i64.wrap (x3 * (x9.getD x11.toNat 0))) x9 x10 (IntKind.i64.wrap (x11 + 1)) else none) else some x3
def qaU.f (k : Nat) (a0 : LI) : Option (Int) := (qaE.f k a0).bind fun t1 => if t1 = true then ((qaU.l0 k 1 a0 (a0.length : Int) 0).bind fun t2 => some t2) else some 0
def qbl.f (k : Nat) (a0_0 : LI) (a0_1 : LI) : Option (Bool) := (qaE.f k a0_0).bind fun t1 => if t1 = true then ((qaU.f k a0_0).bind fun t2 => some (decide ((a0_1.length : Int) = t2))) else some false
def qa3.f (a0 : LI) : Option (LI) := if 0 + a0.length ≤ 281474976710656 ∧ (0 + a0.length) * 8 ≤ 140737488355328 then some ([] ++ a0) else none
def qaI.l0 : Nat → LI → Int → Int → LI → Option (LI)
 | 0,_,_,_,_ => none
 | n + 1,x0,x1,x6,y0 => if 0 ≤ x6 then (if 0 ≤ x6 ∧ x6 < (x0.length : Int) then if x0.getD x6.toNat 0 ≠ 0 then if 0 ≤ x6 ∧ x6 < (y0.length : Int) then if x6.toNat < y0.length then qaI.l0 n x0 (IntKind.i64.wrap (x1.tdiv (x0.getD x6.toNat 0))) (IntKind.i64.wrap (x6 - 1)) (y0.set x6.toNat (x1.tmod (x0.getD x6.toNat 0))) else none else none else none else none) else some y0
def qaI.f (k : Nat) (a0 : LI) (a1 : Int) : Option (LI) := if a1 < 0 then (some []) else (qaU.f k a0).bind fun t1 => if t1 ≤ a1 then (some []) else if 0 ≤ (a0.length : Int) ∧ (a0.length : Int) ≤ 281474976710656 ∧ ((8 : Nat) : Int) * (a0.length : Int) ≤ 140737488355328 then (qaI.l0 k a0 a1 (IntKind.i64.wrap ((a0.length : Int) - 1)) (List.replicate (a0.length : Int).toNat (0 : Int))).bind fun t2 => some t2 else none
def qaR.l0 : Nat → LI → Int → LI → Int → Int → Option (Int ⊕ Int)
 | 0,_,_,_,_,_ => none
 | n + 1,x0,x5,x18,x19,x20 => if x20 < x19 then (if 0 ≤ x20 ∧ x20 < (x18.length : Int) then if x18.getD x20.toNat 0 < 0 then (some (.inr (-1))) else if 0 ≤ x20 ∧ x20 < (x0.length : Int) then if x0.getD x20.toNat 0 ≤ x18.getD x20.toNat 0 then (some (.inr (-1))) else qaR.l0 n x0 (IntKind.i64.wrap ((IntKind.i64.wrap (x5 * (x0.getD x20.toNat 0))) + (x18.getD x20.toNat 0))) x18 x19 (IntKind.i64.wrap (x20 + 1)) else none else none) else some (.inl x5)
def qaR.f (k : Nat) (a0 : LI) (a1 : LI) : Option (Int) := (qaE.f k a0).bind fun t1 => if t1 = true then (if (a1.length : Int) = (a0.length : Int) then ((qaR.l0 k a0 0 a1 (a1.length : Int) 0).bind fun t2 => Sum.elim (fun t2 => some t2) (fun t2 => some t2) t2) else some (-1)) else some (-1)
def qbT.f (k : Nat) (a0_0 : LI) (a0_1 : LI) (a1 : LI) : Option (Int) := (qbl.f k a0_0 a0_1).bind fun t1 => if t1 = true then ((qaR.f k a0_0 a1).bind fun t2 => some t2) else some (-1)
def qcD.f (k : Nat) (a0_0 : LI) (a0_1 : LI) (a1 : LI) : Option (Int × Bool) := (qbT.f k a0_0 a0_1 a1).bind fun t1 => if t1 < 0 then (some (0,false)) else if 0 ≤ t1 ∧ t1 < (a0_1.length : Int) then some (a0_1.getD t1.toNat 0,true) else none
def qgf.f (k : Nat) (a0_0 : LI) (a0_1 : LI) (a1 : LI) : Option (Int) := (qcD.f k a0_0 a0_1 a1).bind fun t1 => some t1.1
def qin.l0 : Nat → LI → Int → Int → LI → LI → LI → LI → LI → Option (LI)
 | 0,_,_,_,_,_,_,_,_ => none
 | n + 1,x8,x9,x10,y0,y1,y3_0,y3_1,y4 => if x10 < x9 then (if 0 ≤ x10 ∧ x10 < (x8.length : Int) then if 0 ≤ x10 ∧ x10 < (y0.length : Int) then if x10.toNat < y0.length then if 0 ≤ x8.getD x10.toNat 0 ∧ x8.getD x10.toNat 0 < (y4.length : Int) then if (x8.getD x10.toNat 0).toNat < y4.length then qin.l0 n x8 x9 (IntKind.i64.wrap (x10 + 1)) y0 y1 y3_0 y3_1 (y4.set (x8.getD x10.toNat 0).toNat (y0.getD x10.toNat 0)) else none else none else none else none else none) else some y4
def qa0.l0 : Nat → LI → LI → LI → Int → Int → Option (Unit ⊕ Int)
 | 0,_,_,_,_,_ => none
 | n + 1,x1,x2,x21,x22,x23 => if x23 < x22 then (if 0 ≤ x23 ∧ x23 < (x21.length : Int) then if 0 ≤ x23 ∧ x23 < (x1.length : Int) then if x1.getD x23.toNat 0 < 0 then (some (.inr 1)) else if x21.getD x23.toNat 0 < x1.getD x23.toNat 0 then (some (.inr 1)) else if 0 ≤ x23 ∧ x23 < (x2.length : Int) then if x2.getD x23.toNat 0 < 0 then (some (.inr 1)) else if IntKind.i64.wrap ((x21.getD x23.toNat 0) - (x1.getD x23.toNat 0)) < x2.getD x23.toNat 0 then (some (.inr 1)) else qa0.l0 n x1 x2 x21 x22 (IntKind.i64.wrap (x23 + 1)) else none else none else none) else some (.inl ())
def qa0.f (k : Nat) (a0 : LI) (a1 : LI) (a2 : LI) : Option (Int) := if (a1.length : Int) = (a0.length : Int) then (if (a2.length : Int) = (a0.length : Int) then ((qa0.l0 k a1 a2 a0 (a0.length : Int) 0).bind fun t1 => Sum.elim (fun t1 => some 0) (fun t1 => some t1) t1) else some 1) else some 1
def qaQ.l0 : Nat → LI → Int → Int → LI → LI → LI → LI → Option (LI)
 | 0,_,_,_,_,_,_,_ => none
 | n + 1,x7,x8,x9,y0,y1,y2_0,y2_1 => if x9 < x8 then (if 0 ≤ x9 ∧ x9 < (x7.length : Int) then if 0 ≤ x9 ∧ x9 < (y0.length : Int) then if x9.toNat < y0.length then qaQ.l0 n x7 x8 (IntKind.i64.wrap (x9 + 1)) (y0.set x9.toNat (IntKind.i64.wrap ((y0.getD x9.toNat 0) + (x7.getD x9.toNat 0)))) y1 y2_0 y2_1 else none else none else none) else some y0
def qaQ.f (k : Nat) (o0 : LI) (o1 : LI) (o2_0 : LI) (o2_1 : LI) : Option (Int × LI) := (qaQ.l0 k o1 (o1.length : Int) 0 o0 o1 o2_0 o2_1).bind fun t1 => (qgf.f k o2_0 o2_1 t1).bind fun t2 => some (t2,t1)
def qai.l0 (k : Nat) : Nat → LI → Int → Int → LI → LI → LI → LI → LI → Option (LI)
 | 0,_,_,_,_,_,_,_,_ => none
 | n + 1,x0,x15,x16,y0,y1_0,y1_1,y4,y5 => if x16 < x15 then ((qaI.f k x0 x16).bind fun t3 => (qaQ.f k t3 y0 y1_0 y1_1).bind fun t4 => if 0 ≤ x16 ∧ x16 < (y5.length : Int) then if x16.toNat < y5.length then qai.l0 k n x0 x15 (IntKind.i64.wrap (x16 + 1)) y0 y1_0 y1_1 y4 (y5.set x16.toNat t4.1) else none else none) else some y5
def qai.f (k : Nat) (a0 : LI) (o0 : LI) (o1_0 : LI) (o1_1 : LI) : Option LT := (qa3.f a0).bind fun t1 => (qaU.f k a0).bind fun t2 => if 0 ≤ t2 ∧ t2 ≤ 281474976710656 ∧ ((8 : Nat) : Int) * t2 ≤ 140737488355328 then (qai.l0 k k a0 ((List.replicate t2.toNat (0 : Int)).length : Int) 0 o0 o1_0 o1_1 t1 (List.replicate t2.toNat (0 : Int))).bind fun t5 => some (t1,t5) else none
def qcL.f (k : Nat) (a0_0 : LI) (a0_1 : LI) (a1 : LI) (a2 : LI) : Option (Int × LI × LI) := (qbl.f k a0_0 a0_1).bind fun t1 => if t1 = true then ((qa0.f k a0_0 a1 a2).bind fun t2 => if t2 = 0 then ((qai.f k a2 a1 a0_0 a0_1).bind fun t3 => some (0,t3.1,t3.2)) else some (t2,[],[])) else some (13,[],[])
def qaW.l0 : Nat → LI → LI → Int → Option (Unit ⊕ Bool)
 | 0,_,_,_ => none
 | n + 1,x0,x1,x5 => if x5 < (x0.length : Int) then (if 0 ≤ x5 ∧ x5 < (x0.length : Int) then if 0 ≤ x5 ∧ x5 < (x1.length : Int) then if x0.getD x5.toNat 0 = x1.getD x5.toNat 0 then (qaW.l0 n x0 x1 (IntKind.i64.wrap (x5 + 1))) else some (.inr false) else none else none) else some (.inl ())
def qaW.f (k : Nat) (a0 : LI) (a1 : LI) : Option (Bool) := if (a0.length : Int) = (a1.length : Int) then ((qaW.l0 k a0 a1 0).bind fun t1 => Sum.elim (fun t1 => some true) (fun t1 => some t1) t1) else some false
def qaH.l0 : Nat → Int → LI → LI → LI → LI → Option (Unit ⊕ Bool)
 | 0,_,_,_,_,_ => none
 | n + 1,x5,y0_0,y0_1,y1_0,y1_1 => if x5 < (y0_1.length : Int) then (if 0 ≤ x5 ∧ x5 < (y0_1.length : Int) then if 0 ≤ x5 ∧ x5 < (y1_1.length : Int) then if y0_1.getD x5.toNat 0 = y1_1.getD x5.toNat 0 then (qaH.l0 n (IntKind.i64.wrap (x5 + 1)) y0_0 y0_1 y1_0 y1_1) else some (.inr false) else none else none) else some (.inl ())
def qaH.f (k : Nat) (a0_0 : LI) (a0_1 : LI) (a1_0 : LI) (a1_1 : LI) : Option (Bool) := (qaW.f k a0_0 a1_0).bind fun t1 => if t1 = true then (if (a0_1.length : Int) = (a1_1.length : Int) then ((qaH.l0 k 0 a0_0 a0_1 a1_0 a1_1).bind fun t2 => Sum.elim (fun t2 => some true) (fun t2 => some t2) t2) else some false) else some false
def qbw.f (k : Nat) (a0_0 : LI) (a0_1 : LI) : Option (Bool) := (qaG.f k a0_0).bind fun t1 => if t1 = true then ((qba.f k a0_0).bind fun t2 => some (decide ((a0_1.length : Int) = t2))) else some false
def qaV.l0 : Nat → LI → Int → Int → LI → Option (LI)
 | 0,_,_,_,_ => none
 | n + 1,x0,x1,x6,y0 => if 0 ≤ x6 then (if 0 ≤ x6 ∧ x6 < (x0.length : Int) then if x0.getD x6.toNat 0 ≠ 0 then if 0 ≤ x6 ∧ x6 < (y0.length : Int) then if x6.toNat < y0.length then qaV.l0 n x0 (IntKind.i64.wrap (x1.tdiv (x0.getD x6.toNat 0))) (IntKind.i64.wrap (x6 - 1)) (y0.set x6.toNat (x1.tmod (x0.getD x6.toNat 0))) else none else none else none else none) else some y0
def qaV.f (k : Nat) (a0 : LI) (a1 : Int) : Option (LI) := if a1 < 0 then (some []) else (qba.f k a0).bind fun t1 => if t1 ≤ a1 then (some []) else if 0 ≤ (a0.length : Int) ∧ (a0.length : Int) ≤ 281474976710656 ∧ ((8 : Nat) : Int) * (a0.length : Int) ≤ 140737488355328 then (qaV.l0 k a0 a1 (IntKind.i64.wrap ((a0.length : Int) - 1)) (List.replicate (a0.length : Int).toNat (0 : Int))).bind fun t2 => some t2 else none
def qaZ.l0 : Nat → LI → LI → Int → Int → Option (Int ⊕ Int)
 | 0,_,_,_,_ => none
 | n + 1,x0,x1,x5,x6 => if x6 < (x0.length : Int) then (if 0 ≤ x6 ∧ x6 < (x1.length : Int) then if x1.getD x6.toNat 0 < 0 then (some (.inr (-1))) else if 0 ≤ x6 ∧ x6 < (x0.length : Int) then if x0.getD x6.toNat 0 ≤ x1.getD x6.toNat 0 then (some (.inr (-1))) else qaZ.l0 n x0 x1 (IntKind.i64.wrap ((IntKind.i64.wrap (x5 * (x0.getD x6.toNat 0))) + (x1.getD x6.toNat 0))) (IntKind.i64.wrap (x6 + 1)) else none else none) else some (.inl x5)
def qaZ.f (k : Nat) (a0 : LI) (a1 : LI) : Option (Int) := (qaG.f k a0).bind fun t1 => if t1 = true then (if (a1.length : Int) = (a0.length : Int) then ((qaZ.l0 k a0 a1 0 0).bind fun t2 => Sum.elim (fun t2 => some t2) (fun t2 => some t2) t2) else some (-1)) else some (-1)
def qbN.f (k : Nat) (a0_0 : LI) (a0_1 : LI) (a1 : LI) : Option (Int) := (qaZ.f k a0_0 a1).bind fun t1 => if 0 ≤ t1 ∧ t1 < (a0_1.length : Int) then some (a0_1.getD t1.toNat 0) else none
def qbF.l0 : Nat → LI → LI → Int → Int → LI → LI → Option (Unit ⊕ Int)
 | 0,_,_,_,_,_,_ => none
 | n + 1,x1,x2,x31,x32,y0_0,y0_1 => if x32 < x31 then (if 0 ≤ x32 ∧ x32 < (x2.length : Int) then if x2.getD x32.toNat 0 < 0 then (some (.inr 1)) else if (x1.length : Int) ≤ x2.getD x32.toNat 0 then (some (.inr 1)) else if 0 < x32 then (if 0 ≤ IntKind.i64.wrap (x32 - 1) ∧ IntKind.i64.wrap (x32 - 1) < (x2.length : Int) then if x2.getD x32.toNat 0 ≤ x2.getD (IntKind.i64.wrap (x32 - 1)).toNat 0 then (some (.inr 1)) else if 0 ≤ x2.getD x32.toNat 0 ∧ x2.getD x32.toNat 0 < (x1.length : Int) then if 0 ≤ x32 ∧ x32 < (y0_0.length : Int) then if x1.getD (x2.getD x32.toNat 0).toNat 0 = y0_0.getD x32.toNat 0 then (qbF.l0 n x1 x2 x31 (IntKind.i64.wrap (x32 + 1)) y0_0 y0_1) else some (.inr 1) else none else none else none) else if 0 ≤ x2.getD x32.toNat 0 ∧ x2.getD x32.toNat 0 < (x1.length : Int) then if 0 ≤ x32 ∧ x32 < (y0_0.length : Int) then if x1.getD (x2.getD x32.toNat 0).toNat 0 = y0_0.getD x32.toNat 0 then (qbF.l0 n x1 x2 x31 (IntKind.i64.wrap (x32 + 1)) y0_0 y0_1) else some (.inr 1) else none else none else none) else some (.inl ())
def qbF.l2 : Nat → LI → LI → Int → Int → Int → Int → Int → LI → LI → LI → LI → LI → LI → Option (LI)
 | 0,_,_,_,_,_,_,_,_,_,_,_,_,_ => none
 | n + 1,x1,x2,x10,x86,x87,x94,x95,y0_0,y0_1,y3,y4,y5,y6 => if x95 < x94 then (if 0 ≤ x95 ∧ x95 < (x2.length : Int) then if 0 ≤ x2.getD x95.toNat 0 ∧ x2.getD x95.toNat 0 < (y3.length : Int) then if (x2.getD x95.toNat 0).toNat < y3.length then if y4.length + [y3.getD (x2.getD x95.toNat 0).toNat 0].length ≤ 281474976710656 ∧ (y4.length + [y3.getD (x2.getD x95.toNat 0).toNat 0].length) * 8 ≤ 140737488355328 then qbF.l2 n x1 x2 x10 x86 x87 x94 (IntKind.i64.wrap (x95 + 1)) y0_0 y0_1 y3 (y4 ++ [y3.getD (x2.getD x95.toNat 0).toNat 0]) y5 y6 else none else none else none else none) else some y4
def qbF.l1 (k : Nat) : Nat → LI → LI → Int → Int → LI → LI → LI → LI → Option (LI)
 | 0,_,_,_,_,_,_,_,_ => none
 | n + 1,x1,x2,x86,x87,y0_0,y0_1,y3,y4 => if x87 < x86 then ((qaV.f k x1 x87).bind fun t5 => (qbF.l2 n x1 x2 x87 x86 x87 (x2.length : Int) 0 y0_0 y0_1 t5 [] y3 y4).bind fun t6 => (qbN.f k y0_0 y0_1 t6).bind fun t7 => if 0 ≤ x87 ∧ x87 < (y4.length : Int) then if x87.toNat < y4.length then qbF.l1 k n x1 x2 x86 (IntKind.i64.wrap (x87 + 1)) y0_0 y0_1 y3 (y4.set x87.toNat t7) else none else none) else some y4
def qao.l0 : Nat → LI → LI → Int → Int → LI → LI → Option (Unit ⊕ Int)
 | 0,_,_,_,_,_,_ => none
 | n + 1,x1,x2,x33,x34,y0_0,y0_1 => if x34 < x33 then (if 0 ≤ x34 ∧ x34 < (x1.length : Int) then if x1.getD x34.toNat 0 < 0 then (some (.inr 1)) else if 0 ≤ x34 ∧ x34 < (x2.length : Int) then if x2.getD x34.toNat 0 < 0 then (some (.inr 1)) else if 0 ≤ x34 ∧ x34 < (y0_0.length : Int) then if y0_0.getD x34.toNat 0 < x1.getD x34.toNat 0 then (some (.inr 1)) else if IntKind.i64.wrap ((y0_0.getD x34.toNat 0) - (x1.getD x34.toNat 0)) < x2.getD x34.toNat 0 then (some (.inr 1)) else qao.l0 n x1 x2 x33 (IntKind.i64.wrap (x34 + 1)) y0_0 y0_1 else none else none else none) else some (.inl ())
def qao.l2 : Nat → LI → LI → Int → Int → Int → Int → Int → LI → LI → LI → LI → LI → Option (LI)
 | 0,_,_,_,_,_,_,_,_,_,_,_,_ => none
 | n + 1,x1,x2,x10,x84,x85,x92,x93,y0_0,y0_1,y3,y4,y5 => if x93 < x92 then (if 0 ≤ x93 ∧ x93 < (y3.length : Int) then if x93.toNat < y3.length then if 0 ≤ x93 ∧ x93 < (x1.length : Int) then qao.l2 n x1 x2 x10 x84 x85 x92 (IntKind.i64.wrap (x93 + 1)) y0_0 y0_1 (y3.set x93.toNat (IntKind.i64.wrap ((y3.getD x93.toNat 0) + (x1.getD x93.toNat 0)))) y4 y5 else none else none else none) else some y3
def qao.l1 (k : Nat) : Nat → LI → LI → Int → Int → LI → LI → LI → LI → Option (LI)
 | 0,_,_,_,_,_,_,_,_ => none
 | n + 1,x1,x2,x84,x85,y0_0,y0_1,y3,y4 => if x85 < x84 then ((qaV.f k x2 x85).bind fun t4 => (qao.l2 n x1 x2 x85 x84 x85 (t4.length : Int) 0 y0_0 y0_1 t4 y3 y4).bind fun t5 => (qbN.f k y0_0 y0_1 t5).bind fun t6 => if 0 ≤ x85 ∧ x85 < (y4.length : Int) then if x85.toNat < y4.length then qao.l1 k n x1 x2 x84 (IntKind.i64.wrap (x85 + 1)) y0_0 y0_1 y3 (y4.set x85.toNat t6) else none else none) else some y4
def qao.f (k : Nat) (a0_0 : LI) (a0_1 : LI) (a1 : LI) (a2 : LI) : Option (Int × LI × LI) := (qbw.f k a0_0 a0_1).bind fun t1 => if t1 = true then (if (a1.length : Int) = (a0_0.length : Int) then (if (a2.length : Int) = (a0_0.length : Int) then ((qao.l0 k a1 a2 (a1.length : Int) 0 a0_0 a0_1).bind fun t2 => Sum.elim (fun t2 => (qbb.f k a2 0).bind fun t3 => (qao.l1 k k a1 a2 (t3.2.length : Int) 0 a0_0 a0_1 t3.1 t3.2).bind fun t7 => some (0,t3.1,t7)) (fun t2 => some (t2,[],[])) t2) else some (1,[],[])) else some (1,[],[])) else some (13,[],[])
end Go.Pf

namespace Go.Pf
open Go
def qgt.l0 : Nat → LI → LI → Int → Int → LI → Option (LI)
 | 0,_,_,_,_,_ => none
 | n + 1,x0,x17,x18,x19,y0 => if x19 < x18 then (if 0 ≤ x19 ∧ x19 < (x17.length : Int) then if 0 ≤ x19 ∧ x19 < (y0.length : Int) then if x19.toNat < y0.length then if x17.getD x19.toNat 0 = -1 then (qgt.l0 n x0 x17 x18 (IntKind.i64.wrap (x19 + 1)) (y0.set x19.toNat 1)) else if 0 ≤ x17.getD x19.toNat 0 ∧ x17.getD x19.toNat 0 < (x0.length : Int) then if 0 ≤ x19 ∧ x19 < ((y0.set x19.toNat 1).length : Int) then if x19.toNat < (y0.set x19.toNat 1).length then qgt.l0 n x0 x17 x18 (IntKind.i64.wrap (x19 + 1)) ((y0.set x19.toNat 1).set x19.toNat (x0.getD (x17.getD x19.toNat 0).toNat 0)) else none else none else none else none else none else none) else some y0
def qaX.l0 (k : Nat) : Nat → LI → LI → Int → Int → LI → Option (LI)
 | 0,_,_,_,_,_ => none
 | n + 1,x0,x1,x29,x30,y0 => if x30 < x29 then ((qaY.f k x1 x30).bind fun t4 => if t4 = true then (qaX.l0 k n x0 x1 x29 (IntKind.i64.wrap (x30 + 1)) y0) else if 0 ≤ x30 ∧ x30 < (y0.length : Int) then if x30.toNat < y0.length then qaX.l0 k n x0 x1 x29 (IntKind.i64.wrap (x30 + 1)) (y0.set x30.toNat 0) else none else none) else some y0
def qaX.f (k : Nat) (a0 : LI) (a1 : LI) (a2 : Int) : Option (Int) := (qaL.f k a0 a1 (a1.length : Int)).bind fun t1 => if t1 = true then (if a2 < 0 then (some (-1)) else (qay.f k a0).bind fun t2 => if t2 ≤ a2 then (some (-1)) else (qbL.f k a0 a2).bind fun t3 => (qaX.l0 k k a0 a1 (t3.length : Int) 0 t3).bind fun t5 => (qbK.f k a0 t5).bind fun t6 => some t6) else some (-1)
def qaq.l1 : Nat → LI → LI → Int → Bool → Int → Int → Int → Int → LI → Option (Bool)
 | 0,_,_,_,_,_,_,_,_,_ => none
 | n + 1,x0,x1,x8,x9,x31,x32,x36,x37,y0 => if x37 < x36 then (if x9 = true then (qaq.l1 n x0 x1 x8 true x31 x32 x36 (IntKind.i64.wrap (x37 + 1)) y0) else if 0 ≤ x37 ∧ x37 < (x1.length : Int) then qaq.l1 n x0 x1 x8 (decide (x1.getD x37.toNat 0 = x8)) x31 x32 x36 (IntKind.i64.wrap (x37 + 1)) y0 else none) else some x9
def qaq.l0 (k : Nat) : Nat → LI → LI → Int → Int → LI → Option (LI)
 | 0,_,_,_,_,_ => none
 | n + 1,x0,x1,x31,x32,y0 => if x32 < x31 then ((qaq.l1 n x0 x1 x32 false x31 x32 (x1.length : Int) 0 y0).bind fun t4 => if t4 = true then (qaq.l0 k n x0 x1 x31 (IntKind.i64.wrap (x32 + 1)) y0) else if 0 ≤ x32 ∧ x32 < (y0.length : Int) then if x32.toNat < y0.length then qaq.l0 k n x0 x1 x31 (IntKind.i64.wrap (x32 + 1)) (y0.set x32.toNat 0) else none else none) else some y0
def qaq.f (k : Nat) (a0 : LI) (a1 : LI) (a2 : Int) : Option (Int) := if a2 < 0 then (some (-1)) else (qar.f k a0).bind fun t1 => if t1 ≤ a2 then (some (-1)) else (qaw.f k a0 a1 (a1.length : Int)).bind fun t2 => if t2 = true then ((qbu.f k a0 a2).bind fun t3 => (qaq.l0 k k a0 a1 (t3.length : Int) 0 t3).bind fun t5 => (qbt.f k a0 t5).bind fun t6 => some t6) else some (-1)
def qav.l0 : Nat → LI → LI → Int → Int → Option (Unit ⊕ Bool)
 | 0,_,_,_,_ => none
 | n + 1,x0,x1,x12,x13 => if x13 < x12 then (if 0 ≤ x13 ∧ x13 < (x0.length : Int) then if 0 ≤ x13 ∧ x13 < (x1.length : Int) then if x0.getD x13.toNat 0 = x1.getD x13.toNat 0 then (qav.l0 n x0 x1 x12 (IntKind.i64.wrap (x13 + 1))) else some (.inr false) else none else none) else some (.inl ())
def qav.f (k : Nat) (a0 : LI) (a1 : LI) : Option (Bool) := if (a0.length : Int) = (a1.length : Int) then ((qav.l0 k a0 a1 (a0.length : Int) 0).bind fun t1 => Sum.elim (fun t1 => some true) (fun t1 => some t1) t1) else some false
end Go.Pf

namespace Go.Pf
open Go
def qa7.l0 : Nat → Int → Int → LI → Option (LI)
 | 0,_,_,_ => none
 | n + 1,x0,x4,y0 => if x4 < 90 then (if 211 ≠ 0 then if y0.length + [(IntKind.i64.wrap ((IntKind.i64.wrap ((IntKind.i64.wrap ((IntKind.i64.wrap (x4 * x4)) * 7)) + (IntKind.i64.wrap (x0 * 41)))) + (IntKind.i64.wrap (x4 * x0)))).tmod 211].length ≤ 281474976710656 ∧ (y0.length + [(IntKind.i64.wrap ((IntKind.i64.wrap ((IntKind.i64.wrap ((IntKind.i64.wrap (x4 * x4)) * 7)) + (IntKind.i64.wrap (x0 * 41)))) + (IntKind.i64.wrap (x4 * x0)))).tmod 211].length) * 8 ≤ 140737488355328 then qa7.l0 n x0 (IntKind.i64.wrap (x4 + 1)) (y0 ++ [(IntKind.i64.wrap ((IntKind.i64.wrap ((IntKind.i64.wrap ((IntKind.i64.wrap (x4 * x4)) * 7)) + (IntKind.i64.wrap (x0 * 41)))) + (IntKind.i64.wrap (x4 * x0)))).tmod 211]) else none else none) else some y0
def qa7.f (k : Nat) (a0 : Int) : Option (LI) := (qa7.l0 k a0 0 []).bind fun t1 => some t1
def qcc.f (k : Nat) (a0 : LI) : Option (LI × LI × LI × LI) := (qaC.f 7 a0 0).bind fun t1 => if 0 ≤ t1.1 ∧ t1.1 < ([([2] : LI),([2,4] : LI),([3,2] : LI),([2,2,2] : LI),[],([5] : LI),([2,2] : LI)].length : Int) then if t1.1.toNat < [([2] : LI),([2,4] : LI),([3,2] : LI),([2,2,2] : LI),[],([5] : LI),([2,2] : LI)].length then (qaA.f k a0 t1.2).bind fun t2 => (qax.f k t2.2 a0 t2.1).bind fun t3 => (qas.f k ([([2] : LI),([2,4] : LI),([3,2] : LI),([2,2,2] : LI),[],([5] : LI),([2,2] : LI)].getD t1.1.toNat []) (t3.2.1.length : Int) a0 t3.1).bind fun t4 => some ([([2] : LI),([2,4] : LI),([3,2] : LI),([2,2,2] : LI),[],([5] : LI),([2,2] : LI)].getD t1.1.toNat [],t3.2.1,t3.2.2,t4.2) else none else none
def qcF.f (k : Nat) (a0_0 : LI) (a0_1 : LI) (a1 : LI) (a2 : LI) : Option (Int) := (qbl.f k a0_0 a0_1).bind fun t1 => if t1 = true then ((qaP.f k a1).bind fun t2 => if t2 = true then ((qaL.f k a1 a2 (a0_0.length : Int)).bind fun t3 => if t3 = true then (some 0) else some 1) else some 1) else some 13
def qb8.f (k : Nat) (a0_0 : LI) (a0_1 : LI) (a1 : LI) (a2 : LI) (a3 : Int) : Option (Int × LI × LI) := (qcF.f k a0_0 a0_1 a1 a2).bind fun t1 => if t1 = 0 then (if a3 < 0 then (some (23,[],[])) else (qay.f k a1).bind fun t2 => if t2 ≤ a3 then (some (23,[],[])) else (qa1.f k a0_0 a1 a2 a3).bind fun t3 => (qa8.f k a0_0 a1 a2 a3).bind fun t4 => (qcL.f k a0_0 a0_1 t3 t4).bind fun t5 => some (t5.1,t5.2.1,t5.2.2)) else some (t1,[],[])
def qbV.f (k : Nat) (a0 : LI) (a1 : LI) (a2 : LI) : Option (Bool) := (qaG.f k a0).bind fun t1 => if t1 = true then ((qaF.f k a1).bind fun t2 => if t2 = true then ((qaw.f k a1 a2 (a0.length : Int)).bind fun t3 => some t3) else some false) else some false
def qdQ.f (a0 : Int) (a1 : Int) : Option (Int) := if a0 < 0 then (some 0) else if a1 < 1 then (some 0) else if a1 ≠ 0 then if 0 < a0.tmod a1 then (some (IntKind.i64.wrap ((IntKind.i64.wrap (a0.tdiv a1)) + 1))) else some (IntKind.i64.wrap (a0.tdiv a1)) else none
def qdb.f (a0 : Int) (a1 : Int) (a2 : Int) : Option (Int × Int) := if a0 < 0 then (some (0,0)) else if a1 < 1 then (some (0,0)) else if a2 < 0 then (some (0,0)) else if a1 ≤ a2 then (some (0,0)) else (qdQ.f a0 a1).bind fun t1 => if t1 = 0 then (if t1 ≤ IntKind.i64.wrap (a0 - (if a0 < IntKind.i64.wrap (a2 * t1) then a0 else IntKind.i64.wrap (a2 * t1))) then (some (if a0 < IntKind.i64.wrap (a2 * t1) then a0 else IntKind.i64.wrap (a2 * t1),IntKind.i64.wrap ((if a0 < IntKind.i64.wrap (a2 * t1) then a0 else IntKind.i64.wrap (a2 * t1)) + t1))) else some (if a0 < IntKind.i64.wrap (a2 * t1) then a0 else IntKind.i64.wrap (a2 * t1),a0)) else if t1 ≠ 0 then if a2 ≤ IntKind.i64.wrap (a0.tdiv t1) then (if t1 ≤ IntKind.i64.wrap (a0 - (if a0 < IntKind.i64.wrap (a2 * t1) then a0 else IntKind.i64.wrap (a2 * t1))) then (some (if a0 < IntKind.i64.wrap (a2 * t1) then a0 else IntKind.i64.wrap (a2 * t1),IntKind.i64.wrap ((if a0 < IntKind.i64.wrap (a2 * t1) then a0 else IntKind.i64.wrap (a2 * t1)) + t1))) else some (if a0 < IntKind.i64.wrap (a2 * t1) then a0 else IntKind.i64.wrap (a2 * t1),a0)) else if t1 ≤ IntKind.i64.wrap (a0 - a0) then (some (a0,IntKind.i64.wrap (a0 + t1))) else some (a0,a0) else none
def qaN.l0 : Nat → LI → LI → LI → Int → Int → LI → LI → LI → Option LT
 | 0,_,_,_,_,_,_,_,_ => none
 | n + 1,x0,x1,x2,x35,x36,y0,y1,y2 => if x36 < x35 then (if 0 ≤ x36 ∧ x36 < (x0.length : Int) then if 0 ≤ x36 ∧ x36 < (x2.length : Int) then if 0 ≤ x2.getD x36.toNat 0 then (if 0 ≤ x2.getD x36.toNat 0 ∧ x2.getD x36.toNat 0 < (x1.length : Int) then if 0 ≤ x2.getD x36.toNat 0 ∧ x2.getD x36.toNat 0 < (y0.length : Int) then if (x2.getD x36.toNat 0).toNat < y0.length then (qdb.f (x0.getD x36.toNat 0) (x1.getD (x2.getD x36.toNat 0).toNat 0) (y0.getD (x2.getD x36.toNat 0).toNat 0)).bind fun t4 => if y1.length + [t4.1].length ≤ 281474976710656 ∧ (y1.length + [t4.1].length) * 8 ≤ 140737488355328 then if y2.length + [IntKind.i64.wrap (t4.2 - t4.1)].length ≤ 281474976710656 ∧ (y2.length + [IntKind.i64.wrap (t4.2 - t4.1)].length) * 8 ≤ 140737488355328 then qaN.l0 n x0 x1 x2 x35 (IntKind.i64.wrap (x36 + 1)) y0 (y1 ++ [t4.1]) (y2 ++ [IntKind.i64.wrap (t4.2 - t4.1)]) else none else none else none else none else none) else if y1.length + ([0] : LI).length ≤ 281474976710656 ∧ (y1.length + ([0] : LI).length) * 8 ≤ 140737488355328 then if y2.length + [IntKind.i64.wrap ((x0.getD x36.toNat 0) - 0)].length ≤ 281474976710656 ∧ (y2.length + [IntKind.i64.wrap ((x0.getD x36.toNat 0) - 0)].length) * 8 ≤ 140737488355328 then qaN.l0 n x0 x1 x2 x35 (IntKind.i64.wrap (x36 + 1)) y0 (y1 ++ ([0] : LI)) (y2 ++ [IntKind.i64.wrap ((x0.getD x36.toNat 0) - 0)]) else none else none else none else none) else some (y1,y2)
def qaN.f (k : Nat) (a0 : LI) (a1 : LI) (a2 : LI) (a3 : Int) : Option LT := (qbV.f k a0 a1 a2).bind fun t1 => if t1 = true then (if a3 < 0 then (some ([],[])) else (qar.f k a1).bind fun t2 => if t2 ≤ a3 then (some ([],[])) else (qbu.f k a1 a3).bind fun t3 => (qaN.l0 k a0 a1 a2 (a0.length : Int) 0 t3 [] []).bind fun t5 => some (t5.1,t5.2)) else some ([],[])
def qca.f (k : Nat) (a0_0 : LI) (a0_1 : LI) (a1 : LI) (a2 : LI) (a3 : Int) : Option (Int × LI × LI) := (qbw.f k a0_0 a0_1).bind fun t1 => if t1 = true then ((qbV.f k a0_0 a1 a2).bind fun t2 => if t2 = true then (if a3 < 0 then (some (23,[],[])) else (qar.f k a1).bind fun t3 => if t3 ≤ a3 then (some (23,[],[])) else (qaN.f k a0_0 a1 a2 a3).bind fun t4 => (qao.f k a0_0 a0_1 t4.1 t4.2).bind fun t5 => some (t5.1,t5.2.1,t5.2.2)) else some (1,[],[])) else some (13,[],[])
def qa9.l0 (k : Nat) : Nat → LI → LI → Int → Int → LI → LI → (List LT) → Option ((List LT) ⊕ Int)
 | 0,_,_,_,_,_,_,_ => none
 | n + 1,x1,x2,x21,x22,y0_0,y0_1,y1 => if x22 < x21 then ((qb8.f k y0_0 y0_1 x1 x2 x22).bind fun t3 => if t3.1 = 0 then (if y1.length + [(t3.2.1,t3.2.2)].length ≤ 281474976710656 ∧ (y1.length + [(t3.2.1,t3.2.2)].length) * 48 ≤ 140737488355328 then qa9.l0 k n x1 x2 x21 (IntKind.i64.wrap (x22 + 1)) y0_0 y0_1 (y1 ++ [(t3.2.1,t3.2.2)]) else none) else some (.inr t3.1)) else some (.inl y1)
def qa9.f (k : Nat) (a0_0 : LI) (a0_1 : LI) (a1 : LI) (a2 : LI) : Option (Int × (List LT)) := (qcF.f k a0_0 a0_1 a1 a2).bind fun t1 => if t1 = 0 then ((qay.f k a1).bind fun t2 => (qa9.l0 k k a1 a2 t2 0 a0_0 a0_1 []).bind fun t4 => Sum.elim (fun t4 => some (0,t4)) (fun t4 => some (t4,[])) t4) else some (t1,[])
def qbe.l0 (k : Nat) : Nat → LI → LI → Int → LI → LI → (List LT) → Option ((List LT))
 | 0,_,_,_,_,_,_ => none
 | n + 1,x1,x2,x9,y0_0,y0_1,y1 => (qar.f k x1).bind fun t3 => if x9 < t3 then ((qca.f k y0_0 y0_1 x1 x2 x9).bind fun t4 => if y1.length + [(t4.2.1,t4.2.2)].length ≤ 281474976710656 ∧ (y1.length + [(t4.2.1,t4.2.2)].length) * 48 ≤ 140737488355328 then qbe.l0 k n x1 x2 (IntKind.i64.wrap (x9 + 1)) y0_0 y0_1 (y1 ++ [(t4.2.1,t4.2.2)]) else none) else some y1
def qbe.f (k : Nat) (a0_0 : LI) (a0_1 : LI) (a1 : LI) (a2 : LI) : Option (Int × (List LT)) := (qbw.f k a0_0 a0_1).bind fun t1 => if t1 = true then ((qbV.f k a0_0 a1 a2).bind fun t2 => if t2 = true then ((qbe.l0 k k a1 a2 0 a0_0 a0_1 []).bind fun t5 => some (0,t5)) else some (1,[])) else some (13,[])
def qaM.l0 (k : Nat) : Nat → (List LT) → (List LT) → Int → Option (Unit ⊕ Bool)
 | 0,_,_,_ => none
 | n + 1,x0,x1,x5 => if x5 < (x0.length : Int) then (if 0 ≤ x5 ∧ x5 < (x0.length : Int) then if 0 ≤ x5 ∧ x5 < (x1.length : Int) then (qaH.f k (x0.getD x5.toNat ([],[])).1 (x0.getD x5.toNat ([],[])).2 (x1.getD x5.toNat ([],[])).1 (x1.getD x5.toNat ([],[])).2).bind fun t1 => if t1 = true then (qaM.l0 k n x0 x1 (IntKind.i64.wrap (x5 + 1))) else some (.inr false) else none else none) else some (.inl ())
def qaM.f (k : Nat) (a0 : List LT) (a1 : List LT) : Option (Bool) := if (a0.length : Int) = (a1.length : Int) then ((qaM.l0 k k a0 a1 0).bind fun t2 => Sum.elim (fun t2 => some true) (fun t2 => some t2) t2) else some false
def qcb.f (k : Nat) (a0_0 : LI) (a0_1 : LI) (a1 : LI) (a2 : LI) (a3 : Int) : Option (Bool) := (qb8.f k a0_0 a0_1 a1 a2 a3).bind fun t1 => (qca.f k a0_0 a0_1 a1 a2 a3).bind fun t2 => (qa9.f k a0_0 a0_1 a1 a2).bind fun t3 => (qbe.f k a0_0 a0_1 a1 a2).bind fun t4 => if t1.1 = t2.1 then ((qaH.f k t1.2.1 t1.2.2 t2.2.1 t2.2.2).bind fun t5 => if t5 = true then (if t3.1 = t4.1 then ((qaM.f k t3.2 t4.2).bind fun t6 => some t6) else some false) else some false) else some false
def qb9.f (k : Nat) (a0 : LI) (a1 : LI) : Option (Bool) := (qav.f k a0 a1).bind fun t1 => some t1
def qan.l0 : Nat → LI → LI → Int → Int → Option (Unit ⊕ Bool)
 | 0,_,_,_,_ => none
 | n + 1,x0,x1,x12,x13 => if x13 < x12 then (if 0 ≤ x13 ∧ x13 < (x0.length : Int) then if 0 ≤ x13 ∧ x13 < (x1.length : Int) then if x0.getD x13.toNat 0 = x1.getD x13.toNat 0 then (qan.l0 n x0 x1 x12 (IntKind.i64.wrap (x13 + 1))) else some (.inr false) else none else none) else some (.inl ())
def qan.f (k : Nat) (a0 : LI) (a1 : LI) : Option (Bool) := if (a0.length : Int) = (a1.length : Int) then ((qan.l0 k a0 a1 (a0.length : Int) 0).bind fun t1 => Sum.elim (fun t1 => some true) (fun t1 => some t1) t1) else some false
def qce.f (k : Nat) (a0_0 : LI) (a0_1 : LI) (a1_0 : LI) (a1_1 : LI) : Option (Bool) := (qb9.f k a0_0 a1_0).bind fun t1 => if t1 = true then ((qan.f k a0_1 a1_1).bind fun t2 => some t2) else some false
def qb1.f (a0 : LI) (o0 : Int) : Option (Unit) := some ()
def qah.l0 (k : Nat) : Nat → LI → Int → Int → Int → LI → LI → Option (LI)
 | 0,_,_,_,_,_,_ => none
 | n + 1,x0,x15,x16,y0,y3,y4 => if x16 < x15 then ((qaI.f k x0 x16).bind fun t3 => (qb1.f t3 y0).bind fun t4 => if 0 ≤ x16 ∧ x16 < (y4.length : Int) then if x16.toNat < y4.length then qah.l0 k n x0 x15 (IntKind.i64.wrap (x16 + 1)) y0 y3 (y4.set x16.toNat y0) else none else none) else some y4
def qah.f (k : Nat) (a0 : LI) (o0 : Int) : Option LT := (qa3.f a0).bind fun t1 => (qaU.f k a0).bind fun t2 => if 0 ≤ t2 ∧ t2 ≤ 281474976710656 ∧ ((8 : Nat) : Int) * t2 ≤ 140737488355328 then (qah.l0 k k a0 ((List.replicate t2.toNat (0 : Int)).length : Int) 0 o0 t1 (List.replicate t2.toNat (0 : Int))).bind fun t5 => some (t1,t5) else none
def qbM.f (k : Nat) (a0 : LI) (a1 : Int) : Option (Int × LI × LI) := (qaE.f k a0).bind fun t1 => if t1 = true then ((qah.f k a0 a1).bind fun t2 => some (0,t2.1,t2.2)) else some (13,[],[])
def qad.l0 (k : Nat) : Nat → (List LT) → LI → LI → LI → (List LT) → Int → Int → Option (Unit ⊕ Int)
 | 0,_,_,_,_,_,_,_ => none
 | n + 1,x0,x1,x2,x3,x46,x47,x48 => if x48 < x47 then (if 0 ≤ x48 ∧ x48 < (x46.length : Int) then (qbl.f k (x46.getD x48.toNat ([],[])).1 (x46.getD x48.toNat ([],[])).2).bind fun t5 => if t5 = true then ((qa8.f k x1 x2 x3 x48).bind fun t6 => (qb9.f k (x46.getD x48.toNat ([],[])).1 t6).bind fun t7 => if t7 = true then (qad.l0 k n x0 x1 x2 x3 x46 x47 (IntKind.i64.wrap (x48 + 1))) else some (.inr 13)) else some (.inr 13) else none) else some (.inl ())
def qad.l1 (k : Nat) : Nat → (List LT) → LI → LI → LI → (List LT) → Int → Int → Option (Unit ⊕ Int)
 | 0,_,_,_,_,_,_,_ => none
 | n + 1,x0,x1,x2,x3,x69,x70,x71 => if x71 < x70 then (if 0 ≤ x71 ∧ x71 < (x69.length : Int) then (qaX.f k x2 x3 x71).bind fun t9 => if 0 ≤ t9 ∧ t9 < (x0.length : Int) then (qce.f k (x69.getD x71.toNat ([],[])).1 (x69.getD x71.toNat ([],[])).2 (x0.getD t9.toNat ([],[])).1 (x0.getD t9.toNat ([],[])).2).bind fun t10 => if t10 = true then (qad.l1 k n x0 x1 x2 x3 x69 x70 (IntKind.i64.wrap (x71 + 1))) else some (.inr 25) else none else none) else some (.inl ())
def qad.l4 : Nat → LI → LI → LI → Int → Int → (List LT) → Int → Int → LI → Int → Int → Int → Int → LI → LI → LI → LI → LI → LI → Option (LI)
 | 0,_,_,_,_,_,_,_,_,_,_,_,_,_,_,_,_,_,_,_ => none
 | n + 1,x1,x2,x3,x15,x20,x93,x94,x95,x106,x107,x108,x118,x119,y2_0,y2_1,y3,y4,y5,y6 => if x119 < x118 then (if 0 ≤ x119 ∧ x119 < (y4.length : Int) then if x119.toNat < y4.length then if 0 ≤ x119 ∧ x119 < (y3.length : Int) then if x119.toNat < y3.length then qad.l4 n x1 x2 x3 x15 x20 x93 x94 x95 x106 x107 x108 x118 (IntKind.i64.wrap (x119 + 1)) y2_0 y2_1 y3 (y4.set x119.toNat (IntKind.i64.wrap ((y4.getD x119.toNat 0) + (y3.getD x119.toNat 0)))) y5 y6 else none else none else none else none) else some y4
def qad.l3 (k : Nat) : Nat → LI → LI → LI → Int → (List LT) → Int → Int → LI → Int → Int → LI → LI → LI → LI → LI → Option (LI)
 | 0,_,_,_,_,_,_,_,_,_,_,_,_,_,_,_ => none
 | n + 1,x1,x2,x3,x15,x93,x94,x95,x106,x107,x108,y2_0,y2_1,y3,y4,y5 => if x108 < x107 then (if 0 ≤ x108 ∧ x108 < (x106.length : Int) then (qaI.f k y2_0 x108).bind fun t14 => (qad.l4 n x1 x2 x3 x15 (x106.getD x108.toNat 0) x93 x94 x95 x106 x107 x108 (t14.length : Int) 0 y2_0 y2_1 y3 t14 y4 y5).bind fun t15 => (qaR.f k x1 t15).bind fun t16 => if 0 ≤ t16 ∧ t16 < (y5.length : Int) then if t16.toNat < y5.length then qad.l3 k n x1 x2 x3 x15 x93 x94 x95 x106 x107 (IntKind.i64.wrap (x108 + 1)) y2_0 y2_1 y3 y4 (y5.set t16.toNat (x106.getD x108.toNat 0)) else none else none else none) else some y5
def qad.l2 (k : Nat) : Nat → LI → LI → LI → Int → (List LT) → Int → Int → LI → LI → Option (LI)
 | 0,_,_,_,_,_,_,_,_,_ => none
 | n + 1,x1,x2,x3,x15,x93,x94,x95,y2,y3 => if x95 < x94 then (if 0 ≤ x95 ∧ x95 < (x93.length : Int) then (qa1.f k x1 x2 x3 x95).bind fun t13 => (qad.l3 k n x1 x2 x3 x15 x93 x94 x95 (x93.getD x95.toNat ([],[])).2 ((x93.getD x95.toNat ([],[])).2.length : Int) 0 (x93.getD x95.toNat ([],[])).1 (x93.getD x95.toNat ([],[])).2 t13 y2 y3).bind fun t17 => qad.l2 k n x1 x2 x3 x15 x93 x94 (IntKind.i64.wrap (x95 + 1)) y2 t17 else none) else some y3
def qad.f (k : Nat) (a0 : List LT) (a1 : LI) (a2 : LI) (a3 : LI) : Option (Int × LI × LI) := (qaP.f k a2).bind fun t1 => if t1 = true then ((qaE.f k a1).bind fun t2 => if t2 = true then ((qaL.f k a2 a3 (a1.length : Int)).bind fun t3 => if t3 = true then ((qay.f k a2).bind fun t4 => if (a0.length : Int) = t4 then ((qad.l0 k k a0 a1 a2 a3 a0 (a0.length : Int) 0).bind fun t8 => Sum.elim (fun t8 => (qad.l1 k k a0 a1 a2 a3 a0 (a0.length : Int) 0).bind fun t11 => Sum.elim (fun t11 => (qbM.f k a1 0).bind fun t12 => (qad.l2 k k a1 a2 a3 t12.1 a0 (a0.length : Int) 0 t12.2.1 t12.2.2).bind fun t18 => some (t12.1,t12.2.1,t18)) (fun t11 => some (t11,[],[])) t11) (fun t8 => some (t8,[],[])) t8) else some (13,[],[])) else some (1,[],[])) else some (1,[],[])) else some (1,[],[])
def qaj.l0 (k : Nat) : Nat → (List LT) → LI → LI → LI → Int → Int → LI → LI → Option (Unit ⊕ Int)
 | 0,_,_,_,_,_,_,_,_ => none
 | n + 1,x0,x1,x2,x3,x35,x36,y2,y3 => if x36 < x35 then ((qaN.f k x1 x2 x3 x36).bind fun t4 => if 0 ≤ x36 ∧ x36 < (x0.length : Int) then (qbw.f k (x0.getD x36.toNat ([],[])).1 (x0.getD x36.toNat ([],[])).2).bind fun t5 => if t5 = true then ((qaW.f k (x0.getD x36.toNat ([],[])).1 t4.2).bind fun t6 => if t6 = true then (qaj.l0 k n x0 x1 x2 x3 x35 (IntKind.i64.wrap (x36 + 1)) y2 y3) else some (.inr 13)) else some (.inr 13) else none) else some (.inl ())
def qaj.l3 : Nat → (List LT) → LI → LI → LI → Int → Int → Int → Int → Int → Int → Int → Int → LI → LI → LI → LI → Option (LI)
 | 0,_,_,_,_,_,_,_,_,_,_,_,_,_,_,_,_ => none
 | n + 1,x0,x1,x2,x3,x14,x17,x66,x67,x97,x98,x109,x110,y2,y3,y4,y5 => if x110 < x109 then (if 0 ≤ x110 ∧ x110 < (y3.length : Int) then if x110.toNat < y3.length then if 0 ≤ x110 ∧ x110 < (y2.length : Int) then if x110.toNat < y2.length then qaj.l3 n x0 x1 x2 x3 x14 x17 x66 x67 x97 x98 x109 (IntKind.i64.wrap (x110 + 1)) y2 (y3.set x110.toNat (IntKind.i64.wrap ((y3.getD x110.toNat 0) + (y2.getD x110.toNat 0)))) y4 y5 else none else none else none else none) else some y3
def qaj.l2 (k : Nat) : Nat → (List LT) → LI → LI → LI → Int → Int → Int → Int → Int → LI → LI → LI → Option (LI)
 | 0,_,_,_,_,_,_,_,_,_,_,_,_ => none
 | n + 1,x0,x1,x2,x3,x14,x66,x67,x97,x98,y2,y3,y4 => if x98 < x97 then (if 0 ≤ x14 ∧ x14 < (x0.length : Int) then (qaV.f k (x0.getD x14.toNat ([],[])).1 x98).bind fun t11 => (qaj.l3 n x0 x1 x2 x3 x14 x98 x66 x67 x97 x98 (t11.length : Int) 0 y2 t11 y3 y4).bind fun t12 => (qaZ.f k x1 t12).bind fun t13 => if 0 ≤ x98 ∧ x98 < ((x0.getD x14.toNat ([],[])).2.length : Int) then if 0 ≤ t13 ∧ t13 < (y4.length : Int) then if t13.toNat < y4.length then qaj.l2 k n x0 x1 x2 x3 x14 x66 x67 x97 (IntKind.i64.wrap (x98 + 1)) y2 y3 (y4.set t13.toNat ((x0.getD x14.toNat ([],[])).2.getD x98.toNat 0)) else none else none else none else none) else some y4
def qaj.l1 (k : Nat) : Nat → (List LT) → LI → LI → LI → Int → Int → LI → LI → Option (LI ⊕ Int)
 | 0,_,_,_,_,_,_,_,_ => none
 | n + 1,x0,x1,x2,x3,x66,x67,y2,y3 => if x67 < x66 then (if 0 ≤ x67 ∧ x67 < (x0.length : Int) then (qaq.f k x2 x3 x67).bind fun t8 => if 0 ≤ t8 ∧ t8 < (x0.length : Int) then (qaH.f k (x0.getD x67.toNat ([],[])).1 (x0.getD x67.toNat ([],[])).2 (x0.getD t8.toNat ([],[])).1 (x0.getD t8.toNat ([],[])).2).bind fun t9 => if t9 = true then ((qaN.f k x1 x2 x3 x67).bind fun t10 => (qaj.l2 k n x0 x1 x2 x3 x67 x66 x67 ((x0.getD x67.toNat ([],[])).2.length : Int) 0 t10.1 y2 y3).bind fun t14 => qaj.l1 k n x0 x1 x2 x3 x66 (IntKind.i64.wrap (x67 + 1)) y2 t14) else some (.inr 25) else none else none) else some (.inl y3)
def qaj.f (k : Nat) (a0 : List LT) (a1 : LI) (a2 : LI) (a3 : LI) : Option (Int × LI × LI) := (qbV.f k a1 a2 a3).bind fun t1 => if t1 = true then ((qar.f k a2).bind fun t2 => if (a0.length : Int) = t2 then ((qbb.f k a1 0).bind fun t3 => (qaj.l0 k k a0 a1 a2 a3 (a0.length : Int) 0 t3.1 t3.2).bind fun t7 => Sum.elim (fun t7 => (qaj.l1 k k a0 a1 a2 a3 (a0.length : Int) 0 t3.1 t3.2).bind fun t15 => Sum.elim (fun t15 => some (0,t3.1,t15)) (fun t15 => some (t15,[],[])) t15) (fun t7 => some (t7,[],[])) t7) else some (13,[],[])) else some (1,[],[])
def qbc.f (k : Nat) (a0 : List LT) (a1 : LI) (a2 : LI) (a3 : LI) : Option (Bool) := (qad.f k a0 a1 a2 a3).bind fun t1 => (qaj.f k a0 a1 a2 a3).bind fun t2 => if t1.1 = t2.1 then ((qaH.f k t1.2.1 t1.2.2 t2.2.1 t2.2.2).bind fun t3 => some t3) else some false
def qby.f (k : Nat) : Option (Bool) := (qa9.f k ([3] : LI) ([1,2,3] : LI) ([2] : LI) ([0] : LI)).bind fun t1 => (qad.f k [(([3] : LI),([1,2,3] : LI)),(([3] : LI),([1,2,4] : LI))] ([3] : LI) ([2] : LI) ([-1] : LI)).bind fun t2 => if t1.1 = 0 then (if (t1.2.length : Int) = 2 then (if (0 : Int) ≤ 0 ∧ 0 < (t1.2.length : Int) then if 0 < t1.2.length then if ((t1.2.getD 0 ([],[])).2.length : Int) = 2 then (if (0 : Int) ≤ 1 ∧ 1 < (t1.2.length : Int) then if 1 < t1.2.length then if ((t1.2.getD 1 ([],[])).2.length : Int) = 1 then (if (0 : Int) ≤ 0 ∧ 0 < ((t1.2.getD 1 ([],[])).2.length : Int) then if (t1.2.getD 1 ([],[])).2.getD 0 0 = 3 then (some (decide (t2.1 = 25))) else some false else none) else some false else none else none) else some false else none else none) else some false) else some false
end Go.Pf

namespace Go.Pf
open Go
def qae.l1 : Nat → LI → Int → Int → Int → Int → Int → Int → LI → (List LT) → LI → LI → LI → LI → LI → Option (LI)
 | 0,_,_,_,_,_,_,_,_,_,_,_,_,_,_ => none
 | n + 1,x6,x10,x13,x62,x63,x70,x71,y1,y2,y3,y4,y5,y6,y7 => if x71 < x70 then (if 0 ≤ x71 ∧ x71 < (y5.length : Int) then if x71.toNat < y5.length then if 0 ≤ x71 ∧ x71 < (y3.length : Int) then if x71.toNat < y3.length then qae.l1 n x6 x10 x13 x62 x63 x70 (IntKind.i64.wrap (x71 + 1)) y1 y2 y3 y4 (y5.set x71.toNat (IntKind.i64.wrap ((y5.getD x71.toNat 0) + (y3.getD x71.toNat 0)))) y6 y7 else none else none else none else none) else some y5
def qae.l0 (k : Nat) : Nat → LI → Int → Int → Int → LI → (List LT) → LI → LI → LI → LI → Option (Unit ⊕ Bool)
 | 0,_,_,_,_,_,_,_,_,_,_ => none
 | n + 1,x6,x10,x62,x63,y1,y2,y3,y4,y5,y6 => if x63 < x62 then ((qaV.f k y4 x63).bind fun t4 => (qae.l1 n x6 x10 x63 x62 x63 (t4.length : Int) 0 y1 y2 y3 y4 t4 y5 y6).bind fun t5 => if 0 ≤ x10 ∧ x10 < (y2.length : Int) then if x10.toNat < y2.length then if 0 ≤ x63 ∧ x63 < ((y2.getD x10.toNat ([],[])).2.length : Int) then (qaZ.f k y5 t5).bind fun t6 => if 0 ≤ t6 ∧ t6 < (y6.length : Int) then if t6.toNat < y6.length then if (y2.getD x10.toNat ([],[])).2.getD x63.toNat 0 = y6.getD t6.toNat 0 then (qae.l0 k n x6 x10 x62 (IntKind.i64.wrap (x63 + 1)) y1 y2 y3 y4 y5 y6) else some (.inr false) else none else none else none else none else none) else some (.inl ())
def qae.f (k : Nat) (a0 : LI) (a1 : Int) : Option (Bool) := (qcc.f k a0).bind fun t1 => (qa9.f k t1.2.1 t1.2.2.1 t1.1 t1.2.2.2).bind fun t2 => if t2.1 = 0 then (if (t2.2.length : Int) < 1 then (some false) else if (t2.2.length : Int) ≠ 0 then (qaN.f k t1.2.1 t1.1 t1.2.2.2 ((IntKind.i64.wrap ((a1.tmod (t2.2.length : Int)) + (t2.2.length : Int))).tmod (t2.2.length : Int))).bind fun t3 => if 0 ≤ (IntKind.i64.wrap ((a1.tmod (t2.2.length : Int)) + (t2.2.length : Int))).tmod (t2.2.length : Int) ∧ (IntKind.i64.wrap ((a1.tmod (t2.2.length : Int)) + (t2.2.length : Int))).tmod (t2.2.length : Int) < (t2.2.length : Int) then if ((IntKind.i64.wrap ((a1.tmod (t2.2.length : Int)) + (t2.2.length : Int))).tmod (t2.2.length : Int)).toNat < t2.2.length then (qae.l0 k k t1.1 ((IntKind.i64.wrap ((a1.tmod (t2.2.length : Int)) + (t2.2.length : Int))).tmod (t2.2.length : Int)) ((t2.2.getD ((IntKind.i64.wrap ((a1.tmod (t2.2.length : Int)) + (t2.2.length : Int))).tmod (t2.2.length : Int)).toNat ([],[])).2.length : Int) 0 t1.2.2.2 t2.2 t3.1 t3.2 t1.2.1 t1.2.2.1).bind fun t7 => Sum.elim (fun t7 => if ((t2.2.getD ((IntKind.i64.wrap ((a1.tmod (t2.2.length : Int)) + (t2.2.length : Int))).tmod (t2.2.length : Int)).toNat ([],[])).2.length : Int) = 0 then ((qby.f k).bind fun t8 => some t8) else if 0 + (t2.2.getD ((IntKind.i64.wrap ((a1.tmod (t2.2.length : Int)) + (t2.2.length : Int))).tmod (t2.2.length : Int)).toNat ([],[])).2.length ≤ 281474976710656 ∧ (0 + (t2.2.getD ((IntKind.i64.wrap ((a1.tmod (t2.2.length : Int)) + (t2.2.length : Int))).tmod (t2.2.length : Int)).toNat ([],[])).2.length) * 8 ≤ 140737488355328 then if ((IntKind.i64.wrap ((a1.tmod (t2.2.length : Int)) + (t2.2.length : Int))).tmod (t2.2.length : Int)).toNat = ((IntKind.i64.wrap ((a1.tmod (t2.2.length : Int)) + (t2.2.length : Int))).tmod (t2.2.length : Int)).toNat then if (0 : Int) ≤ 0 ∧ 0 < (([] ++ (t2.2.getD ((IntKind.i64.wrap ((a1.tmod (t2.2.length : Int)) + (t2.2.length : Int))).tmod (t2.2.length : Int)).toNat ([],[])).2).length : Int) then if 0 < ([] ++ (t2.2.getD ((IntKind.i64.wrap ((a1.tmod (t2.2.length : Int)) + (t2.2.length : Int))).tmod (t2.2.length : Int)).toNat ([],[])).2).length then (qad.f k (t2.2.set ((IntKind.i64.wrap ((a1.tmod (t2.2.length : Int)) + (t2.2.length : Int))).tmod (t2.2.length : Int)).toNat ((t2.2.getD ((IntKind.i64.wrap ((a1.tmod (t2.2.length : Int)) + (t2.2.length : Int))).tmod (t2.2.length : Int)).toNat ([],[])).1,([] ++ (t2.2.getD ((IntKind.i64.wrap ((a1.tmod (t2.2.length : Int)) + (t2.2.length : Int))).tmod (t2.2.length : Int)).toNat ([],[])).2).set 0 (IntKind.i64.wrap ((([] ++ (t2.2.getD ((IntKind.i64.wrap ((a1.tmod (t2.2.length : Int)) + (t2.2.length : Int))).tmod (t2.2.length : Int)).toNat ([],[])).2).getD 0 0) + 1)))) t1.2.1 t1.1 t1.2.2.2).bind fun t9 => (qaO.f k t1.1 t1.2.2.2).bind fun t10 => if 1 < t10 then (if t9.1 = 25 then (if (t9.2.2.length : Int) = 0 then ((qby.f k).bind fun t11 => some t11) else some false) else some false) else if t9.1 = 0 then ((qaH.f k t9.2.1 t9.2.2 t1.2.1 t1.2.2.1).bind fun t12 => if t12 = true then (some false) else (qby.f k).bind fun t13 => some t13) else some false else none else none else none else none) (fun t7 => some t7) t7 else none else none else none) else some false
end Go.Pf

namespace Go.Pf
open Go
def qab.l1 (k : Nat) : Nat → Int → LI → Int → LI → LI → LI → Option (Unit ⊕ Bool)
 | 0,_,_,_,_,_,_ => none
 | n + 1,x1,x3,x5,y1,y2,y3 => if x5 < 9 then ((qcb.f k y2 y3 x3 y1 x5).bind fun t3 => if t3 = true then (qab.l1 k n x1 x3 (IntKind.i64.wrap (x5 + 1)) y1 y2 y3) else some (.inr false)) else some (.inl ())
def qab.l2 (k : Nat) : Nat → Int → LI → Int → Int → LI → (List LT) → LI → LI → Option (Unit ⊕ Bool)
 | 0,_,_,_,_,_,_,_,_ => none
 | n + 1,x1,x3,x90,x91,y1,y2,y3,y4 => if x91 < x90 then (if 0 ≤ x91 ∧ x91 < (y2.length : Int) then if 0 < ((y2.getD x91.toNat ([],[])).2.length : Int) then (if 0 + y2.length ≤ 281474976710656 ∧ (0 + y2.length) * 48 ≤ 140737488355328 then if 0 + (y2.getD x91.toNat ([],[])).2.length ≤ 281474976710656 ∧ (0 + (y2.getD x91.toNat ([],[])).2.length) * 8 ≤ 140737488355328 then if 0 ≤ x91 ∧ x91 < (([] ++ y2).length : Int) then if x91.toNat < ([] ++ y2).length then if x91.toNat = x91.toNat then if (0 : Int) ≤ 0 ∧ 0 < (([] ++ (y2.getD x91.toNat ([],[])).2).length : Int) then if 0 < ([] ++ (y2.getD x91.toNat ([],[])).2).length then (qbc.f k (([] ++ y2).set x91.toNat ((y2.getD x91.toNat ([],[])).1,([] ++ (y2.getD x91.toNat ([],[])).2).set 0 (IntKind.i64.wrap ((([] ++ (y2.getD x91.toNat ([],[])).2).getD 0 0) + 1)))) y3 x3 y1).bind fun t11 => if t11 = true then (qab.l2 k n x1 x3 x90 (IntKind.i64.wrap (x91 + 1)) y1 y2 y3 y4) else some (.inr false) else none else none else none else none else none else none else none) else qab.l2 k n x1 x3 x90 (IntKind.i64.wrap (x91 + 1)) y1 y2 y3 y4 else none) else some (.inl ())
def qab.l0 (k : Nat) : Nat → Int → Option (Unit ⊕ Bool)
 | 0,_ => none
 | n + 1,x1 => if x1 < 100 then ((qa7.f k x1).bind fun t1 => (qcc.f k t1).bind fun t2 => (qab.l1 k n x1 t2.1 (-1) t2.2.2.2 t2.2.1 t2.2.2.1).bind fun t4 => Sum.elim (fun t4 => (qbe.f k t2.2.1 t2.2.2.1 t2.1 t2.2.2.2).bind fun t5 => (qbc.f k t5.2 t2.2.1 t2.1 t2.2.2.2).bind fun t6 => if t6 = true then (if (0 : Int) ≤ 1 ∧ 1 ≤ (t5.2.length : Int) ∧ (t5.2.length : Int) ≤ (t5.2.length : Int) then (qbc.f k ((t5.2.take t5.2.length).drop 1) t2.2.1 t2.1 t2.2.2.2).bind fun t7 => if t7 = true then (if t5.2.length + [(t2.2.1,t2.2.2.1)].length ≤ 281474976710656 ∧ (t5.2.length + [(t2.2.1,t2.2.2.1)].length) * 48 ≤ 140737488355328 then (qbc.f k (t5.2 ++ [(t2.2.1,t2.2.2.1)]) t2.2.1 t2.1 t2.2.2.2).bind fun t8 => if t8 = true then (if ([1] : LI).length + t2.2.1.length ≤ 281474976710656 ∧ (([1] : LI).length + t2.2.1.length) * 8 ≤ 140737488355328 then (qbc.f k t5.2 (([1] : LI) ++ t2.2.1) t2.1 t2.2.2.2).bind fun t9 => if t9 = true then (if t2.2.2.2.length + ([-1] : LI).length ≤ 281474976710656 ∧ (t2.2.2.2.length + ([-1] : LI).length) * 8 ≤ 140737488355328 then (qbc.f k t5.2 t2.2.1 t2.1 (t2.2.2.2 ++ ([-1] : LI))).bind fun t10 => if t10 = true then ((qab.l2 k n x1 t2.1 (t5.2.length : Int) 0 t2.2.2.2 t5.2 t2.2.1 t2.2.2.1).bind fun t12 => Sum.elim (fun t12 => qab.l0 k n (IntKind.i64.wrap (x1 + 1))) (fun t12 => some (.inr t12)) t12) else some (.inr false) else none) else some (.inr false) else none) else some (.inr false) else none) else some (.inr false) else none) else some (.inr false)) (fun t4 => some (.inr t4)) t4) else some (.inl ())
def qab.f (k : Nat) : Option (Bool) := (qab.l0 k k 0).bind fun t13 => Sum.elim (fun t13 => (qcb.f k ([2] : LI) [] [] ([-1] : LI) 0).bind fun t14 => if t14 = true then ((qbc.f k [] [] ([0] : LI) []).bind fun t15 => if t15 = true then ((qby.f k).bind fun t16 => some t16) else some false) else some false) (fun t13 => some t13) t13
end Go.Pf

namespace Go.Pf
open Go Go.Vm
theorem qag {n : Int} (h1 : -9223372036854775808 ≤ n) (h2 : n < 9223372036854775808) : IntKind.i64.wrap n = n := by rw [IntKind.wrap_i64]; omega
theorem qkr {n : Int} (h : (Lit.int .i64 n).wf = true) : -9223372036854775808 ≤ n ∧ n < 9223372036854775808 := by
 simp only [Lit.wf,Bool.and_eq_true,decide_eq_true_eq] at h
 have h1 : IntKind.i64.min = -9223372036854775808 := by decide
 have h2 : IntKind.i64.max = 9223372036854775807 := by decide
 omega
theorem qjF {l : LI} (h : Fit (.sl (.int .i64)) l) : l.length ≤ 17592186043904 ∧ ∀ x ∈ l,-9223372036854775808 ≤ x ∧ x < 9223372036854775808 := by
 obtain ⟨h1,h2⟩ := h
 have h3 : l.length * 8 ≤ 140737488351232 := h1
 exact ⟨by omega,fun x hx => qkr (h2 x hx)⟩
theorem qaf {α : Type} {l : List α} {i : Nat} (h : i < l.length) (d : α) : l.drop i = l.getD i d :: l.drop (i + 1) := by
 rw [List.drop_eq_getElem_cons h,List.getD_eq_getElem?_getD,List.getElem?_eq_getElem h]; rfl
theorem qap {α : Type} {l : List α} {i : Nat} (h : i < l.length) (d : α) : l.getD i d ∈ l := by
 rw [List.getD_eq_getElem?_getD,List.getElem?_eq_getElem h]; exact List.getElem_mem h
end Go.Pf

namespace Go.Pf
open Go Go.Vm
def pd : LI → Int
 | [] => 1
 | x :: r => x * pd r
def okD (x : Int) : Bool := decide (1 ≤ x) && decide (x ≤ 8)
def mR (l : LI) : Bool := decide (l.length ≤ 3) && l.all okD && decide (pd l ≤ 8)
def mD (l : LI) : Int := if mR l = true then pd l else 0
def atM : LI → Int → LI
 | [],_ => []
 | x :: r,d => (d / pd r) % x :: atM r d
def mA (l : LI) (d : Int) : LI := if 0 ≤ d ∧ d < mD l then atM l d else []
def ofGo : LI → LI → Int → Int
 | x :: r,p :: s,acc => if p < 0 ∨ x ≤ p then -1 else ofGo r s (acc * x + p)
 | _,_,acc => acc
def mO (l p : LI) : Int := if mR l = true ∧ p.length = l.length then ofGo l p 0 else -1
theorem qbx {x : Int} : okD x = true ↔ 1 ≤ x ∧ x ≤ 8 := by simp [okD]
theorem qjZ : ∀ (l : LI),l.all okD = true → 1 ≤ pd l ∧ pd l ≤ 8 ^ l.length
 | [],_ => by simp [pd]
 | x :: r,h => by
  simp only [List.all_cons,Bool.and_eq_true,qbx] at h
  obtain ⟨⟨h1,h2⟩,h3⟩ := h
  obtain ⟨h4,h5⟩ := qjZ r h3
  show 1 ≤ x * pd r ∧ x * pd r ≤ 8 ^ (r.length + 1)
  constructor
  ·have := Int.mul_le_mul h1 h4 (by omega) (by omega); simpa using this
  ·have := Int.mul_le_mul h2 h5 (by omega) (by omega)
   rw [Int.pow_succ]; rw [Int.mul_comm] at this; simpa [Int.mul_comm] using this
theorem qch {l : LI} (h : mR l = true) : l.length ≤ 3 ∧ l.all okD = true ∧ 1 ≤ pd l ∧ pd l ≤ 8 := by
 unfold mR at h
 simp only [Bool.and_eq_true,decide_eq_true_eq] at h
 exact ⟨h.1.1,h.1.2,(qjZ l h.1.2).1,h.2⟩
theorem p8 {i : Nat} (h : i ≤ 3) : (1 : Int) ≤ 8 ^ i ∧ (8 : Int) ^ i ≤ 512 := by
 rcases (show i = 0 ∨ i = 1 ∨ i = 2 ∨ i = 3 by omega) with e | e | e | e <;> subst e <;> decide
theorem qfv {p x : Int} {i : Nat} (h1 : 1 ≤ p) (h2 : p ≤ 8 ^ i) (hx : 1 ≤ x ∧ x ≤ 8) : 1 ≤ p * x ∧ p * x ≤ 8 ^ (i + 1) := by
 constructor
 ·have := Int.mul_le_mul h1 hx.1 (by omega) (by omega); simpa using this
 ·rw [Int.pow_succ]; exact Int.mul_le_mul h2 hx.2 (by omega) (by omega)
theorem qeD (l : LI) (hl : l.length ≤ 3) : ∀ (d i : Nat) (p : Int) (n : Nat),l.length = i + d → 1 ≤ p → p ≤ 8 ^ i → d < n →
  qaP.l0 n p l l.length i = some (if (l.drop i).all okD = true then .inl (p * pd (l.drop i)) else .inr false)
 | 0,i,p,n,hi,h1,h2,hn => by
  obtain ⟨n,rfl⟩ : ∃ m,n = m + 1 := ⟨n - 1,by omega⟩
  rw [qaP.l0,if_neg (by omega),List.drop_eq_nil_of_le (by omega)]
  simp [pd]
 | d + 1,i,p,n,hi,h1,h2,hn => by
  obtain ⟨n,rfl⟩ : ∃ m,n = m + 1 := ⟨n - 1,by omega⟩
  rw [qaP.l0,if_pos (by omega),if_pos (by omega),Int.toNat_natCast,qaf (show i < l.length by omega) 0]
  generalize l.getD i 0 = x
  by_cases c1 : x < 1
  ·rw [if_pos c1]; simp [qbx]; omega
  by_cases c2 : 8 < x
  ·rw [if_neg c1,if_pos c2]; simp [qbx]; omega
  have hx : okD x = true := qbx.2 (by omega)
  have hm := qfv h1 h2 (show 1 ≤ x ∧ x ≤ 8 by omega)
  have h8 := p8 (show i + 1 ≤ 3 by omega)
  rw [if_neg c1,if_neg c2,qag (n := p * x) (by omega) (by omega),qag (n := (i : Int) + 1) (by omega) (by omega)]
  have := qeD l hl d (i + 1) (p * x) n (by omega) hm.1 hm.2 (by omega)
  rw [show (i : Int) + 1 = ((i + 1 : Nat) : Int) by omega,this]
  simp [hx,pd,Int.mul_assoc]
theorem qbH (l : LI) (k : Nat) (hk : 10 ≤ k) : qaP.f k l = some (mR l) := by
 unfold qaP.f
 by_cases h : 3 < (l.length : Int)
 ·rw [if_pos h]; simp [mR]; omega
 ·have := qeD l (by omega) l.length 0 1 k (by omega) (by omega) (by simp) (by omega)
  rw [if_neg h,show (0 : Int) = ((0 : Nat) : Int) from rfl,this]
  have hl : l.length ≤ 3 := by omega
  by_cases ha : l.all okD = true
  ·simp [ha,mR,hl]
  ·simp [ha,mR]
theorem qdx (l : LI) : ∀ (d i : Nat) (p : Int) (n : Nat),l.length = i + d → i ≤ 3 → 1 ≤ p → p ≤ 8 ^ i → 4 < n + i →
  qaF.l0 n l p l.length i = some (if l.length ≤ 3 ∧ (l.drop i).all okD = true then .inl (p * pd (l.drop i)) else .inr false)
 | 0,i,p,n,hi,hi3,h1,h2,hn => by
  obtain ⟨n,rfl⟩ : ∃ m,n = m + 1 := ⟨n - 1,by omega⟩
  rw [qaF.l0,if_neg (by omega),List.drop_eq_nil_of_le (by omega),if_pos ⟨by omega,by simp⟩]
  simp [pd]
 | d + 1,i,p,n,hi,hi3,h1,h2,hn => by
  obtain ⟨n,rfl⟩ : ∃ m,n = m + 1 := ⟨n - 1,by omega⟩
  rw [qaF.l0,if_pos (by omega)]
  by_cases c0 : 3 ≤ (i : Int)
  ·rw [if_pos c0,if_neg (by omega)]
  rw [if_neg c0,if_pos (by omega),Int.toNat_natCast,qaf (show i < l.length by omega) 0]
  generalize l.getD i 0 = x
  by_cases c1 : x < 1
  ·rw [if_pos c1,if_neg (by simp [qbx]; omega)]
  by_cases c2 : 8 < x
  ·rw [if_neg c1,if_pos c2,if_neg (by simp [qbx]; omega)]
  have hx : okD x = true := qbx.2 (by omega)
  have hm := qfv h1 h2 (show 1 ≤ x ∧ x ≤ 8 by omega)
  have h8 := p8 (show i + 1 ≤ 3 by omega)
  rw [if_neg c1,if_neg c2,qag (n := p * x) (by omega) (by omega),qag (n := (i : Int) + 1) (by omega) (by omega)]
  have := qdx l d (i + 1) (p * x) n (by omega) (by omega) hm.1 hm.2 (by omega)
  rw [show (i : Int) + 1 = ((i + 1 : Nat) : Int) by omega,this]
  simp [hx,pd,Int.mul_assoc]
theorem qbC (l : LI) (k : Nat) (hk : 10 ≤ k) : qaF.f k l = some (mR l) := by
 unfold qaF.f
 have := qdx l l.length 0 1 k (by omega) (by omega) (by omega) (by simp) (by omega)
 rw [show ((0 : Nat) : Int) = 0 from rfl] at this
 rw [this]
 by_cases ha : l.length ≤ 3 ∧ l.all okD = true
 ·simp [ha.1,ha.2,mR]
 ·rw [List.drop_zero,if_neg ha]
  have : mR l = false := by
   cases h : mR l with
   | false => rfl
   | true => exact absurd ⟨(qch h).1,(qch h).2.1⟩ ha
  simp [this]
theorem qdf (l : LI) (hl : l.length ≤ 3) (ha : l.all okD = true) : ∀ (d i : Nat) (p : Int) (n : Nat),l.length = i + d → 1 ≤ p → p ≤ 8 ^ i → d < n →
  qay.l0 n p l l.length i = some (p * pd (l.drop i))
 | 0,i,p,n,hi,h1,h2,hn => by
  obtain ⟨n,rfl⟩ : ∃ m,n = m + 1 := ⟨n - 1,by omega⟩
  rw [qay.l0,if_neg (by omega),List.drop_eq_nil_of_le (by omega)]
  simp [pd]
 | d + 1,i,p,n,hi,h1,h2,hn => by
  obtain ⟨n,rfl⟩ : ∃ m,n = m + 1 := ⟨n - 1,by omega⟩
  have hx := qbx.1 (List.all_eq_true.1 ha _ (qap (show i < l.length by omega) 0))
  rw [qay.l0,if_pos (by omega),if_pos (by omega),Int.toNat_natCast,qaf (show i < l.length by omega) 0]
  generalize l.getD i 0 = x at hx ⊢
  have hm := qfv h1 h2 hx
  have h8 := p8 (show i + 1 ≤ 3 by omega)
  rw [qag (n := p * x) (by omega) (by omega),qag (n := (i : Int) + 1) (by omega) (by omega)]
  rw [show (i : Int) + 1 = ((i + 1 : Nat) : Int) by omega,qdf l hl ha d (i + 1) (p * x) n (by omega) hm.1 hm.2 (by omega)]
  simp [pd,Int.mul_assoc]
theorem qbs (l : LI) (k : Nat) (hk : 10 ≤ k) : qay.f k l = some (mD l) := by
 unfold qay.f
 rw [qbH l k hk,obs]
 by_cases h : mR l = true
 ·obtain ⟨h1,h2,_⟩ := qch h
  have := qdf l h1 h2 l.length 0 1 k (by omega) (by omega) (by simp) (by omega)
  rw [if_pos h,show (0 : Int) = ((0 : Nat) : Int) from rfl,this]
  simp [mD,h]
 ·rw [if_neg h]; simp [mD,h]
theorem qc2 (l : LI) (hl : l.length ≤ 3) (ha : l.all okD = true) : ∀ (d i : Nat) (p : Int) (n : Nat),l.length = i + d → 1 ≤ p → p ≤ 8 ^ i → d < n →
  qar.l0 n l p l.length i = some (p * pd (l.drop i))
 | 0,i,p,n,hi,h1,h2,hn => by
  obtain ⟨n,rfl⟩ : ∃ m,n = m + 1 := ⟨n - 1,by omega⟩
  rw [qar.l0,if_neg (by omega),List.drop_eq_nil_of_le (by omega)]
  simp [pd]
 | d + 1,i,p,n,hi,h1,h2,hn => by
  obtain ⟨n,rfl⟩ : ∃ m,n = m + 1 := ⟨n - 1,by omega⟩
  have hx := qbx.1 (List.all_eq_true.1 ha _ (qap (show i < l.length by omega) 0))
  rw [qar.l0,if_pos (by omega),if_pos (by omega),Int.toNat_natCast,qaf (show i < l.length by omega) 0]
  generalize l.getD i 0 = x at hx ⊢
  have hm := qfv h1 h2 hx
  have h8 := p8 (show i + 1 ≤ 3 by omega)
  rw [qag (n := p * x) (by omega) (by omega),qag (n := (i : Int) + 1) (by omega) (by omega)]
  rw [show (i : Int) + 1 = ((i + 1 : Nat) : Int) by omega,qc2 l hl ha d (i + 1) (p * x) n (by omega) hm.1 hm.2 (by omega)]
  simp [pd,Int.mul_assoc]
theorem qa2 (l : LI) (k : Nat) (hk : 10 ≤ k) : qar.f k l = some (mD l) := by
 unfold qar.f
 rw [qbC l k hk,obs]
 by_cases h : mR l = true
 ·obtain ⟨h1,h2,_⟩ := qch h
  have := qc2 l h1 h2 l.length 0 1 k (by omega) (by omega) (by simp) (by omega)
  rw [if_pos h,show (0 : Int) = ((0 : Nat) : Int) from rfl,this]
  simp [mD,h]
 ·rw [if_neg h]; simp [mD,h]
theorem qcy : ∀ (l : LI) (d : Int),(atM l d).length = l.length
 | [],_ => rfl
 | x :: r,d => by show (atM r d).length + 1 = _; rw [qcy r d]; rfl
theorem qjR {l : LI} (ha : l.all okD = true) {d : Int} (hd0 : 0 ≤ d) (hd8 : d ≤ 8) {m : Nat} (hm : m < l.length) :
  okD (l.getD m 0) = true ∧ (d / pd (l.drop (m + 1))).tdiv (l.getD m 0) = d / pd (l.drop m) ∧ 0 ≤ d / pd (l.drop m) ∧ d / pd (l.drop m) ≤ 8 ∧
  (List.replicate (m + 1) 0 ++ atM (l.drop (m + 1)) d).set m ((d / pd (l.drop (m + 1))).tmod (l.getD m 0)) = List.replicate m 0 ++ atM (l.drop m) d := by
 have hx := List.all_eq_true.1 ha _ (qap hm 0)
 have hdr := qaf hm 0
 generalize l.getD m 0 = x at hx hdr ⊢
 have hx' := qbx.1 hx
 have hall : (l.drop (m + 1)).all okD = true := by
  rw [List.all_eq_true] at ha ⊢
  exact fun y hy => ha y (List.mem_of_mem_drop hy)
 have hp := (qjZ _ hall).1
 have h0 : 0 ≤ d / pd (l.drop (m + 1)) := Int.ediv_nonneg hd0 (by omega)
 have h8 : d / pd (l.drop (m + 1)) ≤ 8 := Int.le_trans (Int.ediv_le_self _ hd0) hd8
 have e1 : (d / pd (l.drop (m + 1))).tdiv x = d / pd (l.drop m) := by
  rw [Int.tdiv_eq_ediv_of_nonneg h0,hdr]
  show d / pd (l.drop (m + 1)) / x = d / (x * pd (l.drop (m + 1)))
  rw [Int.ediv_ediv_of_nonneg (by omega),Int.mul_comm]
 refine ⟨hx,e1,?_,?_,?_⟩
 ·rw [← e1,Int.tdiv_eq_ediv_of_nonneg h0]; exact Int.ediv_nonneg h0 (by omega)
 ·rw [← e1,Int.tdiv_eq_ediv_of_nonneg h0]; exact Int.le_trans (Int.ediv_le_self _ h0) h8
 ·rw [hdr,Int.tmod_eq_emod_of_nonneg h0,List.replicate_succ',List.append_assoc]
  show (List.replicate m 0 ++ (0 :: atM (l.drop (m + 1)) d)).set m _ = List.replicate m 0 ++ ((d / pd (l.drop (m + 1))) % x :: atM (l.drop (m + 1)) d)
  rw [List.set_append]
  simp
theorem qgz (l : LI) (hl : l.length ≤ 3) (ha : l.all okD = true) (d : Int) (hd0 : 0 ≤ d) (hd8 : d ≤ 8) : ∀ (m n : Nat),m ≤ l.length → m < n →
  qbL.l0 n l (d / pd (l.drop m)) ((m : Int) - 1) (List.replicate m 0 ++ atM (l.drop m) d) = some (atM l d)
 | 0,n,hm,hn => by
  obtain ⟨n,rfl⟩ : ∃ m,n = m + 1 := ⟨n - 1,by omega⟩
  rw [qbL.l0,if_neg (by omega)]; simp
 | m + 1,n,hm,hn => by
  obtain ⟨n,rfl⟩ : ∃ m,n = m + 1 := ⟨n - 1,by omega⟩
  obtain ⟨h1,h2,h3,h4,h5⟩ := qjR ha hd0 hd8 (show m < l.length by omega)
  have hx := qbx.1 h1
  have hlen : (List.replicate (m + 1) 0 ++ atM (l.drop (m + 1)) d).length = l.length := by simp [qcy]; omega
  have e : (((m + 1 : Nat) : Int) - 1) = (m : Int) := by omega
  rw [e,qbL.l0,if_pos (by omega),if_pos (by omega),Int.toNat_natCast,if_pos (by omega),if_pos (by omega),if_pos (by omega),h2,h5,qag (by omega) (by omega),qag (n := (m : Int) - 1) (by omega) (by omega)]
  exact qgz l hl ha d hd0 hd8 m n (by omega) (by omega)
theorem qfP (l : LI) (hl : l.length ≤ 3) (ha : l.all okD = true) (d : Int) (hd0 : 0 ≤ d) (hd8 : d ≤ 8) : ∀ (m n : Nat),m ≤ l.length → m < n →
  qbu.l0 n l (d / pd (l.drop m)) ((m : Int) - 1) (List.replicate m 0 ++ atM (l.drop m) d) = some (atM l d)
 | 0,n,hm,hn => by
  obtain ⟨n,rfl⟩ : ∃ m,n = m + 1 := ⟨n - 1,by omega⟩
  rw [qbu.l0,if_neg (by omega)]; simp
 | m + 1,n,hm,hn => by
  obtain ⟨n,rfl⟩ : ∃ m,n = m + 1 := ⟨n - 1,by omega⟩
  obtain ⟨h1,h2,h3,h4,h5⟩ := qjR ha hd0 hd8 (show m < l.length by omega)
  have hx := qbx.1 h1
  have hlen : (List.replicate (m + 1) 0 ++ atM (l.drop (m + 1)) d).length = l.length := by simp [qcy]; omega
  have e : (((m + 1 : Nat) : Int) - 1) = (m : Int) := by omega
  rw [e,qbu.l0,if_pos (by omega),if_pos (by omega),Int.toNat_natCast,if_pos (by omega),if_pos (by omega),if_pos (by omega),h2,h5,qag (by omega) (by omega),qag (n := (m : Int) - 1) (by omega) (by omega)]
  exact qfP l hl ha d hd0 hd8 m n (by omega) (by omega)
theorem qg7 {l : LI} {d : Int} (h0 : 0 ≤ d) (h : d < mD l) : mR l = true ∧ l.length ≤ 3 ∧ l.all okD = true ∧ d < pd l ∧ pd l ≤ 8 := by
 have hR : mR l = true := by
  by_cases h' : mR l = true
  ·exact h'
  ·rw [mD,if_neg h'] at h; omega
 rw [mD,if_pos hR] at h
 obtain ⟨h1,h2,_,h3⟩ := qch hR
 exact ⟨hR,h1,h2,h,h3⟩
theorem qhF (l : LI) (d : Int) (k : Nat) (hk : 10 ≤ k) : qbL.f k l d = some (mA l d) := by
 unfold qbL.f mA
 by_cases c1 : d < 0
 ·rw [if_pos c1,if_neg (by omega)]
 rw [if_neg c1,qbs l k hk,obs]
 by_cases c2 : mD l ≤ d
 ·rw [if_pos c2,if_neg (by omega)]
 obtain ⟨_,h1,h2,h3,h4⟩ := qg7 (show 0 ≤ d by omega) (show d < mD l by omega)
 have := qgz l h1 h2 d (by omega) (by omega) l.length k (by omega) (by omega)
 rw [if_neg c2,if_pos (by omega),qag (by omega) (by omega),Int.toNat_natCast,if_pos (by omega)]
 simp [pd,atM] at this
 rw [this]; rfl
theorem qgx (l : LI) (d : Int) (k : Nat) (hk : 10 ≤ k) : qbu.f k l d = some (mA l d) := by
 unfold qbu.f mA
 by_cases c1 : d < 0
 ·rw [if_pos c1,if_neg (by omega)]
 rw [if_neg c1,qa2 l k hk,obs]
 by_cases c2 : mD l ≤ d
 ·rw [if_pos c2,if_neg (by omega)]
 obtain ⟨_,h1,h2,h3,h4⟩ := qg7 (show 0 ≤ d by omega) (show d < mD l by omega)
 have := qfP l h1 h2 d (by omega) (by omega) l.length k (by omega) (by omega)
 rw [if_neg c2,if_pos (by omega),qag (by omega) (by omega),Int.toNat_natCast,if_pos (by omega)]
 simp [pd,atM] at this
 rw [this]; rfl
theorem qgy (l p : LI) (hl : l.length ≤ 3) (hlen : p.length = l.length) (ha : l.all okD = true) : ∀ (d i : Nat) (acc : Int) (n : Nat),l.length = i + d → 0 ≤ acc → acc < 8 ^ i → d < n →
  ∃ r,qbK.l0 n l acc p p.length i = some r ∧ Sum.elim id id r = ofGo (l.drop i) (p.drop i) acc
 | 0,i,acc,n,hi,h0,h8,hn => by
  obtain ⟨n,rfl⟩ : ∃ m,n = m + 1 := ⟨n - 1,by omega⟩
  rw [qbK.l0,if_neg (by omega),List.drop_eq_nil_of_le (show l.length ≤ i by omega)]
  exact ⟨_,rfl,rfl⟩
 | d + 1,i,acc,n,hi,h0,h8,hn => by
  obtain ⟨n,rfl⟩ : ∃ m,n = m + 1 := ⟨n - 1,by omega⟩
  have hx := qbx.1 (List.all_eq_true.1 ha _ (qap (show i < l.length by omega) 0))
  rw [qbK.l0,if_pos (by omega),if_pos (by omega),Int.toNat_natCast,qaf (show i < l.length by omega) 0,qaf (show i < p.length by omega) 0]
  generalize l.getD i 0 = x at hx ⊢
  generalize p.getD i 0 = y
  by_cases c1 : y < 0
  ·rw [if_pos c1,ofGo,if_pos (.inl c1)]; exact ⟨_,rfl,rfl⟩
  by_cases c2 : x ≤ y
  ·rw [if_neg c1,if_pos (by omega),if_pos c2,ofGo,if_pos (.inr c2)]; exact ⟨_,rfl,rfl⟩
  have h8' := p8 (show i + 1 ≤ 3 by omega)
  have h8i : (8 : Int) ^ (i + 1) = 8 ^ i * 8 := Int.pow_succ ..
  have hb : 0 ≤ acc * x ∧ acc * x ≤ (8 ^ i - 1) * 8 := ⟨Int.mul_nonneg h0 (by omega),Int.mul_le_mul (by omega) hx.2 (by omega) (by omega)⟩
  rw [if_neg c1,if_pos (by omega),if_neg c2,qag (n := acc * x) (by omega) (by omega),qag (n := acc * x + y) (by omega) (by omega),qag (n := (i : Int) + 1) (by omega) (by omega),ofGo,if_neg (by omega),show (i : Int) + 1 = ((i + 1 : Nat) : Int) by omega]
  exact qgy l p hl hlen ha d (i + 1) (acc * x + y) n (by omega) (by omega) (by omega) (by omega)
theorem qjx (l p : LI) (k : Nat) (hk : 10 ≤ k) : qbK.f k l p = some (mO l p) := by
 unfold qbK.f mO
 rw [qbH l k hk,obs]
 by_cases h : mR l = true
 ·rw [if_pos h]
  by_cases hp : p.length = l.length
  ·obtain ⟨h1,h2,_⟩ := qch h
   obtain ⟨r,h3,h4⟩ := qgy l p h1 hp h2 l.length 0 0 k (by omega) (by omega) (by simp) (by omega)
   rw [if_pos (by omega),show qbK.l0 k l 0 p (↑p.length) 0 = some r from h3,obs,if_pos ⟨h,hp⟩]
   rw [List.drop_zero,List.drop_zero] at h4
   rw [← h4]
   cases r <;> rfl
  ·rw [if_neg (by omega),if_neg (fun c => hp c.2)]
 ·rw [if_neg h,if_neg (fun c => h c.1)]
theorem qfO (l p : LI) (hl : l.length ≤ 3) (hlen : p.length = l.length) (ha : l.all okD = true) : ∀ (d i : Nat) (acc : Int) (n : Nat),l.length = i + d → 0 ≤ acc → acc < 8 ^ i → d < n →
  ∃ r,qbt.l0 n l p acc l.length i = some r ∧ Sum.elim id id r = ofGo (l.drop i) (p.drop i) acc
 | 0,i,acc,n,hi,h0,h8,hn => by
  obtain ⟨n,rfl⟩ : ∃ m,n = m + 1 := ⟨n - 1,by omega⟩
  rw [qbt.l0,if_neg (by omega),List.drop_eq_nil_of_le (show l.length ≤ i by omega)]
  exact ⟨_,rfl,rfl⟩
 | d + 1,i,acc,n,hi,h0,h8,hn => by
  obtain ⟨n,rfl⟩ : ∃ m,n = m + 1 := ⟨n - 1,by omega⟩
  have hx := qbx.1 (List.all_eq_true.1 ha _ (qap (show i < l.length by omega) 0))
  rw [qbt.l0,if_pos (by omega),if_pos (by omega),Int.toNat_natCast,qaf (show i < l.length by omega) 0,qaf (show i < p.length by omega) 0]
  generalize l.getD i 0 = x at hx ⊢
  generalize p.getD i 0 = y
  by_cases c1 : y < 0
  ·rw [if_pos c1,ofGo,if_pos (.inl c1)]; exact ⟨_,rfl,rfl⟩
  by_cases c2 : x ≤ y
  ·rw [if_neg c1,if_pos (by omega),if_pos c2,ofGo,if_pos (.inr c2)]; exact ⟨_,rfl,rfl⟩
  have h8' := p8 (show i + 1 ≤ 3 by omega)
  have h8i : (8 : Int) ^ (i + 1) = 8 ^ i * 8 := Int.pow_succ ..
  have hb : 0 ≤ acc * x ∧ acc * x ≤ (8 ^ i - 1) * 8 := ⟨Int.mul_nonneg h0 (by omega),Int.mul_le_mul (by omega) hx.2 (by omega) (by omega)⟩
  rw [if_neg c1,if_pos (by omega),if_neg c2,qag (n := acc * x) (by omega) (by omega),qag (n := acc * x + y) (by omega) (by omega),qag (n := (i : Int) + 1) (by omega) (by omega),ofGo,if_neg (by omega),show (i : Int) + 1 = ((i + 1 : Nat) : Int) by omega]
  exact qfO l p hl hlen ha d (i + 1) (acc * x + y) n (by omega) (by omega) (by omega) (by omega)
theorem qiZ (l p : LI) (k : Nat) (hk : 10 ≤ k) : qbt.f k l p = some (mO l p) := by
 unfold qbt.f mO
 rw [qbC l k hk,obs]
 by_cases h : mR l = true
 ·rw [if_pos h]
  by_cases hp : p.length = l.length
  ·obtain ⟨h1,h2,_⟩ := qch h
   obtain ⟨r,h3,h4⟩ := qfO l p h1 hp h2 l.length 0 0 k (by omega) (by omega) (by simp) (by omega)
   rw [if_pos (by omega),show qbt.l0 k l p 0 (↑l.length) 0 = some r from h3,obs,if_pos ⟨h,hp⟩]
   rw [List.drop_zero,List.drop_zero] at h4
   rw [← h4]
   cases r <;> rfl
  ·rw [if_neg (by omega),if_neg (fun c => hp c.2)]
 ·rw [if_neg h,if_neg (fun c => h c.1)]
theorem qiF {l : LI} {d : Int} (h0 : 0 ≤ d) (h1 : d < mD l) : mA l d = atM l d := by rw [mA,if_pos ⟨h0,h1⟩]
end Go.Pf

namespace Go.Pf
open Go Go.Vm
theorem n0 : ((0 : Nat) : Int) = 0 := rfl
theorem drop0 {α : Type} (l : List α) : l.drop 0 = l := rfl
theorem qc5 (xs : LI) (v : Int) (hl : xs.length ≤ 4611686018427387904) : ∀ (d i n : Nat),xs.length = i + d → d < n →
  ∃ r,qaz.l0 n xs v xs.length i = some r ∧ ((r = .inl () ∧ v ∉ xs.drop i) ∨ ∃ j : Int,r = .inr j ∧ 0 ≤ j ∧ v ∈ xs.drop i)
 | 0,i,n,hi,hn => by
  obtain ⟨n,rfl⟩ : ∃ m,n = m + 1 := ⟨n - 1,by omega⟩
  rw [qaz.l0,if_neg (by omega),List.drop_eq_nil_of_le (by omega)]
  exact ⟨_,rfl,.inl ⟨rfl,by simp⟩⟩
 | d + 1,i,n,hi,hn => by
  obtain ⟨n,rfl⟩ : ∃ m,n = m + 1 := ⟨n - 1,by omega⟩
  rw [qaz.l0,if_pos (by omega),if_pos (by omega),Int.toNat_natCast,qaf (show i < xs.length by omega) 0]
  by_cases c : v = xs.getD i 0
  ·rw [if_pos c]
   exact ⟨_,rfl,.inr ⟨_,rfl,by omega,by rw [c]; simp⟩⟩
  ·rw [if_neg c,qag (by omega) (by omega),show (i : Int) + 1 = ((i + 1 : Nat) : Int) by omega]
   obtain ⟨r,h1,h2⟩ := qc5 xs v hl d (i + 1) n (by omega) (by omega)
   refine ⟨r,h1,?_⟩
   rcases h2 with ⟨h2,h3⟩ | ⟨j,h2,h3,h4⟩
   ·exact .inl ⟨h2,by simp only [List.mem_cons]; exact fun h => h.elim c h3⟩
   ·exact .inr ⟨j,h2,h3,List.mem_cons_of_mem _ h4⟩
theorem qcG (xs : LI) (v : Int) (hl : xs.length ≤ 4611686018427387904) (k : Nat) (hk : xs.length < k) : qaY.f k xs v = some (decide (v ∈ xs)) := by
 unfold qaY.f qaz.f
 obtain ⟨r,h1,h2⟩ := qc5 xs v hl xs.length 0 k (by omega) hk
 rw [n0] at h1
 rw [h1,obs]
 rw [drop0] at h2
 rcases h2 with ⟨rfl,h3⟩ | ⟨j,rfl,h3,h4⟩
 ·simp [h3]
 ·simp [h3,h4]
def okGo (m : Int) : LI → LI → Bool
 | _,[] => true
 | pre,k :: r => decide (-1 ≤ k) && decide (k < m) && (decide (k = -1) || !decide (k ∈ pre)) && okGo m (pre ++ [k]) r
def mSp (l sp : LI) (r : Int) : Bool := mR l && decide ((sp.length : Int) = r) && okGo l.length [] sp
theorem qcE {l : LI} {i : Nat} (h : i < l.length) : l.take (i + 1) = l.take i ++ [l.getD i 0] := by
 rw [List.take_add_one,List.getD_eq_getElem?_getD,List.getElem?_eq_getElem h]; rfl
theorem qee (l sp : LI) (hs : sp.length ≤ 4611686018427387904) (K : Nat) (hK : sp.length < K) : ∀ (d i n : Nat),sp.length = i + d → d < n →
  qaL.l0 K n l sp sp sp.length i = some (if okGo l.length (sp.take i) (sp.drop i) = true then .inl () else .inr false)
 | 0,i,n,hi,hn => by
  obtain ⟨n,rfl⟩ : ∃ m,n = m + 1 := ⟨n - 1,by omega⟩
  rw [qaL.l0,if_neg (by omega),List.drop_eq_nil_of_le (by omega)]; rfl
 | d + 1,i,n,hi,hn => by
  obtain ⟨n,rfl⟩ : ∃ m,n = m + 1 := ⟨n - 1,by omega⟩
  have ih := qee l sp hs K hK d (i + 1) n (by omega) (by omega)
  rw [qcE (show i < sp.length by omega)] at ih
  rw [qaL.l0,if_pos (by omega),if_pos (by omega),Int.toNat_natCast,qaf (show i < sp.length by omega) 0,qag (by omega) (by omega),show (i : Int) + 1 = ((i + 1 : Nat) : Int) by omega,drop0]
  generalize sp.getD i 0 = x at ih ⊢
  by_cases c1 : x < -1
  ·rw [if_pos c1,if_neg (by simp [okGo]; omega)]
  by_cases c2 : (l.length : Int) ≤ x
  ·rw [if_neg c1,if_pos c2,if_neg (by simp [okGo]; omega)]
  have h1 : -1 ≤ x := by omega
  have h2 : x < (l.length : Int) := by omega
  rw [if_neg c1,if_neg c2]
  by_cases c3 : x = -1
  ·have h2' : (-1 : Int) < l.length := by omega
   rw [if_pos c3,ih]; simp [okGo,c3,h2']
  ·rw [if_neg c3,if_pos (by omega),qcG _ _ (by simp; omega) K (by simp; omega),obs]
   by_cases c4 : x ∈ sp.take i
   ·rw [if_pos (by simpa using c4),if_neg (by simp [okGo,c3,c4])]
   ·rw [if_neg (by simpa using c4),ih]; simp [okGo,c3,c4,h1,h2]
theorem qco (l sp : LI) (r : Int) (hs : sp.length ≤ 4611686018427387904) (k : Nat) (hk : sp.length + 10 ≤ k) : qaL.f k l sp r = some (mSp l sp r) := by
 unfold qaL.f mSp
 rw [qbH l k (by omega),obs]
 by_cases h : mR l = true
 ·by_cases hr : (sp.length : Int) = r
  ·have := qee l sp hs k (by omega) sp.length 0 k (by omega) (by omega)
   rw [if_pos h,if_pos hr,show (0 : Int) = ((0 : Nat) : Int) from rfl,this,obs,drop0,List.take_zero,h]
   cases okGo (l.length : Int) [] sp <;> simp [hr]
  ·rw [if_pos h,if_neg hr]; simp [hr]
 ·rw [if_neg h]; simp at h; simp [h]
theorem qeu (l sp : LI) (i : Nat) (hi : i < sp.length) (hs : sp.length ≤ 4611686018427387904) (x19 x20 : Int) : ∀ (d j n : Nat),i = j + d → d < n →
  qaw.l1 n l sp i j x19 x20 = some (if 0 ≤ sp.getD i 0 ∧ sp.getD i 0 ∈ (sp.take i).drop j then .inr false else .inl ())
 | 0,j,n,hj,hn => by
  obtain ⟨n,rfl⟩ : ∃ m,n = m + 1 := ⟨n - 1,by omega⟩
  rw [qaw.l1,if_neg (by omega),List.drop_eq_nil_of_le (by simp; omega),if_neg (by simp)]
 | d + 1,j,n,hj,hn => by
  obtain ⟨n,rfl⟩ : ∃ m,n = m + 1 := ⟨n - 1,by omega⟩
  have hlen : j < (sp.take i).length := by simp; omega
  have hg : (sp.take i).getD j 0 = sp.getD j 0 := by
   rw [List.getD_eq_getElem?_getD,List.getD_eq_getElem?_getD,List.getElem?_take,if_pos (by omega)]
  rw [qaw.l1,if_pos (by omega),if_pos (by omega),if_pos (by omega),Int.toNat_natCast,Int.toNat_natCast,qaf hlen 0,hg,qag (by omega) (by omega),show (j : Int) + 1 = ((j + 1 : Nat) : Int) by omega,qeu l sp i hi hs x19 x20 d (j + 1) n (by omega) (by omega)]
  by_cases c1 : sp.getD j 0 = sp.getD i 0
  ·by_cases c2 : 0 ≤ sp.getD i 0
   ·rw [if_pos c1,if_pos c2,if_pos ⟨c2,by rw [c1]; simp⟩]
   ·rw [if_pos c1,if_neg c2,if_neg (fun h => c2 h.1),if_neg (fun h => c2 h.1)]
  ·rw [if_neg c1]
   simp only [List.mem_cons,Ne.symm c1,false_or]
theorem qev (l sp : LI) (hs : sp.length ≤ 4611686018427387904) (K : Nat) : ∀ (d i n : Nat),sp.length = i + d → sp.length + sp.length + 2 ≤ n + i →
    qaw.l0 K n l sp sp.length i = some (if okGo l.length (sp.take i) (sp.drop i) = true then .inl () else .inr false)
  | 0,i,n,hi,hn => by
    obtain ⟨n,rfl⟩ : ∃ m,n = m + 1 := ⟨n - 1,by omega⟩
    rw [qaw.l0,if_neg (by omega),List.drop_eq_nil_of_le (by omega)]; rfl
  | d + 1,i,n,hi,hn => by
    obtain ⟨n,rfl⟩ : ∃ m,n = m + 1 := ⟨n - 1,by omega⟩
    have ih := qev l sp hs K d (i + 1) n (by omega) (by omega)
    have hin := qeu l sp i (by omega) hs sp.length i i 0 n (by omega) (by omega)
    rw [qcE (show i < sp.length by omega)] at ih
    rw [qaw.l0,if_pos (by omega),if_pos (by omega),Int.toNat_natCast,qaf (show i < sp.length by omega) 0,qag (by omega) (by omega),show (i : Int) + 1 = ((i + 1 : Nat) : Int) by omega]
    rw [n0,drop0] at hin
    rw [hin]
    generalize sp.getD i 0 = x at ih ⊢
    by_cases c1 : x < -1
    · rw [if_pos c1,if_neg (by simp [okGo]; omega)]
    by_cases c2 : (l.length : Int) ≤ x
    · rw [if_neg c1,if_pos c2,if_neg (by simp [okGo]; omega)]
    have h1 : -1 ≤ x := by omega
    have h2 : x < (l.length : Int) := by omega
    rw [if_neg c1,if_neg c2,obs]
    by_cases c3 : 0 ≤ x ∧ x ∈ sp.take i
    · have c4 : ¬ x = -1 := by omega
      rw [if_pos c3,if_neg (by simp [okGo,c4,c3.2])]; rfl
    · rw [if_neg c3]
      simp only [Sum.elim_inl]
      rw [ih]
      have c5 : x = -1 ∨ x ∉ sp.take i := by
        by_cases h : x ∈ sp.take i
        · exact .inl (by have : ¬ 0 ≤ x := fun h' => c3 ⟨h',h⟩
                         omega)
        · exact .inr h
      have e : okGo l.length (sp.take i) (x :: sp.drop (i + 1)) = okGo l.length (sp.take i ++ [x]) (sp.drop (i + 1)) := by
        rcases c5 with h | h <;> simp [okGo,h,h1,h2]
        omega
      rw [e]
theorem qct (l sp : LI) (r : Int) (hs : sp.length ≤ 4611686018427387904) (k : Nat) (hk : sp.length + sp.length + 10 ≤ k) : qaw.f k l sp r = some (mSp l sp r) := by
 unfold qaw.f mSp
 rw [qbC l k (by omega),obs]
 by_cases h : mR l = true
 ·by_cases hr : (sp.length : Int) = r
  ·have := qev l sp hs k sp.length 0 k (by omega) (by omega)
   rw [if_pos h,if_pos hr,show (0 : Int) = ((0 : Nat) : Int) from rfl,this,obs,drop0,List.take_zero,h]
   cases okGo (l.length : Int) [] sp <;> simp [hr]
  ·rw [if_pos h,if_neg hr]; simp [hr]
 ·rw [if_neg h]; simp at h; simp [h]
def part1 (l : LI) (k : Int) : Int := if k < 0 then 1 else l.getD k.toNat 0
theorem qcu {m : Int} : ∀ {r pre : LI},okGo m pre r = true → ∀ x ∈ r,-1 ≤ x ∧ x < m
 | [],_,_,x,hx => by cases hx
 | k :: r,pre,h,x,hx => by
  simp only [okGo,Bool.and_eq_true,decide_eq_true_eq] at h
  rcases List.mem_cons.1 hx with rfl | hx
  ·exact ⟨h.1.1.1,h.1.1.2⟩
  ·exact qcu h.2 x hx
theorem qbn {l sp : LI} {r : Int} (h : mSp l sp r = true) : mR l = true ∧ (sp.length : Int) = r ∧ okGo l.length [] sp = true := by
 unfold mSp at h
 simp only [Bool.and_eq_true,decide_eq_true_eq] at h
 exact ⟨h.1.1,h.1.2,h.2⟩
def mP (l sp : LI) : LI := if mSp l sp sp.length = true then sp.map (part1 l) else []
theorem qdy (l sp : LI) (hs : sp.length ≤ 17592186044415) (hb : ∀ x ∈ sp,-1 ≤ x ∧ x < (l.length : Int)) : ∀ (d i n : Nat),sp.length = i + d → d < n →
  qaT.l0 n l sp sp.length i ((sp.take i).map (part1 l)) = some (sp.map (part1 l))
 | 0,i,n,hi,hn => by
  obtain ⟨n,rfl⟩ : ∃ m,n = m + 1 := ⟨n - 1,by omega⟩
  rw [qaT.l0,if_neg (by omega),List.take_of_length_le (by omega)]
 | d + 1,i,n,hi,hn => by
  obtain ⟨n,rfl⟩ : ∃ m,n = m + 1 := ⟨n - 1,by omega⟩
  have ih := qdy l sp hs hb d (i + 1) n (by omega) (by omega)
  have hx := hb _ (qap (show i < sp.length by omega) 0)
  rw [qcE (show i < sp.length by omega),List.map_append] at ih
  rw [qaT.l0,if_pos (by omega),if_pos (by omega),Int.toNat_natCast,qag (by omega) (by omega),show (i : Int) + 1 = ((i + 1 : Nat) : Int) by omega]
  generalize sp.getD i 0 = x at ih hx ⊢
  by_cases c : 0 ≤ x
  ·rw [if_pos c,if_pos ⟨c,hx.2⟩,if_pos (by simp; omega)]
   rw [show List.map (part1 l) [x] = [l.getD x.toNat 0] by simp [part1]; omega] at ih
   exact ih
  ·rw [if_neg c,if_pos (by simp; omega)]
   rw [show List.map (part1 l) [x] = [1] by simp [part1]; omega] at ih
   exact ih
theorem qg1 (l sp : LI) (hs : sp.length ≤ 17592186044415) (k : Nat) (hk : sp.length + sp.length + 10 ≤ k) : qaT.f k l sp = some (mP l sp) := by
 unfold qaT.f mP
 rw [qbC l k (by omega),obs,qct l sp _ (by omega) k hk,obs]
 by_cases h : mSp l sp sp.length = true
 ·obtain ⟨h1,h2,h3⟩ := qbn h
  have := qdy l sp (by omega) (fun x hx => qcu h3 x hx) sp.length 0 k (by omega) (by omega)
  rw [if_pos h1,if_pos h,if_pos h]
  rw [n0,List.take_zero,List.map_nil] at this
  rw [this]; rfl
 ·rw [if_neg h,if_neg h]
  split <;> rfl
def mC (l sp : LI) : Int := if mSp l sp sp.length = true then (mP l sp).foldl (fun n p => n.tdiv p) (mD l) else 0
theorem qky {a p : Int} (h0 : 0 ≤ a) (h8 : a ≤ 8) (hp : 1 ≤ p) : 0 ≤ a.tdiv p ∧ a.tdiv p ≤ 8 := by
 rw [Int.tdiv_eq_ediv_of_nonneg h0]
 exact ⟨Int.ediv_nonneg h0 (by omega),Int.le_trans (Int.ediv_le_self _ h0) h8⟩
theorem qdc (y : LI) (hy : y.length ≤ 17592186044415) (hp : ∀ x ∈ y,1 ≤ x) : ∀ (d i : Nat) (c : Int) (n : Nat),y.length = i + d → 0 ≤ c → c ≤ 8 → d < n →
  qaO.l0 n c y.length i y = some ((y.drop i).foldl (fun n p => n.tdiv p) c)
 | 0,i,c,n,hi,h0,h8,hn => by
  obtain ⟨n,rfl⟩ : ∃ m,n = m + 1 := ⟨n - 1,by omega⟩
  rw [qaO.l0,if_neg (by omega),List.drop_eq_nil_of_le (by omega)]; rfl
 | d + 1,i,c,n,hi,h0,h8,hn => by
  obtain ⟨n,rfl⟩ : ∃ m,n = m + 1 := ⟨n - 1,by omega⟩
  have hx := hp _ (qap (show i < y.length by omega) 0)
  have hb := qky h0 h8 hx
  rw [qaO.l0,if_pos (by omega),if_pos (by omega),Int.toNat_natCast,if_pos (by omega),if_pos (by omega),qaf (show i < y.length by omega) 0,qag (by omega) (by omega),qag (n := (i : Int) + 1) (by omega) (by omega),show (i : Int) + 1 = ((i + 1 : Nat) : Int) by omega,qdc y hy hp d (i + 1) _ n (by omega) hb.1 hb.2 (by omega)]
  rfl
theorem qkZ {l sp : LI} : (mP l sp).length ≤ sp.length := by
 unfold mP
 split <;> simp
theorem qkY {l sp : LI} : ∀ x ∈ mP l sp,1 ≤ x ∧ x ≤ 8 := by
 intro x hx
 unfold mP at hx
 split at hx
 ·rename_i h
  obtain ⟨h1,h2,h3⟩ := qbn h
  obtain ⟨k,hk,rfl⟩ := List.mem_map.1 hx
  have hb := qcu h3 k hk
  unfold part1
  split
  ·omega
  ·exact qbx.1 (List.all_eq_true.1 (qch h1).2.1 _ (qap (show k.toNat < l.length by omega) 0))
 ·cases hx
theorem qcZ (l : LI) : 0 ≤ mD l ∧ mD l ≤ 8 := by
 unfold mD
 split
 ·rename_i h; have := qch h; omega
 ·omega
theorem qgn (l sp : LI) (hs : sp.length ≤ 17592186044415) (k : Nat) (hk : sp.length + sp.length + 10 ≤ k) : qaO.f k l sp = some (mC l sp) := by
 unfold qaO.f mC
 rw [qbC l k (by omega),obs,qct l sp _ (by omega) k hk,obs]
 have hl := qkZ (l := l) (sp := sp)
 have hb := qcZ l
 by_cases h : mSp l sp sp.length = true
 ·have := qdc (mP l sp) (by omega) (fun x hx => (qkY x hx).1) (mP l sp).length 0 (mD l) k (by omega) hb.1 hb.2 (by omega)
  rw [if_pos (qbn h).1,if_pos h,qa2 l k (by omega),obs,qg1 l sp hs k hk,obs,if_pos h]
  rw [n0,drop0] at this
  rw [this]; rfl
 ·rw [if_neg h,if_neg h]
  split <;> rfl
def msk (sp : LI) : Nat → LI → LI
 | _,[] => []
 | i,a :: r => (if (i : Int) ∈ sp then a else 0) :: msk sp (i + 1) r
theorem qib (sp : LI) : ∀ (l : LI) (i : Nat),(msk sp i l).length = l.length
 | [],_ => rfl
 | _ :: r,i => by show (msk sp (i + 1) r).length + 1 = _; rw [qib sp r]; rfl
theorem qiC (sp : LI) (a : Int) : ∀ (l : LI) (i : Nat),msk sp i (l ++ [a]) = msk sp i l ++ [if ((i + l.length : Nat) : Int) ∈ sp then a else 0]
 | [],i => rfl
 | b :: r,i => by
  show _ :: msk sp (i + 1) (r ++ [a]) = _ :: _
  rw [qiC sp a r (i + 1)]
  show _ = _ :: (msk sp (i + 1) r ++ _)
  congr 3
  rw [show i + 1 + r.length = i + (b :: r).length by simp; omega]
def mF (l sp : LI) (d : Int) : Int := if mSp l sp sp.length = true ∧ 0 ≤ d ∧ d < mD l then mO l (msk sp 0 (atM l d)) else -1
theorem qjk (a b : LI) (y x : Int) : (a ++ y :: b).set a.length x = (a ++ [x]) ++ b := by
 rw [List.set_append,if_neg (by omega),Nat.sub_self,List.append_assoc]; rfl
theorem qf6 (sp A : LI) {i : Nat} (hi : i < A.length) :
  msk sp 0 (A.take i) ++ A.drop i = msk sp 0 (A.take i) ++ A.getD i 0 :: A.drop (i + 1) ∧ (msk sp 0 (A.take i)).length = i ∧
  msk sp 0 (A.take (i + 1)) = msk sp 0 (A.take i) ++ [if (i : Int) ∈ sp then A.getD i 0 else 0] := by
 refine ⟨by rw [qaf hi 0],by rw [qib]; simp; omega,?_⟩
 rw [qcE hi,qiC]
 have : 0 + (A.take i).length = i := by simp; omega
 rw [this]
theorem qef (l sp : LI) (A : LI) (hA : A.length ≤ 8) (hs : sp.length ≤ 17592186044415) (K : Nat) (hK : sp.length < K) : ∀ (d i n : Nat),A.length = i + d → d < n →
  qaX.l0 K n l sp A.length i (msk sp 0 (A.take i) ++ A.drop i) = some (msk sp 0 A)
 | 0,i,n,hi,hn => by
  obtain ⟨n,rfl⟩ : ∃ m,n = m + 1 := ⟨n - 1,by omega⟩
  rw [qaX.l0,if_neg (by omega),List.take_of_length_le (by omega),List.drop_eq_nil_of_le (by omega),List.append_nil]
 | d + 1,i,n,hi,hn => by
  obtain ⟨n,rfl⟩ : ∃ m,n = m + 1 := ⟨n - 1,by omega⟩
  obtain ⟨h1,h2,h3⟩ := qf6 sp A (show i < A.length by omega)
  have ih := qef l sp A hA hs K hK d (i + 1) n (by omega) (by omega)
  rw [h3] at ih
  have hset := fun x => qjk (msk sp 0 (A.take i)) (A.drop (i + 1)) (A.getD i 0) x
  rw [h2] at hset
  rw [h1,qaX.l0,if_pos (by omega),qcG sp _ (by omega) K hK,obs,qag (by omega) (by omega),show (i : Int) + 1 = ((i + 1 : Nat) : Int) by omega]
  by_cases c : (i : Int) ∈ sp
  ·rw [if_pos (by simpa using c)]
   rw [if_pos c,List.append_assoc] at ih
   exact ih
  ·rw [if_neg (by simpa using c),if_pos (by simp [h2]; omega),Int.toNat_natCast,if_pos (by simp [h2]),hset]
   rw [if_neg c] at ih
   exact ih
theorem qcx (l sp : LI) (x : Int) (a b : Int) (y : LI) (hs : sp.length ≤ 17592186044415) : ∀ (d j : Nat) (c : Bool) (n : Nat),sp.length = j + d → d < n →
  qaq.l1 n l sp x c a b sp.length j y = some (c || decide (x ∈ sp.drop j))
 | 0,j,c,n,hj,hn => by
  obtain ⟨n,rfl⟩ : ∃ m,n = m + 1 := ⟨n - 1,by omega⟩
  rw [qaq.l1,if_neg (by omega),List.drop_eq_nil_of_le (by omega)]; simp
 | d + 1,j,c,n,hj,hn => by
  obtain ⟨n,rfl⟩ : ∃ m,n = m + 1 := ⟨n - 1,by omega⟩
  rw [qaq.l1,if_pos (by omega),qag (by omega) (by omega),show (j : Int) + 1 = ((j + 1 : Nat) : Int) by omega,qaf (show j < sp.length by omega) 0]
  cases c with
  | true => rw [if_pos rfl,qcx l sp x a b y hs d (j + 1) true n (by omega) (by omega)]; simp
  | false =>
   rw [if_neg (by simp),if_pos (by omega),Int.toNat_natCast,qcx l sp x a b y hs d (j + 1) _ n (by omega) (by omega)]
   generalize sp.getD j 0 = z
   by_cases h : z = x
   ·subst h; simp
   ·have h' : x ≠ z := Ne.symm h
    simp [h,h']
theorem qdz (l sp : LI) (A : LI) (hA : A.length ≤ 8) (hs : sp.length ≤ 17592186044415) (K : Nat) : ∀ (d i n : Nat),A.length = i + d → d + sp.length + 2 < n →
  qaq.l0 K n l sp A.length i (msk sp 0 (A.take i) ++ A.drop i) = some (msk sp 0 A)
 | 0,i,n,hi,hn => by
  obtain ⟨n,rfl⟩ : ∃ m,n = m + 1 := ⟨n - 1,by omega⟩
  rw [qaq.l0,if_neg (by omega),List.take_of_length_le (by omega),List.drop_eq_nil_of_le (by omega),List.append_nil]
 | d + 1,i,n,hi,hn => by
  obtain ⟨n,rfl⟩ : ∃ m,n = m + 1 := ⟨n - 1,by omega⟩
  obtain ⟨h1,h2,h3⟩ := qf6 sp A (show i < A.length by omega)
  have ih := qdz l sp A hA hs K d (i + 1) n (by omega) (by omega)
  rw [h3] at ih
  have hset := fun x => qjk (msk sp 0 (A.take i)) (A.drop (i + 1)) (A.getD i 0) x
  rw [h2] at hset
  have hin := qcx l sp i A.length i (msk sp 0 (A.take i) ++ A.getD i 0 :: A.drop (i + 1)) hs sp.length 0 false n (by omega) (by omega)
  rw [n0,drop0] at hin
  rw [h1,qaq.l0,if_pos (by omega),hin,obs,qag (by omega) (by omega),show (i : Int) + 1 = ((i + 1 : Nat) : Int) by omega]
  by_cases c : (i : Int) ∈ sp
  ·rw [if_pos (by simpa using c)]
   rw [if_pos c,List.append_assoc] at ih
   exact ih
  ·rw [if_neg (by simpa using c),if_pos (by simp [h2]; omega),Int.toNat_natCast,if_pos (by simp [h2]),hset]
   rw [if_neg c] at ih
   exact ih
theorem qht (l sp : LI) (d : Int) (hs : sp.length ≤ 17592186044415) (k : Nat) (hk : sp.length + 10 ≤ k) : qaX.f k l sp d = some (mF l sp d) := by
 unfold qaX.f mF
 rw [qco l sp _ (by omega) k hk,obs]
 by_cases h : mSp l sp sp.length = true
 ·rw [if_pos h,qbs l k (by omega)]
  by_cases c1 : d < 0
  ·rw [if_pos c1,if_neg (by omega)]
  by_cases c2 : mD l ≤ d
  ·rw [if_neg c1,obs,if_pos c2,if_neg (by omega)]
  have hl := qg7 (show 0 ≤ d by omega) (show d < mD l by omega)
  have := qef l sp (atM l d) (by rw [qcy]; omega) hs k (by omega) (atM l d).length 0 k (by omega) (by rw [qcy]; omega)
  rw [n0,drop0] at this
  rw [if_neg c1,obs,if_neg c2,qhF l d k (by omega),obs,qiF (by omega) (by omega),show qaX.l0 k k l sp (atM l d).length 0 (atM l d) = _ from this,obs,qjx _ _ k (by omega),if_pos ⟨h,by omega,by omega⟩]
  rfl
 ·rw [if_neg h,if_neg (fun c => h c.1)]
theorem qg2 (l sp : LI) (d : Int) (hs : sp.length ≤ 17592186044415) (k : Nat) (hk : sp.length + sp.length + 20 ≤ k) : qaq.f k l sp d = some (mF l sp d) := by
 unfold qaq.f mF
 by_cases c1 : d < 0
 ·rw [if_pos c1,if_neg (by omega)]
 rw [if_neg c1,qa2 l k (by omega),obs]
 by_cases c2 : mD l ≤ d
 ·rw [if_pos c2,if_neg (by omega)]
 rw [if_neg c2,qct l sp _ (by omega) k (by omega),obs]
 by_cases h : mSp l sp sp.length = true
 ·have hl := qg7 (show 0 ≤ d by omega) (show d < mD l by omega)
  have := qdz l sp (atM l d) (by rw [qcy]; omega) hs k (atM l d).length 0 k (by omega) (by rw [qcy]; omega)
  rw [n0,drop0] at this
  rw [if_pos h,qgx l d k (by omega),obs,qiF (by omega) (by omega),show qaq.l0 k k l sp (atM l d).length 0 (atM l d) = _ from this,obs,qiZ _ _ k (by omega),if_pos ⟨h,by omega,by omega⟩]
  rfl
 ·rw [if_neg h,if_neg (fun c => h c.1)]
theorem qbU (n : Int) (L : LI) (hL : L.length ≤ 17592186044415) (hw : ∀ x ∈ L,-9223372036854775808 ≤ x ∧ x < 9223372036854775808) (p : Int) (h0 : 0 ≤ p) (hp : p ≤ 17592186044415) (hn : 1 ≤ n) : ∃ r q,qaC.f n L p = some (r,q) ∧ 0 ≤ r ∧ r < n ∧ 0 ≤ q ∧ q ≤ 17592186044415 ∧ p ≤ q ∧ q ≤ p + 1 := by
 unfold qaC.f
 by_cases c : (L.length : Int) ≤ p
 ·rw [if_pos c]; exact ⟨_,_,rfl,by omega,by omega,h0,hp,by omega,by omega⟩
 rw [if_neg c,if_neg (by omega),qag (n := p + 1) (by omega) (by omega),show p + 1 - 1 = p by omega,qag (n := p) (by omega) (by omega),if_pos ⟨h0,by omega⟩]
 have hx := hw _ (qap (show p.toNat < L.length by omega) 0)
 generalize L.getD p.toNat 0 = x at hx
 have key : ∃ r,qcl.f x 0 1073741824 = some r ∧ 0 ≤ r := by
  unfold qcl.f
  rw [qag (n := 1073741824 - 0) (by omega) (by omega),qag (n := 1073741824 - 0 + 1) (by omega) (by omega)]
  have t2 := Int.lt_tmod_of_pos x (show (0 : Int) < 1073741824 - 0 + 1 by omega)
  have t3 := Int.tmod_lt_of_pos x (show (0 : Int) < 1073741824 - 0 + 1 by omega)
  have k2 : ∃ r,(if (1073741824 - 0 + 1 : Int) ≠ 0 then if x.tmod (1073741824 - 0 + 1) < 0 then some (IntKind.i64.wrap (0 + (IntKind.i64.wrap ((IntKind.i64.wrap ((IntKind.i64.wrap ((x.tmod (1073741824 - 0 + 1)) + 1073741824)) - 0)) + 1)))) else some (IntKind.i64.wrap (0 + (x.tmod (1073741824 - 0 + 1)))) else none) = some r ∧ 0 ≤ r := by
   rw [if_pos (by omega)]
   split
   ·rw [qag (n := x.tmod (1073741824 - 0 + 1) + 1073741824) (by omega) (by omega),qag (n := x.tmod (1073741824 - 0 + 1) + 1073741824 - 0) (by omega) (by omega),qag (n := x.tmod (1073741824 - 0 + 1) + 1073741824 - 0 + 1) (by omega) (by omega),qag (by omega) (by omega)]
    exact ⟨_,rfl,by omega⟩
   ·rw [qag (by omega) (by omega)]
    exact ⟨_,rfl,by omega⟩
  split
  ·split
   ·exact ⟨_,rfl,by omega⟩
   ·exact k2
  ·exact k2
 obtain ⟨r,hr,hr0⟩ := key
 rw [hr,obs,if_pos (by omega)]
 refine ⟨_,_,rfl,?_,?_,by omega,by omega,by omega,by omega⟩
 ·rw [Int.tmod_eq_emod_of_nonneg hr0]; exact Int.emod_nonneg _ (by omega)
 ·rw [Int.tmod_eq_emod_of_nonneg hr0]; exact Int.emod_lt_of_pos _ (by omega)
theorem qfS {m : Int} (x : Int) : ∀ (r pre : LI),okGo m pre (r ++ [x]) = (okGo m pre r && (decide (-1 ≤ x) && decide (x < m) && (decide (x = -1) || !decide (x ∈ pre ++ r))))
 | [],pre => by simp [okGo]
 | k :: r,pre => by
  show (decide (-1 ≤ k) && decide (k < m) && (decide (k = -1) || !decide (k ∈ pre)) && okGo m (pre ++ [k]) (r ++ [x])) = (decide (-1 ≤ k) && decide (k < m) && (decide (k = -1) || !decide (k ∈ pre)) && okGo m (pre ++ [k]) r && _)
  rw [qfS x r (pre ++ [k]),List.append_assoc]
  simp only [List.singleton_append,Bool.and_assoc]
theorem qhr (m : LI) (hm : m.length ≤ 3) (L : LI) (hL : L.length ≤ 17592186044415) (hw : ∀ x ∈ L,-9223372036854775808 ≤ x ∧ x < 9223372036854775808) (N : Nat) (hN : N ≤ 5) : ∀ (d i : Nat) (p : Int) (y1 : LI) (y2 : List Bool) (n : Nat),N = i + d → 0 ≤ p → p ≤ 17592186000000 - 2 * d → y1.length = N → y2.length = m.length → okGo m.length [] (y1.take i) = true → (∀ j : Nat,j < m.length → (y2.getD j false = true ↔ (j : Int) ∈ y1.take i)) → d < n →
    ∃ q s,qas.l0 n m N i L p y1 y2 = some (q,s) ∧ s.length = N ∧ okGo m.length [] s = true ∧ 0 ≤ q ∧ q ≤ p + 2 * d := by
  intro d
  induction d with
  | zero =>
    intro i p y1 y2 n hi h0 hp h1 h2 hok hu hn
    obtain ⟨n,rfl⟩ : ∃ m,n = m + 1 := ⟨n - 1,by omega⟩
    rw [qas.l0,if_neg (by omega)]
    rw [List.take_of_length_le (by omega)] at hok
    exact ⟨_,_,rfl,h1,hok,h0,by omega⟩
  | succ d IH =>
    intro i p y1 y2 n hi h0 hp h1 h2 hok hu hn
    obtain ⟨n,rfl⟩ : ∃ m,n = m + 1 := ⟨n - 1,by omega⟩
    have htake : ∀ x : Int,(y1.set i x).take (i + 1) = y1.take i ++ [x] := fun x => by
      rw [List.take_set,List.take_add_one,List.getElem?_eq_getElem (by omega)]
      have : (y1.take i).length = i := by simp; omega
      rw [List.set_append,if_neg (by omega),this,Nat.sub_self]; rfl
    have hidx : (i : Int) + 1 = ((i + 1 : Nat) : Int) := by omega
    rw [qas.l0,if_pos (by omega),if_pos (by omega),Int.toNat_natCast,if_pos (by omega),qag (n := (i : Int) + 1) (by omega) (by omega),hidx]
    -- without an axis
    have stay : ∀ q,0 ≤ q → q ≤ p + 2 → ∃ q' s,qas.l0 n m N ((i + 1 : Nat) : Int) L q (y1.set i (-1)) y2 = some (q',s) ∧ s.length = N ∧ okGo m.length [] s = true ∧ 0 ≤ q' ∧ q' ≤ q + 2 * d := fun q hq hq2 => by
      refine IH (i + 1) q (y1.set i (-1)) y2 n (by omega) hq (by omega) (by simpa using h1) h2 ?_ (fun j hj => ?_) (by omega)
      · rw [htake,qfS,hok]; simp; omega
      · rw [htake,List.mem_append,hu j hj]; simp
    by_cases c0 : 0 < (m.length : Int)
    · rw [if_pos c0]
      obtain ⟨r,q,e1,r0,r1,q0,q1,q2,q3⟩ := qbU 2 L hL hw p h0 (by omega) (by omega)
      rw [e1,obs]
      dsimp only
      by_cases c1 : r = 0
      · rw [if_pos c1]
        obtain ⟨r',q',e1',r0',r1',q0',q1',q2',q3'⟩ := qbU m.length L hL hw q q0 (by omega) (by omega)
        rw [e1',obs]
        dsimp only
        rw [if_pos ⟨r0',by omega⟩,if_pos (by omega)]
        by_cases c2 : y2.getD r'.toNat false = true
        · rw [if_pos c2]
          obtain ⟨q'',s,g1,g2,g3,g4,g5⟩ := stay q' q0' (by omega)
          exact ⟨q'',s,g1,g2,g3,g4,by omega⟩
        · rw [if_neg c2,if_pos (by simp; omega),if_pos (by simp; omega),List.set_set]
          have hnot : r' ∉ y1.take i := fun h => c2 ((hu r'.toNat (by omega)).2 (by rw [show ((r'.toNat : Nat) : Int) = r' by omega]; exact h))
          obtain ⟨q'',s,g1,g2,g3,g4,g5⟩ := IH (i + 1) q' (y1.set i r') (y2.set r'.toNat true) n (by omega) q0' (by omega) (by simpa using h1) (by simpa using h2) (by
            rw [htake,qfS,hok]; simp [hnot]; omega) (fun j hj => by
            rw [htake,List.mem_append,← hu j hj,List.getD_eq_getElem?_getD,List.getD_eq_getElem?_getD,List.getElem?_set]
            by_cases hjr : r'.toNat = j
            · subst hjr
              rw [if_pos rfl,if_pos (by omega)]
              simp; omega
            · rw [if_neg hjr]
              simp
              omega) (by omega)
          exact ⟨q'',s,g1,g2,g3,g4,by omega⟩
      · rw [if_neg c1]
        obtain ⟨q'',s,g1,g2,g3,g4,g5⟩ := stay q q0 (by omega)
        exact ⟨q'',s,g1,g2,g3,g4,by omega⟩
    · rw [if_neg c0]
      obtain ⟨q'',s,g1,g2,g3,g4,g5⟩ := stay p h0 (by omega)
      exact ⟨q'',s,g1,g2,g3,g4,by omega⟩
theorem qji (m : LI) (hm : m.length ≤ 3) (L : LI) (hL : L.length ≤ 17592186044415) (hw : ∀ x ∈ L,-9223372036854775808 ≤ x ∧ x < 9223372036854775808) (N : Int) (hN0 : 0 ≤ N) (hN : N ≤ 5) (p : Int) (h0 : 0 ≤ p) (hp : p ≤ 17592185999000) (k : Nat) (hk : 10 ≤ k) :
  ∃ q s,qas.f k m N L p = some (q,s) ∧ (s.length : Int) = N ∧ okGo m.length [] s = true ∧ 0 ≤ q ∧ q ≤ p + 10 := by
 unfold qas.f
 obtain ⟨q,s,g1,g2,g3,g4,g5⟩ := qhr m hm L hL hw N.toNat (by omega) N.toNat 0 p (List.replicate N.toNat 0) (List.replicate m.length false) k (by omega) h0 (by omega) (by simp) (by simp) rfl (fun j hj => by
  rw [List.getD_eq_getElem?_getD,List.getElem?_replicate]; simp [hj]) (by omega)
 rw [n0] at g1
 rw [if_pos (by omega),if_pos (by omega),Int.toNat_natCast,List.length_replicate,g1,obs]
 exact ⟨q,s,rfl,by omega,g3,g4,by omega⟩
def rangeI (m : Nat) : LI := (List.range (m + 1)).map fun i : Nat => (i : Int) - 1
def allL (m : Nat) : Nat → List LI
 | 0 => [[]]
 | n + 1 => (rangeI m).flatMap fun x : Int => (allL m n).map (x :: ·)
theorem qg5 {m : Nat} : ∀ {s : LI},(∀ x ∈ s,-1 ≤ x ∧ x < (m : Int)) → s ∈ allL m s.length
 | [],_ => by simp [allL]
 | x :: r,h => by
  have hx := h x (by simp)
  refine List.mem_flatMap.2 ⟨x,?_,List.mem_map_of_mem (qg5 fun y hy => h y (by simp [hy]))⟩
  exact List.mem_map.2 ⟨(x + 1).toNat,List.mem_range.2 (by omega),by omega⟩
theorem qkX {m s : LI} (h : mR m = true) (hok : okGo m.length [] s = true) (r : Int) (hr : (s.length : Int) = r) : mSp m s r = true := by simp [mSp,h,hok,hr]
end Go.Pf

namespace Go.Pf
open Go Go.Vm
def mWd (n k : Int) : Int := if n < 1 ∨ k < 1 then 0 else (n - 1) / k + 1
theorem qhp (n k : Int) (hn : -9223372036854775808 ≤ n ∧ n < 9223372036854775808) : qcC.f n k = some (mWd n k) := by
 unfold qcC.f mWd
 by_cases c1 : n < 0
 ·rw [if_pos c1,if_pos (by omega)]
 by_cases c2 : k < 1
 ·rw [if_neg c1,if_pos c2,if_pos (by omega)]
 by_cases c3 : n = 0
 ·rw [if_neg c1,if_neg c2,if_pos c3,if_pos (by omega)]
 have h1 : 0 ≤ (n - 1) / k := Int.ediv_nonneg (by omega) (by omega)
 have h2 : (n - 1) / k ≤ n - 1 := Int.ediv_le_self _ (by omega)
 rw [if_neg c1,if_neg c2,if_neg c3,if_pos (by omega),if_neg (by omega),qag (n := n - 1) (by omega) (by omega),Int.tdiv_eq_ediv_of_nonneg (by omega),qag (n := (n - 1) / k) (by omega) (by omega),qag (by omega) (by omega)]
theorem qg6 {n k : Int} (hn : 1 ≤ n) (hk : 1 ≤ k) : 1 ≤ mWd n k ∧ mWd n k ≤ n ∧ n ≤ mWd n k * k := by
 unfold mWd
 rw [if_neg (by omega)]
 have h1 : 0 ≤ (n - 1) / k := Int.ediv_nonneg (by omega) (by omega)
 have h2 : (n - 1) / k ≤ n - 1 := Int.ediv_le_self _ (by omega)
 refine ⟨by omega,by omega,?_⟩
 have h3 := Int.emod_add_mul_ediv (n - 1) k
 have h4 := Int.emod_lt_of_pos (n - 1) (show 0 < k by omega)
 rw [Int.add_mul,Int.one_mul,Int.mul_comm]
 omega
theorem qe4 {w i n : Int} (hw : 1 ≤ w) (hi : 0 ≤ i) (hn : 0 ≤ n) (hn2 : n < 9223372036854775808) (hw2 : w ≤ n) : qb7.f w i n = some (min (w * i) n) := by
 unfold qb7.f
 have h0 : 0 ≤ n / w := Int.ediv_nonneg hn (by omega)
 have h1 : n / w ≤ n := Int.ediv_le_self _ hn
 rw [if_pos (by omega),if_pos (by omega),Int.tdiv_eq_ediv_of_nonneg hn,qag (by omega) (by omega)]
 have h2 := Int.emod_add_mul_ediv n w
 have h3 := Int.emod_lt_of_pos n (show 0 < w by omega)
 have h5 := Int.emod_nonneg n (show w ≠ 0 by omega)
 by_cases c : n / w < i
 ·rw [if_pos c]
  have h4 : w * (n / w + 1) ≤ w * i := Int.mul_le_mul_of_nonneg_left (by omega) (by omega)
  rw [Int.mul_add,Int.mul_one] at h4
  congr 1; omega
 ·have h4 : w * i ≤ w * (n / w) := Int.mul_le_mul_of_nonneg_left (by omega) (by omega)
  have h6 : 0 ≤ w * i := Int.mul_nonneg (by omega) hi
  rw [if_neg c,qag (n := w * i) (by omega) (by omega)]
  congr 1
  split <;> omega
def mCut (n k i : Int) : Int × Int := if n < 1 ∨ i < 0 ∨ k ≤ i then (0,0) else (min (mWd n k * i) n,min (mWd n k * (i + 1)) n)
theorem qiV (n k i : Int) (hn : 0 ≤ n ∧ n < 9223372036854775808) (hk : 1 ≤ k) (hk2 : k < 9223372036854775808) : qd7.f n k i = some (mCut n k i) := by
 unfold qd7.f mCut
 rw [qhp n k (by omega),obs]
 by_cases c0 : n < 1
 ·rw [if_pos (by rw [mWd,if_pos (by omega)]),if_pos (.inl c0)]
 obtain ⟨h1,h2,h3⟩ := qg6 (show 1 ≤ n by omega) hk
 rw [if_neg (by omega)]
 by_cases c1 : i < 0
 ·rw [if_pos c1,if_pos (by omega)]
 by_cases c2 : k ≤ i
 ·rw [if_neg c1,if_pos c2,if_pos (by omega)]
 rw [if_neg c1,if_neg c2,qe4 h1 (by omega) hn.1 hn.2 h2,obs,qag (n := i + 1) (by omega) (by omega),qe4 h1 (by omega) hn.1 hn.2 h2,obs,if_neg (by omega)]
def pr : LI → Int
 | [] => 1
 | x :: r => x * pr r
def okS (x : Int) : Bool := decide (0 ≤ x) && decide (x ≤ 32)
def mSR (l : LI) : Bool := decide (l.length ≤ 4) && l.all okS && decide (pr l ≤ 4096)
theorem qcU {x : Int} : okS x = true ↔ 0 ≤ x ∧ x ≤ 32 := by simp [okS]
theorem p32 {i : Nat} (h : i ≤ 4) : (1 : Int) ≤ 32 ^ i ∧ (32 : Int) ^ i ≤ 1048576 := by
 rcases (show i = 0 ∨ i = 1 ∨ i = 2 ∨ i = 3 ∨ i = 4 by omega) with e | e | e | e | e <;> subst e <;> decide
theorem qds (l : LI) (hl : l.length ≤ 4) : ∀ (d i : Nat) (p : Int) (n : Nat),l.length = i + d → 0 ≤ p → p ≤ 32 ^ i → d < n →
  qaE.l0 n p l l.length i = some (if (l.drop i).all okS = true then .inl (p * pr (l.drop i)) else .inr false)
 | 0,i,p,n,hi,h1,h2,hn => by
  obtain ⟨n,rfl⟩ : ∃ m,n = m + 1 := ⟨n - 1,by omega⟩
  rw [qaE.l0,if_neg (by omega),List.drop_eq_nil_of_le (by omega)]
  simp [pr]
 | d + 1,i,p,n,hi,h1,h2,hn => by
  obtain ⟨n,rfl⟩ : ∃ m,n = m + 1 := ⟨n - 1,by omega⟩
  rw [qaE.l0,if_pos (by omega),if_pos (by omega),Int.toNat_natCast,qaf (show i < l.length by omega) 0]
  generalize l.getD i 0 = x
  by_cases c1 : x < 0
  ·rw [if_pos c1]; simp [qcU]; omega
  by_cases c2 : 32 < x
  ·rw [if_neg c1,if_pos c2]; simp [qcU]; omega
  have hx : okS x = true := qcU.2 (by omega)
  have h8 := p32 (show i + 1 ≤ 4 by omega)
  have e8 : (32 : Int) ^ (i + 1) = 32 ^ i * 32 := Int.pow_succ ..
  have hm : 0 ≤ p * x ∧ p * x ≤ 32 ^ (i + 1) := ⟨Int.mul_nonneg h1 (by omega),by rw [e8]; exact Int.mul_le_mul h2 (by omega) (by omega) (by omega)⟩
  rw [if_neg c1,if_neg c2,qag (n := p * x) (by omega) (by omega),qag (n := (i : Int) + 1) (by omega) (by omega)]
  have := qds l hl d (i + 1) (p * x) n (by omega) hm.1 hm.2 (by omega)
  rw [show (i : Int) + 1 = ((i + 1 : Nat) : Int) by omega,this]
  simp [hx,pr,Int.mul_assoc]
theorem qbB (l : LI) (k : Nat) (hk : 10 ≤ k) : qaE.f k l = some (mSR l) := by
 unfold qaE.f
 by_cases h : 4 < (l.length : Int)
 ·rw [if_pos h]; simp [mSR]; omega
 ·have := qds l (by omega) l.length 0 1 k (by omega) (by omega) (by simp) (by omega)
  rw [if_neg h,show (0 : Int) = ((0 : Nat) : Int) from rfl,this]
  have hl : l.length ≤ 4 := by omega
  by_cases ha : l.all okS = true
  ·simp [ha,mSR,hl]
  ·simp [ha,mSR]
theorem qak {l : LI} (h : mSR l = true) : l.length ≤ 4 ∧ (∀ x ∈ l,0 ≤ x ∧ x ≤ 32) ∧ pr l ≤ 4096 := by
 unfold mSR at h
 simp only [Bool.and_eq_true,decide_eq_true_eq] at h
 exact ⟨h.1.1,fun x hx => qcU.1 (List.all_eq_true.1 h.1.2 x hx),h.2⟩
def tl1 (m A : LI) (x k : Int) : Int × Int := if 0 ≤ k then mCut x (m.getD k.toNat 0) (A.getD k.toNat 0) else (0,x)
def mTile (sh m sp : LI) (d : Int) : List (Int × Int) := List.zipWith (tl1 m (atM m d)) sh sp
theorem qcA {f : Int → Int → Int × Int} {a b : LI} {i : Nat} (ha : i < a.length) (hb : i < b.length) : List.zipWith f (a.take (i + 1)) (b.take (i + 1)) = List.zipWith f (a.take i) (b.take i) ++ [f (a.getD i 0) (b.getD i 0)] := by
 rw [qcE ha,qcE hb,List.zipWith_append (by simp; omega)]; rfl
theorem qe5 (sh m sp A : LI) (hsh : ∀ x ∈ sh,0 ≤ x ∧ x ≤ 32) (hlen : sp.length = sh.length) (h4 : sh.length ≤ 4) (hA : A.length = m.length) (hm : ∀ x ∈ m,1 ≤ x ∧ x ≤ 8) (hsp : ∀ x ∈ sp,-1 ≤ x ∧ x < (m.length : Int)) : ∀ (d i n : Nat),sp.length = i + d → d < n →
  qa5.l0 n sh m sp sp.length i A (List.zipWith (tl1 m A) (sh.take i) (sp.take i)) = some (List.zipWith (tl1 m A) sh sp)
 | 0,i,n,hi,hn => by
  obtain ⟨n,rfl⟩ : ∃ m,n = m + 1 := ⟨n - 1,by omega⟩
  rw [qa5.l0,if_neg (by omega),List.take_of_length_le (by omega),List.take_of_length_le (by omega)]
 | d + 1,i,n,hi,hn => by
  obtain ⟨n,rfl⟩ : ∃ m,n = m + 1 := ⟨n - 1,by omega⟩
  have ih := qe5 sh m sp A hsh hlen h4 hA hm hsp d (i + 1) n (by omega) (by omega)
  rw [qcA (by omega) (by omega)] at ih
  have hk := hsp _ (qap (show i < sp.length by omega) 0)
  have hx := hsh _ (qap (show i < sh.length by omega) 0)
  have hl : (List.zipWith (tl1 m A) (sh.take i) (sp.take i)).length ≤ 4 := by simp; omega
  rw [qa5.l0,if_pos (by omega),if_pos (by omega),if_pos (by omega),Int.toNat_natCast,qag (n := (i : Int) + 1) (by omega) (by omega),show (i : Int) + 1 = ((i + 1 : Nat) : Int) by omega]
  generalize sp.getD i 0 = k at ih hk ⊢
  generalize sh.getD i 0 = x at ih hx ⊢
  by_cases c : 0 ≤ k
  ·have hmk := hm _ (qap (show k.toNat < m.length by omega) 0)
   rw [if_pos c,if_pos (by omega),if_pos (by omega),if_pos (by omega),qiV _ _ _ (by omega) hmk.1 (by omega),obs,if_pos (by simp only [List.length_singleton]; omega)]
   rw [show tl1 m A x k = mCut x (m.getD k.toNat 0) (A.getD k.toNat 0) by rw [tl1,if_pos c]] at ih
   exact ih
  ·rw [if_neg c,if_pos (by simp only [List.length_singleton]; omega)]
   rw [show tl1 m A x k = (0,x) by rw [tl1,if_neg c]] at ih
   exact ih
theorem qfT {m : LI} (h : mR m = true) : ∀ x ∈ m,1 ≤ x ∧ x ≤ 8 := fun x hx => qbx.1 (List.all_eq_true.1 (qch h).2.1 x hx)
theorem qfB {sh m sp : LI} {d : Int} (h1 : mSR sh = true) (h2 : mSp m sp sh.length = true) (h3 : 0 ≤ d) (h4 : d < mD m) (k : Nat) (hk : 30 ≤ k) : qa5.f k sh m sp d = some (true,mTile sh m sp d) := by
 obtain ⟨s1,s2,s3⟩ := qak h1
 obtain ⟨p1,p2,p3⟩ := qbn h2
 have := qe5 sh m sp (atM m d) s2 (by omega) s1 (qcy m d) (qfT p1) (qcu p3) sp.length 0 k (by omega) (by omega)
 unfold qa5.f
 rw [n0] at this
 rw [qbB sh k (by omega),obs,if_pos h1,qco m sp _ (by omega) k (by omega),obs,if_pos h2,if_neg (by omega),qbs m k (by omega),obs,if_neg (by omega),qhF m d k (by omega),obs,qiF h3 h4,
  show qa5.l0 k sh m sp sp.length 0 (atM m d) [] = _ from this,obs]
 rfl
theorem qe6 (y : List (Int × Int)) (hy : y.length ≤ 100) (hb : ∀ p ∈ y,0 ≤ p.1 ∧ p.1 ≤ 100 ∧ 0 ≤ p.2 ∧ p.2 ≤ 100) : ∀ (d i n : Nat),y.length = i + d → d < n →
  qa8.l0 n y.length i ((y.take i).map fun p => p.2 - p.1) y = some (y.map fun p => p.2 - p.1)
 | 0,i,n,hi,hn => by
  obtain ⟨n,rfl⟩ : ∃ m,n = m + 1 := ⟨n - 1,by omega⟩
  rw [qa8.l0,if_neg (by omega),List.take_of_length_le (by omega)]
 | d + 1,i,n,hi,hn => by
  obtain ⟨n,rfl⟩ : ∃ m,n = m + 1 := ⟨n - 1,by omega⟩
  have ih := qe6 y hy hb d (i + 1) n (by omega) (by omega)
  have hx := hb _ (qap (show i < y.length by omega) (0,0))
  have ht : y.take (i + 1) = y.take i ++ [y.getD i (0,0)] := by
   rw [List.take_add_one,List.getD_eq_getElem?_getD,List.getElem?_eq_getElem (by omega)]; rfl
  rw [ht,List.map_append] at ih
  rw [qa8.l0,if_pos (by omega),if_pos (by omega),Int.toNat_natCast,if_pos (by omega),if_pos (by simp; omega),qag (n := (i : Int) + 1) (by omega) (by omega),show (i : Int) + 1 = ((i + 1 : Nat) : Int) by omega,qag (by omega) (by omega)]
  exact ih
theorem qe7 (y : List (Int × Int)) (hy : y.length ≤ 100) : ∀ (d i n : Nat),y.length = i + d → d < n →
  qa1.l0 n y.length i ((y.take i).map fun p => p.1) y = some (y.map fun p => p.1)
 | 0,i,n,hi,hn => by
  obtain ⟨n,rfl⟩ : ∃ m,n = m + 1 := ⟨n - 1,by omega⟩
  rw [qa1.l0,if_neg (by omega),List.take_of_length_le (by omega)]
 | d + 1,i,n,hi,hn => by
  obtain ⟨n,rfl⟩ : ∃ m,n = m + 1 := ⟨n - 1,by omega⟩
  have ih := qe7 y hy d (i + 1) n (by omega) (by omega)
  have ht : y.take (i + 1) = y.take i ++ [y.getD i (0,0)] := by
   rw [List.take_add_one,List.getD_eq_getElem?_getD,List.getElem?_eq_getElem (by omega)]; rfl
  rw [ht,List.map_append] at ih
  rw [qa1.l0,if_pos (by omega),if_pos (by omega),Int.toNat_natCast,if_pos (by omega),if_pos (by simp; omega),qag (n := (i : Int) + 1) (by omega) (by omega),show (i : Int) + 1 = ((i + 1 : Nat) : Int) by omega]
  exact ih
theorem qg8 {x k i : Int} (hx : 0 ≤ x) (hk : 1 ≤ k) : 0 ≤ (mCut x k i).1 ∧ (mCut x k i).1 ≤ (mCut x k i).2 ∧ (mCut x k i).2 ≤ x := by
 unfold mCut
 split
 ·simp; omega
 ·rename_i h
  obtain ⟨h1,h2,h3⟩ := qg6 (show 1 ≤ x by omega) hk
  have hq : 0 ≤ mWd x k * i := Int.mul_nonneg (by omega) (by omega)
  have hp : mWd x k * (i + 1) = mWd x k * i + mWd x k := by rw [Int.mul_add,Int.mul_one]
  dsimp only
  omega
theorem qiD {f : Int → Int → Int × Int} : ∀ {a b : LI} {p : Int × Int},p ∈ List.zipWith f a b → ∃ x k,x ∈ a ∧ k ∈ b ∧ p = f x k
 | [],_,_,h => by simp at h
 | _ :: _,[],_,h => by simp at h
 | x :: a,k :: b,p,h => by
  rw [List.zipWith_cons_cons] at h
  rcases List.mem_cons.1 h with rfl | h
  ·exact ⟨x,k,by simp,by simp,rfl⟩
  ·obtain ⟨y,l,h1,h2,h3⟩ := qiD h
   exact ⟨y,l,by simp [h1],by simp [h2],h3⟩
theorem qj2 {sh m sp : LI} {d : Int} (hsh : ∀ x ∈ sh,0 ≤ x ∧ x ≤ 32) (hm : ∀ x ∈ m,1 ≤ x ∧ x ≤ 8) (hsp : ∀ x ∈ sp,-1 ≤ x ∧ x < (m.length : Int)) : ∀ p ∈ mTile sh m sp d,0 ≤ p.1 ∧ p.1 ≤ 100 ∧ 0 ≤ p.2 ∧ p.2 ≤ 100 := by
 intro p hp
 unfold mTile at hp
 obtain ⟨x,k,hx,hk,rfl⟩ : ∃ x k,x ∈ sh ∧ k ∈ sp ∧ p = tl1 m (atM m d) x k := by
  exact qiD hp
 have hx := hsh x hx
 have hk := hsp k hk
 unfold tl1
 split
 ·have hmk := hm _ (qap (show k.toNat < m.length by omega) 0)
  have := qg8 (i := (atM m d).getD k.toNat 0) hx.1 hmk.1
  omega
 ·simp; omega
def mSz (sh m sp : LI) (d : Int) : LI := (mTile sh m sp d).map fun p => p.2 - p.1
theorem qhG {sh m sp : LI} {d : Int} (h : sp.length = sh.length) : (mTile sh m sp d).length = sh.length := by simp [mTile,h]
theorem qfC {sh m sp : LI} {d : Int} (h1 : mSR sh = true) (h2 : mSp m sp sh.length = true) (h3 : 0 ≤ d) (h4 : d < mD m) (k : Nat) (hk : 30 ≤ k) : qa8.f k sh m sp d = some (mSz sh m sp d) := by
 obtain ⟨s1,s2,s3⟩ := qak h1
 obtain ⟨p1,p2,p3⟩ := qbn h2
 have hl := qhG (sh := sh) (m := m) (sp := sp) (d := d) (by omega)
 have := qe6 (mTile sh m sp d) (by omega) (qj2 s2 (qfT p1) (qcu p3)) (mTile sh m sp d).length 0 k (by omega) (by omega)
 unfold qa8.f
 rw [qfB h1 h2 h3 h4 k hk,obs]
 rw [n0] at this
 dsimp only
 rw [show qa8.l0 k (mTile sh m sp d).length 0 [] (mTile sh m sp d) = _ from this]; rfl
theorem qfD {sh m sp : LI} {d : Int} (h1 : mSR sh = true) (h2 : mSp m sp sh.length = true) (h3 : 0 ≤ d) (h4 : d < mD m) (k : Nat) (hk : 30 ≤ k) : qa1.f k sh m sp d = some ((mTile sh m sp d).map fun p => p.1) := by
 obtain ⟨s1,s2,s3⟩ := qak h1
 obtain ⟨p1,p2,p3⟩ := qbn h2
 have hl := qhG (sh := sh) (m := m) (sp := sp) (d := d) (by omega)
 have := qe7 (mTile sh m sp d) (by omega) (mTile sh m sp d).length 0 k (by omega) (by omega)
 unfold qa1.f
 rw [qfB h1 h2 h3 h4 k hk,obs]
 rw [n0] at this
 dsimp only
 rw [show qa1.l0 k (mTile sh m sp d).length 0 [] (mTile sh m sp d) = _ from this]; rfl
def box : LI → List LI
 | [] => [[]]
 | p :: r => (List.range p.toNat).flatMap fun c : Nat => (box r).map ((c : Int) :: ·)
def tix (A : LI) (k : Int) : Int := if k < 0 then 0 else A.getD k.toNat 0
def chk16 (m s : LI) : Bool := (((List.range (mD m).toNat).map fun d : Nat => s.map (tix (atM m d))).isPerm ((List.replicate (mC m s).toNat (box (s.map (part1 m)))).flatten)) && decide (0 ≤ mC m s)
def T8 : LI := [1,2,3,4,5,0,7,2]
theorem T8_bd : ∀ x ∈ T8,0 ≤ x ∧ x ≤ 7 := by decide
theorem qkV : ∀ (l : LI),(∀ x ∈ l,0 ≤ x ∧ x ≤ 7) → 0 ≤ pr l ∧ pr l ≤ 7 ^ l.length
 | [],_ => by simp [pr]
 | x :: r,h => by
  have hx := h x (by simp)
  obtain ⟨h1,h2⟩ := qkV r fun y hy => h y (by simp [hy])
  show 0 ≤ x * pr r ∧ x * pr r ≤ 7 ^ (r.length + 1)
  refine ⟨Int.mul_nonneg hx.1 h1,?_⟩
  rw [Int.pow_succ,Int.mul_comm]
  exact Int.mul_le_mul h2 hx.2 hx.1 (Int.pow_nonneg (by omega))
theorem qgR (L : LI) (hL : L.length ≤ 17592186044415) (hw : ∀ x ∈ L,-9223372036854775808 ≤ x ∧ x < 9223372036854775808) : ∀ (d : Nat) (p : Int) (y : LI) (n : Nat),0 ≤ p → p ≤ 17592186000000 - d → y.length + d ≤ 3 → (∀ x ∈ y,0 ≤ x ∧ x ≤ 7) → d < n →
  ∃ q s,qaA.l0 n d L p y = some (q,s) ∧ s.length = y.length + d ∧ (∀ x ∈ s,0 ≤ x ∧ x ≤ 7) ∧ 0 ≤ q ∧ q ≤ p + d := by
 intro d
 induction d with
 | zero =>
  intro p y n h0 hp hy hb hn
  obtain ⟨n,rfl⟩ : ∃ m,n = m + 1 := ⟨n - 1,by omega⟩
  rw [qaA.l0,if_neg (by omega)]
  exact ⟨_,_,rfl,rfl,hb,h0,by omega⟩
 | succ d ih =>
  intro p y n h0 hp hy hb hn
  obtain ⟨n,rfl⟩ : ∃ m,n = m + 1 := ⟨n - 1,by omega⟩
  obtain ⟨r,q,e,r0,r1,q0,_,_,q1⟩ := qbU 8 L hL hw p h0 (by omega) (by omega)
  have hl : T8.length = 8 := rfl
  rw [qaA.l0,if_pos (by omega),e,obs,show ([1,2,3,4,5,0,7,2] : LI) = T8 from rfl]
  dsimp only
  rw [if_pos (by omega),if_pos (by omega),if_pos (by simp only [List.length_singleton]; omega),qag (by omega) (by omega),show (((d + 1 : Nat) : Int) - 1) = (d : Int) by omega]
  have hx := T8_bd _ (qap (show r.toNat < T8.length by omega) 0)
  obtain ⟨q',s,e2,h1,h2,h3,h4⟩ := ih q (y ++ [T8.getD r.toNat 0]) n q0 (by omega) (by simp only [List.length_append,List.length_singleton]; omega) (fun x hx' => by
   rcases List.mem_append.1 hx' with h | h
   ·exact hb x h
   ·rw [List.mem_singleton.1 h]; exact hx) (by omega)
  exact ⟨q',s,e2,by simp only [List.length_append,List.length_singleton] at h1; omega,h2,h3,by omega⟩
theorem qiW (L : LI) (hL : L.length ≤ 17592186044415) (hw : ∀ x ∈ L,-9223372036854775808 ≤ x ∧ x < 9223372036854775808) (p : Int) (h0 : 0 ≤ p) (hp : p ≤ 17592185990000) (k : Nat) (hk : 10 ≤ k) :
  ∃ q s,qaA.f k L p = some (q,s) ∧ s.length ≤ 3 ∧ (∀ x ∈ s,0 ≤ x ∧ x ≤ 7) ∧ 0 ≤ q ∧ q ≤ p + 4 := by
 unfold qaA.f
 obtain ⟨r,q,e,r0,r1,q0,_,_,q1⟩ := qbU 4 L hL hw p h0 (by omega) (by omega)
 rw [e,obs]
 dsimp only
 obtain ⟨q',s,e2,h1,h2,h3,h4⟩ := qgR L hL hw r.toNat q [] k q0 (by omega) (by simp only [List.length_nil]; omega) (fun x hx => by cases hx) (by omega)
 rw [show ((r.toNat : Nat) : Int) = r by omega] at e2
 rw [e2,obs]
 exact ⟨q',s,rfl,by simp only [List.length_nil] at h1; omega,h2,h3,by omega⟩
end Go.Pf

namespace Go.Pf
open Go Go.Vm
def zSz (s : LI) : Int := if mSR s = true then pr s else 0
theorem qeq (l : LI) : ∀ (d i : Nat) (p : Int) (n : Nat),l.length = i + d → i ≤ 4 → 0 ≤ p → p ≤ 32 ^ i → d < n →
  qaG.l0 n l p i = some (if (l.drop i).all okS = true ∧ l.length ≤ 4 then .inl (p * pr (l.drop i)) else .inr false)
 | 0,i,p,n,hi,h4,h1,h2,hn => by
  obtain ⟨n,rfl⟩ : ∃ m,n = m + 1 := ⟨n - 1,by omega⟩
  rw [qaG.l0,if_neg (by omega),List.drop_eq_nil_of_le (by omega)]
  simp [pr]; omega
 | d + 1,i,p,n,hi,h4,h1,h2,hn => by
  obtain ⟨n,rfl⟩ : ∃ m,n = m + 1 := ⟨n - 1,by omega⟩
  rw [qaG.l0,if_pos (by omega),if_pos (by omega),Int.toNat_natCast,qaf (show i < l.length by omega) 0]
  generalize l.getD i 0 = x
  by_cases c1 : x < 0
  ·rw [if_pos c1]; simp [qcU]; omega
  by_cases c2 : 32 < x
  ·rw [if_neg c1,if_pos c2]; simp [qcU]; omega
  have hx : okS x = true := qcU.2 (by omega)
  rw [if_neg c1,if_neg c2]
  by_cases c3 : 4 ≤ (i : Int)
  ·rw [if_pos c3]; simp; omega
  rw [if_neg c3]
  have h8 := p32 (show i + 1 ≤ 4 by omega)
  have e8 : (32 : Int) ^ (i + 1) = 32 ^ i * 32 := Int.pow_succ ..
  have hm : 0 ≤ p * x ∧ p * x ≤ 32 ^ (i + 1) := ⟨Int.mul_nonneg h1 (by omega),by rw [e8]; exact Int.mul_le_mul h2 (by omega) (by omega) (by omega)⟩
  rw [qag (n := p * x) (by omega) (by omega),qag (n := (i : Int) + 1) (by omega) (by omega)]
  have := qeq l d (i + 1) (p * x) n (by omega) (by omega) hm.1 hm.2 (by omega)
  rw [show (i : Int) + 1 = ((i + 1 : Nat) : Int) by omega,this]
  simp [hx,pr,Int.mul_assoc]
theorem qc1 (l : LI) : ∀ (d i : Nat) (p : Int) (n : Nat),4 = i + d → 4 < l.length → 0 ≤ p → p ≤ 32 ^ i → d < n →
  qaG.l0 n l p i = some (.inr false)
 | 0,i,p,n,hi,h4,h1,h2,hn => by
  obtain ⟨n,rfl⟩ : ∃ m,n = m + 1 := ⟨n - 1,by omega⟩
  rw [qaG.l0,if_pos (by omega),if_pos (by omega)]
  repeat' split
  all_goals first | rfl | omega
 | d + 1,i,p,n,hi,h4,h1,h2,hn => by
  obtain ⟨n,rfl⟩ : ∃ m,n = m + 1 := ⟨n - 1,by omega⟩
  rw [qaG.l0,if_pos (by omega),if_pos (by omega),Int.toNat_natCast]
  generalize l.getD i 0 = x
  by_cases c1 : x < 0
  ·rw [if_pos c1]
  by_cases c2 : 32 < x
  ·rw [if_neg c1,if_pos c2]
  rw [if_neg c1,if_neg c2,if_neg (by omega)]
  have h8 := p32 (show i + 1 ≤ 4 by omega)
  have e8 : (32 : Int) ^ (i + 1) = 32 ^ i * 32 := Int.pow_succ ..
  have hm : 0 ≤ p * x ∧ p * x ≤ 32 ^ (i + 1) := ⟨Int.mul_nonneg h1 (by omega),by rw [e8]; exact Int.mul_le_mul h2 (by omega) (by omega) (by omega)⟩
  rw [qag (n := p * x) (by omega) (by omega),qag (n := (i : Int) + 1) (by omega) (by omega)]
  have := qc1 l d (i + 1) (p * x) n (by omega) (by omega) hm.1 hm.2 (by omega)
  rw [show (i : Int) + 1 = ((i + 1 : Nat) : Int) by omega,this]
theorem qcr (l : LI) (k : Nat) (hk : 10 ≤ k) : qaG.f k l = some (mSR l) := by
 unfold qaG.f
 by_cases h4 : l.length ≤ 4
 ·have := qeq l l.length 0 1 k (by omega) (by omega) (by omega) (by simp) (by omega)
  rw [show (0 : Int) = ((0 : Nat) : Int) from rfl,this]
  by_cases ha : l.all okS = true
  ·simp [ha,mSR,h4]
  ·simp [ha,mSR]
 ·have := qc1 l 4 0 1 k (by omega) (by omega) (by omega) (by simp) (by omega)
  rw [show (0 : Int) = ((0 : Nat) : Int) from rfl,this]
  simp [mSR]; omega
theorem qcf : ∀ {l : LI},(∀ x ∈ l,0 ≤ x) → 0 ≤ pr l
 | [],_ => by decide
 | x :: r,h => Int.mul_nonneg (h x (List.mem_cons_self ..)) (qcf fun y hy => h y (List.mem_cons_of_mem _ hy))
theorem qei (l : LI) (h : ∀ x ∈ l,0 ≤ x ∧ x ≤ 32) (hl : l.length ≤ 4) : ∀ (d i : Nat) (p : Int) (n : Nat),l.length = i + d → 0 ≤ p → p ≤ 32 ^ i → d < n →
  qaU.l0 n p l l.length i = some (p * pr (l.drop i))
 | 0,i,p,n,hi,h1,h2,hn => by
  obtain ⟨n,rfl⟩ : ∃ m,n = m + 1 := ⟨n - 1,by omega⟩
  rw [qaU.l0,if_neg (by omega),List.drop_eq_nil_of_le (by omega)]
  simp [pr]
 | d + 1,i,p,n,hi,h1,h2,hn => by
  obtain ⟨n,rfl⟩ : ∃ m,n = m + 1 := ⟨n - 1,by omega⟩
  have hx := h _ (qap (show i < l.length by omega) 0)
  rw [qaU.l0,if_pos (by omega),if_pos (by omega),Int.toNat_natCast,qaf (show i < l.length by omega) 0]
  generalize l.getD i 0 = x at hx ⊢
  have h8 := p32 (show i + 1 ≤ 4 by omega)
  have e8 : (32 : Int) ^ (i + 1) = 32 ^ i * 32 := Int.pow_succ ..
  have hm : 0 ≤ p * x ∧ p * x ≤ 32 ^ (i + 1) := ⟨Int.mul_nonneg h1 (by omega),by rw [e8]; exact Int.mul_le_mul h2 (by omega) (by omega) (by omega)⟩
  rw [qag (n := p * x) (by omega) (by omega),qag (n := (i : Int) + 1) (by omega) (by omega)]
  have := qei l h hl d (i + 1) (p * x) n (by omega) hm.1 hm.2 (by omega)
  rw [show (i : Int) + 1 = ((i + 1 : Nat) : Int) by omega,this]
  simp [pr,Int.mul_assoc]
theorem qcq (l : LI) (k : Nat) (hk : 10 ≤ k) : qaU.f k l = some (zSz l) := by
 unfold qaU.f zSz
 rw [qbB l k hk,obs]
 by_cases h : mSR l = true
 ·obtain ⟨h1,h2,_⟩ := qak h
  have := qei l h2 h1 l.length 0 1 k (by omega) (by omega) (by simp) (by omega)
  rw [if_pos h,if_pos h,show (0 : Int) = ((0 : Nat) : Int) from rfl,this]
  simp
 ·rw [if_neg h,if_neg h]
theorem qfb (l : LI) (h : ∀ x ∈ l,0 ≤ x ∧ x ≤ 32) (hl : l.length ≤ 4) : ∀ (d i : Nat) (p : Int) (n : Nat),l.length = i + d → 0 ≤ p → p ≤ 32 ^ i → d < n →
  qba.l0 n l p i = some (p * pr (l.drop i))
 | 0,i,p,n,hi,h1,h2,hn => by
  obtain ⟨n,rfl⟩ : ∃ m,n = m + 1 := ⟨n - 1,by omega⟩
  rw [qba.l0,if_neg (by omega),List.drop_eq_nil_of_le (by omega)]
  simp [pr]
 | d + 1,i,p,n,hi,h1,h2,hn => by
  obtain ⟨n,rfl⟩ : ∃ m,n = m + 1 := ⟨n - 1,by omega⟩
  have hx := h _ (qap (show i < l.length by omega) 0)
  rw [qba.l0,if_pos (by omega),if_pos (by omega),Int.toNat_natCast,qaf (show i < l.length by omega) 0]
  generalize l.getD i 0 = x at hx ⊢
  have h8 := p32 (show i + 1 ≤ 4 by omega)
  have e8 : (32 : Int) ^ (i + 1) = 32 ^ i * 32 := Int.pow_succ ..
  have hm : 0 ≤ p * x ∧ p * x ≤ 32 ^ (i + 1) := ⟨Int.mul_nonneg h1 (by omega),by rw [e8]; exact Int.mul_le_mul h2 (by omega) (by omega) (by omega)⟩
  rw [qag (n := p * x) (by omega) (by omega),qag (n := (i : Int) + 1) (by omega) (by omega)]
  have := qfb l h hl d (i + 1) (p * x) n (by omega) hm.1 hm.2 (by omega)
  rw [show (i : Int) + 1 = ((i + 1 : Nat) : Int) by omega,this]
  simp [pr,Int.mul_assoc]
theorem qcS (l : LI) (k : Nat) (hk : 10 ≤ k) : qba.f k l = some (zSz l) := by
 unfold qba.f zSz
 rw [qcr l k hk,obs]
 by_cases h : mSR l = true
 ·obtain ⟨h1,h2,_⟩ := qak h
  have := qfb l h2 h1 l.length 0 1 k (by omega) (by omega) (by simp) (by omega)
  rw [if_pos h,if_pos h,show (0 : Int) = ((0 : Nat) : Int) from rfl,this]
  simp
 ·rw [if_neg h,if_neg h]
def zT (s d : LI) : Bool := mSR s && decide ((d.length : Int) = pr s)
theorem qbQ (s d : LI) (k : Nat) (hk : 10 ≤ k) : qbl.f k s d = some (zT s d) := by
 unfold qbl.f zT
 rw [qbB s k hk,obs,qcq s k hk,obs]
 by_cases h : mSR s = true
 ·simp [h,zSz]
 ·simp [h]
theorem qb2 (s d : LI) (k : Nat) (hk : 10 ≤ k) : qbw.f k s d = some (zT s d) := by
 unfold qbw.f zT
 rw [qcr s k hk,obs,qcS s k hk,obs]
 by_cases h : mSR s = true
 ·simp [h,zSz]
 ·simp [h]
theorem qaD {s d : LI} (h : zT s d = true) : mSR s = true ∧ (d.length : Int) = pr s := by
 unfold zT at h
 simpa using h
def pl : LI → Int → LI
 | [],_ => []
 | a :: r,x => (x / pr r) % a :: pl r x
theorem qdA : ∀ (s : LI) (x : Int),(pl s x).length = s.length
 | [],_ => rfl
 | _ :: r,x => by simp [pl,qdA r x]
def ix : LI → LI → Int
 | a :: s,b :: p => b * pr s + ix s p
 | _,_ => 0
def mIn : LI → LI → Bool
 | [],[] => true
 | a :: s,b :: p => decide (0 ≤ b) && decide (b < a) && mIn s p
 | _,_ => false
theorem qid : ∀ {s p : LI},mIn s p = true → p.length = s.length
 | [],[],_ => rfl
 | _ :: s,_ :: p,h => by
  simp only [mIn,Bool.and_eq_true] at h
  simp [qid h.2]
 | [],_ :: _,h => by simp [mIn] at h
 | _ :: _,[],h => by simp [mIn] at h
theorem qhM : ∀ {s p : LI},mIn s p = true → 0 ≤ ix s p ∧ ix s p < pr s
 | [],[],_ => by decide
 | a :: s,b :: p,h => by
  simp only [mIn,Bool.and_eq_true,decide_eq_true_eq] at h
  obtain ⟨h1,h2⟩ := qhM h.2
  have h3 : b * pr s + pr s ≤ a * pr s := by
   have := Int.mul_le_mul_of_nonneg_right (show b + 1 ≤ a by omega) (show 0 ≤ pr s by omega)
   rw [Int.add_mul,Int.one_mul] at this; exact this
  have h4 : 0 ≤ b * pr s := Int.mul_nonneg h.1.1 (by omega)
  exact ⟨by show 0 ≤ b * pr s + ix s p; omega,by show b * pr s + ix s p < a * pr s; omega⟩
 | [],_ :: _,h => by simp [mIn] at h
 | _ :: _,[],h => by simp [mIn] at h
theorem qi0 : ∀ {s : LI},(∀ a ∈ s,0 < a) → ∀ (x : Int),mIn s (pl s x) = true
 | [],_,_ => rfl
 | a :: s,h,x => by
  have ha := h a (List.mem_cons_self ..)
  have := qi0 (s := s) (fun b hb => h b (List.mem_cons_of_mem _ hb)) x
  simp only [pl,mIn,Bool.and_eq_true,decide_eq_true_eq]
  exact ⟨⟨Int.emod_nonneg _ (by omega),Int.emod_lt_of_pos _ ha⟩,this⟩
theorem qhD : ∀ {l : LI},(∀ x ∈ l,0 < x) → 0 < pr l
 | [],_ => by decide
 | x :: r,h => Int.mul_pos (h x (List.mem_cons_self ..)) (qhD fun y hy => h y (List.mem_cons_of_mem _ hy))
theorem qfR : ∀ {l : LI},(∀ x ∈ l,0 ≤ x) → 0 < pr l → ∀ x ∈ l,0 < x
 | [],_,_,_,h => by cases h
 | y :: r,h0,hp,x,hx => by
  have h1 := h0 y (List.mem_cons_self ..)
  have hr := qcf (l := r) fun z hz => h0 z (List.mem_cons_of_mem _ hz)
  have hp : 0 < y * pr r := hp
  have hy : y ≠ 0 := fun e => by rw [e,Int.zero_mul] at hp; omega
  have hr' : pr r ≠ 0 := fun e => by rw [e,Int.mul_zero] at hp; omega
  rcases List.mem_cons.1 hx with e | hx
  ·omega
  ·exact qfR (fun z hz => h0 z (List.mem_cons_of_mem _ hz)) (by omega) x hx
theorem qhL : ∀ {s : LI},(∀ a ∈ s,0 < a) → ∀ (x : Int),ix s (pl s x) = x % pr s
 | [],_,x => by show (0 : Int) = x % 1; omega
 | a :: s,h,x => by
  have ha := h a (List.mem_cons_self ..)
  have hs : ∀ b ∈ s,0 < b := fun b hb => h b (List.mem_cons_of_mem _ hb)
  have hp := qhD hs
  show (x / pr s) % a * pr s + ix s (pl s x) = x % (a * pr s)
  rw [qhL hs x]
  have e1 := Int.mul_ediv_add_emod x (pr s)
  have e2 := Int.mul_ediv_add_emod (x / pr s) a
  have m1 := Int.emod_nonneg x (show pr s ≠ 0 by omega)
  have m2 := Int.emod_lt_of_pos x hp
  have m3 := Int.emod_nonneg (x / pr s) (show a ≠ 0 by omega)
  have m4 := Int.emod_lt_of_pos (x / pr s) ha
  generalize x / pr s = q at *
  generalize x % pr s = r at *
  generalize q / a = q2 at *
  generalize q % a = r2 at *
  generalize pr s = p at *
  have e3 : x = (r2 * p + r) + (a * p) * q2 := by
   rw [← e1,← e2]
   simp only [Int.mul_add,Int.add_mul,Int.mul_comm,Int.mul_left_comm,Int.mul_assoc,Int.add_comm,Int.add_left_comm]
  have h5 : 0 ≤ r2 * p := Int.mul_nonneg m3 (by omega)
  have h6 : r2 * p + p ≤ a * p := by
   have := Int.mul_le_mul_of_nonneg_right (show r2 + 1 ≤ a by omega) (show 0 ≤ p by omega)
   rw [Int.add_mul,Int.one_mul] at this; exact this
  rw [e3,Int.add_mul_emod_self_left]
  exact (Int.emod_eq_of_lt (by omega) (by omega)).symm
theorem qk1 {s : LI} (h : ∀ a ∈ s,0 ≤ a) {x : Int} (h0 : 0 ≤ x) (h1 : x < pr s) : ix s (pl s x) = x := by
 rw [qhL (qfR h (by omega))]
 exact Int.emod_eq_of_lt h0 h1
end Go.Pf

namespace Go.Pf
open Go Go.Vm
theorem qkn : ∀ {s : LI},(∀ a ∈ s,0 < a) → ∀ (x m : Int),pl s (x + m * pr s) = pl s x
 | [],_,_,_ => rfl
 | a :: s,h,x,m => by
  have hs : ∀ b ∈ s,0 < b := fun b hb => h b (List.mem_cons_of_mem _ hb)
  have hp := qhD hs
  have e : x + m * pr (a :: s) = x + (m * a) * pr s := by show x + m * (a * pr s) = _; rw [Int.mul_assoc]
  rw [e]
  show ((x + m * a * pr s) / pr s) % a :: pl s (x + m * a * pr s) = (x / pr s) % a :: pl s x
  rw [qkn hs,Int.add_mul_ediv_right _ _ (by omega),Int.add_mul_emod_self_right]
theorem qkI : ∀ {s p : LI},mIn s p = true → pl s (ix s p) = p
 | [],[],_ => rfl
 | a :: s,b :: p,h => by
  have h' := h
  simp only [mIn,Bool.and_eq_true,decide_eq_true_eq] at h
  have hb := qhM h.2
  have hs : ∀ x ∈ s,0 < x := by
   have : ∀ {s p : LI},mIn s p = true → ∀ x ∈ s,0 < x := fun {s} => by
    induction s with
    | nil => intro p _ x hx; cases hx
    | cons y s ih =>
     intro p hh x hx
     cases p with
     | nil => simp [mIn] at hh
     | cons z p =>
      simp only [mIn,Bool.and_eq_true,decide_eq_true_eq] at hh
      rcases List.mem_cons.1 hx with e | hx
      ·omega
      ·exact ih hh.2 x hx
   exact this h.2
  show ((b * pr s + ix s p) / pr s) % a :: pl s (b * pr s + ix s p) = b :: p
  rw [Int.add_comm (b * pr s),qkn hs,qkI h.2,Int.add_mul_ediv_right _ _ (by omega),Int.ediv_eq_zero_of_lt hb.1 hb.2,Int.zero_add,Int.emod_eq_of_lt h.1.1 h.1.2]
 | [],_ :: _,h => by simp [mIn] at h
 | _ :: _,[],h => by simp [mIn] at h
theorem qb6 {α : Type} (l : List α) (i j : Nat) (x d : α) : (l.set i x).getD j d = if i = j ∧ i < l.length then x else l.getD j d := by
 simp only [List.getD_eq_getElem?_getD,List.getElem?_set]
 by_cases h : i = j
 ·subst h
  by_cases h2 : i < l.length
  ·simp [h2]
  ·simp [h2]
 ·simp [h]
theorem qjo {i : Nat} {x : Int} {r : LI} : (List.replicate (i + 1) (0 : Int) ++ r).set i x = List.replicate i 0 ++ x :: r := by
 rw [List.set_append,if_pos (by simp)]
 have : List.replicate (i + 1) (0 : Int) = List.replicate i 0 ++ [0] := List.replicate_succ'
 rw [this,List.set_append,if_neg (by simp)]
 simp
theorem qdt (s : LI) (hs : ∀ a ∈ s,0 < a ∧ a ≤ 32) (hl : s.length ≤ 4) (x : Int) (hx : 0 ≤ x) (hx2 : x ≤ 1048576) : ∀ (i n : Nat),i ≤ s.length → i < n →
  qaI.l0 n s (x / pr (s.drop i)) ((i : Int) - 1) (List.replicate i 0 ++ pl (s.drop i) x) = some (pl s x)
 | 0,n,hi,hn => by
  obtain ⟨n,rfl⟩ : ∃ m,n = m + 1 := ⟨n - 1,by omega⟩
  rw [qaI.l0,if_neg (by omega)]; simp
 | i + 1,n,hi,hn => by
  obtain ⟨n,rfl⟩ : ∃ m,n = m + 1 := ⟨n - 1,by omega⟩
  have ha := hs _ (qap (show i < s.length by omega) 0)
  have hd := qaf (show i < s.length by omega) (0 : Int)
  have hp : 0 < pr (s.drop (i + 1)) := qhD fun b hb => (hs b (List.mem_of_mem_drop hb)).1
  have ih := qdt s hs hl x hx hx2 i n (by omega) (by omega)
  rw [hd] at ih
  have hlen : (List.replicate (i + 1) (0 : Int) ++ pl (s.drop (i + 1)) x).length = s.length := by
   rw [List.length_append,qdA,List.length_replicate,List.length_drop]; omega
  have hq : 0 ≤ x / pr (s.drop (i + 1)) := Int.ediv_nonneg hx (by omega)
  have hq2 : x / pr (s.drop (i + 1)) ≤ x := Int.ediv_le_self _ hx
  rw [qaI.l0,show ((i + 1 : Nat) : Int) - 1 = (i : Int) by omega,if_pos (by omega),if_pos (by omega),Int.toNat_natCast,if_pos (by omega),if_pos (by rw [hlen]; omega),if_pos (by rw [hlen]; omega),qag (n := (i : Int) - 1) (by omega) (by omega),qjo]
  generalize s.getD i 0 = a at ha ih ⊢
  rw [Int.tdiv_eq_ediv_of_nonneg hq,Int.tmod_eq_emod_of_nonneg hq]
  have hq3 : 0 ≤ x / pr (s.drop (i + 1)) / a := Int.ediv_nonneg hq (by omega)
  have hq4 : x / pr (s.drop (i + 1)) / a ≤ x / pr (s.drop (i + 1)) := Int.ediv_le_self _ hq
  rw [qag (by omega) (by omega),Int.ediv_ediv_of_nonneg (by omega)]
  rw [show pr (a :: s.drop (i + 1)) = a * pr (s.drop (i + 1)) from rfl,Int.mul_comm] at ih
  exact ih
theorem qer (s : LI) (hs : ∀ a ∈ s,0 < a ∧ a ≤ 32) (hl : s.length ≤ 4) (x : Int) (hx : 0 ≤ x) (hx2 : x ≤ 1048576) : ∀ (i n : Nat),i ≤ s.length → i < n →
  qaV.l0 n s (x / pr (s.drop i)) ((i : Int) - 1) (List.replicate i 0 ++ pl (s.drop i) x) = some (pl s x)
 | 0,n,hi,hn => by
  obtain ⟨n,rfl⟩ : ∃ m,n = m + 1 := ⟨n - 1,by omega⟩
  rw [qaV.l0,if_neg (by omega)]; simp
 | i + 1,n,hi,hn => by
  obtain ⟨n,rfl⟩ : ∃ m,n = m + 1 := ⟨n - 1,by omega⟩
  have ha := hs _ (qap (show i < s.length by omega) 0)
  have hd := qaf (show i < s.length by omega) (0 : Int)
  have hp : 0 < pr (s.drop (i + 1)) := qhD fun b hb => (hs b (List.mem_of_mem_drop hb)).1
  have ih := qer s hs hl x hx hx2 i n (by omega) (by omega)
  rw [hd] at ih
  have hlen : (List.replicate (i + 1) (0 : Int) ++ pl (s.drop (i + 1)) x).length = s.length := by
   rw [List.length_append,qdA,List.length_replicate,List.length_drop]; omega
  have hq : 0 ≤ x / pr (s.drop (i + 1)) := Int.ediv_nonneg hx (by omega)
  have hq2 : x / pr (s.drop (i + 1)) ≤ x := Int.ediv_le_self _ hx
  rw [qaV.l0,show ((i + 1 : Nat) : Int) - 1 = (i : Int) by omega,if_pos (by omega),if_pos (by omega),Int.toNat_natCast,if_pos (by omega),if_pos (by rw [hlen]; omega),if_pos (by rw [hlen]; omega),qag (n := (i : Int) - 1) (by omega) (by omega),qjo]
  generalize s.getD i 0 = a at ha ih ⊢
  rw [Int.tdiv_eq_ediv_of_nonneg hq,Int.tmod_eq_emod_of_nonneg hq]
  have hq3 : 0 ≤ x / pr (s.drop (i + 1)) / a := Int.ediv_nonneg hq (by omega)
  have hq4 : x / pr (s.drop (i + 1)) / a ≤ x / pr (s.drop (i + 1)) := Int.ediv_le_self _ hq
  rw [qag (by omega) (by omega),Int.ediv_ediv_of_nonneg (by omega)]
  rw [show pr (a :: s.drop (i + 1)) = a * pr (s.drop (i + 1)) from rfl,Int.mul_comm] at ih
  exact ih
theorem qcY {s : LI} (h : mSR s = true) (hp : 0 < pr s) : ∀ a ∈ s,0 < a ∧ a ≤ 32 := fun a ha =>
 ⟨qfR (fun b hb => ((qak h).2.1 b hb).1) hp a ha,((qak h).2.1 a ha).2⟩
theorem qcO {s : LI} (h : mSR s = true) {x : Int} (h0 : 0 ≤ x) (h1 : x < pr s) (k : Nat) (hk : 20 ≤ k) : qaI.f k s x = some (pl s x) := by
 obtain ⟨hl,_,hb⟩ := qak h
 have := qdt s (qcY h (by omega)) hl x h0 (by omega) s.length k (Nat.le_refl _) (by omega)
 rw [List.drop_length] at this
 unfold qaI.f
 rw [if_neg (by omega),qcq s k (by omega),obs,zSz,if_pos h,if_neg (by omega),if_pos (by omega),qag (n := (s.length : Int) - 1) (by omega) (by omega),Int.toNat_natCast]
 rw [show x / pr ([] : LI) = x from Int.ediv_one x,show pl ([] : LI) x = [] from rfl,List.append_nil] at this
 rw [this,obs]
theorem qc9 {s : LI} (h : mSR s = true) {x : Int} (h0 : 0 ≤ x) (h1 : x < pr s) (k : Nat) (hk : 20 ≤ k) : qaV.f k s x = some (pl s x) := by
 obtain ⟨hl,_,hb⟩ := qak h
 have := qer s (qcY h (by omega)) hl x h0 (by omega) s.length k (Nat.le_refl _) (by omega)
 rw [List.drop_length] at this
 unfold qaV.f
 rw [if_neg (by omega),qcS s k (by omega),obs,zSz,if_pos h,if_neg (by omega),if_pos (by omega),qag (n := (s.length : Int) - 1) (by omega) (by omega),Int.toNat_natCast]
 rw [show x / pr ([] : LI) = x from Int.ediv_one x,show pl ([] : LI) x = [] from rfl,List.append_nil] at this
 rw [this,obs]
def zIx (s p : LI) : Int := if mSR s = true ∧ mIn s p = true then ix s p else -1
theorem qbi {a b : Int} {s p : LI} : mIn (a :: s) (b :: p) = true ↔ (0 ≤ b ∧ b < a) ∧ mIn s p = true := by
 simp only [mIn,Bool.and_eq_true,decide_eq_true_eq]
theorem qdu (s p : LI) (hs : ∀ a ∈ s,0 ≤ a ∧ a ≤ 32) (hl : s.length ≤ 4) (hp : p.length = s.length) : ∀ (d i : Nat) (q : Int) (n : Nat),s.length = i + d → 0 ≤ q → q < 32 ^ i → d < n →
  qaR.l0 n s q p p.length i = some (if mIn (s.drop i) (p.drop i) = true then .inl (q * pr (s.drop i) + ix (s.drop i) (p.drop i)) else .inr (-1))
 | 0,i,q,n,hi,h0,h1,hn => by
  obtain ⟨n,rfl⟩ : ∃ m,n = m + 1 := ⟨n - 1,by omega⟩
  rw [qaR.l0,if_neg (by omega),List.drop_eq_nil_of_le (by omega),List.drop_eq_nil_of_le (by omega)]
  simp [mIn,pr,ix]
 | d + 1,i,q,n,hi,h0,h1,hn => by
  obtain ⟨n,rfl⟩ : ∃ m,n = m + 1 := ⟨n - 1,by omega⟩
  have ha := hs _ (qap (show i < s.length by omega) 0)
  rw [qaR.l0,if_pos (by omega),if_pos (by omega),Int.toNat_natCast,qaf (show i < s.length by omega) (0 : Int),qaf (show i < p.length by omega) (0 : Int)]
  generalize s.getD i 0 = a at ha ⊢
  generalize p.getD i 0 = b
  by_cases c1 : b < 0
  ·rw [if_pos c1,if_neg (by rw [qbi]; omega)]
  rw [if_neg c1,if_pos (by omega)]
  by_cases c2 : a ≤ b
  ·rw [if_pos c2,if_neg (by rw [qbi]; omega)]
  rw [if_neg c2]
  have h8 := p32 (show i + 1 ≤ 4 by omega)
  have e8 : (32 : Int) ^ (i + 1) = 32 ^ i * 32 := Int.pow_succ ..
  have hm0 : 0 ≤ q * a := Int.mul_nonneg h0 (by omega)
  have hm1 : q * a + a ≤ 32 ^ (i + 1) := by
   have := Int.mul_le_mul_of_nonneg_right (show q + 1 ≤ 32 ^ i by omega) (show 0 ≤ a by omega)
   rw [Int.add_mul,Int.one_mul] at this
   have h3 : (32 : Int) ^ i * a ≤ 32 ^ i * 32 := Int.mul_le_mul_of_nonneg_left (by omega) (by omega)
   omega
  rw [qag (n := q * a) (by omega) (by omega),qag (n := q * a + b) (by omega) (by omega),qag (n := (i : Int) + 1) (by omega) (by omega)]
  have := qdu s p hs hl hp d (i + 1) (q * a + b) n (by omega) (by omega) (by omega) (by omega)
  rw [show (i : Int) + 1 = ((i + 1 : Nat) : Int) by omega,this]
  by_cases c : mIn (s.drop (i + 1)) (p.drop (i + 1)) = true
  ·rw [if_pos c,if_pos (qbi.2 ⟨by omega,c⟩)]
   show some (Sum.inl ((q * a + b) * pr (s.drop (i + 1)) + ix (s.drop (i + 1)) (p.drop (i + 1)))) = some (Sum.inl (q * (a * pr (s.drop (i + 1))) + (b * pr (s.drop (i + 1)) + ix (s.drop (i + 1)) (p.drop (i + 1)))))
   rw [Int.add_mul,Int.mul_assoc,Int.add_assoc]
  ·rw [if_neg c,if_neg (by rw [qbi]; exact fun h => c h.2)]
theorem qes (s p : LI) (hs : ∀ a ∈ s,0 ≤ a ∧ a ≤ 32) (hl : s.length ≤ 4) (hp : p.length = s.length) : ∀ (d i : Nat) (q : Int) (n : Nat),s.length = i + d → 0 ≤ q → q < 32 ^ i → d < n →
  qaZ.l0 n s p q i = some (if mIn (s.drop i) (p.drop i) = true then .inl (q * pr (s.drop i) + ix (s.drop i) (p.drop i)) else .inr (-1))
 | 0,i,q,n,hi,h0,h1,hn => by
  obtain ⟨n,rfl⟩ : ∃ m,n = m + 1 := ⟨n - 1,by omega⟩
  rw [qaZ.l0,if_neg (by omega),List.drop_eq_nil_of_le (by omega),List.drop_eq_nil_of_le (by omega)]
  simp [mIn,pr,ix]
 | d + 1,i,q,n,hi,h0,h1,hn => by
  obtain ⟨n,rfl⟩ : ∃ m,n = m + 1 := ⟨n - 1,by omega⟩
  have ha := hs _ (qap (show i < s.length by omega) 0)
  rw [qaZ.l0,if_pos (by omega),if_pos (by omega),Int.toNat_natCast,qaf (show i < s.length by omega) (0 : Int),qaf (show i < p.length by omega) (0 : Int)]
  generalize s.getD i 0 = a at ha ⊢
  generalize p.getD i 0 = b
  by_cases c1 : b < 0
  ·rw [if_pos c1,if_neg (by rw [qbi]; omega)]
  rw [if_neg c1,if_pos (by omega)]
  by_cases c2 : a ≤ b
  ·rw [if_pos c2,if_neg (by rw [qbi]; omega)]
  rw [if_neg c2]
  have h8 := p32 (show i + 1 ≤ 4 by omega)
  have e8 : (32 : Int) ^ (i + 1) = 32 ^ i * 32 := Int.pow_succ ..
  have hm0 : 0 ≤ q * a := Int.mul_nonneg h0 (by omega)
  have hm1 : q * a + a ≤ 32 ^ (i + 1) := by
   have := Int.mul_le_mul_of_nonneg_right (show q + 1 ≤ 32 ^ i by omega) (show 0 ≤ a by omega)
   rw [Int.add_mul,Int.one_mul] at this
   have h3 : (32 : Int) ^ i * a ≤ 32 ^ i * 32 := Int.mul_le_mul_of_nonneg_left (by omega) (by omega)
   omega
  rw [qag (n := q * a) (by omega) (by omega),qag (n := q * a + b) (by omega) (by omega),qag (n := (i : Int) + 1) (by omega) (by omega)]
  have := qes s p hs hl hp d (i + 1) (q * a + b) n (by omega) (by omega) (by omega) (by omega)
  rw [show (i : Int) + 1 = ((i + 1 : Nat) : Int) by omega,this]
  by_cases c : mIn (s.drop (i + 1)) (p.drop (i + 1)) = true
  ·rw [if_pos c,if_pos (qbi.2 ⟨by omega,c⟩)]
   show some (Sum.inl ((q * a + b) * pr (s.drop (i + 1)) + ix (s.drop (i + 1)) (p.drop (i + 1)))) = some (Sum.inl (q * (a * pr (s.drop (i + 1))) + (b * pr (s.drop (i + 1)) + ix (s.drop (i + 1)) (p.drop (i + 1)))))
   rw [Int.add_mul,Int.mul_assoc,Int.add_assoc]
  ·rw [if_neg c,if_neg (by rw [qbi]; exact fun h => c h.2)]
theorem qej (s p : LI) (k : Nat) (hk : 20 ≤ k) : qaR.f k s p = some (zIx s p) := by
 unfold qaR.f zIx
 rw [qbB s k (by omega),obs]
 by_cases h : mSR s = true
 ·obtain ⟨hl,h2,_⟩ := qak h
  rw [if_pos h]
  by_cases hp : p.length = s.length
  ·have := qdu s p h2 hl hp s.length 0 0 k (by omega) (by omega) (by simp) (by omega)
   rw [n0,List.drop_zero,List.drop_zero] at this
   rw [if_pos (by omega),this]
   by_cases c : mIn s p = true
   ·rw [if_pos c,if_pos ⟨h,c⟩]; simp
   ·rw [if_neg c,if_neg (fun hh => c hh.2)]; simp
  ·rw [if_neg (by omega),if_neg (fun hh => hp (qid hh.2))]
 ·rw [if_neg h,if_neg (fun hh => h hh.1)]
theorem qda (s p : LI) (k : Nat) (hk : 20 ≤ k) : qaZ.f k s p = some (zIx s p) := by
 unfold qaZ.f zIx
 rw [qcr s k (by omega),obs]
 by_cases h : mSR s = true
 ·obtain ⟨hl,h2,_⟩ := qak h
  rw [if_pos h]
  by_cases hp : p.length = s.length
  ·have := qes s p h2 hl hp s.length 0 0 k (by omega) (by omega) (by simp) (by omega)
   rw [n0,List.drop_zero,List.drop_zero] at this
   rw [if_pos (by omega),this]
   by_cases c : mIn s p = true
   ·rw [if_pos c,if_pos ⟨h,c⟩]; simp
   ·rw [if_neg c,if_neg (fun hh => c hh.2)]; simp
  ·rw [if_neg (by omega),if_neg (fun hh => hp (qid hh.2))]
 ·rw [if_neg h,if_neg (fun hh => h hh.1)]
theorem qgm (s d p : LI) (k : Nat) (hk : 20 ≤ k) : qbT.f k s d p = some (if zT s d = true then zIx s p else -1) := by
 unfold qbT.f
 rw [qbQ s d k (by omega),obs]
 by_cases h : zT s d = true
 ·rw [if_pos h,if_pos h,qej s p k hk]; rfl
 ·rw [if_neg h,if_neg h]
theorem qhq {s d : LI} (h : zT s d = true) (p : LI) (k : Nat) (hk : 20 ≤ k) : qcD.f k s d p = some (if mIn s p = true then (d.getD (ix s p).toNat 0,true) else (0,false)) := by
 obtain ⟨h1,h2⟩ := qaD h
 unfold qcD.f
 rw [qgm s d p k hk,obs,if_pos h]
 by_cases c : mIn s p = true
 ·have hb := qhM c
  have hz : zIx s p = ix s p := if_pos ⟨h1,c⟩
  rw [hz,if_neg (by omega),if_pos (by omega),if_pos c]
 ·have hz : zIx s p = -1 := if_neg (fun hh => c hh.2)
  rw [hz,if_pos (by omega),if_neg c]
theorem qjQ {s d : LI} (h : zT s d = true) (p : LI) (k : Nat) (hk : 20 ≤ k) : qgf.f k s d p = some (if mIn s p = true then d.getD (ix s p).toNat 0 else 0) := by
 unfold qgf.f
 rw [qhq h p k hk,obs]
 by_cases c : mIn s p = true
 ·rw [if_pos c,if_pos c]
 ·rw [if_neg c,if_neg c]
theorem qg0 {s d p : LI} (h : zT s d = true) (c : mIn s p = true) (k : Nat) (hk : 20 ≤ k) : qbN.f k s d p = some (d.getD (ix s p).toNat 0) := by
 obtain ⟨h1,h2⟩ := qaD h
 have hb := qhM c
 unfold qbN.f
 have hz : zIx s p = ix s p := if_pos ⟨h1,c⟩
 rw [qda s p k hk,obs,hz,if_pos (by omega)]
end Go.Pf

namespace Go.Pf
open Go Go.Vm
theorem setL {α : Type} (L r : List α) (x v : α) : (L ++ x :: r).set L.length v = (L ++ [v]) ++ r := by
 rw [List.set_append,if_neg (by omega),Nat.sub_self]; simp
theorem getL {α : Type} (L r : List α) (x d : α) : (L ++ x :: r).getD L.length d = x := by
 simp [List.getD_eq_getElem?_getD]
theorem qhf (g : Nat → Int) (i d : Nat) (c : Int) : ((List.range i).map g ++ List.replicate (d + 1) c).set i (g i) = (List.range (i + 1)).map g ++ List.replicate d c := by
 have := setL ((List.range i).map g) (List.replicate d c) c (g i)
 rw [List.length_map,List.length_range] at this
 rw [List.replicate_succ,this,List.range_succ,List.map_append]; rfl
theorem qfe (s : LI) (c : Int) (k : Nat) (hk : 10 ≤ k) (hz : zSz s ≤ 4096) : ∀ (d i n : Nat),(zSz s).toNat = i + d → d < n →
  qbb.l0 k n s c i ([] ++ s) (List.replicate i c) = some (List.replicate (i + d) c)
 | 0,i,n,hi,hn => by
  obtain ⟨n,rfl⟩ : ∃ m,n = m + 1 := ⟨n - 1,by omega⟩
  rw [qbb.l0,qcS s k hk,obs,if_neg (by omega)]; rfl
 | d + 1,i,n,hi,hn => by
  obtain ⟨n,rfl⟩ : ∃ m,n = m + 1 := ⟨n - 1,by omega⟩
  rw [qbb.l0,qcS s k hk,obs,if_pos (by omega),if_pos (by simp only [List.length_replicate,List.length_singleton]; omega),qag (n := (i : Int) + 1) (by omega) (by omega)]
  have := qfe s c k hk hz d (i + 1) n (by omega) (by omega)
  rw [show (i : Int) + 1 = ((i + 1 : Nat) : Int) by omega,show List.replicate i c ++ [c] = List.replicate (i + 1) c from List.replicate_succ'.symm,this]
  congr 2; omega
theorem qkk (s : LI) : 0 ≤ zSz s ∧ zSz s ≤ 4096 := by
 unfold zSz
 by_cases h : mSR s = true
 ·rw [if_pos h]; exact ⟨qcf fun x hx => ((qak h).2.1 x hx).1,(qak h).2.2⟩
 ·rw [if_neg h]; omega
theorem qdP (s : LI) (c : Int) (h : s.length ≤ 1000) (k : Nat) (hk : 5000 ≤ k) : qbb.f k s c = some (s,List.replicate (zSz s).toNat c) := by
 have hz := qkk s
 have := qfe s c k (by omega) hz.2 (zSz s).toNat 0 k (by omega) (by omega)
 unfold qbb.f
 rw [n0,Nat.zero_add] at this
 rw [if_pos (by omega),show ([] : LI) = List.replicate 0 c from rfl,show (List.replicate 0 c ++ s) = [] ++ s from rfl,this,obs]
 rfl
theorem qcp (s : LI) (h : s.length ≤ 1000000) : qa3.f s = some s := by
 unfold qa3.f
 rw [if_pos (by omega)]; rfl
def made (s : LI) (f : LI → Int) : LI := (List.range (pr s).toNat).map fun (i : Nat) => f (pl s i)
theorem qj0 {s : LI} (h : 0 ≤ pr s) (f : LI → Int) : ((made s f).length : Int) = pr s := by
 unfold made; rw [List.length_map,List.length_range]; omega
theorem qkW {s : LI} (h : mSR s = true) (f : LI → Int) : zT s (made s f) = true := by
 have := qcf fun x hx => ((qak h).2.1 x hx).1
 unfold zT; rw [qj0 this]; simp [h]
theorem qj1 {s : LI} (f : LI → Int) {i : Nat} (h : (i : Int) < pr s) : (made s f).getD i 0 = f (pl s i) := by
 unfold made
 rw [List.getD_eq_getElem?_getD,List.getElem?_map,List.getElem?_range (by omega)]; rfl
def zAdd : LI → LI → LI := List.zipWith (· + ·)
def zSl : LI → LI → LI → Bool
 | [],[],[] => true
 | a :: s,f :: fr,z :: sz => decide (0 ≤ f ∧ f ≤ a ∧ 0 ≤ z ∧ z ≤ a - f) && zSl s fr sz
 | _,_,_ => false
theorem qbh {a f z : Int} {s fr sz : LI} : zSl (a :: s) (f :: fr) (z :: sz) = true ↔ (0 ≤ f ∧ f ≤ a ∧ 0 ≤ z ∧ z ≤ a - f) ∧ zSl s fr sz = true := by
 simp only [zSl,Bool.and_eq_true,decide_eq_true_eq]
theorem qbY : ∀ {s f z : LI},zSl s f z = true → f.length = s.length ∧ z.length = s.length
 | [],[],[],_ => ⟨rfl,rfl⟩
 | _ :: s,_ :: f,_ :: z,h => by
  have := qbY (qbh.1 h).2
  simp [this.1,this.2]
 | [],_ :: _,_,h => by simp [zSl] at h
 | [],[],_ :: _,h => by simp [zSl] at h
 | _ :: _,[],_,h => by simp [zSl] at h
 | _ :: _,_ :: _,[],h => by simp [zSl] at h
theorem qdD (s f z : LI) (hs : ∀ a ∈ s,0 ≤ a ∧ a ≤ 32) (hl : s.length ≤ 4) (hf : f.length = s.length) (hz : z.length = s.length) : ∀ (d i n : Nat),s.length = i + d → d < n →
  qa0.l0 n f z s s.length i = some (if zSl (s.drop i) (f.drop i) (z.drop i) = true then .inl () else .inr 1)
 | 0,i,n,hi,hn => by
  obtain ⟨n,rfl⟩ : ∃ m,n = m + 1 := ⟨n - 1,by omega⟩
  rw [qa0.l0,if_neg (by omega),List.drop_eq_nil_of_le (by omega),List.drop_eq_nil_of_le (by omega),List.drop_eq_nil_of_le (by omega)]; rfl
 | d + 1,i,n,hi,hn => by
  obtain ⟨n,rfl⟩ : ∃ m,n = m + 1 := ⟨n - 1,by omega⟩
  have ha := hs _ (qap (show i < s.length by omega) 0)
  have ih := qdD s f z hs hl hf hz d (i + 1) n (by omega) (by omega)
  rw [qa0.l0,if_pos (by omega),if_pos (by omega),if_pos (by omega),if_pos (show 0 ≤ (i : Int) ∧ (i : Int) < (z.length : Int) by omega),Int.toNat_natCast,qaf (show i < s.length by omega) (0 : Int),qaf (show i < f.length by omega) (0 : Int),qaf (show i < z.length by omega) (0 : Int)]
  generalize s.getD i 0 = a at ha ⊢
  generalize f.getD i 0 = b
  generalize z.getD i 0 = c
  by_cases c1 : b < 0
  ·rw [if_pos c1,if_neg (by rw [qbh]; omega)]
  by_cases c2 : a < b
  ·rw [if_neg c1,if_pos c2,if_neg (by rw [qbh]; omega)]
  by_cases c3 : c < 0
  ·rw [if_neg c1,if_neg c2,if_pos c3,if_neg (by rw [qbh]; omega)]
  rw [if_neg c1,if_neg c2,if_neg c3,qag (n := a - b) (by omega) (by omega)]
  by_cases c4 : a - b < c
  ·rw [if_pos c4,if_neg (by rw [qbh]; omega)]
  rw [if_neg c4,qag (n := (i : Int) + 1) (by omega) (by omega),show (i : Int) + 1 = ((i + 1 : Nat) : Int) by omega,ih]
  by_cases c : zSl (s.drop (i + 1)) (f.drop (i + 1)) (z.drop (i + 1)) = true
  ·rw [if_pos c,if_pos (qbh.2 ⟨by omega,c⟩)]
  ·rw [if_neg c,if_neg (fun hh => c (qbh.1 hh).2)]
theorem qhi {s : LI} (h : mSR s = true) (f z : LI) (k : Nat) (hk : 10 ≤ k) : qa0.f k s f z = some (if zSl s f z = true then 0 else 1) := by
 obtain ⟨hl,hs,_⟩ := qak h
 unfold qa0.f
 by_cases hf : f.length = s.length
 ·by_cases hz : z.length = s.length
  ·have := qdD s f z hs hl hf hz s.length 0 k (by omega) (by omega)
   rw [n0,List.drop_zero,List.drop_zero,List.drop_zero] at this
   rw [if_pos (by omega),if_pos (by omega),this]
   by_cases c : zSl s f z = true
   ·rw [if_pos c,if_pos c]; rfl
   ·rw [if_neg c,if_neg c]; rfl
  ·rw [if_pos (by omega),if_neg (by omega),if_neg (fun hh => hz (qbY hh).2)]
 ·rw [if_neg (by omega),if_neg (fun hh => hf (qbY hh).1)]
theorem qdk (f : LI) (p : LI) (hf : ∀ a ∈ f,0 ≤ a ∧ a ≤ 32) (hp : ∀ a ∈ p,0 ≤ a ∧ a ≤ 32) (hl : f.length ≤ 4) (hlen : p.length = f.length) (y1 y2 y3 : LI) : ∀ (d : Nat) (L : LI) (n : Nat),f.length = L.length + d → d < n →
  qaQ.l0 n f f.length L.length (L ++ p.drop L.length) y1 y2 y3 = some (L ++ zAdd (p.drop L.length) (f.drop L.length))
 | 0,L,n,hi,hn => by
  obtain ⟨n,rfl⟩ : ∃ m,n = m + 1 := ⟨n - 1,by omega⟩
  rw [qaQ.l0,if_neg (by omega),List.drop_eq_nil_of_le (by omega)]; rfl
 | d + 1,L,n,hi,hn => by
  obtain ⟨n,rfl⟩ : ∃ m,n = m + 1 := ⟨n - 1,by omega⟩
  have ha := hf _ (qap (show L.length < f.length by omega) 0)
  have hb := hp _ (qap (show L.length < p.length by omega) 0)
  have ih := qdk f p hf hp hl hlen y1 y2 y3 d (L ++ [p.getD L.length 0 + f.getD L.length 0]) n (by simp; omega) (by omega)
  have hL : (L ++ p.drop L.length).length = f.length := by rw [List.length_append,List.length_drop]; omega
  rw [qaQ.l0,if_pos (by omega),if_pos (by omega),if_pos (by rw [hL]; omega),if_pos (by rw [hL]; omega),Int.toNat_natCast,qaf (show L.length < p.length by omega) (0 : Int),qaf (show L.length < f.length by omega) (0 : Int),getL,setL,qag (n := p.getD L.length 0 + f.getD L.length 0) (by omega) (by omega),qag (n := (L.length : Int) + 1) (by omega) (by omega)]
  rw [List.length_append,List.length_singleton] at ih
  rw [show (L.length : Int) + 1 = ((L.length + 1 : Nat) : Int) by omega,ih]
  simp [zAdd]
theorem qen (f : LI) (p : LI) (hf : ∀ a ∈ f,0 ≤ a ∧ a ≤ 32) (hp : ∀ a ∈ p,0 ≤ a ∧ a ≤ 32) (hl : f.length ≤ 4) (hlen : p.length = f.length) (x2 : LI) (x10 x84 x85 : Int) (y1 y2 y4 y5 : LI) : ∀ (d : Nat) (L : LI) (n : Nat),f.length = L.length + d → d < n →
  qao.l2 n f x2 x10 x84 x85 p.length L.length y1 y2 (L ++ p.drop L.length) y4 y5 = some (L ++ zAdd (p.drop L.length) (f.drop L.length))
 | 0,L,n,hi,hn => by
  obtain ⟨n,rfl⟩ : ∃ m,n = m + 1 := ⟨n - 1,by omega⟩
  rw [qao.l2,if_neg (by omega),List.drop_eq_nil_of_le (by omega)]; rfl
 | d + 1,L,n,hi,hn => by
  obtain ⟨n,rfl⟩ : ∃ m,n = m + 1 := ⟨n - 1,by omega⟩
  have ha := hf _ (qap (show L.length < f.length by omega) 0)
  have hb := hp _ (qap (show L.length < p.length by omega) 0)
  have ih := qen f p hf hp hl hlen x2 x10 x84 x85 y1 y2 y4 y5 d (L ++ [p.getD L.length 0 + f.getD L.length 0]) n (by simp; omega) (by omega)
  have hL : (L ++ p.drop L.length).length = f.length := by rw [List.length_append,List.length_drop]; omega
  rw [qao.l2,if_pos (by omega),if_pos (by rw [hL]; omega),if_pos (by rw [hL]; omega),if_pos (by omega),Int.toNat_natCast,qaf (show L.length < p.length by omega) (0 : Int),qaf (show L.length < f.length by omega) (0 : Int),getL,setL,qag (n := p.getD L.length 0 + f.getD L.length 0) (by omega) (by omega),qag (n := (L.length : Int) + 1) (by omega) (by omega)]
  rw [List.length_append,List.length_singleton] at ih
  rw [show (L.length : Int) + 1 = ((L.length + 1 : Nat) : Int) by omega,ih]
  simp [zAdd]
theorem qjt {s : LI} (h : mSR s = true) (hp : 0 < pr s) (x : Int) : ∀ a ∈ pl s x,0 ≤ a ∧ a ≤ 32 := by
 have hs := qcY h hp
 clear h hp
 induction s with
 | nil => intro a ha; cases ha
 | cons b s ih =>
  have hb := hs b (List.mem_cons_self ..)
  intro a ha
  rcases List.mem_cons.1 ha with e | ha
  ·have h1 := Int.emod_nonneg (x / pr s) (show b ≠ 0 by omega)
   have h2 := Int.emod_lt_of_pos (x / pr s) hb.1
   omega
  ·exact ih (fun c hc => hs c (List.mem_cons_of_mem _ hc)) a ha
theorem qd6 : ∀ {s f z : LI},(∀ a ∈ s,0 ≤ a ∧ a ≤ 32) → zSl s f z = true → (∀ a ∈ f,0 ≤ a ∧ a ≤ 32) ∧ (∀ a ∈ z,0 ≤ a ∧ a ≤ 32) ∧ 0 ≤ pr z ∧ pr z ≤ pr s
 | [],[],[],_,_ => ⟨(by intro a ha; cases ha),(by intro a ha; cases ha),by decide,by decide⟩
 | a :: s,f :: fr,z :: sz,hs,h => by
  obtain ⟨h1,h2⟩ := qbh.1 h
  have ha := hs a (List.mem_cons_self ..)
  obtain ⟨i1,i2,i3,i4⟩ := qd6 (fun b hb => hs b (List.mem_cons_of_mem _ hb)) h2
  refine ⟨fun b hb => ?_,fun b hb => ?_,Int.mul_nonneg (by omega) i3,?_⟩
  ·rcases List.mem_cons.1 hb with e | hb
   ·omega
   ·exact i1 b hb
  ·rcases List.mem_cons.1 hb with e | hb
   ·omega
   ·exact i2 b hb
  ·show z * pr sz ≤ a * pr s
   exact Int.mul_le_mul (by omega) i4 i3 (by omega)
 | [],_ :: _,_,_,h => by simp [zSl] at h
 | [],[],_ :: _,_,h => by simp [zSl] at h
 | _ :: _,[],_,_,h => by simp [zSl] at h
 | _ :: _,_ :: _,[],_,h => by simp [zSl] at h
theorem qiU {s f z : LI} (h : mSR s = true) (hc : zSl s f z = true) : mSR z = true := by
 obtain ⟨h1,h2,h3⟩ := qak h
 obtain ⟨_,i2,_,i4⟩ := qd6 h2 hc
 have hl := (qbY hc).2
 unfold mSR
 simp only [Bool.and_eq_true,decide_eq_true_eq,List.all_eq_true]
 exact ⟨⟨by omega,fun x hx => qcU.2 (i2 x hx)⟩,by omega⟩
theorem qgq : ∀ {s f z p : LI},zSl s f z = true → mIn z p = true → mIn s (zAdd p f) = true
 | [],[],[],[],_,_ => rfl
 | a :: s,f :: fr,z :: sz,b :: p,h,hp => by
  obtain ⟨h1,h2⟩ := qbh.1 h
  obtain ⟨h3,h4⟩ := qbi.1 hp
  exact qbi.2 ⟨by show 0 ≤ b + f ∧ b + f < a; omega,qgq h2 h4⟩
 | [],_ :: _,_,_,h,_ => by simp [zSl] at h
 | [],[],_ :: _,_,h,_ => by simp [zSl] at h
 | _ :: _,[],_,_,h,_ => by simp [zSl] at h
 | _ :: _,_ :: _,[],_,h,_ => by simp [zSl] at h
 | [],[],[],_ :: _,_,h => by simp [mIn] at h
 | _ :: _,_ :: _,_ :: _,[],_,h => by simp [mIn] at h
def zCut (s d f z : LI) : LI := made z fun p => d.getD (ix s (zAdd p f)).toNat 0
theorem qgp {s d f z : LI} (h : zT s d = true) (hc : zSl s f z = true) (x : Int) (h0 : 0 ≤ x) (h1 : x < pr z) (k : Nat) (hk : 20 ≤ k) :
  qaQ.f k (pl z x) f s d = some (d.getD (ix s (zAdd (pl z x) f)).toNat 0,zAdd (pl z x) f) := by
 obtain ⟨hr,_⟩ := qaD h
 obtain ⟨g1,g2,g3⟩ := qak hr
 have hz := qiU hr hc
 have hl := qbY hc
 have := qdk f (pl z x) (qd6 g2 hc).1 (qjt hz (by omega) x) (by omega) (by rw [qdA]; omega) f s d f.length [] k (by simp) (by omega)
 unfold qaQ.f
 rw [List.length_nil,n0,List.drop_zero,List.drop_zero,List.nil_append,List.nil_append] at this
 rw [this,obs,qjQ h _ k hk,if_pos (qgq hc (qi0 (fun a ha => (qcY hz (by omega) a ha).1) x)),obs]
theorem qb0 {s d f z : LI} (h : zT s d = true) (hc : zSl s f z = true) (k : Nat) (hk : 20 ≤ k) (y4 : LI) : ∀ (e i n : Nat),(pr z).toNat = i + e → e < n →
  qai.l0 k n z (pr z) i f s d y4 ((List.range i).map (fun (i : Nat) => d.getD (ix s (zAdd (pl z i) f)).toNat 0) ++ List.replicate e 0) = some (zCut s d f z)
 | 0,i,n,hi,hn => by
  obtain ⟨n,rfl⟩ : ∃ m,n = m + 1 := ⟨n - 1,by omega⟩
  have hz := (qd6 (qak (qaD h).1).2.1 hc).2.2.1
  rw [qai.l0,if_neg (by omega)]
  unfold zCut made
  rw [hi]; simp
 | e + 1,i,n,hi,hn => by
  obtain ⟨n,rfl⟩ : ∃ m,n = m + 1 := ⟨n - 1,by omega⟩
  have hr := qiU (qaD h).1 hc
  have hb := (qak hr).2.2
  have ih := qb0 h hc k hk y4 e (i + 1) n (by omega) (by omega)
  rw [qai.l0,if_pos (by omega),qcO hr (by omega) (by omega) k hk,obs,qgp h hc i (by omega) (by omega) k hk,obs,
   if_pos (by simp; omega),if_pos (by simp),Int.toNat_natCast,qhf (fun (i : Nat) => d.getD (ix s (zAdd (pl z i) f)).toNat 0),qag (n := (i : Int) + 1) (by omega) (by omega),show (i : Int) + 1 = ((i + 1 : Nat) : Int) by omega]
  exact ih
theorem qhY (s d f z : LI) (k : Nat) (hk : 5000 ≤ k) : qcL.f k s d f z = some (if zT s d = true then (if zSl s f z = true then (0,z,zCut s d f z) else (1,[],[])) else (13,[],[])) := by
 unfold qcL.f
 rw [qbQ s d k (by omega),obs]
 by_cases h : zT s d = true
 ·obtain ⟨hr,_⟩ := qaD h
  rw [if_pos h,if_pos h,qhi hr f z k (by omega),obs]
  by_cases hc : zSl s f z = true
  ·have hz := qiU hr hc
   have hb := qak hz
   have h0 := qcf fun x hx => (hb.2.1 x hx).1
   have := qb0 h hc k (by omega) z (pr z).toNat 0 k (by omega) (by omega)
   rw [if_pos hc,if_pos hc,if_pos rfl]
   unfold qai.f
   rw [qcp z (by omega),obs,qcq z k (by omega),obs,zSz,if_pos hz,if_pos (by omega),List.length_replicate,show (((pr z).toNat : Nat) : Int) = pr z by omega]
   rw [n0] at this
   rw [show List.replicate (pr z).toNat (0 : Int) = (List.range 0).map (fun (i : Nat) => d.getD (ix s (zAdd (pl z i) f)).toNat 0) ++ List.replicate (pr z).toNat 0 from rfl,this]
   rfl
  ·rw [if_neg hc,if_neg hc,if_neg (by decide)]
 ·rw [if_neg h,if_neg h]
end Go.Pf

namespace Go.Pf
open Go Go.Vm
theorem qep (s d f z : LI) (hs : ∀ a ∈ s,0 ≤ a ∧ a ≤ 32) (hl : s.length ≤ 4) (hf : f.length = s.length) (hz : z.length = s.length) : ∀ (e i n : Nat),s.length = i + e → e < n →
  qao.l0 n f z f.length i s d = some (if zSl (s.drop i) (f.drop i) (z.drop i) = true then .inl () else .inr 1)
 | 0,i,n,hi,hn => by
  obtain ⟨n,rfl⟩ : ∃ m,n = m + 1 := ⟨n - 1,by omega⟩
  rw [qao.l0,if_neg (by omega),List.drop_eq_nil_of_le (by omega),List.drop_eq_nil_of_le (by omega),List.drop_eq_nil_of_le (by omega)]; rfl
 | e + 1,i,n,hi,hn => by
  obtain ⟨n,rfl⟩ : ∃ m,n = m + 1 := ⟨n - 1,by omega⟩
  have ha := hs _ (qap (show i < s.length by omega) 0)
  have ih := qep s d f z hs hl hf hz e (i + 1) n (by omega) (by omega)
  rw [qao.l0,if_pos (by omega),if_pos (by omega),if_pos (show 0 ≤ (i : Int) ∧ (i : Int) < (z.length : Int) by omega),if_pos (show 0 ≤ (i : Int) ∧ (i : Int) < (s.length : Int) by omega),Int.toNat_natCast,qaf (show i < s.length by omega) (0 : Int),qaf (show i < f.length by omega) (0 : Int),qaf (show i < z.length by omega) (0 : Int)]
  generalize s.getD i 0 = a at ha ⊢
  generalize f.getD i 0 = b
  generalize z.getD i 0 = c
  by_cases c1 : b < 0
  ·rw [if_pos c1,if_neg (by rw [qbh]; omega)]
  by_cases c3 : c < 0
  ·rw [if_neg c1,if_pos c3,if_neg (by rw [qbh]; omega)]
  by_cases c2 : a < b
  ·rw [if_neg c1,if_neg c3,if_pos c2,if_neg (by rw [qbh]; omega)]
  rw [if_neg c1,if_neg c3,if_neg c2,qag (n := a - b) (by omega) (by omega)]
  by_cases c4 : a - b < c
  ·rw [if_pos c4,if_neg (by rw [qbh]; omega)]
  rw [if_neg c4,qag (n := (i : Int) + 1) (by omega) (by omega),show (i : Int) + 1 = ((i + 1 : Nat) : Int) by omega,ih]
  by_cases c : zSl (s.drop (i + 1)) (f.drop (i + 1)) (z.drop (i + 1)) = true
  ·rw [if_pos c,if_pos (qbh.2 ⟨by omega,c⟩)]
  ·rw [if_neg c,if_neg (fun hh => c (qbh.1 hh).2)]
theorem qeo {s d f z : LI} (h : zT s d = true) (hc : zSl s f z = true) (k : Nat) (hk : 20 ≤ k) (y3 : LI) : ∀ (e i n : Nat),(pr z).toNat = i + e → e + 10 < n →
  qao.l1 k n f z (pr z) i s d y3 ((List.range i).map (fun (i : Nat) => d.getD (ix s (zAdd (pl z i) f)).toNat 0) ++ List.replicate e 0) = some (zCut s d f z)
 | 0,i,n,hi,hn => by
  obtain ⟨n,rfl⟩ : ∃ m,n = m + 1 := ⟨n - 1,by omega⟩
  have hz := (qd6 (qak (qaD h).1).2.1 hc).2.2.1
  rw [qao.l1,if_neg (by omega)]
  unfold zCut made
  rw [hi]; simp
 | e + 1,i,n,hi,hn => by
  obtain ⟨n,rfl⟩ : ∃ m,n = m + 1 := ⟨n - 1,by omega⟩
  have hr := qiU (qaD h).1 hc
  have hb := (qak hr).2.2
  have hl := qbY hc
  have h4 := (qak (qaD h).1).1
  have ih := qeo h hc k hk y3 e (i + 1) n (by omega) (by omega)
  have l2 := qen f (pl z i) (qd6 (qak (qaD h).1).2.1 hc).1 (qjt hr (by omega) i) (by omega) (by rw [qdA]; omega) z i (pr z) i s d y3 ((List.range i).map (fun (i : Nat) => d.getD (ix s (zAdd (pl z i) f)).toNat 0) ++ List.replicate (e + 1) 0) f.length [] n (by simp) (by omega)
  rw [List.length_nil,n0,List.drop_zero,List.drop_zero,List.nil_append,List.nil_append] at l2
  rw [qao.l1,if_pos (by omega),qc9 hr (by omega) (by omega) k hk,obs,l2,obs,qg0 h (qgq hc (qi0 (fun a ha => (qcY hr (by omega) a ha).1) i)) k hk,obs,
   if_pos (by simp; omega),if_pos (by simp),Int.toNat_natCast,qhf (fun (i : Nat) => d.getD (ix s (zAdd (pl z i) f)).toNat 0),qag (n := (i : Int) + 1) (by omega) (by omega),show (i : Int) + 1 = ((i + 1 : Nat) : Int) by omega]
  exact ih
theorem qhA (s d f z : LI) (k : Nat) (hk : 5000 ≤ k) : qao.f k s d f z = some (if zT s d = true then (if zSl s f z = true then (0,z,zCut s d f z) else (1,[],[])) else (13,[],[])) := by
 unfold qao.f
 rw [qb2 s d k (by omega),obs]
 by_cases h : zT s d = true
 ·obtain ⟨hr,_⟩ := qaD h
  obtain ⟨hl,hs,_⟩ := qak hr
  rw [if_pos h,if_pos h]
  by_cases hf : f.length = s.length
  ·by_cases hz : z.length = s.length
   ·have l0 := qep s d f z hs hl hf hz s.length 0 k (by omega) (by omega)
    rw [n0,List.drop_zero,List.drop_zero,List.drop_zero] at l0
    rw [if_pos (by omega),if_pos (by omega),l0,obs]
    by_cases hc : zSl s f z = true
    ·have hz := qiU hr hc
     have hb := qak hz
     have h0 := qcf fun x hx => (hb.2.1 x hx).1
     have := qeo h hc k (by omega) z (pr z).toNat 0 k (by omega) (by omega)
     rw [if_pos hc,if_pos hc,Sum.elim_inl,qdP z 0 (by omega) k hk,obs,zSz,if_pos hz,List.length_replicate,show (((pr z).toNat : Nat) : Int) = pr z by omega]
     rw [n0] at this
     rw [show List.replicate (pr z).toNat (0 : Int) = (List.range 0).map (fun (i : Nat) => d.getD (ix s (zAdd (pl z i) f)).toNat 0) ++ List.replicate (pr z).toNat 0 from rfl,this]
     rfl
    ·rw [if_neg hc,if_neg hc]; rfl
   ·rw [if_pos (by omega),if_neg (by omega),if_neg (fun hh => hz (qbY hh).2)]
  ·rw [if_neg (by omega),if_neg (fun hh => hf (qbY hh).1)]
 ·rw [if_neg h,if_neg h]
theorem qfd (a : LI) (ha : a.length ≤ 17592186043904) : ∀ (d i n : Nat),a.length = i + d → d < n → qaW.l0 n a a i = some (.inl ())
 | 0,i,n,hi,hn => by
  obtain ⟨n,rfl⟩ : ∃ m,n = m + 1 := ⟨n - 1,by omega⟩
  rw [qaW.l0,if_neg (by omega)]
 | d + 1,i,n,hi,hn => by
  obtain ⟨n,rfl⟩ : ∃ m,n = m + 1 := ⟨n - 1,by omega⟩
  rw [qaW.l0,if_pos (by omega),if_pos (by omega),if_pos (by omega),if_pos rfl,qag (n := (i : Int) + 1) (by omega) (by omega),show (i : Int) + 1 = ((i + 1 : Nat) : Int) by omega]
  exact qfd a ha d (i + 1) n (by omega) (by omega)
theorem qfc (s a : LI) (ha : a.length ≤ 17592186043904) : ∀ (d i n : Nat),a.length = i + d → d < n → qaH.l0 n i s a s a = some (.inl ())
 | 0,i,n,hi,hn => by
  obtain ⟨n,rfl⟩ : ∃ m,n = m + 1 := ⟨n - 1,by omega⟩
  rw [qaH.l0,if_neg (by omega)]
 | d + 1,i,n,hi,hn => by
  obtain ⟨n,rfl⟩ : ∃ m,n = m + 1 := ⟨n - 1,by omega⟩
  rw [qaH.l0,if_pos (by omega),if_pos (by omega),if_pos (by omega),if_pos rfl,qag (n := (i : Int) + 1) (by omega) (by omega),show (i : Int) + 1 = ((i + 1 : Nat) : Int) by omega]
  exact qfc s a ha d (i + 1) n (by omega) (by omega)
theorem qcw (s d : LI) (k : Nat) (h1 : s.length < k) (h2 : d.length < k) (h3 : s.length ≤ 17592186043904) (h4 : d.length ≤ 17592186043904) : qaH.f k s d s d = some true := by
 have e1 := qfd s h3 s.length 0 k (by omega) (by omega)
 have e2 := qfc s d h4 d.length 0 k (by omega) (by omega)
 unfold qaH.f qaW.f
 rw [n0] at e1 e2
 rw [if_pos rfl,e1]
 show (if (d.length : Int) = d.length then _ else _) = _
 rw [if_pos rfl,e2]; rfl
end Go.Pf

namespace Go.Pf
open Go Go.Vm
def zSub : LI → LI → LI := List.zipWith (· - ·)
end Go.Pf

namespace Go.Pf
open Go Go.Vm
theorem qfz : ∀ {p f : LI},p.length = f.length → zSub (zAdd p f) f = p
 | [],[],_ => rfl
 | a :: p,b :: f,h => by
  have := qfz (p := p) (f := f) (by simpa using h)
  show (a + b - b) :: zSub (zAdd p f) f = a :: p
  rw [this,Int.add_sub_cancel]
 | [],_ :: _,h => by simp at h
 | _ :: _,[],h => by simp at h
end Go.Pf

namespace Go.Pf
open Go Go.Vm
abbrev Tn := LI × LI
end Go.Pf

namespace Go.Pf
open Go Go.Vm
theorem qkB {l : LI} {i : Nat} {x : Int} : (l.set i x).length = l.length := List.length_set
end Go.Pf

namespace Go.Pf
open Go Go.Vm
structure Small (x : Int × LI × LI) : Prop where
 s : x.2.1.length ≤ 4
 d : x.2.2.length ≤ 4096
theorem qh3 (L : LI) (hL : L.length ≤ 17592186044415) (hw : ∀ x ∈ L,-9223372036854775808 ≤ x ∧ x < 9223372036854775808) (p : Int) (h0 : 0 ≤ p) (hp : p ≤ 17592186000000) :
  ∃ r q,qbp.f L p = some (r,q) ∧ 0 ≤ q ∧ q ≤ p + 2 := by
 unfold qbp.f
 obtain ⟨r,q,e,r0,r1,q0,_,_,q1⟩ := qbU 9 L hL hw p h0 (by omega) (by omega)
 rw [e,obs]
 dsimp only
 by_cases c : r = 0
 ·obtain ⟨r',q',e',r0',r1',q0',_,_,q1'⟩ := qbU 6 L hL hw q q0 (by omega) (by omega)
  rw [if_pos c,e',obs]
  dsimp only
  rw [if_pos ⟨r0',by show r' < 6; omega⟩,if_pos (by show r'.toNat < 6; omega)]
  exact ⟨_,_,rfl,q0',by omega⟩
 ·rw [if_neg c]
  by_cases c1 : r = 1
  ·rw [if_pos c1]; exact ⟨_,_,rfl,q0,by omega⟩
  ·obtain ⟨r',q',e',r0',r1',q0',_,_,q1'⟩ := qbU 19 L hL hw q q0 (by omega) (by omega)
   rw [if_neg c1,e',obs]
   exact ⟨_,_,rfl,q0',by omega⟩
theorem qdr (L : LI) (hL : L.length ≤ 17592186044415) (hw : ∀ x ∈ L,-9223372036854775808 ≤ x ∧ x < 9223372036854775808) (m : Nat) (hm : m ≤ 4096) (y3 : LI) (M : Int) (hM : M ≤ 17592185000000) : ∀ (e i : Nat) (p : Int) (y : LI) (n : Nat),m = i + e → e < n → 0 ≤ p → p ≤ M - 2 * e → y.length = m →
  ∃ q y',qax.l0 n m i L p y3 y = some (q,y') ∧ y'.length = m ∧ 0 ≤ q ∧ q ≤ p + 2 * e
 | 0,i,p,y,n,hi,hn,h0,hp,hy => by
  obtain ⟨n,rfl⟩ : ∃ m,n = m + 1 := ⟨n - 1,by omega⟩
  exact ⟨p,y,by rw [qax.l0,if_neg (by omega)],hy,h0,by omega⟩
 | e + 1,i,p,y,n,hi,hn,h0,hp,hy => by
  obtain ⟨n,rfl⟩ : ∃ m,n = m + 1 := ⟨n - 1,by omega⟩
  obtain ⟨r,q,e1,q0,q1⟩ := qh3 L hL hw p h0 (by omega)
  obtain ⟨q',y',e2,h1,h2,h3⟩ := qdr L hL hw m hm y3 M hM e (i + 1) q (y.set i r) n (by omega) (by omega) q0 (by omega) (by rw [qkB]; exact hy)
  refine ⟨q',y',?_,h1,h2,by omega⟩
  rw [qax.l0,if_pos (by omega),e1,obs]
  dsimp only
  rw [if_pos (by omega),if_pos (by omega),Int.toNat_natCast,qag (n := (i : Int) + 1) (by omega) (by omega),show (i : Int) + 1 = ((i + 1 : Nat) : Int) by omega]
  exact e2
theorem qh2 (L : LI) (hL : L.length ≤ 17592186044415) (hw : ∀ x ∈ L,-9223372036854775808 ≤ x ∧ x < 9223372036854775808) (s : LI) (hs : s.length ≤ 1000) (p : Int) (h0 : 0 ≤ p) (hp : p ≤ 17592184000000) (k : Nat) (hk : 5000 ≤ k) :
  ∃ q d,qax.f k s L p = some (q,s,d) ∧ (d.length : Int) = zSz s ∧ 0 ≤ q ∧ q ≤ p + 8192 := by
 have hz := qkk s
 obtain ⟨q,d,e,h1,h2,h3⟩ := qdr L hL hw (zSz s).toNat (by omega) s 17592185000000 (by omega) (zSz s).toNat 0 p (List.replicate (zSz s).toNat 0) k (by omega) (by omega) h0 (by omega) (by simp)
 unfold qax.f
 rw [n0] at e
 rw [qdP s 0 hs k hk,obs]
 dsimp only
 rw [List.length_replicate,e]
 exact ⟨q,d,rfl,by omega,h2,by omega⟩
end Go.Pf

namespace Go.Pf
open Go
def zMay17 (s d m sp : LI) : Int := if zT s d = true then (if mSp m sp s.length = true then 0 else 1) else 13
theorem qcN {s d m sp : LI} : zMay17 s d m sp = 0 ↔ zT s d = true ∧ mSp m sp s.length = true := by
 unfold zMay17
 by_cases h : zT s d = true <;> by_cases g : mSp m sp s.length = true <;> simp [h,g]
theorem qfE (s d m sp : LI) (hs : sp.length ≤ 17592186044415) (k : Nat) (hk : sp.length + 10 ≤ k) : qcF.f k s d m sp = some (zMay17 s d m sp) := by
 rw [qcF.f,qbQ s d k (by omega)]
 unfold zMay17
 by_cases h : zT s d = true
 ·by_cases hm : mR m = true
  ·simp only [h,hm,obs,if_true,qbH m k (by omega),qco m sp _ (by omega) k hk]
   by_cases g : mSp m sp s.length = true <;> simp [g]
  ·have g : ¬ mSp m sp s.length = true := fun g => hm (by unfold mSp at g; simp only [Bool.and_eq_true] at g; exact g.1.1)
   simp only [h,obs,if_true,qbH m k (by omega)]
   rw [if_neg hm,if_neg g]
 ·simp [h]
def mFr (s m sp : LI) (e : Int) : LI := (mTile s m sp e).map fun p => p.1
theorem qjh {m A : LI} (hm : ∀ x ∈ m,1 ≤ x ∧ x ≤ 8) : ∀ {sh sp : LI},sp.length = sh.length → (∀ x ∈ sh,0 ≤ x) → (∀ x ∈ sp,-1 ≤ x ∧ x < (m.length : Int)) → zSl sh ((List.zipWith (tl1 m A) sh sp).map fun p => p.1) ((List.zipWith (tl1 m A) sh sp).map fun p => p.2 - p.1) = true
 | [],[],_,_,_ => rfl
 | [],_ :: _,h,_,_ => by simp at h
 | _ :: _,[],h,_,_ => by simp at h
 | x :: sh,q :: sp,h,hx,hq => by
  simp only [List.zipWith_cons_cons,List.map_cons]
  refine qbh.2 ⟨?_,qjh hm (by simpa using h) (fun y hy => hx y (List.mem_cons_of_mem _ hy)) fun y hy => hq y (List.mem_cons_of_mem _ hy)⟩
  have h0 := hx x (List.mem_cons_self ..)
  have hq0 := hq q (List.mem_cons_self ..)
  unfold tl1
  split
  ·rename_i hq1
   have h1 : 1 ≤ m.getD q.toNat 0 := by
    have hlt : q.toNat < m.length := by omega
    rw [show m.getD q.toNat 0 = m[q.toNat] by simp [List.getD,hlt]]; exact (hm _ (List.getElem_mem hlt)).1
   have := qg8 (x := x) (k := m.getD q.toNat 0) (i := A.getD q.toNat 0) h0 h1
   omega
  ·simp only; omega
theorem qh9 {m : Int} : ∀ {sp pre : LI},okGo m pre sp = true → ∀ x ∈ sp,-1 ≤ x ∧ x < m
 | [],_,_,x,hx => by cases hx
 | a :: r,pre,h,x,hx => by
  simp only [okGo,Bool.and_eq_true,decide_eq_true_eq] at h
  rcases List.mem_cons.1 hx with rfl | hx
  ·exact ⟨by omega,by omega⟩
  ·exact qh9 h.2 x hx
theorem qcn {s m sp : LI} (h1 : mSR s = true) (h2 : mSp m sp s.length = true) (e : Int) : zSl s (mFr s m sp e) (mSz s m sp e) = true := by
 have hsp := qbn h2
 exact qjh (qfT hsp.1) (by omega) (fun x hx => ((qak h1).2.1 x hx).1) (qh9 hsp.2.2)
def zPrt (s d m sp : LI) (e : Int) : LI × LI := (mSz s m sp e,zCut s d (mFr s m sp e) (mSz s m sp e))
def zPart (s d m sp : LI) (e : Int) : Int × LI × LI := if zMay17 s d m sp = 0 then (if 0 ≤ e ∧ e < mD m then (0,zPrt s d m sp e) else (23,[],[])) else (zMay17 s d m sp,[],[])
theorem qe8 (s d m sp : LI) (e : Int) (hs : sp.length ≤ 17592186044415) (k : Nat) (hk : sp.length + 5010 ≤ k) : qb8.f k s d m sp e = some (zPart s d m sp e) := by
  rw [qb8.f,qfE s d m sp hs k (by omega)]
  simp only [obs]
  unfold zPart
  by_cases h : zMay17 s d m sp = 0
  · rw [if_pos h,if_pos h]
    obtain ⟨hT,h2⟩ := qcN.1 h
    have h1 := (qaD hT).1
    by_cases c1 : e < 0
    · rw [if_pos c1,if_neg (by omega)]
    · rw [if_neg c1,qbs m k (by omega)]
      simp only [obs]
      by_cases c2 : mD m ≤ e
      · rw [if_pos c2,if_neg (by omega)]
      · have hf : qa1.f k s m sp e = some (mFr s m sp e) := qfD h1 h2 (by omega) (by omega) k (by omega)
        rw [if_neg c2,if_pos (by omega),hf,qfC h1 h2 (by omega) (by omega) k (by omega)]
        simp only [obs]
        rw [qhY s d _ _ k (by omega),if_pos hT,if_pos (qcn h1 h2 e)]
        rfl
  · rw [if_neg h,if_neg h]
def zAll17 (s d m sp : LI) : List (LI × LI) := (List.range (mD m).toNat).map fun i : Nat => zPrt s d m sp i
theorem qcB (s d m sp : LI) : ((zAll17 s d m sp).length : Int) = mD m := by
 have := qcZ m
 simp [zAll17]; omega
theorem qe9 (s d m sp : LI) (hs : sp.length ≤ 17592186044415) (h : zMay17 s d m sp = 0) (k : Nat) (hk : sp.length + 5010 ≤ k) : ∀ (e i n : Nat),mD m = ((i + e : Nat) : Int) → e < n →
  qa9.l0 k n m sp (mD m) i s d ((List.range i).map fun i : Nat => zPrt s d m sp i) = some (.inl (zAll17 s d m sp))
 | 0,i,n,h1,h2 => by
  obtain ⟨n,rfl⟩ : ∃ n',n = n' + 1 := ⟨n - 1,by omega⟩
  rw [qa9.l0,if_neg (by omega)]
  have : i = (mD m).toNat := by omega
  rw [this]; rfl
 | e + 1,i,n,h1,h2 => by
  obtain ⟨n,rfl⟩ : ∃ n',n = n' + 1 := ⟨n - 1,by omega⟩
  have hb := qcZ m
  rw [qa9.l0,if_pos (by omega),qe8 s d m sp i hs k hk]
  have hp : zPart s d m sp i = (0,zPrt s d m sp i) := by unfold zPart; rw [if_pos h,if_pos (by omega)]
  rw [hp]
  simp only [obs,if_true]
  rw [if_pos (by simp; omega)]
  have hw : IntKind.i64.wrap ((i : Int) + 1) = ((i + 1 : Nat) : Int) := by rw [IntKind.wrap_i64]; omega
  rw [hw]
  have := qe9 s d m sp hs h k hk e (i + 1) n (by omega) (by omega)
  rw [List.range_succ,List.map_append] at this
  exact this
theorem qdH (s d m sp : LI) (hs : sp.length ≤ 17592186044415) (k : Nat) (hk : sp.length + 5010 ≤ k) : qa9.f k s d m sp = some (if zMay17 s d m sp = 0 then (0,zAll17 s d m sp) else (zMay17 s d m sp,[])) := by
 rw [qa9.f,qfE s d m sp hs k (by omega)]
 simp only [obs]
 by_cases h : zMay17 s d m sp = 0
 ·rw [if_pos h,if_pos h,qbs m k (by omega)]
  have hb := qcZ m
  simp only [obs]
  have := qe9 s d m sp hs h k hk (mD m).toNat 0 k (by omega) (by omega)
  simp only [List.range_zero,List.map_nil] at this
  rw [show (0 : Int) = ((0 : Nat) : Int) from rfl,this]
  rfl
 ·rw [if_neg h,if_neg h]
end Go.Pf

namespace Go.Pf
open Go Go.Vm
theorem iterX {S R : Type} {L : Nat → Int → S → Option R} {st : Nat → S} (res : Nat → R) {m : Nat} (N : Nat)
  (hend : ∀ n,N ≤ n → L (n + 1) (m : Int) (st m) = some (res m))
  (hstep : ∀ i n,i < m → N ≤ n → L n ((i + 1 : Nat) : Int) (st (i + 1)) = some (res (i + 1)) → L (n + 1) (i : Int) (st i) = some (res i)) :
  ∀ (e i n : Nat),m = i + e → e + N < n → L n (i : Int) (st i) = some (res i)
 | 0,i,n,hi,hn => by
  obtain ⟨n,rfl⟩ : ∃ q,n = q + 1 := ⟨n - 1,by omega⟩
  obtain rfl : m = i := by omega
  exact hend n (by omega)
 | e + 1,i,n,hi,hn => by
  obtain ⟨n,rfl⟩ : ∃ q,n = q + 1 := ⟨n - 1,by omega⟩
  exact hstep i n (by omega) (by omega) (iterX res N hend hstep e (i + 1) n (by omega) (by omega))
theorem iter0 {S R : Type} {L : Nat → Int → S → Option R} {st : Nat → S} (res : Nat → R) {m : Nat} (N : Nat)
  (hend : ∀ n,N ≤ n → L (n + 1) (m : Int) (st m) = some (res m))
  (hstep : ∀ i n,i < m → N ≤ n → L n ((i + 1 : Nat) : Int) (st (i + 1)) = some (res (i + 1)) → L (n + 1) (i : Int) (st i) = some (res i)) (n : Nat) (hn : m + N < n) : L n 0 (st 0) = some (res 0) :=
 iterX res N hend hstep m 0 n (by omega) hn
theorem qbf {i m : Nat} (h : i < m) (hm : m ≤ 1152921504606846976) : IntKind.i64.wrap ((i : Int) + 1) = ((i + 1 : Nat) : Int) := by
 rw [qag (by omega) (by omega)]; omega
theorem qfN (a b : LI) (ha : a.length ≤ 17592186043904) (k : Nat) (hk : a.length < k) : qaW.f k a b = some (decide (a = b)) := by
 unfold qaW.f
 by_cases hl : a.length = b.length
 ·have := iter0 (L := fun n i (_ : Unit) => qaW.l0 n a b i) (st := fun _=>()) (fun i => if a.drop i = b.drop i then .inl () else .inr false) (m := a.length) 0
   (fun n _ => by rw [qaW.l0,if_neg (by omega),List.drop_eq_nil_of_le (Nat.le_refl _),List.drop_eq_nil_of_le (by omega),if_pos rfl])
   (fun i n hi _ ih => by
    rw [qaW.l0,if_pos (by omega),if_pos (by omega),if_pos (by omega),Int.toNat_natCast,qbf hi (by omega),ih,qaf hi (0 : Int),qaf (show i < b.length by omega) (0 : Int)]
    by_cases c : a.getD i 0 = b.getD i 0
    ·rw [if_pos c,c]
     by_cases c2 : a.drop (i + 1) = b.drop (i + 1)
     ·rw [if_pos c2,c2,if_pos rfl]
     ·rw [if_neg c2,if_neg (fun h => c2 (List.cons.inj h).2)]
    ·rw [if_neg c,if_neg (fun h => c (List.cons.inj h).1)]) k (by omega)
  rw [if_pos (by omega),this,List.drop_zero,List.drop_zero]
  by_cases c : a = b
  ·rw [if_pos c,decide_eq_true c]; rfl
  ·rw [if_neg c,decide_eq_false c]; rfl
 ·rw [if_neg (by omega),decide_eq_false (fun h => hl (by rw [h]))]
theorem qeg (a b : LI) (ha : a.length ≤ 17592186043904) (k : Nat) (hk : a.length < k) : qav.f k a b = some (decide (a = b)) := by
 unfold qav.f
 by_cases hl : a.length = b.length
 ·have := iter0 (L := fun n i (_ : Unit) => qav.l0 n a b a.length i) (st := fun _=>()) (fun i => if a.drop i = b.drop i then .inl () else .inr false) (m := a.length) 0
   (fun n _ => by rw [qav.l0,if_neg (by omega),List.drop_eq_nil_of_le (Nat.le_refl _),List.drop_eq_nil_of_le (by omega),if_pos rfl])
   (fun i n hi _ ih => by
    rw [qav.l0,if_pos (by omega),if_pos (by omega),if_pos (by omega),Int.toNat_natCast,qbf hi (by omega),ih,qaf hi (0 : Int),qaf (show i < b.length by omega) (0 : Int)]
    by_cases c : a.getD i 0 = b.getD i 0
    ·rw [if_pos c,c]
     by_cases c2 : a.drop (i + 1) = b.drop (i + 1)
     ·rw [if_pos c2,c2,if_pos rfl]
     ·rw [if_neg c2,if_neg (fun h => c2 (List.cons.inj h).2)]
    ·rw [if_neg c,if_neg (fun h => c (List.cons.inj h).1)]) k (by omega)
  rw [if_pos (by omega),this,List.drop_zero,List.drop_zero]
  by_cases c : a = b
  ·rw [if_pos c,decide_eq_true c]; rfl
  ·rw [if_neg c,decide_eq_false c]; rfl
 ·rw [if_neg (by omega),decide_eq_false (fun h => hl (by rw [h]))]
theorem qjG (g : Nat → Int) {m i : Nat} (h : i < m) (c : Int) : ((List.range i).map g ++ List.replicate (m - i) c).set i (g i) = (List.range (i + 1)).map g ++ List.replicate (m - (i + 1)) c := by
 have := qhf g i (m - (i + 1)) c
 rwa [show m - (i + 1) + 1 = m - i by omega] at this
end Go.Pf

namespace Go.Pf
open Go Go.Vm
theorem qfa (a b : LI) (ha : a.length ≤ 17592186043904) (k : Nat) (hk : a.length < k) : qb9.f k a b = some (decide (a = b)) := by
 unfold qb9.f
 rw [qeg a b ha k hk,obs]
end Go.Pf

namespace Go.Pf
open Go Go.Vm
theorem upTo {R : Type} {L : Nat → Int → Option R} {res : R} (lo hi : Int) (N : Nat)
  (hend : ∀ n,N ≤ n → L (n + 1) hi = some res)
  (hstep : ∀ i n,lo ≤ i → i < hi → N ≤ n → L n (i + 1) = some res → L (n + 1) i = some res) : ∀ (e : Nat) (i : Int) (n : Nat),i + e = hi → lo ≤ i → e + N < n → L n i = some res
 | 0,i,n,hi',_,hn => by
  obtain ⟨n,rfl⟩ : ∃ q,n = q + 1 := ⟨n - 1,by omega⟩
  obtain rfl : i = hi := by omega
  exact hend n (by omega)
 | e + 1,i,n,hi',hl,hn => by
  obtain ⟨n,rfl⟩ : ∃ q,n = q + 1 := ⟨n - 1,by omega⟩
  exact hstep i n hl (by omega) (by omega) (upTo lo hi N hend hstep e (i + 1) n (by omega) (by omega) (by omega))
end Go.Pf

namespace Go.Pf
open Go Go.Vm
theorem qjy {s : LI} {L : Nat → Int → LI → Option LI} (f : LI → Int) {M : Nat} (hM : M = (pr s).toNat) (N : Nat)
  (hend : ∀ n y,N ≤ n → L (n + 1) (M : Int) y = some y)
  (hstep : ∀ (i n : Nat) (y : LI),i < M → N ≤ n → y.length = M → L (n + 1) (i : Int) y = L n ((i + 1 : Nat) : Int) (y.set i (f (pl s i)))) (c : Int) (n : Nat) (hn : M + N < n) : L n 0 (List.replicate M c) = some (made s f) := by
 have := iter0 (L := L) (st := fun (i : Nat) => (List.range i).map (fun (i : Nat) => f (pl s i)) ++ List.replicate (M - i) c) (fun _=>made s f) (m := M) N
  (fun n hn => by rw [hend n _ hn,Nat.sub_self,List.replicate_zero,List.append_nil,hM]; rfl)
  (fun i n hi hn ih => by
   rw [hstep i n _ hi hn (by simp; omega),qjG (fun (i : Nat) => f (pl s i)) hi,ih]) n (by omega)
 rw [Nat.sub_zero,List.range_zero,List.map_nil,List.nil_append] at this
 exact this
theorem qdn {s : LI} (hs : mSR s = true) : 0 ≤ pr s ∧ pr s ≤ 4096 ∧ zSz s = pr s := by
 have hb := qak hs
 exact ⟨qcf fun x hx => (hb.2.1 x hx).1,hb.2.2,by rw [zSz,if_pos hs]⟩
theorem qgQ (s : LI) (n : Int) (k : Nat) (hk : 10000 ≤ k) : qbM.f k s n = some (if mSR s = true then (0,s,List.replicate (zSz s).toNat n) else (13,[],[])) := by
  unfold qbM.f
  rw [qbB _ k (by omega),obs]
  by_cases hs : mSR s = true
  rotate_left
  · rw [if_neg hs,if_neg hs]
  have hb := qak hs
  obtain ⟨h0,h1,h2⟩ := qdn hs
  have e : ∀ M : Nat,M = (pr s).toNat → List.replicate M n = made s fun _=>n := fun M hM => by
    rw [made,← hM]
    refine List.ext_getElem (by simp) fun i h1 h2 => ?_
    simp
  rw [if_pos hs,if_pos hs]
  unfold qah.f
  rw [qcp _ (by omega),obs,qcq _ k (by omega),obs,h2,if_pos (by omega),List.length_replicate,
    qjy (s := s) (L := fun m i y => qah.l0 k m s ((pr s).toNat : Int) i n s y) (fun _=>n) rfl 0 (fun m y _ => by rw [qah.l0,if_neg (by omega)]) (fun i m y hi _ hy => by
      rw [qah.l0,if_pos (by omega),qcO hs (by omega) (by omega) k (by omega),obs,qb1.f,obs,if_pos (by omega),if_pos (by omega),Int.toNat_natCast,qbf hi (by omega)]) 0 k (by omega),obs,obs,e _ rfl]
end Go.Pf

namespace Go.Pf
open Go
theorem qjv : ∀ (l p : LI) (acc : Int),l.all okD = true → mIn l p = true → 0 ≤ acc → 0 ≤ ofGo l p acc ∧ ofGo l p acc < (acc + 1) * pd l
 | [],[],acc,_,_,h0 => by simp [ofGo,pd]; omega
 | [],_ :: _,_,_,h,_ => by simp [mIn] at h
 | _ :: _,[],_,_,h,_ => by simp [mIn] at h
 | x :: r,p :: s,acc,ha,h,h0 => by
  obtain ⟨⟨h1,h2⟩,h3⟩ := qbi.1 h
  have hr : r.all okD = true := by simp only [List.all_cons,Bool.and_eq_true] at ha; exact ha.2
  have hp := (qjZ r hr).1
  have hx : 0 ≤ acc * x := Int.mul_nonneg h0 (by omega)
  obtain ⟨g1,g2⟩ := qjv r s (acc * x + p) hr h3 (by omega)
  rw [ofGo,if_neg (by omega)]
  refine ⟨g1,Int.lt_of_lt_of_le g2 ?_⟩
  show _ ≤ (acc + 1) * (x * pd r)
  rw [← Int.mul_assoc]
  refine Int.mul_le_mul_of_nonneg_right ?_ (by omega)
  rw [Int.add_mul]; omega
theorem qkv : ∀ {l : LI} (d : Int),l.all okD = true → mIn l (atM l d) = true
 | [],_,_ => rfl
 | x :: r,d,h => by
  simp only [List.all_cons,Bool.and_eq_true] at h
  have hx := qbx.1 h.1
  exact qbi.2 ⟨⟨Int.emod_nonneg _ (by omega),Int.emod_lt_of_pos _ (by omega)⟩,qkv d h.2⟩
theorem qko (sp : LI) : ∀ {l A : LI} (i : Nat),mIn l A = true → mIn l (msk sp i A) = true
 | [],[],_,_ => rfl
 | [],_ :: _,_,h => by simp [mIn] at h
 | _ :: _,[],_,h => by simp [mIn] at h
 | x :: r,a :: s,i,h => by
  obtain ⟨h1,h3⟩ := qbi.1 h
  refine qbi.2 ⟨?_,qko sp (i + 1) h3⟩
  split <;> omega
theorem qk0 {m sp : LI} {r : Int} (h : mSp m sp r = true) {e : Int} (h0 : 0 ≤ e) (h1 : e < mD m) : 0 ≤ mF m sp e ∧ mF m sp e < mD m := by
 have hs := qbn h
 have hR := qch hs.1
 have h2 : mSp m sp sp.length = true := by unfold mSp at h ⊢; simp only [Bool.and_eq_true,decide_eq_true_eq] at h ⊢; exact ⟨⟨h.1.1,trivial⟩,h.2⟩
 have hd : mD m = pd m := by rw [mD,if_pos hs.1]
 rw [mF,if_pos ⟨h2,h0,h1⟩,mO,if_pos ⟨hs.1,by rw [qib,qcy]⟩,hd]
 have := qjv m (msk sp 0 (atM m e)) 0 hR.2.1 (qko sp 0 (qkv e hR.2.1)) (Int.le_refl _)
 rw [Int.zero_add,Int.one_mul] at this
 exact this
abbrev tz : LI × LI := ([],[])
def zOkP (s m sp : LI) (l : List (LI × LI)) (j : Nat) : Bool := zT (l.getD j tz).1 (l.getD j tz).2 && decide ((l.getD j tz).1 = mSz s m sp j)
theorem qec {s m sp : LI} (h1 : mSR s = true) (h2 : mSp m sp s.length = true) {l : List (LI × LI)} (hl : (l.length : Int) = mD m) (k : Nat) (hk : 100 ≤ k) : ∀ (e i n : Nat),l.length = i + e → e < n →
  qad.l0 k n l s m sp l l.length i = some (if (List.range' i e).all (zOkP s m sp l) = true then .inl () else .inr 13)
 | 0,i,n,hi,hn => by
  obtain ⟨n,rfl⟩ : ∃ m,n = m + 1 := ⟨n - 1,by omega⟩
  rw [qad.l0,if_neg (by omega)]; rfl
 | e + 1,i,n,hi,hn => by
  obtain ⟨n,rfl⟩ : ∃ m,n = m + 1 := ⟨n - 1,by omega⟩
  have hb := qcZ m
  rw [qad.l0,if_pos (by omega),if_pos (by omega),Int.toNat_natCast,qbQ _ _ k (by omega),obs,List.range'_succ,List.all_cons]
  unfold zOkP
  by_cases c : zT (l.getD i ([],[])).1 (l.getD i ([],[])).2 = true
  ·have hz := (qak (qaD c).1).1
   rw [if_pos c,qfC h1 h2 (by omega) (by omega) k (by omega),obs,qfa _ _ (by omega) k (by omega),obs,qbf (m := l.length) (by omega) (by omega)]
   by_cases c2 : (l.getD i ([],[])).1 = mSz s m sp i
   ·have ih := qec h1 h2 hl k hk e (i + 1) n (by omega) (by omega)
    rw [decide_eq_true c2,if_pos rfl,ih,c]; rfl
   ·rw [decide_eq_false c2,if_neg (by decide),if_neg (by simp)]
  ·have c' := Bool.eq_false_iff.2 c
   rw [c']; rfl
theorem qgN (a b : LI) (hl : a.length = b.length) (hb : a.length ≤ 1152921504606846976) : ∀ (d i n : Nat),a.length = i + d → d < n →
  qan.l0 n a b a.length i = some (if a.drop i = b.drop i then .inl () else .inr false)
 | 0,i,n,hi,hn => by
  obtain ⟨n,rfl⟩ : ∃ m,n = m + 1 := ⟨n - 1,by omega⟩
  rw [qan.l0,if_neg (by omega),List.drop_eq_nil_of_le (by omega),List.drop_eq_nil_of_le (by omega),if_pos rfl]
 | d + 1,i,n,hi,hn => by
  obtain ⟨n,rfl⟩ : ∃ m,n = m + 1 := ⟨n - 1,by omega⟩
  rw [qan.l0,if_pos (by omega),if_pos (by omega),if_pos (by omega),Int.toNat_natCast,qaf (show i < a.length by omega) 0,qaf (show i < b.length by omega) 0,qbf (m := a.length) (by omega) (by omega),qgN a b hl hb d (i + 1) n (by omega) (by omega)]
  by_cases c : a.getD i 0 = b.getD i 0
  ·rw [if_pos c,c]; simp
  ·rw [if_neg c,if_neg (by simp at c ⊢; exact fun h => absurd h c)]
theorem qjT (a b : LI) (hb : a.length ≤ 1152921504606846976) (k : Nat) (hk : a.length < k) : qan.f k a b = some (decide (a = b)) := by
 unfold qan.f
 by_cases h : a.length = b.length
 ·have := qgN a b h hb a.length 0 k (by omega) hk
  rw [n0,List.drop_zero,List.drop_zero] at this
  rw [if_pos (by omega),this,obs]
  by_cases c : a = b
  ·rw [if_pos c,decide_eq_true c]; rfl
  ·rw [if_neg c,decide_eq_false c]; rfl
 ·rw [if_neg (by omega),decide_eq_false (fun c => h (by rw [c]))]
theorem qgP (s d s' d' : LI) (h : zT s d = true) (k : Nat) (hk : 5000 ≤ k) : qce.f k s d s' d' = some (decide ((s,d) = (s',d'))) := by
 obtain ⟨g1,g2⟩ := qaD h
 have g3 := qak g1
 unfold qce.f
 rw [qfa _ _ (by omega) k (by omega),obs]
 by_cases c : s = s'
 ·rw [decide_eq_true c,if_pos rfl,qjT _ _ (by omega) k (by omega),obs]
  simp [c]
 ·rw [decide_eq_false c,if_neg (by decide)]
  simp [c]
def zSmP (m sp : LI) (l : List (LI × LI)) (j : Nat) : Bool := decide (l.getD j tz = l.getD (mF m sp j).toNat tz)
theorem qeb {s m sp : LI} (h2 : mSp m sp s.length = true) (hsp : sp.length ≤ 1000) {l : List (LI × LI)} (hl : (l.length : Int) = mD m) (hT : ∀ j,j < l.length → zT (l.getD j tz).1 (l.getD j tz).2 = true) (k : Nat) (hk : 5000 ≤ k) : ∀ (e i n : Nat),l.length = i + e → e < n →
  qad.l1 k n l s m sp l l.length i = some (if (List.range' i e).all (zSmP m sp l) = true then .inl () else .inr 25)
 | 0,i,n,hi,hn => by
  obtain ⟨n,rfl⟩ : ∃ m,n = m + 1 := ⟨n - 1,by omega⟩
  rw [qad.l1,if_neg (by omega)]; rfl
 | e + 1,i,n,hi,hn => by
  obtain ⟨n,rfl⟩ : ∃ m,n = m + 1 := ⟨n - 1,by omega⟩
  have hb := qcZ m
  have hF := qk0 h2 (show (0 : Int) ≤ (i : Nat) by omega) (by omega)
  rw [qad.l1,if_pos (by omega),if_pos (by omega),Int.toNat_natCast,qht m sp _ (by omega) k (by omega),obs,if_pos (by omega),qgP _ _ _ _ (hT i (by omega)) k hk,obs,List.range'_succ,List.all_cons,qbf (m := l.length) (by omega) (by omega),
   qeb h2 hsp hl hT k hk e (i + 1) n (by omega) (by omega)]
  unfold zSmP
  by_cases c : l.getD i tz = l.getD (mF m sp i).toNat tz
  ·have c' : ((l.getD i ([],[])).1,(l.getD i ([],[])).2) = ((l.getD (mF m sp i).toNat ([],[])).1,(l.getD (mF m sp i).toNat ([],[])).2) := c
   rw [decide_eq_true c',if_pos rfl]; simp only [c,decide_true,Bool.true_and]
  ·have c' : ¬ ((l.getD i ([],[])).1,(l.getD i ([],[])).2) = ((l.getD (mF m sp i).toNat ([],[])).1,(l.getD (mF m sp i).toNat ([],[])).2) := c
   rw [decide_eq_false c',if_neg (by decide)]; simp only [c,decide_false,Bool.false_and]; rfl
theorem qd8 (f : LI) (p : LI) (hf : ∀ a ∈ f,0 ≤ a ∧ a ≤ 32) (hp : ∀ a ∈ p,0 ≤ a ∧ a ≤ 32) (hl : f.length ≤ 4) (hlen : p.length = f.length) (s m sp : LI) (a b : Int) (l : List (LI × LI)) (c e : Int) (x : LI) (g h : Int) (y z w v : LI) : ∀ (d : Nat) (L : LI) (n : Nat),f.length = L.length + d → d < n →
  qad.l4 n s m sp a b l c e x g h p.length L.length y z f (L ++ p.drop L.length) w v = some (L ++ zAdd (p.drop L.length) (f.drop L.length))
 | 0,L,n,hi,hn => by
  obtain ⟨n,rfl⟩ : ∃ m,n = m + 1 := ⟨n - 1,by omega⟩
  rw [qad.l4,if_neg (by omega),List.drop_eq_nil_of_le (by omega)]; rfl
 | d + 1,L,n,hi,hn => by
  obtain ⟨n,rfl⟩ : ∃ m,n = m + 1 := ⟨n - 1,by omega⟩
  have ha := hf _ (qap (show L.length < f.length by omega) 0)
  have hb := hp _ (qap (show L.length < p.length by omega) 0)
  have ih := qd8 f p hf hp hl hlen s m sp a b l c e x g h y z w v d (L ++ [p.getD L.length 0 + f.getD L.length 0]) n (by simp; omega) (by omega)
  have hL : (L ++ p.drop L.length).length = f.length := by rw [List.length_append,List.length_drop]; omega
  rw [qad.l4,if_pos (by omega),if_pos (by rw [hL]; omega),if_pos (by rw [hL]; omega),if_pos (by omega),if_pos (by omega),Int.toNat_natCast,qaf (show L.length < p.length by omega) (0 : Int),qaf (show L.length < f.length by omega) (0 : Int),getL,setL,qag (n := p.getD L.length 0 + f.getD L.length 0) (by omega) (by omega),qag (n := (L.length : Int) + 1) (by omega) (by omega)]
  rw [List.length_append,List.length_singleton] at ih
  rw [show (L.length : Int) + 1 = ((L.length + 1 : Nat) : Int) by omega,ih]
  simp [zAdd]
def putS (s z f x : LI) (o : LI) (i : Nat) : LI := o.set (ix s (zAdd (pl z i) f)).toNat (x.getD i 0)
theorem qdm (s z f x o : LI) (i : Nat) : (putS s z f x o i).length = o.length := by simp [putS]
theorem qeJ {α : Type} {g : LI → α → LI} (hg : ∀ o a,(g o a).length = o.length) : ∀ (l : List α) (o : LI),(l.foldl g o).length = o.length
 | [],_ => rfl
 | a :: r,o => by rw [List.foldl_cons,qeJ hg r,hg]
theorem qd9 {s z f x : LI} (h1 : mSR s = true) (hc : zSl s f z = true) (hx : zT z x = true) (m sp : LI) (a : Int) (l : List (LI × LI)) (c e : Int) (y4 : LI) (k : Nat) (hk : 5000 ≤ k) : ∀ (d i n : Nat) (o : LI),x.length = i + d → d + 10 < n → (o.length : Int) = pr s →
  qad.l3 k n s m sp a l c e x x.length i z x f y4 o = some ((List.range' i d).foldl (putS s z f x) o)
 | 0,i,n,o,hi,hn,ho => by
  obtain ⟨n,rfl⟩ : ∃ m,n = m + 1 := ⟨n - 1,by omega⟩
  rw [qad.l3,if_neg (by omega)]; rfl
 | d + 1,i,n,o,hi,hn,ho => by
  obtain ⟨n,rfl⟩ : ∃ m,n = m + 1 := ⟨n - 1,by omega⟩
  obtain ⟨g1,g2⟩ := qaD hx
  have g3 := qak g1
  have gs := qak h1
  have hlz := qbY hc
  have hbz := qd6 gs.2.1 hc
  have hin : mIn s (zAdd (pl z i) f) = true := qgq hc (qi0 (fun a ha => (qcY g1 (by omega) a ha).1) i)
  have hib := qhM hin
  have h4' := fun n (hn : f.length < n) => qd8 f (pl z i) hbz.1 (qjt g1 (by omega) i) (by omega) (by rw [qdA]; omega) s m sp a (x.getD i 0) l c e x x.length i z x y4 o f.length [] n (by simp) hn
  have ih := qd9 h1 hc hx m sp a l c e y4 k hk d (i + 1) n (putS s z f x o i) (by omega) (by omega) (by rw [qdm]; exact ho)
  have hzi : zIx s (zAdd (pl z i) f) = ix s (zAdd (pl z i) f) := by rw [zIx,if_pos ⟨h1,hin⟩]
  have h5 := h4' n (by omega)
  rw [List.length_nil,n0,List.drop_zero,List.drop_zero,List.nil_append,List.nil_append] at h5
  rw [qad.l3,if_pos (by omega),if_pos (by omega),qcO g1 (by omega) (by omega) k (by omega),obs,Int.toNat_natCast,h5,obs,qej _ _ k (by omega),obs,hzi,if_pos (by omega),if_pos (by omega),qbf (m := x.length) (by omega) (by omega),List.range'_succ,List.foldl_cons]
  exact ih
def putP (s m sp : LI) (l : List (LI × LI)) (o : LI) (e : Nat) : LI := (List.range' 0 (l.getD e tz).2.length).foldl (putS s (mSz s m sp e) (mFr s m sp e) (l.getD e tz).2) o
theorem qeA (s m sp : LI) (l : List (LI × LI)) (o : LI) (e : Nat) : (putP s m sp l o e).length = o.length := qeJ (fun _ _ => qdm _ _ _ _ _ _) _ _
theorem qea {s m sp : LI} (h1 : mSR s = true) (h2 : mSp m sp s.length = true) {l : List (LI × LI)} (hl : (l.length : Int) = mD m) (hT : ∀ j,j < l.length → zOkP s m sp l j = true) (a : Int) (y2 : LI) (k : Nat) (hk : 5000 ≤ k) : ∀ (d i n : Nat) (o : LI),l.length = i + d → d + 5000 < n → (o.length : Int) = pr s →
  qad.l2 k n s m sp a l l.length i y2 o = some ((List.range' i d).foldl (putP s m sp l) o)
 | 0,i,n,o,hi,hn,ho => by
  obtain ⟨n,rfl⟩ : ∃ m,n = m + 1 := ⟨n - 1,by omega⟩
  rw [qad.l2,if_neg (by omega)]; rfl
 | d + 1,i,n,o,hi,hn,ho => by
  obtain ⟨n,rfl⟩ : ∃ m,n = m + 1 := ⟨n - 1,by omega⟩
  have hb := qcZ m
  have hc := hT i (by omega)
  unfold zOkP at hc
  simp only [Bool.and_eq_true,decide_eq_true_eq] at hc
  obtain ⟨c1,c2⟩ := hc
  have hp := (qak (qaD c1).1).2.2
  have hle := (qaD c1).2
  have hf : qa1.f k s m sp i = some (mFr s m sp i) := qfD h1 h2 (by omega) (by omega) k (by omega)
  have h3 := qd9 h1 (show zSl s (mFr s m sp i) (l.getD i tz).1 = true by rw [c2]; exact qcn h1 h2 i) c1 m sp a l l.length i y2 k hk (l.getD i tz).2.length 0 n o (by omega) (by omega) ho
  have ih := qea h1 h2 hl hT a y2 k hk d (i + 1) n (putP s m sp l o i) (by omega) (by omega) (by rw [qeA]; exact ho)
  rw [qad.l2,if_pos (by omega),if_pos (by omega),hf,obs,Int.toNat_natCast]
  rw [show (0 : Int) = ((0 : Nat) : Int) from rfl]
  rw [h3,obs,qbf (m := l.length) (by omega) (by omega),List.range'_succ,List.foldl_cons]
  rw [c2]
  exact ih
def zJn (s m sp : LI) (l : List (LI × LI)) : LI := (List.range' 0 l.length).foldl (putP s m sp l) (List.replicate (pr s).toNat 0)
def zJoin17 (s m sp : LI) (l : List (LI × LI)) : Int × LI × LI :=
 if mSR s = true ∧ mSp m sp s.length = true then (if (l.length : Int) = mD m then (if (List.range' 0 l.length).all (zOkP s m sp l) = true then (if (List.range' 0 l.length).all (zSmP m sp l) = true then (0,s,zJn s m sp l) else (25,[],[])) else (13,[],[])) else (13,[],[])) else (1,[],[])
theorem qc4 (l : List (LI × LI)) (s m sp : LI) (hsp : sp.length ≤ 17592186044415) (k : Nat) (hk : sp.length + 10000 ≤ k) : qad.f k l s m sp = some (zJoin17 s m sp l) := by
 unfold qad.f zJoin17
 rw [qbH m k (by omega),obs]
 by_cases r1 : mR m = true
 rotate_left
 ·rw [if_neg r1,if_neg (fun h => r1 (qbn h.2).1)]
 rw [if_pos r1,qbB s k (by omega),obs]
 by_cases r2 : mSR s = true
 rotate_left
 ·rw [if_neg r2,if_neg (fun h => r2 h.1)]
 rw [if_pos r2,qco m sp _ (by omega) k (by omega),obs]
 by_cases r3 : mSp m sp s.length = true
 rotate_left
 ·rw [if_neg r3,if_neg (fun h => r3 h.2)]
 have hb := qcZ m
 have gs := qak r2
 have hsl := (qbn r3).2.1
 rw [if_pos r3,if_pos ⟨r2,r3⟩,qbs m k (by omega),obs]
 by_cases r4 : (l.length : Int) = mD m
 rotate_left
 ·rw [if_neg r4,if_neg r4]
 have e0 := qec r2 r3 r4 k (by omega) l.length 0 k (by omega) (by omega)
 rw [if_pos r4,if_pos r4,show (0 : Int) = ((0 : Nat) : Int) from rfl,e0,obs]
 by_cases r5 : (List.range' 0 l.length).all (zOkP s m sp l) = true
 rotate_left
 ·rw [if_neg r5,if_neg r5]; rfl
 have hT : ∀ j,j < l.length → zOkP s m sp l j = true := fun j hj => List.all_eq_true.1 r5 j (by simp [List.mem_range']; omega)
 have e1 := qeb r3 (by omega) r4 (fun j hj => by
  have := hT j hj
  unfold zOkP at this
  simp only [Bool.and_eq_true] at this
  exact this.1) k (by omega) l.length 0 k (by omega) (by omega)
 rw [if_pos r5,if_pos r5]
 show ((qad.l1 k k l s m sp l l.length ((0 : Nat) : Int)).bind _) = _
 rw [e1,obs]
 by_cases r6 : (List.range' 0 l.length).all (zSmP m sp l) = true
 rotate_left
 ·rw [if_neg r6,if_neg r6]; rfl
 rw [if_pos r6,if_pos r6]
 show ((qbM.f k s ((0 : Nat) : Int)).bind _) = _
 have hp0 := qdn r2
 rw [qgQ s _ k (by omega),if_pos r2,obs,hp0.2.2]
 have e2 := qea r2 r3 r4 hT 0 s k (by omega) l.length 0 k (List.replicate (pr s).toNat 0) (by omega) (by omega) (by simp; omega)
 rw [show ((0 : Nat) : Int) = 0 from rfl] at e2 ⊢
 rw [e2,obs]
 rfl
end Go.Pf

namespace Go.Pf
open Go
def M7 : List LI := [[2],[2,4],[3,2],[2,2,2],[],[5],[2,2]]
def dev (m s : LI) (e : Int) : LI := s.map (tix (atM m e))
def chk17 (m s : LI) : Bool := (chk16 m s && decide (mC m s ≤ 8)) && ((List.range (mD m).toNat).all fun e : Nat => decide (dev m s e = dev m s (mF m s e))) && ((box (s.map (part1 m))).all fun t => (List.range (mD m).toNat).any fun e : Nat => decide (dev m s e = t))
theorem all17m : (M7.all fun m => mR m && decide (1 ≤ mD m ∧ mD m ≤ 8 ∧ m.length ≤ 3)) = true := by decide +kernel
theorem all17 : (M7.all fun m => (List.range 4).all fun n : Nat => (allL m.length n).all fun s => decide (okGo m.length [] s = true → chk17 m s = true)) = true := by decide +kernel
theorem got17m {m : LI} (hm : m ∈ M7) : mR m = true ∧ 1 ≤ mD m ∧ mD m ≤ 8 ∧ m.length ≤ 3 := by
 have := List.all_eq_true.1 all17m m hm
 simp only [Bool.and_eq_true,decide_eq_true_eq] at this
 exact this
theorem got17 {m : LI} (hm : m ∈ M7) {s : LI} (hs : s.length < 4) (hok : okGo m.length [] s = true) : (chk16 m s = true ∧ mC m s ≤ 8) ∧ (∀ e : Nat,(e : Int) < mD m → dev m s e = dev m s (mF m s e)) ∧ ∀ t ∈ box (s.map (part1 m)),∃ e : Nat,(e : Int) < mD m ∧ dev m s e = t := by
 have := List.all_eq_true.1 (List.all_eq_true.1 all17 m hm) s.length (List.mem_range.2 hs)
 have := of_decide_eq_true (List.all_eq_true.1 this s (qg5 (qcu hok))) hok
 have hb := qcZ m
 simp only [chk17,Bool.and_eq_true] at this
 obtain ⟨⟨h1,h2⟩,h3⟩ := this
 refine ⟨⟨h1.1,of_decide_eq_true h1.2⟩,fun e he => of_decide_eq_true (List.all_eq_true.1 h2 e (List.mem_range.2 (by omega))),fun t ht => ?_⟩
 obtain ⟨e,he,h⟩ := List.any_eq_true.1 (List.all_eq_true.1 h3 t ht)
 have := List.mem_range.1 he
 exact ⟨e,by omega,of_decide_eq_true h⟩
theorem qhn {m A : LI} {x k : Int} (hx : 0 ≤ x) : tl1 m A x k = mCut x (part1 m k) (tix A k) := by
  unfold tl1 part1 tix
  by_cases c : 0 ≤ k
  · rw [if_pos c,if_neg (by omega),if_neg (by omega)]
  · rw [if_neg c,if_pos (by omega),if_pos (by omega)]
    unfold mCut
    by_cases d : x < 1
    · rw [if_pos (by omega)]
      have : x = 0 := by omega
      rw [this]
    · rw [if_neg (by omega)]
      have : mWd x 1 = x := by
        unfold mWd
        rw [if_neg (by omega),Int.ediv_one]; omega
      rw [this]
      simp; omega
theorem qho {m A A' : LI} : ∀ {sp sh : LI},(∀ k ∈ sp,tix A k = tix A' k) → (∀ x ∈ sh,0 ≤ x) → List.zipWith (tl1 m A) sh sp = List.zipWith (tl1 m A') sh sp
 | [],_,_,_ => by simp
 | _ :: _,[],_,_ => rfl
 | k :: sp,x :: sh,h,hx => by
  rw [List.zipWith_cons_cons,List.zipWith_cons_cons,qho (fun a ha => h a (List.mem_cons_of_mem _ ha)) (fun y hy => hx y (List.mem_cons_of_mem _ hy)),qhn (hx x (List.mem_cons_self ..)),qhn (hx x (List.mem_cons_self ..)),h k (List.mem_cons_self ..)]
theorem qic {m sp : LI} {e e' : Int} (h : dev m sp e = dev m sp e') {sh : LI} (hx : ∀ x ∈ sh,0 ≤ x) : mTile sh m sp e = mTile sh m sp e' :=
 qho (List.map_inj_left.1 h) hx
theorem qgr {s d m sp : LI} {e e' : Int} (h : dev m sp e = dev m sp e') (hs : ∀ x ∈ s,0 ≤ x) : zPrt s d m sp e = zPrt s d m sp e' := by
 unfold zPrt mSz mFr
 rw [qic h hs]
theorem qdp {α β : Type} {g : β → α → β} {Q P : β → Prop} : ∀ {l : List α} {o : β},(∀ o a,a ∈ l → Q o → Q (g o a)) → (∀ o a,a ∈ l → Q o → P o → P (g o a)) → Q o → P o → P (l.foldl g o)
 | [],_,_,_,_,h => h
 | a :: r,o,h1,h2,hQ,hP => by
  rw [List.foldl_cons]
  exact qdp (fun o b hb => h1 o b (List.mem_cons_of_mem _ hb)) (fun o b hb => h2 o b (List.mem_cons_of_mem _ hb)) (h1 o a (List.mem_cons_self ..) hQ) (h2 o a (List.mem_cons_self ..) hQ hP)
theorem qf5 {α β : Type} {g : β → α → β} {Q P : β → Prop} : ∀ {l : List α} {o : β},(∀ o a,a ∈ l → Q o → Q (g o a)) → (∀ o a,a ∈ l → Q o → P o → P (g o a)) → (∃ a ∈ l,∀ o,Q o → P (g o a)) → Q o → P (l.foldl g o)
 | [],_,_,_,⟨_,h,_⟩,_ => by cases h
 | a :: r,o,h1,h2,⟨b,hb,h3⟩,hQ => by
  rw [List.foldl_cons]
  have k1 := fun o b hb => h1 o b (List.mem_cons_of_mem a hb)
  have k2 := fun o b hb => h2 o b (List.mem_cons_of_mem a hb)
  rcases List.mem_cons.1 hb with rfl | hb
  ·exact qdp k1 k2 (h1 o b (List.mem_cons_self ..) hQ) (h3 o hQ)
  ·exact qf5 k1 k2 ⟨b,hb,h3⟩ (h1 o a (List.mem_cons_self ..) hQ)
theorem qd4 (s d m sp : LI) {e : Nat} (h : (e : Int) < mD m) : (zAll17 s d m sp).getD e tz = zPrt s d m sp e := by
 have : e < (mD m).toNat := by omega
 simp [zAll17,List.getD_eq_getElem?_getD,this]
theorem qe3 {s d m sp : LI} (h1 : mSR s = true) (h2 : mSp m sp s.length = true) (e : Int) : zT (zPrt s d m sp e).1 (zPrt s d m sp e).2 = true := by
 show zT (mSz s m sp e) (zCut s d (mFr s m sp e) (mSz s m sp e)) = true
 unfold zCut
 exact qkW (qiU h1 (qcn h1 h2 e)) _
theorem qip {s d m sp : LI} {e : Int} {i : Nat} (hi : i < (zPrt s d m sp e).2.length) : (zPrt s d m sp e).2.getD i 0 = d.getD (ix s (zAdd (pl (mSz s m sp e) i) (mFr s m sp e))).toNat 0 := by
 have : (i : Int) < pr (mSz s m sp e) := by
  have : (zPrt s d m sp e).2.length = (pr (mSz s m sp e)).toNat := by simp [zPrt,zCut,made]
  omega
 show (zCut s d (mFr s m sp e) (mSz s m sp e)).getD i 0 = _
 unfold zCut
 exact qj1 _ this
end Go.Pf

namespace Go.Pf
open Go Go.Vm
theorem which17 {L : LI} (hL : Fit (.sl (.int .i64)) L) : ∃ r q,qaC.f 7 L 0 = some (r,q) ∧ 0 ≤ r ∧ r < (M7.length : Int) ∧ r.toNat < M7.length ∧ M7.getD r.toNat [] ∈ M7 ∧ 0 ≤ q ∧ q ≤ 1 := by
 obtain ⟨h1,h2⟩ := qjF hL
 obtain ⟨r,q,e,r0,r1,q0,q1,q2,q3⟩ := qbU 7 L (by omega) h2 0 (by omega) (by omega) (by omega)
 have hl : M7.length = 7 := rfl
 exact ⟨r,q,e,r0,by omega,by omega,qap (by omega) _,q0,by omega⟩
theorem made17 {L : LI} (hL : Fit (.sl (.int .i64)) L) (k : Nat) (hk : 5000 ≤ k) : ∃ m s d sp,qcc.f k L = some (m,s,d,sp) ∧ m ∈ M7 ∧ zT s d = true ∧ mSp m sp s.length = true ∧ sp.length < 4 ∧ s.length < 4 ∧ pr s ≤ 343 := by
 obtain ⟨r,q,e,r0,r1,r2,hm,q0,q1⟩ := which17 hL
 obtain ⟨f1,f2⟩ := qjF hL
 unfold qcc.f
 rw [e,obs]
 rw [show ([([2] : LI),([2,4] : LI),([3,2] : LI),([2,2,2] : LI),[],([5] : LI),([2,2] : LI)] : List LI) = M7 from rfl,if_pos ⟨r0,r1⟩,if_pos r2]
 generalize M7.getD r.toNat [] = m at hm ⊢
 obtain ⟨hR,d1,d8,l3⟩ := got17m hm
 obtain ⟨p,sh,e2,hl,hb,p0,p1⟩ := qiW L (by omega) f2 q q0 (by omega) k (by omega)
 obtain ⟨p2,d,e3,hd,p20,p21⟩ := qh2 L (by omega) f2 sh (by omega) p p0 (by omega) k (by omega)
 obtain ⟨p',s,e4,hs,hok,p0',_⟩ := qji m l3 L (by omega) f2 (sh.length : Int) (by omega) (by omega) p2 p20 (by omega) k (by omega)
 have hsp : mSp m s sh.length = true := qkX hR hok _ hs
 have hpr := qkV sh hb
 have h343 : (7 : Int) ^ sh.length ≤ 343 := by
  rcases (show sh.length = 0 ∨ sh.length = 1 ∨ sh.length = 2 ∨ sh.length = 3 by omega) with e | e | e | e <;> rw [e] <;> decide
 have hSR : mSR sh = true := by
  simp only [mSR,Bool.and_eq_true,decide_eq_true_eq,List.all_eq_true]
  exact ⟨⟨by omega,fun x hx => qcU.2 (by have := hb x hx; omega)⟩,by omega⟩
 have hT : zT sh d = true := by
  simp only [zT,Bool.and_eq_true,decide_eq_true_eq]
  exact ⟨hSR,by rw [hd,zSz,if_pos hSR]⟩
 rw [e2,obs]
 dsimp only
 rw [e3,obs]
 dsimp only
 rw [e4,obs]
 exact ⟨m,sh,d,s,rfl,hm,hT,hsp,by omega,by omega,by omega⟩
theorem known17 (k : Nat) (hk : 20000 ≤ k) : qby.f k = some true := by
 unfold qby.f
 rw [qdH _ _ _ _ (by decide) k (by simp; omega),obs,qc4 _ _ _ _ (by decide) k (by simp; omega),obs]
 decide +kernel
end Go.Pf

namespace Go.Pf
open Go Go.Vm
theorem qcT (s m sp : LI) (hs : sp.length ≤ 17592186044415) (k : Nat) (hk : sp.length + sp.length + 10 ≤ k) : qbV.f k s m sp = some (mSR s && mSp m sp s.length) := by
 unfold qbV.f
 rw [qcr s k (by omega),obs]
 by_cases h : mSR s = true
 rotate_left
 ·rw [if_neg h,Bool.eq_false_iff.2 h]; rfl
 rw [if_pos h,qbC m k (by omega),obs]
 by_cases g : mR m = true
 rotate_left
 ·have : ¬ mSp m sp s.length = true := fun c => g (qbn c).1
  rw [if_neg g,Bool.eq_false_iff.2 this,Bool.and_false]
 rw [if_pos g,qct m sp _ (by omega) k (by omega),obs,h,Bool.true_and]
theorem qg3 : ((List.range 33).all fun x => (List.range 9).all fun p => (List.range 9).all fun c => decide (1 ≤ p → qdb.f (x : Nat) (p : Nat) (c : Nat) = some (mCut (x : Nat) (p : Nat) (c : Nat)))) = true := by decide +kernel
theorem qh6 {x p c : Int} (hx : 0 ≤ x ∧ x ≤ 32) (hp : 1 ≤ p ∧ p ≤ 8) (hc : 0 ≤ c ∧ c ≤ 8) : qdb.f x p c = some (mCut x p c) := by
 have := List.all_eq_true.1 (List.all_eq_true.1 (List.all_eq_true.1 qg3 x.toNat (List.mem_range.2 (by omega))) p.toNat (List.mem_range.2 (by omega))) c.toNat (List.mem_range.2 (by omega))
 have := of_decide_eq_true this (by omega)
 rwa [show ((x.toNat : Nat) : Int) = x by omega,show ((p.toNat : Nat) : Int) = p by omega,show ((c.toNat : Nat) : Int) = c by omega] at this
theorem qet (sh m sp A : LI) (hsh : ∀ x ∈ sh,0 ≤ x ∧ x ≤ 32) (hlen : sp.length = sh.length) (h4 : sh.length ≤ 4) (hA : A.length = m.length) (hm : ∀ x ∈ m,1 ≤ x ∧ x ≤ 8) (hA8 : ∀ x ∈ A,0 ≤ x ∧ x ≤ 8) (hsp : ∀ x ∈ sp,-1 ≤ x ∧ x < (m.length : Int)) : ∀ (d i n : Nat),sh.length = i + d → d < n →
  qaN.l0 n sh m sp sh.length i A ((List.zipWith (tl1 m A) (sh.take i) (sp.take i)).map (·.1)) ((List.zipWith (tl1 m A) (sh.take i) (sp.take i)).map fun p => p.2 - p.1) =
   some ((List.zipWith (tl1 m A) sh sp).map (·.1),(List.zipWith (tl1 m A) sh sp).map fun p => p.2 - p.1)
 | 0,i,n,hi,hn => by
  obtain ⟨n,rfl⟩ : ∃ m,n = m + 1 := ⟨n - 1,by omega⟩
  rw [qaN.l0,if_neg (by omega),List.take_of_length_le (by omega),List.take_of_length_le (by omega)]
 | d + 1,i,n,hi,hn => by
  obtain ⟨n,rfl⟩ : ∃ m,n = m + 1 := ⟨n - 1,by omega⟩
  have hx := hsh _ (qap (show i < sh.length by omega) 0)
  have hk := hsp _ (qap (show i < sp.length by omega) 0)
  have ih := qet sh m sp A hsh hlen h4 hA hm hA8 hsp d (i + 1) n (by omega) (by omega)
  have hz := qcA (f := tl1 m A) (show i < sh.length by omega) (show i < sp.length by omega)
  rw [hz,List.map_append,List.map_append] at ih
  simp only [List.map_cons,List.map_nil] at ih
  have hl1 : ((List.zipWith (tl1 m A) (sh.take i) (sp.take i)).map (·.1)).length ≤ 4 := by
   simp only [List.length_map,List.length_zipWith,List.length_take]; omega
  have hl2 : ((List.zipWith (tl1 m A) (sh.take i) (sp.take i)).map fun p => p.2 - p.1).length ≤ 4 := by
   simp only [List.length_map,List.length_zipWith,List.length_take]; omega
  generalize hq : sp.getD i 0 = q at *
  rw [qaN.l0,if_pos (by omega),if_pos (by omega),if_pos (by omega),Int.toNat_natCast,hq]
  by_cases c : 0 ≤ q
  ·have hqm : q.toNat < m.length := by omega
   have hp := hm _ (qap hqm 0)
   have ha := hA8 _ (qap (show q.toNat < A.length by omega) 0)
   have ht : tl1 m A (sh.getD i 0) q = mCut (sh.getD i 0) (m.getD q.toNat 0) (A.getD q.toNat 0) := by unfold tl1; rw [if_pos c]
   have hcb := qg8 (x := sh.getD i 0) (k := m.getD q.toNat 0) (i := A.getD q.toNat 0) hx.1 hp.1
   rw [if_pos c,if_pos (by omega),if_pos (by omega),if_pos (by omega),qh6 hx hp ha,obs,← ht]
   rw [ht] at ih ⊢
   rw [if_pos (by rw [List.length_singleton]; omega),if_pos (by rw [List.length_singleton]; omega),qag (n := (mCut (sh.getD i 0) (m.getD q.toNat 0) (A.getD q.toNat 0)).2 - (mCut (sh.getD i 0) (m.getD q.toNat 0) (A.getD q.toNat 0)).1) (by omega) (by omega),qbf (m := sh.length) (by omega) (by omega)]
   exact ih
  ·have ht : tl1 m A (sh.getD i 0) q = (0,sh.getD i 0) := by unfold tl1; rw [if_neg c]
   rw [ht] at ih
   rw [if_neg c,if_pos (by rw [List.length_singleton]; omega),if_pos (by rw [List.length_singleton]; omega),qag (n := sh.getD i 0 - 0) (by omega) (by omega),qbf (m := sh.length) (by omega) (by omega)]
   exact ih
theorem atM_8 {m : LI} (h : ∀ x ∈ m,1 ≤ x ∧ x ≤ 8) (e : Int) : ∀ x ∈ atM m e,0 ≤ x ∧ x ≤ 8 := by
 induction m with
 | nil => intro x hx; cases hx
 | cons a r ih =>
  intro x hx
  have ha := h a (List.mem_cons_self ..)
  rcases List.mem_cons.1 hx with rfl | hx
  ·have h1 := Int.emod_nonneg (e / pd r) (show a ≠ 0 by omega)
   have h2 := Int.emod_lt_of_pos (e / pd r) (show 0 < a by omega)
   omega
  ·exact ih (fun y hy => h y (List.mem_cons_of_mem _ hy)) x hx
theorem qcs {s m sp : LI} {e : Int} (h1 : mSR s = true) (h2 : mSp m sp s.length = true) (h3 : 0 ≤ e) (h4 : e < mD m) (k : Nat) (hk : 100 ≤ k) : qaN.f k s m sp e = some (mFr s m sp e,mSz s m sp e) := by
 have hs := qak h1
 have hsp := qbn h2
 have hR := qfT hsp.1
 unfold qaN.f
 have := qet s m sp (atM m e) hs.2.1 (by omega) hs.1 (qcy m e) hR (atM_8 hR e) (qh9 hsp.2.2) s.length 0 k (by omega) (by omega)
 simp only [List.take_zero,List.zipWith_nil_left,List.map_nil] at this
 rw [n0] at this
 rw [qcT s m sp (by omega) k (by omega),obs,h1,h2,if_pos (by rfl),if_neg (by omega),qa2 m k (by omega),obs,if_neg (by omega),qgx m e k (by omega),obs,qiF h3 h4,this,obs]
 rfl
theorem qff (s d m sp : LI) (e : Int) (hs : sp.length ≤ 17592186044415) (k : Nat) (hk : sp.length + sp.length + 5010 ≤ k) : qca.f k s d m sp e = some (zPart s d m sp e) := by
 unfold qca.f zPart
 rw [qb2 s d k (by omega),obs]
 by_cases hT : zT s d = true
 rotate_left
 ·have : zMay17 s d m sp = 13 := by unfold zMay17; rw [if_neg hT]
  rw [if_neg hT,this,if_neg (by decide)]
 have h1 := (qaD hT).1
 rw [if_pos hT,qcT s m sp hs k (by omega),obs,h1,Bool.true_and]
 by_cases h2 : mSp m sp s.length = true
 rotate_left
 ·have : zMay17 s d m sp = 1 := by unfold zMay17; rw [if_pos hT,if_neg h2]
  rw [if_neg h2,this,if_neg (by decide)]
 rw [if_pos h2,if_pos (qcN.2 ⟨hT,h2⟩)]
 by_cases c1 : e < 0
 ·rw [if_pos c1,if_neg (by omega)]
 rw [if_neg c1,qa2 m k (by omega),obs]
 by_cases c2 : mD m ≤ e
 ·rw [if_pos c2,if_neg (by omega)]
 rw [if_neg c2,if_pos (by omega),qcs h1 h2 (by omega) (by omega) k (by omega),obs]
 dsimp only
 rw [qhA s d _ _ k (by omega),if_pos hT,if_pos (qcn h1 h2 e)]
 rfl
theorem qfg (s d m sp : LI) (hs : sp.length ≤ 17592186044415) (h : zMay17 s d m sp = 0) (k : Nat) (hk : sp.length + sp.length + 5010 ≤ k) : ∀ (e i n : Nat),mD m = ((i + e : Nat) : Int) → e < n →
  qbe.l0 k n m sp i s d ((List.range i).map fun i : Nat => zPrt s d m sp i) = some (zAll17 s d m sp)
 | 0,i,n,h1,h2 => by
  obtain ⟨n,rfl⟩ : ∃ n',n = n' + 1 := ⟨n - 1,by omega⟩
  rw [qbe.l0,qa2 m k (by omega),obs,if_neg (by omega)]
  have : i = (mD m).toNat := by omega
  rw [this]; rfl
 | e + 1,i,n,h1,h2 => by
  obtain ⟨n,rfl⟩ : ∃ n',n = n' + 1 := ⟨n - 1,by omega⟩
  have hb := qcZ m
  have hp : zPart s d m sp i = (0,zPrt s d m sp i) := by unfold zPart; rw [if_pos h,if_pos (by omega)]
  rw [qbe.l0,qa2 m k (by omega),obs,if_pos (by omega),qff s d m sp i hs k hk,hp]
  simp only [obs]
  rw [if_pos (by simp; omega)]
  have hw : IntKind.i64.wrap ((i : Int) + 1) = ((i + 1 : Nat) : Int) := by rw [IntKind.wrap_i64]; omega
  rw [hw]
  have := qfg s d m sp hs h k hk e (i + 1) n (by omega) (by omega)
  rw [List.range_succ,List.map_append] at this
  exact this
theorem qfQ (s d m sp : LI) (hs : sp.length ≤ 17592186044415) (k : Nat) (hk : sp.length + sp.length + 5010 ≤ k) : qbe.f k s d m sp = some (if zMay17 s d m sp = 0 then (0,zAll17 s d m sp) else (zMay17 s d m sp,[])) := by
 unfold qbe.f
 rw [qb2 s d k (by omega),obs]
 by_cases hT : zT s d = true
 rotate_left
 ·have : zMay17 s d m sp = 13 := by unfold zMay17; rw [if_neg hT]
  rw [if_neg hT,this,if_neg (by decide)]
 have h1 := (qaD hT).1
 rw [if_pos hT,qcT s m sp hs k (by omega),obs,h1,Bool.true_and]
 by_cases h2 : mSp m sp s.length = true
 rotate_left
 ·have : zMay17 s d m sp = 1 := by unfold zMay17; rw [if_pos hT,if_neg h2]
  rw [if_neg h2,this,if_neg (by decide)]
 have hm := qcN.2 ⟨hT,h2⟩
 have hb := qcZ m
 have := qfg s d m sp hs hm k hk (mD m).toNat 0 k (by omega) (by omega)
 simp only [List.range_zero,List.map_nil] at this
 rw [if_pos h2,if_pos hm,show (0 : Int) = ((0 : Nat) : Int) from rfl,this]
 rfl
end Go.Pf

namespace Go.Pf
open Go Go.Vm
abbrev tn0 : Tn := ([],[])
end Go.Pf

namespace Go.Pf
open Go Go.Vm
def smT (l : List Tn) : Prop := l.length ≤ 100000 ∧ ∀ t ∈ l,t.1.length ≤ 100000 ∧ t.2.length ≤ 100000
theorem qcI (l : List Tn) (h : smT l) (k : Nat) (hk : 200000 ≤ k) : qaM.f k l l = some true := by
 obtain ⟨h1,h2⟩ := h
 unfold qaM.f
 have := iter0 (L := fun n i (_ : Unit) => qaM.l0 k n l l i) (st := fun _=>()) (fun _=>.inl ()) (m := l.length) 0
  (fun n _ => by rw [qaM.l0,if_neg (by omega)])
  (fun i n hi _ ih => by
   obtain ⟨a1,a2⟩ := h2 _ (qap hi tn0)
   rw [qaM.l0,if_pos (by omega),if_pos (by omega),if_pos (by omega),Int.toNat_natCast,qcw (l.getD i tn0).1 (l.getD i tn0).2 k (by omega) (by omega) (by omega) (by omega),obs,if_pos rfl,qbf hi (by omega),ih]) k (by omega)
 rw [if_pos rfl,this,obs]; rfl
end Go.Pf

namespace Go.Pf
open Go Go.Vm
theorem qdw (s s' a b : LI) (hl : a.length = b.length) (ha : a.length ≤ 17592186043904) : ∀ (d i n : Nat),a.length = i + d → d < n →
  qaH.l0 n i s a s' b = some (if a.drop i = b.drop i then .inl () else .inr false)
 | 0,i,n,hi,hn => by
  obtain ⟨n,rfl⟩ : ∃ m,n = m + 1 := ⟨n - 1,by omega⟩
  rw [qaH.l0,if_neg (by omega),List.drop_eq_nil_of_le (by omega),List.drop_eq_nil_of_le (by omega),if_pos rfl]
 | d + 1,i,n,hi,hn => by
  obtain ⟨n,rfl⟩ : ∃ m,n = m + 1 := ⟨n - 1,by omega⟩
  rw [qaH.l0,if_pos (by omega),if_pos (by omega),if_pos (by omega),Int.toNat_natCast,qaf (show i < a.length by omega) 0,qaf (show i < b.length by omega) 0,qbf (m := a.length) (by omega) (by omega),qdw s s' a b hl ha d (i + 1) n (by omega) (by omega)]
  by_cases c : a.getD i 0 = b.getD i 0
  ·rw [if_pos c,c]; simp
  ·rw [if_neg c,if_neg (by simp at c ⊢; exact fun h => absurd h c)]
theorem qfM (s d s' d' : LI) (h : zT s d = true) (k : Nat) (hk : 5000 ≤ k) : qaH.f k s d s' d' = some (decide ((s,d) = (s',d'))) := by
 obtain ⟨g1,g2⟩ := qaD h
 have g3 := qak g1
 unfold qaH.f
 rw [qfN _ _ (by omega) k (by omega),obs]
 by_cases c : s = s'
 rotate_left
 ·rw [decide_eq_false c,if_neg (by decide)]; simp [c]
 rw [decide_eq_true c,if_pos rfl]
 by_cases hl : d.length = d'.length
 ·have := qdw s s' d d' hl (by omega) d.length 0 k (by omega) (by omega)
  rw [n0,List.drop_zero,List.drop_zero] at this
  rw [if_pos (by omega),this,obs]
  by_cases e : d = d'
  ·rw [if_pos e,c,e]; simp
  ·rw [if_neg e]; simp [e]
 ·rw [if_neg (by omega)]
  have : ¬ d = d' := fun e => hl (by rw [e])
  simp [this]
theorem qez {s m sp : LI} (h1 : mSR s = true) (h2 : mSp m sp s.length = true) {l : List (LI × LI)} (hl : (l.length : Int) = mD m) (y2 y3 : LI) (k : Nat) (hk : 100 ≤ k) : ∀ (e i n : Nat),l.length = i + e → e < n →
  qaj.l0 k n l s m sp l.length i y2 y3 = some (if (List.range' i e).all (zOkP s m sp l) = true then .inl () else .inr 13)
 | 0,i,n,hi,hn => by
  obtain ⟨n,rfl⟩ : ∃ m,n = m + 1 := ⟨n - 1,by omega⟩
  rw [qaj.l0,if_neg (by omega)]; rfl
 | e + 1,i,n,hi,hn => by
  obtain ⟨n,rfl⟩ : ∃ m,n = m + 1 := ⟨n - 1,by omega⟩
  have hb := qcZ m
  rw [qaj.l0,if_pos (by omega),qcs h1 h2 (by omega) (by omega) k (by omega),obs,if_pos (by omega),Int.toNat_natCast,qb2 _ _ k (by omega),obs,List.range'_succ,List.all_cons]
  unfold zOkP
  by_cases c : zT (l.getD i ([],[])).1 (l.getD i ([],[])).2 = true
  ·have hz := (qak (qaD c).1).1
   rw [if_pos c,qfN _ _ (by omega) k (by omega),obs,qbf (m := l.length) (by omega) (by omega)]
   by_cases c2 : (l.getD i ([],[])).1 = mSz s m sp i
   ·have ih := qez h1 h2 hl y2 y3 k hk e (i + 1) n (by omega) (by omega)
    rw [decide_eq_true c2,if_pos rfl,ih,c]; rfl
   ·rw [decide_eq_false c2,if_neg (by decide),if_neg (by simp)]
  ·have c' := Bool.eq_false_iff.2 c
   rw [c']; rfl
theorem qew (f : LI) (p : LI) (hf : ∀ a ∈ f,0 ≤ a ∧ a ≤ 32) (hp : ∀ a ∈ p,0 ≤ a ∧ a ≤ 32) (hl : f.length ≤ 4) (hlen : p.length = f.length) (l : List (LI × LI)) (s m sp : LI) (a b c e g h : Int) (z w : LI) : ∀ (d : Nat) (L : LI) (n : Nat),f.length = L.length + d → d < n →
  qaj.l3 n l s m sp a b c e g h p.length L.length f (L ++ p.drop L.length) z w = some (L ++ zAdd (p.drop L.length) (f.drop L.length))
 | 0,L,n,hi,hn => by
  obtain ⟨n,rfl⟩ : ∃ m,n = m + 1 := ⟨n - 1,by omega⟩
  rw [qaj.l3,if_neg (by omega),List.drop_eq_nil_of_le (by omega)]; rfl
 | d + 1,L,n,hi,hn => by
  obtain ⟨n,rfl⟩ : ∃ m,n = m + 1 := ⟨n - 1,by omega⟩
  have ha := hf _ (qap (show L.length < f.length by omega) 0)
  have hb := hp _ (qap (show L.length < p.length by omega) 0)
  have ih := qew f p hf hp hl hlen l s m sp a b c e g h z w d (L ++ [p.getD L.length 0 + f.getD L.length 0]) n (by simp; omega) (by omega)
  have hL : (L ++ p.drop L.length).length = f.length := by rw [List.length_append,List.length_drop]; omega
  rw [qaj.l3,if_pos (by omega),if_pos (by rw [hL]; omega),if_pos (by rw [hL]; omega),if_pos (by omega),if_pos (by omega),Int.toNat_natCast,qaf (show L.length < p.length by omega) (0 : Int),qaf (show L.length < f.length by omega) (0 : Int),getL,setL,qag (n := p.getD L.length 0 + f.getD L.length 0) (by omega) (by omega),qag (n := (L.length : Int) + 1) (by omega) (by omega)]
  rw [List.length_append,List.length_singleton] at ih
  rw [show (L.length : Int) + 1 = ((L.length + 1 : Nat) : Int) by omega,ih]
  simp [zAdd]
theorem qex {s f : LI} {l : List (LI × LI)} {e0 : Nat} (h1 : mSR s = true) (hc : zSl s f (l.getD e0 tz).1 = true) (hx : zT (l.getD e0 tz).1 (l.getD e0 tz).2 = true) (he : e0 < l.length) (hl8 : l.length ≤ 8) (m sp : LI) (c e : Int) (y3 : LI) (k : Nat) (hk : 5000 ≤ k) : ∀ (d i n : Nat) (o : LI),(l.getD e0 tz).2.length = i + d → d + 10 < n → (o.length : Int) = pr s →
  qaj.l2 k n l s m sp e0 c e (l.getD e0 tz).2.length i f y3 o = some ((List.range' i d).foldl (putS s (l.getD e0 tz).1 f (l.getD e0 tz).2) o)
 | 0,i,n,o,hi,hn,ho => by
  obtain ⟨n,rfl⟩ : ∃ m,n = m + 1 := ⟨n - 1,by omega⟩
  rw [qaj.l2,if_neg (by omega)]; rfl
 | d + 1,i,n,o,hi,hn,ho => by
  obtain ⟨n,rfl⟩ : ∃ m,n = m + 1 := ⟨n - 1,by omega⟩
  have ih := qex h1 hc hx he hl8 m sp c e y3 k hk d (i + 1) n (putS s (l.getD e0 tz).1 f (l.getD e0 tz).2 o i) (by omega) (by omega) (by rw [qdm]; exact ho)
  generalize hz : (l.getD e0 tz).1 = z at *
  generalize hxx : (l.getD e0 tz).2 = x at *
  obtain ⟨g1,g2⟩ := qaD hx
  have g3 := qak g1
  have gs := qak h1
  have hlz := qbY hc
  have hbz := qd6 gs.2.1 hc
  have hin : mIn s (zAdd (pl z i) f) = true := qgq hc (qi0 (fun a ha => (qcY g1 (by omega) a ha).1) i)
  have hib := qhM hin
  have h5 := qew f (pl z i) hbz.1 (qjt g1 (by omega) i) (by omega) (by rw [qdA]; omega) l s m sp e0 i c e x.length i y3 o f.length [] n (by simp) (by omega)
  rw [List.length_nil,n0,List.drop_zero,List.drop_zero,List.nil_append,List.nil_append] at h5
  have hzi : zIx s (zAdd (pl z i) f) = ix s (zAdd (pl z i) f) := by rw [zIx,if_pos ⟨h1,hin⟩]
  rw [qaj.l2,if_pos (by omega),if_pos (by omega),Int.toNat_natCast,hz,hxx,qc9 g1 (by omega) (by omega) k (by omega),obs,h5,obs,qda _ _ k (by omega),obs,hzi,if_pos (by omega),if_pos (by omega),if_pos (by omega),Int.toNat_natCast,qbf (m := x.length) (by omega) (by omega),List.range'_succ,List.foldl_cons]
  exact ih
theorem qey {s m sp : LI} (h1 : mSR s = true) (h2 : mSp m sp s.length = true) (hsp : sp.length ≤ 1000) {l : List (LI × LI)} (hl : (l.length : Int) = mD m) (hT : ∀ j,j < l.length → zOkP s m sp l j = true) (y2 : LI) (k : Nat) (hk : 5000 ≤ k) : ∀ (d i n : Nat) (o : LI),l.length = i + d → d + 5000 < n → (o.length : Int) = pr s →
  qaj.l1 k n l s m sp l.length i y2 o = some (if (List.range' i d).all (zSmP m sp l) = true then .inl ((List.range' i d).foldl (putP s m sp l) o) else .inr 25)
 | 0,i,n,o,hi,hn,ho => by
  obtain ⟨n,rfl⟩ : ∃ m,n = m + 1 := ⟨n - 1,by omega⟩
  rw [qaj.l1,if_neg (by omega)]; rfl
 | d + 1,i,n,o,hi,hn,ho => by
  obtain ⟨n,rfl⟩ : ∃ m,n = m + 1 := ⟨n - 1,by omega⟩
  have hb := qcZ m
  have hF := qk0 h2 (show (0 : Int) ≤ (i : Nat) by omega) (by omega)
  have hc := hT i (by omega)
  unfold zOkP at hc
  simp only [Bool.and_eq_true,decide_eq_true_eq] at hc
  obtain ⟨c1,c2⟩ := hc
  have hp := (qak (qaD c1).1).2.2
  have hle := (qaD c1).2
  have hsl : zSl s (mFr s m sp i) (l.getD i tz).1 = true := by rw [c2]; exact qcn h1 h2 i
  have h3 := qex h1 hsl c1 (by omega) (by omega) m sp l.length i y2 k hk (l.getD i tz).2.length 0 n o (by omega) (by omega) ho
  have ih := qey h1 h2 hsp hl hT y2 k hk d (i + 1) n (putP s m sp l o i) (by omega) (by omega) (by rw [qeA]; exact ho)
  rw [qaj.l1,if_pos (by omega),if_pos (by omega),Int.toNat_natCast,qg2 m sp _ (by omega) k (by omega),obs,if_pos (by omega),qfM _ _ _ _ c1 k hk,obs,List.range'_succ,List.all_cons,List.foldl_cons]
  unfold zSmP
  by_cases c : l.getD i tz = l.getD (mF m sp i).toNat tz
  ·have c' : ((l.getD i ([],[])).1,(l.getD i ([],[])).2) = ((l.getD (mF m sp i).toNat ([],[])).1,(l.getD (mF m sp i).toNat ([],[])).2) := c
   rw [decide_eq_true c',if_pos rfl,qcs h1 h2 (by omega) (by omega) k (by omega),obs,Bool.true_and]
   rw [show (0 : Int) = ((0 : Nat) : Int) from rfl]
   have hz0 : zSmP m sp l = fun j => decide (l.getD j tz = l.getD (mF m sp j).toNat tz) := rfl
   rw [hz0] at ih
   rw [show qaj.l2 k n l s m sp (i : Int) l.length i (l.getD i ([],[])).2.length ((0 : Nat) : Int) (mFr s m sp i,mSz s m sp i).1 y2 o = _ from h3,obs,qbf (m := l.length) (by omega) (by omega),c2]
   exact ih
  ·have c' : ¬ ((l.getD i ([],[])).1,(l.getD i ([],[])).2) = ((l.getD (mF m sp i).toNat ([],[])).1,(l.getD (mF m sp i).toNat ([],[])).2) := c
   rw [decide_eq_false c',if_neg (by decide)]; simp only [c,decide_false,Bool.false_and]; rfl
theorem qhB (l : List (LI × LI)) (s m sp : LI) (hsp : sp.length ≤ 17592186044415) (k : Nat) (hk : sp.length + sp.length + 10000 ≤ k) : qaj.f k l s m sp = some (zJoin17 s m sp l) := by
 unfold qaj.f zJoin17
 rw [qcT s m sp hsp k (by omega),obs]
 by_cases r : mSR s = true ∧ mSp m sp s.length = true
 rotate_left
 ·rw [if_neg (by simpa using r),if_neg r]
 obtain ⟨r2,r3⟩ := r
 have hb := qcZ m
 have gs := qak r2
 have hsl := (qbn r3).2.1
 rw [if_pos (by simp [r2,r3]),if_pos ⟨r2,r3⟩,qa2 m k (by omega),obs]
 by_cases r4 : (l.length : Int) = mD m
 rotate_left
 ·rw [if_neg r4,if_neg r4]
 have hp0 := qdn r2
 rw [if_pos r4,if_pos r4,qdP s 0 (by omega) k (by omega),obs,hp0.2.2]
 dsimp only
 have e0 := qez r2 r3 r4 s (List.replicate (pr s).toNat 0) k (by omega) l.length 0 k (by omega) (by omega)
 rw [show (0 : Int) = ((0 : Nat) : Int) from rfl] at *
 rw [e0,obs]
 by_cases r5 : (List.range' 0 l.length).all (zOkP s m sp l) = true
 rotate_left
 ·rw [if_neg r5,if_neg r5]; rfl
 have hT : ∀ j,j < l.length → zOkP s m sp l j = true := fun j hj => List.all_eq_true.1 r5 j (by simp [List.mem_range']; omega)
 have e1 := qey r2 r3 (by omega) r4 hT s k (by omega) l.length 0 k (List.replicate (pr s).toNat 0) (by omega) (by omega) (by simp; omega)
 rw [if_pos r5,if_pos r5]
 show ((qaj.l1 k k l s m sp l.length ((0 : Nat) : Int) s (List.replicate (pr s).toNat ((0 : Nat) : Int))).bind _) = _
 rw [show (((0 : Nat) : Int)) = (0 : Int) from rfl] at e1 ⊢
 rw [e1,obs]
 by_cases r6 : (List.range' 0 l.length).all (zSmP m sp l) = true
 ·rw [if_pos r6,if_pos r6]; rfl
 ·rw [if_neg r6,if_neg r6]; rfl
end Go.Pf

namespace Go.Pf
open Go Go.Vm
theorem qjV (s d m sp : LI) (e : Int) : (zPart s d m sp e).2.1.length ≤ 4096 ∧ (zPart s d m sp e).2.2.length ≤ 4096 := by
 unfold zPart
 by_cases h : zMay17 s d m sp = 0
 ·rw [if_pos h]
  split
  ·obtain ⟨hT,h2⟩ := qcN.1 h
   have h3 := qaD (qe3 (d := d) (qaD hT).1 h2 e)
   have h4 := qak h3.1
   show (zPrt s d m sp e).1.length ≤ 4096 ∧ (zPrt s d m sp e).2.length ≤ 4096
   exact ⟨by omega,by omega⟩
  ·exact ⟨Nat.zero_le _,Nat.zero_le _⟩
 ·rw [if_neg h]; exact ⟨Nat.zero_le _,Nat.zero_le _⟩
theorem qfA {s d m sp : LI} (h : zMay17 s d m sp = 0) : smT (zAll17 s d m sp) ∧ ∀ p ∈ zAll17 s d m sp,zT p.1 p.2 = true := by
 obtain ⟨hT,h2⟩ := qcN.1 h
 have hl := qcB s d m sp
 have hb := qcZ m
 have hz : ∀ p ∈ zAll17 s d m sp,zT p.1 p.2 = true := fun p hp => by
  obtain ⟨e,_,rfl⟩ := List.mem_map.1 hp
  exact qe3 (qaD hT).1 h2 e
 refine ⟨⟨by omega,fun p hp => ?_⟩,hz⟩
 have h3 := qaD (hz p hp)
 have h4 := qak h3.1
 exact ⟨by omega,by omega⟩
theorem qfi (s d m sp : LI) (e : Int) (hs : sp.length ≤ 17592186044415) (k : Nat) (hk : sp.length + sp.length + 200000 ≤ k) : qcb.f k s d m sp e = some true := by
 unfold qcb.f
 have hp := qjV s d m sp e
 rw [qe8 s d m sp e hs k (by omega),obs,qff s d m sp e hs k (by omega),obs,qdH s d m sp hs k (by omega),obs,qfQ s d m sp hs k (by omega),obs,if_pos rfl,qcw _ _ k (by omega) (by omega) (by omega) (by omega),obs,if_pos rfl,if_pos rfl]
 by_cases h : zMay17 s d m sp = 0
 ·rw [if_pos h,qcI _ (qfA h).1 k (by omega),obs]
 ·rw [if_neg h,qcI _ ⟨Nat.zero_le _,fun t ht => by cases ht⟩ k (by omega),obs]
theorem qjW (s m sp : LI) (l : List (LI × LI)) : (zJoin17 s m sp l).2.1.length ≤ 4096 ∧ (zJoin17 s m sp l).2.2.length ≤ 4096 := by
 unfold zJoin17
 split
 ·rename_i h
  have h1 := qak h.1
  have hp := qdn h.1
  split
  ·split
   ·split
    ·refine ⟨by show s.length ≤ 4096; omega,?_⟩
     show (zJn s m sp l).length ≤ 4096
     unfold zJn
     rw [qeJ (fun o e => qeA s m sp _ o e),List.length_replicate]
     omega
    ·exact ⟨Nat.zero_le _,Nat.zero_le _⟩
   ·exact ⟨Nat.zero_le _,Nat.zero_le _⟩
  ·exact ⟨Nat.zero_le _,Nat.zero_le _⟩
 ·exact ⟨Nat.zero_le _,Nat.zero_le _⟩
theorem qb5 (l : List (LI × LI)) (s m sp : LI) (hsp : sp.length ≤ 17592186044415) (k : Nat) (hk : sp.length + sp.length + 200000 ≤ k) : qbc.f k l s m sp = some true := by
 unfold qbc.f
 have hp := qjW s m sp l
 rw [qc4 l s m sp hsp k (by omega),obs,qhB l s m sp hsp k (by omega),obs,if_pos rfl,qcw _ _ k (by omega) (by omega) (by omega) (by omega),obs]
theorem pickOf {a : Int} {n : Nat} (h0 : 0 < n) (h8 : n ≤ 8) (ha : -9223372036854775808 ≤ a ∧ a < 9223372036854775808) : 0 ≤ (IntKind.i64.wrap (a.tmod (n : Int) + (n : Int))).tmod (n : Int) ∧ (IntKind.i64.wrap (a.tmod (n : Int) + (n : Int))).tmod (n : Int) < (n : Int) := by
 have t2 := Int.lt_tmod_of_pos a (show (0 : Int) < n by omega)
 have t3 := Int.tmod_lt_of_pos a (show (0 : Int) < n by omega)
 rw [qag (by omega) (by omega)]
 have t4 := Int.tmod_lt_of_pos (a.tmod n + n) (show (0 : Int) < n by omega)
 have t5 := Int.tmod_nonneg (n : Int) (show 0 ≤ a.tmod n + n by omega)
 exact ⟨t5,t4⟩
end Go.Pf

namespace Go.Pf
open Go Go.Vm
def chkF (m s : LI) : Bool :=
 if 1 < mC m s then (List.range (mD m).toNat).all fun e : Nat => (List.range (mD m).toNat).any fun q : Nat => !Nat.beq e q && (decide (mF m s e = q) || decide (mF m s q = e))
 else (List.range (mD m).toNat).all fun e : Nat => decide (mF m s e = e) && (List.range (mD m).toNat).all fun q : Nat => Nat.beq e q || !decide (dev m s e = dev m s q)
theorem allF : (M7.all fun m => (List.range 4).all fun n : Nat => (allL m.length n).all fun s => decide (okGo m.length [] s = true → chkF m s = true)) = true := by decide +kernel
theorem gotF {m : LI} (hm : m ∈ M7) {s : LI} (hs : s.length < 4) (hok : okGo m.length [] s = true) : chkF m s = true := by
 have := List.all_eq_true.1 (List.all_eq_true.1 allF m hm) s.length (List.mem_range.2 hs)
 exact of_decide_eq_true (List.all_eq_true.1 this s (qg5 (qcu hok))) hok
theorem gotF1 {m : LI} (hm : m ∈ M7) {s : LI} (hs : s.length < 4) (hok : okGo m.length [] s = true) (hc : 1 < mC m s) {e : Nat} (he : (e : Int) < mD m) : ∃ q : Nat,(q : Int) < mD m ∧ q ≠ e ∧ (mF m s e = q ∨ mF m s q = e) := by
 have h := gotF hm hs hok
 have hb := qcZ m
 unfold chkF at h
 rw [if_pos hc] at h
 obtain ⟨q,hq,h1⟩ := List.any_eq_true.1 (List.all_eq_true.1 h e (List.mem_range.2 (by omega)))
 have := List.mem_range.1 hq
 simp only [Bool.and_eq_true,Bool.or_eq_true,decide_eq_true_eq,Bool.not_eq_true'] at h1
 refine ⟨q,by omega,fun c => ?_,h1.2⟩
 subst c
 rw [Nat.beq_refl] at h1
 exact absurd h1.1 (by decide)
theorem gotF0 {m : LI} (hm : m ∈ M7) {s : LI} (hs : s.length < 4) (hok : okGo m.length [] s = true) (hc : ¬ 1 < mC m s) {e : Nat} (he : (e : Int) < mD m) : mF m s e = e ∧ ∀ q : Nat,(q : Int) < mD m → dev m s e = dev m s q → e = q := by
 have h := gotF hm hs hok
 have hb := qcZ m
 unfold chkF at h
 rw [if_neg hc] at h
 have h1 := List.all_eq_true.1 h e (List.mem_range.2 (by omega))
 simp only [Bool.and_eq_true,decide_eq_true_eq] at h1
 refine ⟨h1.1,fun q hq hd => ?_⟩
 have h2 := List.all_eq_true.1 h1.2 q (List.mem_range.2 (by omega))
 simp only [Bool.or_eq_true,Bool.not_eq_true',decide_eq_false_iff_not] at h2
 rcases h2 with h2 | h2
 ·exact Nat.eq_of_beq_eq_true h2
 ·exact absurd hd h2
theorem qkf {x P c c' p : Int} (h1 : (mCut x P c).1 ≤ p) (h2 : p < (mCut x P c).2) (h3 : (mCut x P c').1 ≤ p) (h4 : p < (mCut x P c').2) (h0 : 0 ≤ p) : c = c' := by
 unfold mCut at *
 by_cases k1 : x < 1 ∨ c < 0 ∨ P ≤ c
 ·rw [if_pos k1] at h2; omega
 by_cases k2 : x < 1 ∨ c' < 0 ∨ P ≤ c'
 ·rw [if_pos k2] at h4; omega
 rw [if_neg k1] at h1 h2
 rw [if_neg k2] at h3 h4
 obtain ⟨w1,_,_⟩ := qg6 (n := x) (k := P) (by omega) (by omega)
 generalize mWd x P = w at *
 simp only at h1 h2 h3 h4
 rcases Int.lt_trichotomy c c' with h | h | h
 ·have := Int.mul_le_mul_of_nonneg_left (show c + 1 ≤ c' by omega) (show 0 ≤ w by omega)
  omega
 ·exact h
 ·have := Int.mul_le_mul_of_nonneg_left (show c' + 1 ≤ c by omega) (show 0 ≤ w by omega)
  omega
theorem qgs {m A A' : LI} : ∀ {sh sp q q' : LI},sp.length = sh.length → (∀ x ∈ sh,0 ≤ x) → mIn ((List.zipWith (tl1 m A) sh sp).map fun p => p.2 - p.1) q = true → mIn ((List.zipWith (tl1 m A') sh sp).map fun p => p.2 - p.1) q' = true →
  (∀ k ∈ sp,1 ≤ part1 m k) → zAdd q ((List.zipWith (tl1 m A) sh sp).map fun p => p.1) = zAdd q' ((List.zipWith (tl1 m A') sh sp).map fun p => p.1) → sp.map (tix A) = sp.map (tix A')
 | [],[],_,_,_,_,_,_,_,_ => rfl
 | [],_ :: _,_,_,h,_,_,_,_,_ => by simp at h
 | _ :: _,[],_,_,h,_,_,_,_,_ => by simp at h
 | x :: sh,k :: sp,q,q',hl,hx,h1,h2,hp,he => by
  rw [List.zipWith_cons_cons,List.map_cons,qhn (hx x (List.mem_cons_self ..))] at h1 h2
  rw [List.zipWith_cons_cons,List.zipWith_cons_cons,List.map_cons,List.map_cons,qhn (hx x (List.mem_cons_self ..)),qhn (hx x (List.mem_cons_self ..))] at he
  cases q with
  | nil => simp [mIn] at h1
  | cons a q =>
   cases q' with
   | nil => simp [mIn] at h2
   | cons b q' =>
    obtain ⟨a1,a2⟩ := qbi.1 h1
    obtain ⟨b1,b2⟩ := qbi.1 h2
    have he' : (a + (mCut x (part1 m k) (tix A k)).1) :: zAdd q ((List.zipWith (tl1 m A) sh sp).map fun p => p.1) = (b + (mCut x (part1 m k) (tix A' k)).1) :: zAdd q' ((List.zipWith (tl1 m A') sh sp).map fun p => p.1) := he
    injection he' with e1 e2
    have hc := qg8 (x := x) (k := part1 m k) (i := tix A k) (hx x (List.mem_cons_self ..)) (hp k (List.mem_cons_self ..))
    have := qkf (x := x) (P := part1 m k) (c := tix A k) (c' := tix A' k) (p := a + (mCut x (part1 m k) (tix A k)).1) (by omega) (by omega) (by omega) (by omega) (by omega)
    rw [List.map_cons,List.map_cons,this,qgs (by simpa using hl) (fun y hy => hx y (List.mem_cons_of_mem _ hy)) a2 b2 (fun y hy => hp y (List.mem_cons_of_mem _ hy)) e2]
theorem qjc (n : Int) : IntKind.i64.wrap (n + 1) ≠ n := by rw [IntKind.wrap_i64]; omega
theorem qkC {x : LI} (h : 0 < x.length) : x.set 0 (IntKind.i64.wrap (x.getD 0 0 + 1)) ≠ x := fun c => by
 have := congrArg (fun l : LI => l.getD 0 0) c
 simp only [qb6] at this
 rw [if_pos ⟨trivial,h⟩] at this
 exact qjc _ this
def plc (s m sp : LI) (e i : Nat) : Int := ix s (zAdd (pl (mSz s m sp e) i) (mFr s m sp e))
theorem qix {s d m sp : LI} (h1 : mSR s = true) (h2 : mSp m sp s.length = true) {e i : Nat} (hi : i < (zPrt s d m sp e).2.length) : mIn (mSz s m sp e) (pl (mSz s m sp e) i) = true ∧ mIn s (zAdd (pl (mSz s m sp e) i) (mFr s m sp e)) = true := by
 have hT := qe3 (d := d) h1 h2 e
 obtain ⟨g1,g2⟩ := qaD hT
 have hz : mIn (mSz s m sp e) (pl (mSz s m sp e) i) = true := qi0 (fun a ha => (qcY g1 (show 0 < pr (mSz s m sp e) by show 0 < pr (zPrt s d m sp e).1; omega) a ha).1) i
 exact ⟨hz,qgq (qcn h1 h2 e) hz⟩
theorem qiy {s d m sp : LI} (h1 : mSR s = true) (h2 : mSp m sp s.length = true) {e i : Nat} (hi : i < (zPrt s d m sp e).2.length) : 0 ≤ plc s m sp e i ∧ plc s m sp e i < pr s := qhM (qix h1 h2 hi).2
theorem qh8 {s d m sp : LI} (h1 : mSR s = true) (h2 : mSp m sp s.length = true) {e e' i i' : Nat} (hi : i < (zPrt s d m sp e).2.length) (hi' : i' < (zPrt s d m sp e').2.length) (h : plc s m sp e i = plc s m sp e' i') :
  dev m sp e = dev m sp e' ∧ (e = e' → i = i') := by
 have hsp := qbn h2
 obtain ⟨a1,a2⟩ := qix h1 h2 hi
 obtain ⟨b1,b2⟩ := qix h1 h2 hi'
 have hx : ∀ x ∈ s,0 ≤ x := fun x hx => ((qak h1).2.1 x hx).1
 have hpart : ∀ k ∈ sp,1 ≤ part1 m k := fun k hk => by
  have hb := qcu hsp.2.2 k hk
  unfold part1
  split
  ·omega
  ·exact (qfT hsp.1 _ (qap (show k.toNat < m.length by omega) 0)).1
 have e1 : zAdd (pl (mSz s m sp e) i) (mFr s m sp e) = zAdd (pl (mSz s m sp e') i') (mFr s m sp e') := by
  rw [← qkI a2,← qkI b2]
  show pl s (plc s m sp e i) = pl s (plc s m sp e' i')
  rw [h]
 refine ⟨qgs (by omega) hx a1 b1 hpart e1,fun c => ?_⟩
 subst c
 have hl := qbY (qcn h1 h2 e)
 have e2 : zSub (zAdd (pl (mSz s m sp e) i) (mFr s m sp e)) (mFr s m sp e) = zSub (zAdd (pl (mSz s m sp e) i') (mFr s m sp e)) (mFr s m sp e) := by rw [e1]
 rw [qfz (by rw [qdA]; omega),qfz (by rw [qdA]; omega)] at e2
 have hT := qe3 (d := d) h1 h2 e
 obtain ⟨g1,g2⟩ := qaD hT
 have g2' : ((zPrt s d m sp e).2.length : Int) = pr (mSz s m sp e) := g2
 have hpos := qcY g1 (show 0 < pr (mSz s m sp e) by omega)
 have k1 := qk1 (s := mSz s m sp e) (fun a ha => by have := hpos a ha; omega) (x := i) (by omega) (by omega)
 have k2 := qk1 (s := mSz s m sp e) (fun a ha => by have := hpos a ha; omega) (x := i') (by omega) (by omega)
 rw [e2] at k1
 omega
theorem qkO {α : Type} (l : List α) (i j : Nat) (x d : α) (h : i < l.length) : (l.set i x).getD j d = if i = j then x else l.getD j d := by
 rw [qb6]
 by_cases c : i = j
 ·rw [if_pos ⟨c,h⟩,if_pos c]
 ·rw [if_neg (fun k => c k.1),if_neg c]
def trn (W : List (LI × LI)) (q : Nat) : List (LI × LI) := W.set q ((W.getD q tz).1,(W.getD q tz).2.set 0 (IntKind.i64.wrap ((W.getD q tz).2.getD 0 0 + 1)))
theorem qj9 {s d m sp : LI} (hm : m ∈ M7) (hT : zT s d = true) (h2 : mSp m sp s.length = true) (hs : sp.length < 4) {q : Nat} (hq : (q : Int) < mD m) (hx : 0 < (zPrt s d m sp q).2.length) :
  if 1 < mC m sp then zJoin17 s m sp (trn (zAll17 s d m sp) q) = (25,[],[]) else ∃ o,zJoin17 s m sp (trn (zAll17 s d m sp) q) = (0,s,o) ∧ zT s o = true ∧ o ≠ d := by
 obtain ⟨h1,hd⟩ := qaD hT
 have hsp := qbn h2
 obtain ⟨_,hF,_⟩ := got17 hm hs hsp.2.2
 have hb := qcZ m
 have hp := qdn h1
 have hx0 : ∀ x ∈ s,0 ≤ x := fun x hx => ((qak h1).2.1 x hx).1
 have hal := qcB s d m sp
 have hql : q < (zAll17 s d m sp).length := by omega
 have hWq := qd4 s d m sp hq
 have hg : ∀ j : Nat,(trn (zAll17 s d m sp) q).getD j tz = if q = j then ((zPrt s d m sp q).1,(zPrt s d m sp q).2.set 0 (IntKind.i64.wrap ((zPrt s d m sp q).2.getD 0 0 + 1))) else (zAll17 s d m sp).getD j tz := fun j => by
  unfold trn
  rw [qkO _ _ _ _ _ hql,hWq]
 have hlen : (trn (zAll17 s d m sp) q).length = (zAll17 s d m sp).length := by simp [trn]
 have a1 : (List.range' 0 (trn (zAll17 s d m sp) q).length).all (zOkP s m sp (trn (zAll17 s d m sp) q)) = true := List.all_eq_true.2 fun e he => by
  have he : e < (trn (zAll17 s d m sp) q).length := by simp [List.mem_range'] at he; omega
  rw [hlen] at he
  unfold zOkP
  rw [hg]
  split
  ·rename_i c
   subst c
   have := qe3 (d := d) h1 h2 q
   have h3 : zT (zPrt s d m sp q).1 ((zPrt s d m sp q).2.set 0 (IntKind.i64.wrap ((zPrt s d m sp q).2.getD 0 0 + 1))) = true := by
    unfold zT at this ⊢
    rw [List.length_set]; exact this
   show (zT (zPrt s d m sp q).1 ((zPrt s d m sp q).2.set 0 _) && _) = true
   rw [h3]
   exact decide_eq_true rfl
  ·rw [qd4 s d m sp (by omega),qe3 h1 h2]
   exact decide_eq_true rfl
 have hne : ((zPrt s d m sp q).1,(zPrt s d m sp q).2.set 0 (IntKind.i64.wrap ((zPrt s d m sp q).2.getD 0 0 + 1))) ≠ zPrt s d m sp q := fun c => qkC hx (congrArg (·.2) c)
 have hzj : zJoin17 s m sp (trn (zAll17 s d m sp) q) = if (List.range' 0 (trn (zAll17 s d m sp) q).length).all (zSmP m sp (trn (zAll17 s d m sp) q)) = true then (0,s,zJn s m sp (trn (zAll17 s d m sp) q)) else (25,[],[]) := by
  unfold zJoin17
  rw [if_pos ⟨h1,h2⟩,if_pos (by rw [hlen]; exact hal),if_pos a1]
 rw [hzj]
 clear hzj
 split
 ·rename_i hc
  obtain ⟨q',hq',hne',hor⟩ := gotF1 hm hs hsp.2.2 hc hq
  rw [if_neg]
  intro hall
  have hall := fun j (hj : j < (zAll17 s d m sp).length) => of_decide_eq_true (List.all_eq_true.1 hall j (by simp [List.mem_range']; omega))
  rcases hor with h | h
  ·have := hall q hql
   rw [h,Int.toNat_natCast,hg,hg,if_pos rfl,if_neg (fun c => hne' c.symm),qd4 s d m sp hq',← h,← qgr (hF q hq) hx0] at this
   exact hne this
  ·have := hall q' (by omega)
   rw [h,Int.toNat_natCast,hg,hg,if_pos rfl,if_neg (fun c => hne' c.symm),qd4 s d m sp hq',qgr (hF q' hq') hx0,h] at this
   exact hne this.symm
 ·rename_i hc
  have a2 : (List.range' 0 (trn (zAll17 s d m sp) q).length).all (zSmP m sp (trn (zAll17 s d m sp) q)) = true := List.all_eq_true.2 fun e he => by
   have he : e < (trn (zAll17 s d m sp) q).length := by simp [List.mem_range'] at he; omega
   rw [hlen] at he
   unfold zSmP
   rw [(gotF0 hm hs hsp.2.2 hc (e := e) (by omega)).1,Int.toNat_natCast]
   exact decide_eq_true rfl
  rw [if_pos a2]
  have hjl : (zJn s m sp (trn (zAll17 s d m sp) q)).length = d.length := by
   unfold zJn
   rw [qeJ (fun o e => qeA s m sp _ o e)]
   simp; omega
  refine ⟨_,rfl,by unfold zT; rw [hjl]; unfold zT at hT; exact hT,fun c => ?_⟩
  have hj0 := qiy (d := d) h1 h2 (e := q) (i := 0) hx
  generalize hj : (plc s m sp q 0).toNat = j at *
  have hjj : plc s m sp q 0 = j := by omega
  have key : (zJn s m sp (trn (zAll17 s d m sp) q)).getD j 0 = IntKind.i64.wrap ((zPrt s d m sp q).2.getD 0 0 + 1) := by
   unfold zJn
   refine qf5 (Q := fun o : LI => o.length = d.length) (P := fun o : LI => o.getD j 0 = IntKind.i64.wrap ((zPrt s d m sp q).2.getD 0 0 + 1)) (fun o a _ h => by rw [qeA]; exact h) (fun o a ha hQ h => ?_) ⟨q,?_,fun o hQ => ?_⟩ (by simp; omega)
   ·have ha : a < (zAll17 s d m sp).length := by rw [← hlen]; simp [List.mem_range'] at ha; omega
    unfold putP
    rw [hg]
    by_cases c : q = a
    ·subst c
     rw [if_pos rfl]
     refine qdp (Q := fun o : LI => o.length = d.length) (P := fun o : LI => o.getD j 0 = IntKind.i64.wrap ((zPrt s d m sp q).2.getD 0 0 + 1)) (fun o a _ h => by rw [qdm]; exact h) (fun o i hi hQ h => ?_) hQ h
     have hi : i < (zPrt s d m sp q).2.length := by simp [List.mem_range'] at hi; omega
     unfold putS
     rw [qb6]
     split
     ·rename_i c2
      have hb2 := qiy (d := d) h1 h2 (e := q) (i := i) hi
      have : i = 0 := (qh8 (d := d) h1 h2 hi hx (by unfold plc at hjj hb2 ⊢; omega)).2 rfl
      subst this
      rw [qb6,if_pos ⟨rfl,hx⟩]
     ·exact h
    ·rw [if_neg c,qd4 s d m sp (by omega)]
     refine qdp (Q := fun o : LI => o.length = d.length) (P := fun o : LI => o.getD j 0 = IntKind.i64.wrap ((zPrt s d m sp q).2.getD 0 0 + 1)) (fun o a _ h => by rw [qdm]; exact h) (fun o i hi hQ h => ?_) hQ h
     have hi : i < (zPrt s d m sp a).2.length := by simp [List.mem_range'] at hi; omega
     unfold putS
     rw [qb6,if_neg]
     ·exact h
     ·intro c2
      have hb2 := qiy (d := d) h1 h2 (e := a) (i := i) hi
      have := (qh8 (d := d) h1 h2 hi hx (by unfold plc at hjj hb2 ⊢; omega)).1
      exact c ((gotF0 hm hs hsp.2.2 hc (e := a) (by omega)).2 q hq this).symm
   ·rw [List.mem_range']
    exact ⟨q,by rw [hlen]; omega,by omega⟩
   ·unfold putP
    rw [hg,if_pos rfl]
    refine qf5 (Q := fun o : LI => o.length = d.length) (P := fun o : LI => o.getD j 0 = IntKind.i64.wrap ((zPrt s d m sp q).2.getD 0 0 + 1)) (fun o a _ h => by rw [qdm]; exact h) (fun o i hi hQ h => ?_) ⟨0,?_,fun o hQ => ?_⟩ hQ
    ·have hi : i < (zPrt s d m sp q).2.length := by simp [List.mem_range'] at hi; omega
     unfold putS
     rw [qb6]
     split
     ·rename_i c2
      have hb2 := qiy (d := d) h1 h2 (e := q) (i := i) hi
      have : i = 0 := (qh8 (d := d) h1 h2 hi hx (by unfold plc at hjj hb2 ⊢; omega)).2 rfl
      subst this
      rw [qb6,if_pos ⟨rfl,hx⟩]
     ·exact h
    ·rw [List.mem_range']
     exact ⟨0,by simp; omega,by omega⟩
    ·unfold putS
     have e0 : (ix s (zAdd (pl (mSz s m sp q) ((0 : Nat) : Int)) (mFr s m sp q))).toNat = j := hj
     rw [e0,qb6,if_pos ⟨rfl,by omega⟩,qb6,if_pos ⟨rfl,hx⟩]
  rw [c] at key
  have hv := qip (d := d) (e := q) hx
  have e0 : (ix s (zAdd (pl (mSz s m sp q) ((0 : Nat) : Int)) (mFr s m sp q))).toNat = j := hj
  rw [e0] at hv
  rw [hv] at key
  exact qjc _ key.symm
end Go.Pf

namespace Go.Pf
open Go Go.Vm
theorem qdE (f : LI) (p : LI) (hf : ∀ a ∈ f,0 ≤ a ∧ a ≤ 32) (hp : ∀ a ∈ p,0 ≤ a ∧ a ≤ 32) (hl : f.length ≤ 4) (hlen : p.length = f.length) (m : LI) (a b c e : Int) (y1 : LI) (l : List (LI × LI)) (z u v : LI) : ∀ (d : Nat) (L : LI) (n : Nat),f.length = L.length + d → d < n →
  qae.l1 n m a b c e p.length L.length y1 l f z (L ++ p.drop L.length) u v = some (L ++ zAdd (p.drop L.length) (f.drop L.length))
 | 0,L,n,hi,hn => by
  obtain ⟨n,rfl⟩ : ∃ m,n = m + 1 := ⟨n - 1,by omega⟩
  rw [qae.l1,if_neg (by omega),List.drop_eq_nil_of_le (by omega)]; rfl
 | d + 1,L,n,hi,hn => by
  obtain ⟨n,rfl⟩ : ∃ m,n = m + 1 := ⟨n - 1,by omega⟩
  have ha := hf _ (qap (show L.length < f.length by omega) 0)
  have hb := hp _ (qap (show L.length < p.length by omega) 0)
  have ih := qdE f p hf hp hl hlen m a b c e y1 l z u v d (L ++ [p.getD L.length 0 + f.getD L.length 0]) n (by simp; omega) (by omega)
  have hL : (L ++ p.drop L.length).length = f.length := by rw [List.length_append,List.length_drop]; omega
  rw [qae.l1,if_pos (by omega),if_pos (by rw [hL]; omega),if_pos (by rw [hL]; omega),if_pos (by omega),if_pos (by omega),Int.toNat_natCast,qaf (show L.length < p.length by omega) (0 : Int),qaf (show L.length < f.length by omega) (0 : Int),getL,setL,qag (n := p.getD L.length 0 + f.getD L.length 0) (by omega) (by omega),qag (n := (L.length : Int) + 1) (by omega) (by omega)]
  rw [List.length_append,List.length_singleton] at ih
  rw [show (L.length : Int) + 1 = ((L.length + 1 : Nat) : Int) by omega,ih]
  simp [zAdd]
theorem qdF {s d m sp : LI} (hT : zT s d = true) (h2 : mSp m sp s.length = true) {q : Nat} (hq : (q : Int) < mD m) (k : Nat) (hk : 5000 ≤ k) : ∀ (e i n : Nat),(zPrt s d m sp q).2.length = i + e → e + 10 < n →
  qae.l0 k n m q (zPrt s d m sp q).2.length i sp (zAll17 s d m sp) (mFr s m sp q) (mSz s m sp q) s d = some (.inl ())
 | 0,i,n,hi,hn => by
  obtain ⟨n,rfl⟩ : ∃ m,n = m + 1 := ⟨n - 1,by omega⟩
  rw [qae.l0,if_neg (by omega)]
 | e + 1,i,n,hi,hn => by
  obtain ⟨n,rfl⟩ : ∃ m,n = m + 1 := ⟨n - 1,by omega⟩
  obtain ⟨h1,hd⟩ := qaD hT
  have hb := qcZ m
  have hal := qcB s d m sp
  have hTp := qe3 (d := d) h1 h2 q
  obtain ⟨g1,g2⟩ := qaD hTp
  have g1 : mSR (mSz s m sp q) = true := g1
  have g2 : ((zPrt s d m sp q).2.length : Int) = pr (mSz s m sp q) := g2
  have g3 := qak g1
  have gs := qak h1
  have hc := qcn h1 h2 q
  have hlz := qbY hc
  have hbz := qd6 gs.2.1 hc
  obtain ⟨a1,a2⟩ := qix h1 h2 (show i < (zPrt s d m sp q).2.length by omega)
  have hib := qhM a2
  have h5 := qdE (mFr s m sp q) (pl (mSz s m sp q) i) hbz.1 (qjt g1 (by omega) i) (by omega) (by rw [qdA]; omega) m q i (zPrt s d m sp q).2.length i sp (zAll17 s d m sp) (mSz s m sp q) s d (mFr s m sp q).length [] n (by simp) (by omega)
  rw [List.length_nil,n0,List.drop_zero,List.drop_zero,List.nil_append,List.nil_append] at h5
  have hzi : zIx s (zAdd (pl (mSz s m sp q) i) (mFr s m sp q)) = ix s (zAdd (pl (mSz s m sp q) i) (mFr s m sp q)) := by rw [zIx,if_pos ⟨h1,a2⟩]
  have hget := qd4 s d m sp hq
  have hv := qip (d := d) (e := q) (i := i) (show i < (zPrt s d m sp q).2.length by omega)
  have ih := qdF hT h2 hq k hk e (i + 1) n (by omega) (by omega)
  rw [qae.l0,if_pos (by omega),qc9 g1 (by omega) (by omega) k (by omega),obs,h5,obs,if_pos (by omega),if_pos (by omega),Int.toNat_natCast,Int.toNat_natCast,hget,if_pos (by omega),qda _ _ k (by omega),obs,hzi,if_pos (by omega),if_pos (by omega),if_pos hv,qbf (m := (zPrt s d m sp q).2.length) (by omega) (by omega)]
  exact ih
theorem qjU (a0 : LI) (a1 : Int) (w0 : Fit (.sl (.int .i64)) a0) (w1 : (Lit.int .i64 a1).wf = true) : ∃ k,qae.f k a0 a1 = some true := by
 refine ⟨20020,?_⟩
 have hk : 20000 ≤ 20020 := by decide
 have hkn := known17 20020 hk
 generalize 20020 = k at hk hkn ⊢
 obtain ⟨m,s,d,sp,e,hm,hT,h2,hs4,hl4,h343⟩ := made17 w0 k (by omega)
 obtain ⟨h1,hd⟩ := qaD hT
 obtain ⟨_,d1,d8,_⟩ := got17m hm
 have hmay : zMay17 s d m sp = 0 := qcN.2 ⟨hT,h2⟩
 have hal := qcB s d m sp
 obtain ⟨_,hz⟩ := qfA hmay
 have hp := qdn h1
 have hq := pickOf (a := a1) (n := (zAll17 s d m sp).length) (by omega) (by omega) (qkr w1)
 generalize hqq : (IntKind.i64.wrap (a1.tmod ((zAll17 s d m sp).length : Int) + ((zAll17 s d m sp).length : Int))).tmod ((zAll17 s d m sp).length : Int) = q' at *
 obtain ⟨q,rfl⟩ : ∃ q : Nat,q' = q := ⟨q'.toNat,by omega⟩
 have hqm : (q : Int) < mD m := by omega
 have hget := qd4 s d m sp hqm
 have hTq := qe3 (d := d) h1 h2 q
 have hxl := (qaD hTq).2
 have hxb := (qak (qaD hTq).1).2.2
 have L0 := qdF hT h2 hqm k (by omega) (zPrt s d m sp q).2.length 0 k (by omega) (by omega)
 rw [n0] at L0
 unfold qae.f
 rw [e,obs]
 dsimp only
 rw [qdH s d m sp (by omega) k (by omega),if_pos hmay,obs]
 dsimp only
 rw [if_pos rfl,if_neg (by omega),if_pos (by omega),hqq,qcs h1 h2 (by omega) hqm k (by omega),obs,if_pos hq,Int.toNat_natCast,if_pos (by omega)]
 dsimp only
 have hget' : (zAll17 s d m sp).getD q ([],[]) = zPrt s d m sp q := hget
 rw [hget',L0,obs,Sum.elim_inl]
 by_cases c : ((zPrt s d m sp q).2.length : Int) = 0
 ·rw [if_pos c,hkn,obs]
 rw [if_neg c,if_pos (by omega),if_pos rfl,List.nil_append,if_pos ⟨by decide,by omega⟩,if_pos (by omega)]
 have hj := qj9 hm hT h2 hs4 hqm (show 0 < (zPrt s d m sp q).2.length by omega)
 have ht : trn (zAll17 s d m sp) q = (zAll17 s d m sp).set q ((zPrt s d m sp q).1,(zPrt s d m sp q).2.set 0 (IntKind.i64.wrap ((zPrt s d m sp q).2.getD 0 0 + 1))) := by unfold trn; rw [hget]
 rw [← ht,qc4 _ s m sp (by omega) k (by omega),obs,qgn m sp (by omega) k (by omega),obs]
 by_cases hc : 1 < mC m sp
 ·rw [if_pos hc] at hj
  rw [if_pos hc,hj,if_pos rfl,if_pos (by decide),hkn,obs]
 ·rw [if_neg hc] at hj
  obtain ⟨o,ho,hoT,hne⟩ := hj
  rw [if_neg hc,ho,if_pos rfl,qfM s o s d hoT k (by omega),obs,if_neg (by simp [hne]),hkn,obs]
end Go.Pf
