/- Own texts put together: P14, P16, P5 .. -/
import Derived.Test.YtcpgpddecdlocaaVm1
namespace Go.Pf
abbrev LI := List Int
abbrev LN := Int × LI × LI × LI × Int × Int × ByteArray
abbrev ln0 : LN := (0,([],([],([],(0,(0,ByteArray.empty))))))
abbrev LT := LI × LI
theorem obs {α β : Type} (a : α) (f : α → Option β) : (some a).bind f = f a := rfl
end Go.Pf

set_option linter.unusedVariables false
set_option linter.unusedSimpArgs false
namespace Go.Pf
open Go
def qaA.l0 : Nat → LI → Int → Int → Int → Option (Int ⊕ Bool)
 | 0,_,_,_,_ => none
 | n + 1,x0,x3,x6,x7 => if x7 < x6 then (if 3 ≤ x7 then (some (.inr false)) else if 0 ≤ x7 ∧ x7 < (x0.length : Int) then if x0.getD x7.toNat 0 < 1 then (some (.inr false)) else if 8 < x0.getD x7.toNat 0 then (some (.inr false)) else qaA.l0 n x0 (IntKind.i64.wrap (x3 * (x0.getD x7.toNat 0))) x6 (IntKind.i64.wrap (x7 + 1)) else none) else some (.inl x3)
def qaA.f (k : Nat) (a0 : LI) : Option (Bool) := (qaA.l0 k a0 1 (a0.length : Int) 0).bind fun t1 => Sum.elim (fun t1 => some (decide (t1 ≤ 8))) (fun t1 => some t1) t1
def qax.l0 : Nat → LI → Int → Int → Int → Option (Int)
 | 0,_,_,_,_ => none
 | n + 1,x0,x3,x9,x10 => if x10 < x9 then (if 0 ≤ x10 ∧ x10 < (x0.length : Int) then qax.l0 n x0 (IntKind.i64.wrap (x3 * (x0.getD x10.toNat 0))) x9 (IntKind.i64.wrap (x10 + 1)) else none) else some x3
def qax.f (k : Nat) (a0 : LI) : Option (Int) := (qaA.f k a0).bind fun t1 => if t1 = true then ((qax.l0 k a0 1 (a0.length : Int) 0).bind fun t2 => some t2) else some 0
def qiJ.l0 : Nat → LI → Int → Int → LI → Option (LI)
 | 0,_,_,_,_ => none
 | n + 1,x0,x1,x6,y0 => if 0 ≤ x6 then (if 0 ≤ x6 ∧ x6 < (x0.length : Int) then if x0.getD x6.toNat 0 ≠ 0 then if 0 ≤ x6 ∧ x6 < (y0.length : Int) then if x6.toNat < y0.length then qiJ.l0 n x0 (IntKind.i64.wrap (x1.tdiv (x0.getD x6.toNat 0))) (IntKind.i64.wrap (x6 - 1)) (y0.set x6.toNat (x1.tmod (x0.getD x6.toNat 0))) else none else none else none else none) else some y0
def qaE.l0 : Nat → Int → LI → Int → Int → Option (Int ⊕ Bool)
 | 0,_,_,_,_ => none
 | n + 1,x3,x9,x10,x11 => if x11 < x10 then (if 0 ≤ x11 ∧ x11 < (x9.length : Int) then if x9.getD x11.toNat 0 < 1 then (some (.inr false)) else if 8 < x9.getD x11.toNat 0 then (some (.inr false)) else qaE.l0 n (IntKind.i64.wrap (x3 * (x9.getD x11.toNat 0))) x9 x10 (IntKind.i64.wrap (x11 + 1)) else none) else some (.inl x3)
def qaE.f (k : Nat) (a0 : LI) : Option (Bool) := if 3 < (a0.length : Int) then (some false) else (qaE.l0 k 1 a0 (a0.length : Int) 0).bind fun t1 => Sum.elim (fun t1 => some (decide (t1 ≤ 8))) (fun t1 => some t1) t1
def qao.l0 : Nat → Int → LI → Int → Int → Option (Int)
 | 0,_,_,_,_ => none
 | n + 1,x3,x9,x10,x11 => if x11 < x10 then (if 0 ≤ x11 ∧ x11 < (x9.length : Int) then qao.l0 n (IntKind.i64.wrap (x3 * (x9.getD x11.toNat 0))) x9 x10 (IntKind.i64.wrap (x11 + 1)) else none) else some x3
def qao.f (k : Nat) (a0 : LI) : Option (Int) := (qaE.f k a0).bind fun t1 => if t1 = true then ((qao.l0 k 1 a0 (a0.length : Int) 0).bind fun t2 => some t2) else some 0
def qbp.l0 : Nat → LI → Int → Int → LI → Option (LI)
 | 0,_,_,_,_ => none
 | n + 1,x0,x1,x6,y0 => if 0 ≤ x6 then (if 0 ≤ x6 ∧ x6 < (x0.length : Int) then if x0.getD x6.toNat 0 ≠ 0 then if 0 ≤ x6 ∧ x6 < (y0.length : Int) then if x6.toNat < y0.length then qbp.l0 n x0 (IntKind.i64.wrap (x1.tdiv (x0.getD x6.toNat 0))) (IntKind.i64.wrap (x6 - 1)) (y0.set x6.toNat (x1.tmod (x0.getD x6.toNat 0))) else none else none else none else none) else some y0
def qbp.f (k : Nat) (a0 : LI) (a1 : Int) : Option (LI) := if a1 < 0 then (some []) else (qao.f k a0).bind fun t1 => if t1 ≤ a1 then (some []) else if 0 ≤ (a0.length : Int) ∧ (a0.length : Int) ≤ 281474976710656 ∧ ((8 : Nat) : Int) * (a0.length : Int) ≤ 140737488355328 then (qbp.l0 k a0 a1 (IntKind.i64.wrap ((a0.length : Int) - 1)) (List.replicate (a0.length : Int).toNat (0 : Int))).bind fun t2 => some t2 else none
def qbo.l0 : Nat → LI → Int → LI → Int → Int → Option (Int ⊕ Int)
 | 0,_,_,_,_,_ => none
 | n + 1,x0,x5,x18,x19,x20 => if x20 < x19 then (if 0 ≤ x20 ∧ x20 < (x18.length : Int) then if x18.getD x20.toNat 0 < 0 then (some (.inr (-1))) else if 0 ≤ x20 ∧ x20 < (x0.length : Int) then if x0.getD x20.toNat 0 ≤ x18.getD x20.toNat 0 then (some (.inr (-1))) else qbo.l0 n x0 (IntKind.i64.wrap ((IntKind.i64.wrap (x5 * (x0.getD x20.toNat 0))) + (x18.getD x20.toNat 0))) x18 x19 (IntKind.i64.wrap (x20 + 1)) else none else none) else some (.inl x5)
def qbo.f (k : Nat) (a0 : LI) (a1 : LI) : Option (Int) := (qaE.f k a0).bind fun t1 => if t1 = true then (if (a1.length : Int) = (a0.length : Int) then ((qbo.l0 k a0 0 a1 (a1.length : Int) 0).bind fun t2 => Sum.elim (fun t2 => some t2) (fun t2 => some t2) t2) else some (-1)) else some (-1)
def qbQ.f (a0 : Int) (a1 : Int) (a2 : Int) : Option (Int) := if a1 ≤ a0 then (if a0 ≤ a2 then (some a0) else if IntKind.i64.wrap ((IntKind.i64.wrap (a2 - a1)) + 1) ≠ 0 then if a0.tmod (IntKind.i64.wrap ((IntKind.i64.wrap (a2 - a1)) + 1)) < 0 then (some (IntKind.i64.wrap (a1 + (IntKind.i64.wrap ((IntKind.i64.wrap ((IntKind.i64.wrap ((a0.tmod (IntKind.i64.wrap ((IntKind.i64.wrap (a2 - a1)) + 1))) + a2)) - a1)) + 1))))) else some (IntKind.i64.wrap (a1 + (a0.tmod (IntKind.i64.wrap ((IntKind.i64.wrap (a2 - a1)) + 1))))) else none) else if IntKind.i64.wrap ((IntKind.i64.wrap (a2 - a1)) + 1) ≠ 0 then if a0.tmod (IntKind.i64.wrap ((IntKind.i64.wrap (a2 - a1)) + 1)) < 0 then (some (IntKind.i64.wrap (a1 + (IntKind.i64.wrap ((IntKind.i64.wrap ((IntKind.i64.wrap ((a0.tmod (IntKind.i64.wrap ((IntKind.i64.wrap (a2 - a1)) + 1))) + a2)) - a1)) + 1))))) else some (IntKind.i64.wrap (a1 + (a0.tmod (IntKind.i64.wrap ((IntKind.i64.wrap (a2 - a1)) + 1))))) else none
end Go.Pf

namespace Go.Pf
open Go
def qb0.f (a0 : Int) (a1 : Int) : Option (Int) := if a0 < 0 then (some 0) else if a1 < 1 then (some 0) else if a0 = 0 then (some 0) else if a1 ≠ 0 then some (IntKind.i64.wrap ((IntKind.i64.wrap ((IntKind.i64.wrap (a0 - 1)).tdiv a1)) + 1)) else none
def qbI.f (a0 : Int) (a1 : Int) (a2 : Int) : Option (Int) := if 0 < a0 then (if a0 ≠ 0 then if IntKind.i64.wrap (a2.tdiv a0) < a1 then (some a2) else some (if a2 < IntKind.i64.wrap (a0 * a1) then a2 else IntKind.i64.wrap (a0 * a1)) else none) else some (if a2 < IntKind.i64.wrap (a0 * a1) then a2 else IntKind.i64.wrap (a0 * a1))
def qc3.f (a0 : Int) (a1 : Int) (a2 : Int) : Option (Int × Int) := (qb0.f a0 a1).bind fun t1 => if t1 = 0 then (some (0,0)) else if a2 < 0 then (some (0,0)) else if a1 ≤ a2 then (some (0,0)) else (qbI.f t1 a2 a0).bind fun t2 => (qbI.f t1 (IntKind.i64.wrap (a2 + 1)) a0).bind fun t3 => some (t2,t3)
def qaw.l0 : Nat → Int → LI → Int → Int → Option (Int ⊕ Bool)
 | 0,_,_,_,_ => none
 | n + 1,x3,x9,x10,x11 => if x11 < x10 then (if 0 ≤ x11 ∧ x11 < (x9.length : Int) then if x9.getD x11.toNat 0 < 0 then (some (.inr false)) else if 32 < x9.getD x11.toNat 0 then (some (.inr false)) else qaw.l0 n (IntKind.i64.wrap (x3 * (x9.getD x11.toNat 0))) x9 x10 (IntKind.i64.wrap (x11 + 1)) else none) else some (.inl x3)
def qaw.f (k : Nat) (a0 : LI) : Option (Bool) := if 4 < (a0.length : Int) then (some false) else (qaw.l0 k 1 a0 (a0.length : Int) 0).bind fun t1 => Sum.elim (fun t1 => some (decide (t1 ≤ 4096))) (fun t1 => some t1) t1
def qap.l0 : Nat → LI → Int → Int → Int → Option (Unit ⊕ Int)
 | 0,_,_,_,_ => none
 | n + 1,x0,x1,x7,x8 => if x8 < x7 then (if 0 ≤ x8 ∧ x8 < (x0.length : Int) then if x1 = x0.getD x8.toNat 0 then (some (.inr x8)) else qap.l0 n x0 x1 x7 (IntKind.i64.wrap (x8 + 1)) else none) else some (.inl ())
def qap.f (k : Nat) (a0 : LI) (a1 : Int) : Option (Int) := (qap.l0 k a0 a1 (a0.length : Int) 0).bind fun t1 => Sum.elim (fun t1 => some (-1)) (fun t1 => some t1) t1
def qaL.f (k : Nat) (a0 : LI) (a1 : Int) : Option (Bool) := (qap.f k a0 a1).bind fun t1 => some (decide (0 ≤ t1))
def qaC.l0 (k : Nat) : Nat → LI → LI → LI → Int → Int → Option (Unit ⊕ Bool)
 | 0,_,_,_,_,_ => none
 | n + 1,x0,x1,x18,x19,x20 => if x20 < x19 then (if 0 ≤ x20 ∧ x20 < (x18.length : Int) then if x18.getD x20.toNat 0 < -1 then (some (.inr false)) else if (x0.length : Int) ≤ x18.getD x20.toNat 0 then (some (.inr false)) else if x18.getD x20.toNat 0 = -1 then (qaC.l0 k n x0 x1 x18 x19 (IntKind.i64.wrap (x20 + 1))) else if 0 ≤ ((0 : Nat) : Int) ∧ ((0 : Nat) : Int) ≤ x20 ∧ x20 ≤ (x1.length : Int) then (qaL.f k ((x1.take x20.toNat).drop 0) (x18.getD x20.toNat 0)).bind fun t2 => if t2 = true then (some (.inr false)) else qaC.l0 k n x0 x1 x18 x19 (IntKind.i64.wrap (x20 + 1)) else none else none) else some (.inl ())
def qaC.f (k : Nat) (a0 : LI) (a1 : LI) (a2 : Int) : Option (Bool) := (qaE.f k a0).bind fun t1 => if t1 = true then (if (a1.length : Int) = a2 then ((qaC.l0 k k a0 a1 a1 (a1.length : Int) 0).bind fun t3 => Sum.elim (fun t3 => some true) (fun t3 => some t3) t3) else some false) else some false
def qaT.l0 : Nat → LI → LI → LI → Int → Int → LI → (List (Int × Int)) → Option ((List (Int × Int)))
 | 0,_,_,_,_,_,_,_ => none
 | n + 1,x0,x1,x39,x40,x41,y0,y1 => if x41 < x40 then (if 0 ≤ x41 ∧ x41 < (x39.length : Int) then if 0 ≤ x41 ∧ x41 < (x0.length : Int) then if 0 ≤ x39.getD x41.toNat 0 then (if 0 ≤ x39.getD x41.toNat 0 ∧ x39.getD x41.toNat 0 < (x1.length : Int) then if 0 ≤ x39.getD x41.toNat 0 ∧ x39.getD x41.toNat 0 < (y0.length : Int) then if (x39.getD x41.toNat 0).toNat < y0.length then (qc3.f (x0.getD x41.toNat 0) (x1.getD (x39.getD x41.toNat 0).toNat 0) (y0.getD (x39.getD x41.toNat 0).toNat 0)).bind fun t5 => if y1.length + [(t5.1,t5.2)].length ≤ 281474976710656 ∧ (y1.length + [(t5.1,t5.2)].length) * 16 ≤ 140737488355328 then qaT.l0 n x0 x1 x39 x40 (IntKind.i64.wrap (x41 + 1)) y0 (y1 ++ [(t5.1,t5.2)]) else none else none else none else none) else if y1.length + [(0,x0.getD x41.toNat 0)].length ≤ 281474976710656 ∧ (y1.length + [(0,x0.getD x41.toNat 0)].length) * 16 ≤ 140737488355328 then qaT.l0 n x0 x1 x39 x40 (IntKind.i64.wrap (x41 + 1)) y0 (y1 ++ [(0,x0.getD x41.toNat 0)]) else none else none else none) else some y1
def qaT.f (k : Nat) (a0 : LI) (a1 : LI) (a2 : LI) (a3 : Int) : Option (Bool × (List (Int × Int))) := (qaw.f k a0).bind fun t1 => if t1 = true then ((qaC.f k a1 a2 (a0.length : Int)).bind fun t2 => if t2 = true then (if a3 < 0 then (some (false,[])) else (qao.f k a1).bind fun t3 => if t3 ≤ a3 then (some (false,[])) else (qbp.f k a1 a3).bind fun t4 => (qaT.l0 k a0 a1 a2 (a2.length : Int) 0 t4 []).bind fun t6 => some (true,t6)) else some (false,[])) else some (false,[])
def qaU.l0 : Nat → Int → Int → LI → (List (Int × Int)) → Option (LI)
 | 0,_,_,_,_ => none
 | n + 1,x23,x24,y0,y1 => if x24 < x23 then (if 0 ≤ x24 ∧ x24 < (y1.length : Int) then if x24.toNat < y1.length then if y0.length + [IntKind.i64.wrap ((y1.getD x24.toNat (0,0)).2 - (y1.getD x24.toNat (0,0)).1)].length ≤ 281474976710656 ∧ (y0.length + [IntKind.i64.wrap ((y1.getD x24.toNat (0,0)).2 - (y1.getD x24.toNat (0,0)).1)].length) * 8 ≤ 140737488355328 then qaU.l0 n x23 (IntKind.i64.wrap (x24 + 1)) (y0 ++ [IntKind.i64.wrap ((y1.getD x24.toNat (0,0)).2 - (y1.getD x24.toNat (0,0)).1)]) y1 else none else none else none) else some y0
def qaU.f (k : Nat) (a0 : LI) (a1 : LI) (a2 : LI) (a3 : Int) : Option (LI) := (qaT.f k a0 a1 a2 a3).bind fun t1 => (qaU.l0 k (t1.2.length : Int) 0 [] t1.2).bind fun t2 => some t2
def qaO.l0 : Nat → Int → Int → LI → (List (Int × Int)) → Option (LI)
 | 0,_,_,_,_ => none
 | n + 1,x23,x24,y0,y1 => if x24 < x23 then (if 0 ≤ x24 ∧ x24 < (y1.length : Int) then if x24.toNat < y1.length then if y0.length + [(y1.getD x24.toNat (0,0)).1].length ≤ 281474976710656 ∧ (y0.length + [(y1.getD x24.toNat (0,0)).1].length) * 8 ≤ 140737488355328 then qaO.l0 n x23 (IntKind.i64.wrap (x24 + 1)) (y0 ++ [(y1.getD x24.toNat (0,0)).1]) y1 else none else none else none) else some y0
def qaO.f (k : Nat) (a0 : LI) (a1 : LI) (a2 : LI) (a3 : Int) : Option (LI) := (qaT.f k a0 a1 a2 a3).bind fun t1 => (qaO.l0 k (t1.2.length : Int) 0 [] t1.2).bind fun t2 => some t2
def qav.f (a1 : Int) (o0_0 : LI) (o0_1 : Int) : Option (Int × Int) := if (o0_0.length : Int) ≤ o0_1 then (some (0,o0_1)) else if a1 < 1 then (some (0,o0_1)) else if 0 ≤ IntKind.i64.wrap ((IntKind.i64.wrap (o0_1 + 1)) - 1) ∧ IntKind.i64.wrap ((IntKind.i64.wrap (o0_1 + 1)) - 1) < (o0_0.length : Int) then (qbQ.f (o0_0.getD (IntKind.i64.wrap ((IntKind.i64.wrap (o0_1 + 1)) - 1)).toNat 0) 0 1073741824).bind fun t1 => if a1 ≠ 0 then some (t1.tmod a1,IntKind.i64.wrap (o0_1 + 1)) else none else none
def qas.l0 : Nat → Int → LI → Int → LI → Option (Int × LI)
 | 0,_,_,_,_ => none
 | n + 1,x4,y0_0,y0_1,y1 => if 0 < x4 then ((qav.f 8 y0_0 y0_1).bind fun t2 => if 0 ≤ t2.1 ∧ t2.1 < (([1,2,3,4,5,0,7,2] : LI).length : Int) then if t2.1.toNat < ([1,2,3,4,5,0,7,2] : LI).length then if y1.length + [([1,2,3,4,5,0,7,2] : LI).getD t2.1.toNat 0].length ≤ 281474976710656 ∧ (y1.length + [([1,2,3,4,5,0,7,2] : LI).getD t2.1.toNat 0].length) * 8 ≤ 140737488355328 then qas.l0 n (IntKind.i64.wrap (x4 - 1)) y0_0 t2.2 (y1 ++ [([1,2,3,4,5,0,7,2] : LI).getD t2.1.toNat 0]) else none else none else none) else some (y0_1,y1)
def qas.f (k : Nat) (o0_0 : LI) (o0_1 : Int) : Option (Int × LI) := (qav.f 4 o0_0 o0_1).bind fun t1 => (qas.l0 k t1.1 o0_0 t1.2 []).bind fun t3 => some (t3.1,t3.2)
def qai.l0 : Nat → LI → Int → Int → LI → Int → LI → (List Bool) → Option (Int × LI)
 | 0,_,_,_,_,_,_,_ => none
 | n + 1,x1,x17,x18,y0_0,y0_1,y1,y2 => if x18 < x17 then (if 0 ≤ x18 ∧ x18 < (y1.length : Int) then if x18.toNat < y1.length then if 0 < (x1.length : Int) then ((qav.f 2 y0_0 y0_1).bind fun t1 => if t1.1 = 0 then ((qav.f (x1.length : Int) y0_0 t1.2).bind fun t2 => if 0 ≤ t2.1 ∧ t2.1 < (y2.length : Int) then if t2.1.toNat < y2.length then if (y2.getD t2.1.toNat false) = true then (qai.l0 n x1 x17 (IntKind.i64.wrap (x18 + 1)) y0_0 t2.2 (y1.set x18.toNat (-1)) y2) else if 0 ≤ x18 ∧ x18 < ((y1.set x18.toNat (-1)).length : Int) then if x18.toNat < (y1.set x18.toNat (-1)).length then qai.l0 n x1 x17 (IntKind.i64.wrap (x18 + 1)) y0_0 t2.2 ((y1.set x18.toNat (-1)).set x18.toNat t2.1) (y2.set t2.1.toNat true) else none else none else none else none) else qai.l0 n x1 x17 (IntKind.i64.wrap (x18 + 1)) y0_0 t1.2 (y1.set x18.toNat (-1)) y2) else qai.l0 n x1 x17 (IntKind.i64.wrap (x18 + 1)) y0_0 y0_1 (y1.set x18.toNat (-1)) y2 else none else none) else some (y0_1,y1)
def qai.f (k : Nat) (a1 : LI) (a2 : Int) (o0_0 : LI) (o0_1 : Int) : Option (Int × LI) := if 0 ≤ a2 ∧ a2 ≤ 281474976710656 ∧ ((8 : Nat) : Int) * a2 ≤ 140737488355328 then if 0 ≤ (a1.length : Int) ∧ (a1.length : Int) ≤ 281474976710656 ∧ ((1 : Nat) : Int) * (a1.length : Int) ≤ 140737488355328 then (qai.l0 k a1 ((List.replicate a2.toNat (0 : Int)).length : Int) 0 o0_0 o0_1 (List.replicate a2.toNat (0 : Int)) (List.replicate (a1.length : Int).toNat (false : Bool))).bind fun t3 => some (t3.1,t3.2) else none else none
def qaq.l1 : Nat → LI → LI → Int → Int → Int → Int → Option (Unit ⊕ Bool)
 | 0,_,_,_,_,_,_ => none
 | n + 1,x0,x1,x7,x8,x19,x20 => if x8 < x7 then (if 0 ≤ x8 ∧ x8 < (x1.length : Int) then if 0 ≤ x7 ∧ x7 < (x1.length : Int) then if x1.getD x8.toNat 0 = x1.getD x7.toNat 0 then (if 0 ≤ x1.getD x7.toNat 0 then (some (.inr false)) else qaq.l1 n x0 x1 x7 (IntKind.i64.wrap (x8 + 1)) x19 x20) else qaq.l1 n x0 x1 x7 (IntKind.i64.wrap (x8 + 1)) x19 x20 else none else none) else some (.inl ())
def qaq.l0 (k : Nat) : Nat → LI → LI → Int → Int → Option (Unit ⊕ Bool)
 | 0,_,_,_,_ => none
 | n + 1,x0,x1,x19,x20 => if x20 < x19 then (if 0 ≤ x20 ∧ x20 < (x1.length : Int) then if x1.getD x20.toNat 0 < -1 then (some (.inr false)) else if (x0.length : Int) ≤ x1.getD x20.toNat 0 then (some (.inr false)) else (qaq.l1 n x0 x1 x20 0 x19 x20).bind fun t2 => Sum.elim (fun t2 => qaq.l0 k n x0 x1 x19 (IntKind.i64.wrap (x20 + 1))) (fun t2 => some (.inr t2)) t2 else none) else some (.inl ())
def qaq.f (k : Nat) (a0 : LI) (a1 : LI) (a2 : Int) : Option (Bool) := (qaA.f k a0).bind fun t1 => if t1 = true then (if (a1.length : Int) = a2 then ((qaq.l0 k k a0 a1 (a1.length : Int) 0).bind fun t3 => Sum.elim (fun t3 => some true) (fun t3 => some t3) t3) else some false) else some false
def qaH.l0 : Nat → LI → LI → Int → Int → LI → Option (LI)
 | 0,_,_,_,_,_ => none
 | n + 1,x0,x1,x20,x21,y0 => if x21 < x20 then (if 0 ≤ x21 ∧ x21 < (x1.length : Int) then if 0 ≤ x1.getD x21.toNat 0 then (if 0 ≤ x1.getD x21.toNat 0 ∧ x1.getD x21.toNat 0 < (x0.length : Int) then if y0.length + [x0.getD (x1.getD x21.toNat 0).toNat 0].length ≤ 281474976710656 ∧ (y0.length + [x0.getD (x1.getD x21.toNat 0).toNat 0].length) * 8 ≤ 140737488355328 then qaH.l0 n x0 x1 x20 (IntKind.i64.wrap (x21 + 1)) (y0 ++ [x0.getD (x1.getD x21.toNat 0).toNat 0]) else none else none) else if y0.length + ([1] : LI).length ≤ 281474976710656 ∧ (y0.length + ([1] : LI).length) * 8 ≤ 140737488355328 then qaH.l0 n x0 x1 x20 (IntKind.i64.wrap (x21 + 1)) (y0 ++ ([1] : LI)) else none else none) else some y0
def qaH.f (k : Nat) (a0 : LI) (a1 : LI) : Option (LI) := (qaA.f k a0).bind fun t1 => if t1 = true then ((qaq.f k a0 a1 (a1.length : Int)).bind fun t2 => if t2 = true then ((qaH.l0 k a0 a1 (a1.length : Int) 0 []).bind fun t3 => some t3) else some []) else some []
def qaD.l0 : Nat → Int → Int → Int → LI → Option (Int)
 | 0,_,_,_,_ => none
 | n + 1,x5,x24,x25,y0 => if x25 < x24 then (if 0 ≤ x25 ∧ x25 < (y0.length : Int) then if x25.toNat < y0.length then if y0.getD x25.toNat 0 ≠ 0 then qaD.l0 n (IntKind.i64.wrap (x5.tdiv (y0.getD x25.toNat 0))) x24 (IntKind.i64.wrap (x25 + 1)) y0 else none else none else none) else some x5
def qaD.f (k : Nat) (a0 : LI) (a1 : LI) : Option (Int) := (qaA.f k a0).bind fun t1 => if t1 = true then ((qaq.f k a0 a1 (a1.length : Int)).bind fun t2 => if t2 = true then ((qax.f k a0).bind fun t3 => (qaH.f k a0 a1).bind fun t4 => (qaD.l0 k t3 (t4.length : Int) 0 t4).bind fun t5 => some t5) else some 0) else some 0
end Go.Pf

namespace Go.Pf
open Go
def qaJ.l0 : Nat → LI → Int → Int → Option (Int ⊕ Bool)
 | 0,_,_,_ => none
 | n + 1,x0,x3,x4 => if x4 < (x0.length : Int) then (if 0 ≤ x4 ∧ x4 < (x0.length : Int) then if x0.getD x4.toNat 0 < 0 then (some (.inr false)) else if 32 < x0.getD x4.toNat 0 then (some (.inr false)) else if 4 ≤ x4 then (some (.inr false)) else qaJ.l0 n x0 (IntKind.i64.wrap (x3 * (x0.getD x4.toNat 0))) (IntKind.i64.wrap (x4 + 1)) else none) else some (.inl x3)
def qaJ.f (k : Nat) (a0 : LI) : Option (Bool) := (qaJ.l0 k a0 1 0).bind fun t1 => Sum.elim (fun t1 => some (decide (t1 ≤ 4096))) (fun t1 => some t1) t1
def qaY.l0 : Nat → LI → Int → Int → Option (Int)
 | 0,_,_,_ => none
 | n + 1,x0,x3,x4 => if x4 < (x0.length : Int) then (if 0 ≤ x4 ∧ x4 < (x0.length : Int) then qaY.l0 n x0 (IntKind.i64.wrap (x3 * (x0.getD x4.toNat 0))) (IntKind.i64.wrap (x4 + 1)) else none) else some x3
def qaY.f (k : Nat) (a0 : LI) : Option (Int) := (qaJ.f k a0).bind fun t1 => if t1 = true then ((qaY.l0 k a0 1 0).bind fun t2 => some t2) else some 0
def qa0.l0 (k : Nat) : Nat → LI → Int → Int → LI → LI → Option (LI)
 | 0,_,_,_,_,_ => none
 | n + 1,x0,x1,x6,y2,y3 => (qaY.f k x0).bind fun t1 => if x6 < t1 then (if y3.length + [x1].length ≤ 281474976710656 ∧ (y3.length + [x1].length) * 8 ≤ 140737488355328 then qa0.l0 k n x0 x1 (IntKind.i64.wrap (x6 + 1)) y2 (y3 ++ [x1]) else none) else some y3
def qa0.f (k : Nat) (a0 : LI) (a1 : Int) : Option LT := if 0 + a0.length ≤ 281474976710656 ∧ (0 + a0.length) * 8 ≤ 140737488355328 then (qa0.l0 k k a0 a1 0 ([] ++ a0) []).bind fun t2 => some ([] ++ a0,t2) else none
def qa4.f (o0_0 : LI) (o0_1 : Int) : Option (Int × Int) := (qav.f 9 o0_0 o0_1).bind fun t1 => if t1.1 = 0 then ((qav.f 6 o0_0 t1.2).bind fun t2 => if 0 ≤ t2.1 ∧ t2.1 < (([9223372036854775807,-9223372036854775808,4611686018427387904,-1099511627776,8589934592,3037000500] : LI).length : Int) then if t2.1.toNat < ([9223372036854775807,-9223372036854775808,4611686018427387904,-1099511627776,8589934592,3037000500] : LI).length then some (([9223372036854775807,-9223372036854775808,4611686018427387904,-1099511627776,8589934592,3037000500] : LI).getD t2.1.toNat 0,t2.2) else none else none) else if t1.1 = 1 then (some (0,t1.2)) else (qav.f 19 o0_0 t1.2).bind fun t3 => some (IntKind.i64.wrap (t3.1 - 9),t3.2)
def qam.l0 : Nat → Int → Int → LI → Int → LI → LI → Option (Int × LI)
 | 0,_,_,_,_,_,_ => none
 | n + 1,x11,x12,y0_0,y0_1,y3,y4 => if x12 < x11 then ((qa4.f y0_0 y0_1).bind fun t2 => if 0 ≤ x12 ∧ x12 < (y4.length : Int) then if x12.toNat < y4.length then qam.l0 n x11 (IntKind.i64.wrap (x12 + 1)) y0_0 t2.2 y3 (y4.set x12.toNat t2.1) else none else none) else some (y0_1,y4)
def qam.f (k : Nat) (a1 : LI) (o0_0 : LI) (o0_1 : Int) : Option (Int × LI × LI) := (qa0.f k a1 0).bind fun t1 => (qam.l0 k (t1.2.length : Int) 0 o0_0 o0_1 t1.1 t1.2).bind fun t3 => some (t3.1,t1.1,t3.2)
def qaI.l0 : Nat → Int → LI → Int → Int → Option (Int)
 | 0,_,_,_,_ => none
 | n + 1,x3,x9,x10,x11 => if x11 < x10 then (if 0 ≤ x11 ∧ x11 < (x9.length : Int) then qaI.l0 n (IntKind.i64.wrap (x3 * (x9.getD x11.toNat 0))) x9 x10 (IntKind.i64.wrap (x11 + 1)) else none) else some x3
def qaI.f (k : Nat) (a0 : LI) : Option (Int) := (qaw.f k a0).bind fun t1 => if t1 = true then ((qaI.l0 k 1 a0 (a0.length : Int) 0).bind fun t2 => some t2) else some 0
def qa1.f (k : Nat) (a0_0 : LI) (a0_1 : LI) : Option (Bool) := (qaw.f k a0_0).bind fun t1 => if t1 = true then ((qaI.f k a0_0).bind fun t2 => some (decide ((a0_1.length : Int) = t2))) else some false
def qaQ.f (a0 : LI) : Option (LI) := if 0 + a0.length ≤ 281474976710656 ∧ (0 + a0.length) * 8 ≤ 140737488355328 then some ([] ++ a0) else none
def qaB.l0 : Nat → LI → Int → Int → LI → Option (LI)
 | 0,_,_,_,_ => none
 | n + 1,x0,x1,x6,y0 => if 0 ≤ x6 then (if 0 ≤ x6 ∧ x6 < (x0.length : Int) then if x0.getD x6.toNat 0 ≠ 0 then if 0 ≤ x6 ∧ x6 < (y0.length : Int) then if x6.toNat < y0.length then qaB.l0 n x0 (IntKind.i64.wrap (x1.tdiv (x0.getD x6.toNat 0))) (IntKind.i64.wrap (x6 - 1)) (y0.set x6.toNat (x1.tmod (x0.getD x6.toNat 0))) else none else none else none else none) else some y0
def qaB.f (k : Nat) (a0 : LI) (a1 : Int) : Option (LI) := if a1 < 0 then (some []) else (qaI.f k a0).bind fun t1 => if t1 ≤ a1 then (some []) else if 0 ≤ (a0.length : Int) ∧ (a0.length : Int) ≤ 281474976710656 ∧ ((8 : Nat) : Int) * (a0.length : Int) ≤ 140737488355328 then (qaB.l0 k a0 a1 (IntKind.i64.wrap ((a0.length : Int) - 1)) (List.replicate (a0.length : Int).toNat (0 : Int))).bind fun t2 => some t2 else none
def qaG.l0 : Nat → LI → Int → LI → Int → Int → Option (Int ⊕ Int)
 | 0,_,_,_,_,_ => none
 | n + 1,x0,x5,x18,x19,x20 => if x20 < x19 then (if 0 ≤ x20 ∧ x20 < (x18.length : Int) then if x18.getD x20.toNat 0 < 0 then (some (.inr (-1))) else if 0 ≤ x20 ∧ x20 < (x0.length : Int) then if x0.getD x20.toNat 0 ≤ x18.getD x20.toNat 0 then (some (.inr (-1))) else qaG.l0 n x0 (IntKind.i64.wrap ((IntKind.i64.wrap (x5 * (x0.getD x20.toNat 0))) + (x18.getD x20.toNat 0))) x18 x19 (IntKind.i64.wrap (x20 + 1)) else none else none) else some (.inl x5)
def qaG.f (k : Nat) (a0 : LI) (a1 : LI) : Option (Int) := (qaw.f k a0).bind fun t1 => if t1 = true then (if (a1.length : Int) = (a0.length : Int) then ((qaG.l0 k a0 0 a1 (a1.length : Int) 0).bind fun t2 => Sum.elim (fun t2 => some t2) (fun t2 => some t2) t2) else some (-1)) else some (-1)
def qbw.f (k : Nat) (a0_0 : LI) (a0_1 : LI) (a1 : LI) : Option (Int) := (qa1.f k a0_0 a0_1).bind fun t1 => if t1 = true then ((qaG.f k a0_0 a1).bind fun t2 => some t2) else some (-1)
def qb1.f (k : Nat) (a0_0 : LI) (a0_1 : LI) (a1 : LI) : Option (Int × Bool) := (qbw.f k a0_0 a0_1 a1).bind fun t1 => if t1 < 0 then (some (0,false)) else if 0 ≤ t1 ∧ t1 < (a0_1.length : Int) then some (a0_1.getD t1.toNat 0,true) else none
def qe8.f (k : Nat) (a0_0 : LI) (a0_1 : LI) (a1 : LI) : Option (Int) := (qb1.f k a0_0 a0_1 a1).bind fun t1 => some t1.1
def qg1.l0 : Nat → LI → Int → Int → LI → LI → LI → LI → LI → Option (LI)
 | 0,_,_,_,_,_,_,_,_ => none
 | n + 1,x8,x9,x10,y0,y1,y3_0,y3_1,y4 => if x10 < x9 then (if 0 ≤ x10 ∧ x10 < (x8.length : Int) then if 0 ≤ x10 ∧ x10 < (y0.length : Int) then if x10.toNat < y0.length then if 0 ≤ x8.getD x10.toNat 0 ∧ x8.getD x10.toNat 0 < (y4.length : Int) then if (x8.getD x10.toNat 0).toNat < y4.length then qg1.l0 n x8 x9 (IntKind.i64.wrap (x10 + 1)) y0 y1 y3_0 y3_1 (y4.set (x8.getD x10.toNat 0).toNat (y0.getD x10.toNat 0)) else none else none else none else none else none) else some y4
def qaN.l0 : Nat → LI → LI → LI → Int → Int → Option (Unit ⊕ Int)
 | 0,_,_,_,_,_ => none
 | n + 1,x1,x2,x21,x22,x23 => if x23 < x22 then (if 0 ≤ x23 ∧ x23 < (x21.length : Int) then if 0 ≤ x23 ∧ x23 < (x1.length : Int) then if x1.getD x23.toNat 0 < 0 then (some (.inr 1)) else if x21.getD x23.toNat 0 < x1.getD x23.toNat 0 then (some (.inr 1)) else if 0 ≤ x23 ∧ x23 < (x2.length : Int) then if x2.getD x23.toNat 0 < 0 then (some (.inr 1)) else if IntKind.i64.wrap ((x21.getD x23.toNat 0) - (x1.getD x23.toNat 0)) < x2.getD x23.toNat 0 then (some (.inr 1)) else qaN.l0 n x1 x2 x21 x22 (IntKind.i64.wrap (x23 + 1)) else none else none else none) else some (.inl ())
def qaN.f (k : Nat) (a0 : LI) (a1 : LI) (a2 : LI) : Option (Int) := if (a1.length : Int) = (a0.length : Int) then (if (a2.length : Int) = (a0.length : Int) then ((qaN.l0 k a1 a2 a0 (a0.length : Int) 0).bind fun t1 => Sum.elim (fun t1 => some 0) (fun t1 => some t1) t1) else some 1) else some 1
def qaF.l0 : Nat → LI → Int → Int → LI → LI → LI → LI → Option (LI)
 | 0,_,_,_,_,_,_,_ => none
 | n + 1,x7,x8,x9,y0,y1,y2_0,y2_1 => if x9 < x8 then (if 0 ≤ x9 ∧ x9 < (x7.length : Int) then if 0 ≤ x9 ∧ x9 < (y0.length : Int) then if x9.toNat < y0.length then qaF.l0 n x7 x8 (IntKind.i64.wrap (x9 + 1)) (y0.set x9.toNat (IntKind.i64.wrap ((y0.getD x9.toNat 0) + (x7.getD x9.toNat 0)))) y1 y2_0 y2_1 else none else none else none) else some y0
def qaF.f (k : Nat) (o0 : LI) (o1 : LI) (o2_0 : LI) (o2_1 : LI) : Option (Int × LI) := (qaF.l0 k o1 (o1.length : Int) 0 o0 o1 o2_0 o2_1).bind fun t1 => (qe8.f k o2_0 o2_1 t1).bind fun t2 => some (t2,t1)
def qae.l0 (k : Nat) : Nat → LI → Int → Int → LI → LI → LI → LI → LI → Option (LI)
 | 0,_,_,_,_,_,_,_,_ => none
 | n + 1,x0,x15,x16,y0,y1_0,y1_1,y4,y5 => if x16 < x15 then ((qaB.f k x0 x16).bind fun t3 => (qaF.f k t3 y0 y1_0 y1_1).bind fun t4 => if 0 ≤ x16 ∧ x16 < (y5.length : Int) then if x16.toNat < y5.length then qae.l0 k n x0 x15 (IntKind.i64.wrap (x16 + 1)) y0 y1_0 y1_1 y4 (y5.set x16.toNat t4.1) else none else none) else some y5
def qae.f (k : Nat) (a0 : LI) (o0 : LI) (o1_0 : LI) (o1_1 : LI) : Option LT := (qaQ.f a0).bind fun t1 => (qaI.f k a0).bind fun t2 => if 0 ≤ t2 ∧ t2 ≤ 281474976710656 ∧ ((8 : Nat) : Int) * t2 ≤ 140737488355328 then (qae.l0 k k a0 ((List.replicate t2.toNat (0 : Int)).length : Int) 0 o0 o1_0 o1_1 t1 (List.replicate t2.toNat (0 : Int))).bind fun t5 => some (t1,t5) else none
def qcb.f (k : Nat) (a0_0 : LI) (a0_1 : LI) (a1 : LI) (a2 : LI) : Option (Int × LI × LI) := (qa1.f k a0_0 a0_1).bind fun t1 => if t1 = true then ((qaN.f k a0_0 a1 a2).bind fun t2 => if t2 = 0 then ((qae.f k a2 a1 a0_0 a0_1).bind fun t3 => some (0,t3.1,t3.2)) else some (t2,[],[])) else some (13,[],[])
def qa3.l0 : Nat → LI → LI → Int → Option (Unit ⊕ Bool)
 | 0,_,_,_ => none
 | n + 1,x0,x1,x5 => if x5 < (x0.length : Int) then (if 0 ≤ x5 ∧ x5 < (x0.length : Int) then if 0 ≤ x5 ∧ x5 < (x1.length : Int) then if x0.getD x5.toNat 0 = x1.getD x5.toNat 0 then (qa3.l0 n x0 x1 (IntKind.i64.wrap (x5 + 1))) else some (.inr false) else none else none) else some (.inl ())
def qa3.f (k : Nat) (a0 : LI) (a1 : LI) : Option (Bool) := if (a0.length : Int) = (a1.length : Int) then ((qa3.l0 k a0 a1 0).bind fun t1 => Sum.elim (fun t1 => some true) (fun t1 => some t1) t1) else some false
def qaZ.l0 : Nat → Int → LI → LI → LI → LI → Option (Unit ⊕ Bool)
 | 0,_,_,_,_,_ => none
 | n + 1,x5,y0_0,y0_1,y1_0,y1_1 => if x5 < (y0_1.length : Int) then (if 0 ≤ x5 ∧ x5 < (y0_1.length : Int) then if 0 ≤ x5 ∧ x5 < (y1_1.length : Int) then if y0_1.getD x5.toNat 0 = y1_1.getD x5.toNat 0 then (qaZ.l0 n (IntKind.i64.wrap (x5 + 1)) y0_0 y0_1 y1_0 y1_1) else some (.inr false) else none else none) else some (.inl ())
def qaZ.f (k : Nat) (a0_0 : LI) (a0_1 : LI) (a1_0 : LI) (a1_1 : LI) : Option (Bool) := (qa3.f k a0_0 a1_0).bind fun t1 => if t1 = true then (if (a0_1.length : Int) = (a1_1.length : Int) then ((qaZ.l0 k 0 a0_0 a0_1 a1_0 a1_1).bind fun t2 => Sum.elim (fun t2 => some true) (fun t2 => some t2) t2) else some false) else some false
end Go.Pf

namespace Go.Pf
open Go
def qfk.l0 : Nat → LI → LI → Int → Int → LI → Option (LI)
 | 0,_,_,_,_,_ => none
 | n + 1,x0,x17,x18,x19,y0 => if x19 < x18 then (if 0 ≤ x19 ∧ x19 < (x17.length : Int) then if 0 ≤ x19 ∧ x19 < (y0.length : Int) then if x19.toNat < y0.length then if x17.getD x19.toNat 0 = -1 then (qfk.l0 n x0 x17 x18 (IntKind.i64.wrap (x19 + 1)) (y0.set x19.toNat 1)) else if 0 ≤ x17.getD x19.toNat 0 ∧ x17.getD x19.toNat 0 < (x0.length : Int) then if 0 ≤ x19 ∧ x19 < ((y0.set x19.toNat 1).length : Int) then if x19.toNat < (y0.set x19.toNat 1).length then qfk.l0 n x0 x17 x18 (IntKind.i64.wrap (x19 + 1)) ((y0.set x19.toNat 1).set x19.toNat (x0.getD (x17.getD x19.toNat 0).toNat 0)) else none else none else none else none else none else none) else some y0
def qaK.l0 (k : Nat) : Nat → LI → LI → Int → Int → LI → Option (LI)
 | 0,_,_,_,_,_ => none
 | n + 1,x0,x1,x29,x30,y0 => if x30 < x29 then ((qaL.f k x1 x30).bind fun t4 => if t4 = true then (qaK.l0 k n x0 x1 x29 (IntKind.i64.wrap (x30 + 1)) y0) else if 0 ≤ x30 ∧ x30 < (y0.length : Int) then if x30.toNat < y0.length then qaK.l0 k n x0 x1 x29 (IntKind.i64.wrap (x30 + 1)) (y0.set x30.toNat 0) else none else none) else some y0
def qaK.f (k : Nat) (a0 : LI) (a1 : LI) (a2 : Int) : Option (Int) := (qaC.f k a0 a1 (a1.length : Int)).bind fun t1 => if t1 = true then (if a2 < 0 then (some (-1)) else (qao.f k a0).bind fun t2 => if t2 ≤ a2 then (some (-1)) else (qbp.f k a0 a2).bind fun t3 => (qaK.l0 k k a0 a1 (t3.length : Int) 0 t3).bind fun t5 => (qbo.f k a0 t5).bind fun t6 => some t6) else some (-1)
def qal.l0 : Nat → LI → LI → Int → Int → Option (Unit ⊕ Bool)
 | 0,_,_,_,_ => none
 | n + 1,x0,x1,x12,x13 => if x13 < x12 then (if 0 ≤ x13 ∧ x13 < (x0.length : Int) then if 0 ≤ x13 ∧ x13 < (x1.length : Int) then if x0.getD x13.toNat 0 = x1.getD x13.toNat 0 then (qal.l0 n x0 x1 x12 (IntKind.i64.wrap (x13 + 1))) else some (.inr false) else none else none) else some (.inl ())
def qal.f (k : Nat) (a0 : LI) (a1 : LI) : Option (Bool) := if (a0.length : Int) = (a1.length : Int) then ((qal.l0 k a0 a1 (a0.length : Int) 0).bind fun t1 => Sum.elim (fun t1 => some true) (fun t1 => some t1) t1) else some false
end Go.Pf

namespace Go.Pf
open Go
def qb7.f (k : Nat) (a0 : LI) : Option (LI × LI × LI × LI) := (qav.f 7 a0 0).bind fun t1 => if 0 ≤ t1.1 ∧ t1.1 < ([([2] : LI),([2,4] : LI),([3,2] : LI),([2,2,2] : LI),[],([5] : LI),([2,2] : LI)].length : Int) then if t1.1.toNat < [([2] : LI),([2,4] : LI),([3,2] : LI),([2,2,2] : LI),[],([5] : LI),([2,2] : LI)].length then (qas.f k a0 t1.2).bind fun t2 => (qam.f k t2.2 a0 t2.1).bind fun t3 => (qai.f k ([([2] : LI),([2,4] : LI),([3,2] : LI),([2,2,2] : LI),[],([5] : LI),([2,2] : LI)].getD t1.1.toNat []) (t3.2.1.length : Int) a0 t3.1).bind fun t4 => some ([([2] : LI),([2,4] : LI),([3,2] : LI),([2,2,2] : LI),[],([5] : LI),([2,2] : LI)].getD t1.1.toNat [],t3.2.1,t3.2.2,t4.2) else none else none
def qb3.f (k : Nat) (a0_0 : LI) (a0_1 : LI) (a1 : LI) (a2 : LI) : Option (Int) := (qa1.f k a0_0 a0_1).bind fun t1 => if t1 = true then ((qaE.f k a1).bind fun t2 => if t2 = true then ((qaC.f k a1 a2 (a0_0.length : Int)).bind fun t3 => if t3 = true then (some 0) else some 1) else some 1) else some 13
def qb4.f (k : Nat) (a0_0 : LI) (a0_1 : LI) (a1 : LI) (a2 : LI) (a3 : Int) : Option (Int × LI × LI) := (qb3.f k a0_0 a0_1 a1 a2).bind fun t1 => if t1 = 0 then (if a3 < 0 then (some (23,[],[])) else (qao.f k a1).bind fun t2 => if t2 ≤ a3 then (some (23,[],[])) else (qaO.f k a0_0 a1 a2 a3).bind fun t3 => (qaU.f k a0_0 a1 a2 a3).bind fun t4 => (qcb.f k a0_0 a0_1 t3 t4).bind fun t5 => some (t5.1,t5.2.1,t5.2.2)) else some (t1,[],[])
def qaV.l0 (k : Nat) : Nat → LI → LI → Int → Int → LI → LI → (List LT) → Option ((List LT) ⊕ Int)
 | 0,_,_,_,_,_,_,_ => none
 | n + 1,x1,x2,x21,x22,y0_0,y0_1,y1 => if x22 < x21 then ((qb4.f k y0_0 y0_1 x1 x2 x22).bind fun t3 => if t3.1 = 0 then (if y1.length + [(t3.2.1,t3.2.2)].length ≤ 281474976710656 ∧ (y1.length + [(t3.2.1,t3.2.2)].length) * 48 ≤ 140737488355328 then qaV.l0 k n x1 x2 x21 (IntKind.i64.wrap (x22 + 1)) y0_0 y0_1 (y1 ++ [(t3.2.1,t3.2.2)]) else none) else some (.inr t3.1)) else some (.inl y1)
def qaV.f (k : Nat) (a0_0 : LI) (a0_1 : LI) (a1 : LI) (a2 : LI) : Option (Int × (List LT)) := (qb3.f k a0_0 a0_1 a1 a2).bind fun t1 => if t1 = 0 then ((qao.f k a1).bind fun t2 => (qaV.l0 k k a1 a2 t2 0 a0_0 a0_1 []).bind fun t4 => Sum.elim (fun t4 => some (0,t4)) (fun t4 => some (t4,[])) t4) else some (t1,[])
def qbJ.f (k : Nat) (a0 : LI) (a1 : LI) : Option (Bool) := (qal.f k a0 a1).bind fun t1 => some t1
def qah.l0 : Nat → LI → LI → Int → Int → Option (Unit ⊕ Bool)
 | 0,_,_,_,_ => none
 | n + 1,x0,x1,x12,x13 => if x13 < x12 then (if 0 ≤ x13 ∧ x13 < (x0.length : Int) then if 0 ≤ x13 ∧ x13 < (x1.length : Int) then if x0.getD x13.toNat 0 = x1.getD x13.toNat 0 then (qah.l0 n x0 x1 x12 (IntKind.i64.wrap (x13 + 1))) else some (.inr false) else none else none) else some (.inl ())
def qah.f (k : Nat) (a0 : LI) (a1 : LI) : Option (Bool) := if (a0.length : Int) = (a1.length : Int) then ((qah.l0 k a0 a1 (a0.length : Int) 0).bind fun t1 => Sum.elim (fun t1 => some true) (fun t1 => some t1) t1) else some false
def qbL.f (k : Nat) (a0_0 : LI) (a0_1 : LI) (a1_0 : LI) (a1_1 : LI) : Option (Bool) := (qbJ.f k a0_0 a1_0).bind fun t1 => if t1 = true then ((qah.f k a0_1 a1_1).bind fun t2 => some t2) else some false
def qbE.f (a0 : LI) (o0 : Int) : Option (Unit) := some ()
def qad.l0 (k : Nat) : Nat → LI → Int → Int → Int → LI → LI → Option (LI)
 | 0,_,_,_,_,_,_ => none
 | n + 1,x0,x15,x16,y0,y3,y4 => if x16 < x15 then ((qaB.f k x0 x16).bind fun t3 => (qbE.f t3 y0).bind fun t4 => if 0 ≤ x16 ∧ x16 < (y4.length : Int) then if x16.toNat < y4.length then qad.l0 k n x0 x15 (IntKind.i64.wrap (x16 + 1)) y0 y3 (y4.set x16.toNat y0) else none else none) else some y4
def qad.f (k : Nat) (a0 : LI) (o0 : Int) : Option LT := (qaQ.f a0).bind fun t1 => (qaI.f k a0).bind fun t2 => if 0 ≤ t2 ∧ t2 ≤ 281474976710656 ∧ ((8 : Nat) : Int) * t2 ≤ 140737488355328 then (qad.l0 k k a0 ((List.replicate t2.toNat (0 : Int)).length : Int) 0 o0 t1 (List.replicate t2.toNat (0 : Int))).bind fun t5 => some (t1,t5) else none
def qbq.f (k : Nat) (a0 : LI) (a1 : Int) : Option (Int × LI × LI) := (qaw.f k a0).bind fun t1 => if t1 = true then ((qad.f k a0 a1).bind fun t2 => some (0,t2.1,t2.2)) else some (13,[],[])
def qac.l0 (k : Nat) : Nat → (List LT) → LI → LI → LI → (List LT) → Int → Int → Option (Unit ⊕ Int)
 | 0,_,_,_,_,_,_,_ => none
 | n + 1,x0,x1,x2,x3,x46,x47,x48 => if x48 < x47 then (if 0 ≤ x48 ∧ x48 < (x46.length : Int) then (qa1.f k (x46.getD x48.toNat ([],[])).1 (x46.getD x48.toNat ([],[])).2).bind fun t5 => if t5 = true then ((qaU.f k x1 x2 x3 x48).bind fun t6 => (qbJ.f k (x46.getD x48.toNat ([],[])).1 t6).bind fun t7 => if t7 = true then (qac.l0 k n x0 x1 x2 x3 x46 x47 (IntKind.i64.wrap (x48 + 1))) else some (.inr 13)) else some (.inr 13) else none) else some (.inl ())
def qac.l1 (k : Nat) : Nat → (List LT) → LI → LI → LI → (List LT) → Int → Int → Option (Unit ⊕ Int)
 | 0,_,_,_,_,_,_,_ => none
 | n + 1,x0,x1,x2,x3,x69,x70,x71 => if x71 < x70 then (if 0 ≤ x71 ∧ x71 < (x69.length : Int) then (qaK.f k x2 x3 x71).bind fun t9 => if 0 ≤ t9 ∧ t9 < (x0.length : Int) then (qbL.f k (x69.getD x71.toNat ([],[])).1 (x69.getD x71.toNat ([],[])).2 (x0.getD t9.toNat ([],[])).1 (x0.getD t9.toNat ([],[])).2).bind fun t10 => if t10 = true then (qac.l1 k n x0 x1 x2 x3 x69 x70 (IntKind.i64.wrap (x71 + 1))) else some (.inr 25) else none else none) else some (.inl ())
def qac.l4 : Nat → LI → LI → LI → Int → Int → (List LT) → Int → Int → LI → Int → Int → Int → Int → LI → LI → LI → LI → LI → LI → Option (LI)
 | 0,_,_,_,_,_,_,_,_,_,_,_,_,_,_,_,_,_,_,_ => none
 | n + 1,x1,x2,x3,x15,x20,x93,x94,x95,x106,x107,x108,x118,x119,y2_0,y2_1,y3,y4,y5,y6 => if x119 < x118 then (if 0 ≤ x119 ∧ x119 < (y4.length : Int) then if x119.toNat < y4.length then if 0 ≤ x119 ∧ x119 < (y3.length : Int) then if x119.toNat < y3.length then qac.l4 n x1 x2 x3 x15 x20 x93 x94 x95 x106 x107 x108 x118 (IntKind.i64.wrap (x119 + 1)) y2_0 y2_1 y3 (y4.set x119.toNat (IntKind.i64.wrap ((y4.getD x119.toNat 0) + (y3.getD x119.toNat 0)))) y5 y6 else none else none else none else none) else some y4
def qac.l3 (k : Nat) : Nat → LI → LI → LI → Int → (List LT) → Int → Int → LI → Int → Int → LI → LI → LI → LI → LI → Option (LI)
 | 0,_,_,_,_,_,_,_,_,_,_,_,_,_,_,_ => none
 | n + 1,x1,x2,x3,x15,x93,x94,x95,x106,x107,x108,y2_0,y2_1,y3,y4,y5 => if x108 < x107 then (if 0 ≤ x108 ∧ x108 < (x106.length : Int) then (qaB.f k y2_0 x108).bind fun t14 => (qac.l4 n x1 x2 x3 x15 (x106.getD x108.toNat 0) x93 x94 x95 x106 x107 x108 (t14.length : Int) 0 y2_0 y2_1 y3 t14 y4 y5).bind fun t15 => (qaG.f k x1 t15).bind fun t16 => if 0 ≤ t16 ∧ t16 < (y5.length : Int) then if t16.toNat < y5.length then qac.l3 k n x1 x2 x3 x15 x93 x94 x95 x106 x107 (IntKind.i64.wrap (x108 + 1)) y2_0 y2_1 y3 y4 (y5.set t16.toNat (x106.getD x108.toNat 0)) else none else none else none) else some y5
def qac.l2 (k : Nat) : Nat → LI → LI → LI → Int → (List LT) → Int → Int → LI → LI → Option (LI)
 | 0,_,_,_,_,_,_,_,_,_ => none
 | n + 1,x1,x2,x3,x15,x93,x94,x95,y2,y3 => if x95 < x94 then (if 0 ≤ x95 ∧ x95 < (x93.length : Int) then (qaO.f k x1 x2 x3 x95).bind fun t13 => (qac.l3 k n x1 x2 x3 x15 x93 x94 x95 (x93.getD x95.toNat ([],[])).2 ((x93.getD x95.toNat ([],[])).2.length : Int) 0 (x93.getD x95.toNat ([],[])).1 (x93.getD x95.toNat ([],[])).2 t13 y2 y3).bind fun t17 => qac.l2 k n x1 x2 x3 x15 x93 x94 (IntKind.i64.wrap (x95 + 1)) y2 t17 else none) else some y3
def qac.f (k : Nat) (a0 : List LT) (a1 : LI) (a2 : LI) (a3 : LI) : Option (Int × LI × LI) := (qaE.f k a2).bind fun t1 => if t1 = true then ((qaw.f k a1).bind fun t2 => if t2 = true then ((qaC.f k a2 a3 (a1.length : Int)).bind fun t3 => if t3 = true then ((qao.f k a2).bind fun t4 => if (a0.length : Int) = t4 then ((qac.l0 k k a0 a1 a2 a3 a0 (a0.length : Int) 0).bind fun t8 => Sum.elim (fun t8 => (qac.l1 k k a0 a1 a2 a3 a0 (a0.length : Int) 0).bind fun t11 => Sum.elim (fun t11 => (qbq.f k a1 0).bind fun t12 => (qac.l2 k k a1 a2 a3 t12.1 a0 (a0.length : Int) 0 t12.2.1 t12.2.2).bind fun t18 => some (t12.1,t12.2.1,t18)) (fun t11 => some (t11,[],[])) t11) (fun t8 => some (t8,[],[])) t8) else some (13,[],[])) else some (1,[],[])) else some (1,[],[])) else some (1,[],[])
def qbO.f (k : Nat) : Option (Bool) := (qaV.f k ([3] : LI) ([1,2,3] : LI) ([2] : LI) ([0] : LI)).bind fun t1 => (qac.f k [(([3] : LI),([1,2,3] : LI)),(([3] : LI),([1,2,4] : LI))] ([3] : LI) ([2] : LI) ([-1] : LI)).bind fun t2 => if t1.1 = 0 then (if (t1.2.length : Int) = 2 then (if (0 : Int) ≤ 0 ∧ 0 < (t1.2.length : Int) then if 0 < t1.2.length then if ((t1.2.getD 0 ([],[])).2.length : Int) = 2 then (if (0 : Int) ≤ 1 ∧ 1 < (t1.2.length : Int) then if 1 < t1.2.length then if ((t1.2.getD 1 ([],[])).2.length : Int) = 1 then (if (0 : Int) ≤ 0 ∧ 0 < ((t1.2.getD 1 ([],[])).2.length : Int) then if (t1.2.getD 1 ([],[])).2.getD 0 0 = 3 then (some (decide (t2.1 = 25))) else some false else none) else some false else none else none) else some false else none else none) else some false) else some false
def qar.l0 : Nat → LI → Int → Int → Int → Int → Int → LI → (List LT) → LI → LI → LI → LI → Option (Int)
 | 0,_,_,_,_,_,_,_,_,_,_,_,_ => none
 | n + 1,x4,x7,x9,x10,x35,x36,y1,y2,y4,y5,y6,y7 => if x36 < x35 then (if 0 ≤ x36 ∧ x36 < (y2.length : Int) then qar.l0 n x4 x7 x9 (IntKind.i64.wrap (x10 + ((y2.getD x36.toNat ([],[])).2.length : Int))) x35 (IntKind.i64.wrap (x36 + 1)) y1 y2 y4 y5 y6 y7 else none) else some x10
def qar.f (k : Nat) (a0 : LI) : Option (Bool) := (qb7.f k a0).bind fun t1 => (qaV.f k t1.2.1 t1.2.2.1 t1.1 t1.2.2.2).bind fun t2 => (qac.f k t2.2 t1.2.1 t1.1 t1.2.2.2).bind fun t3 => (qar.l0 k t1.1 t2.1 t3.1 0 (t2.2.length : Int) 0 t1.2.2.2 t2.2 t1.2.1 t1.2.2.1 t3.2.1 t3.2.2).bind fun t4 => if t2.1 = 0 then (if t3.1 = 0 then ((qaZ.f k t3.2.1 t3.2.2 t1.2.1 t1.2.2.1).bind fun t5 => if t5 = true then ((qaD.f k t1.1 t1.2.2.2).bind fun t6 => if t4 = IntKind.i64.wrap ((t1.2.2.1.length : Int) * t6) then ((qax.f k t1.1).bind fun t7 => if (t2.2.length : Int) = t7 then ((qbO.f k).bind fun t8 => some t8) else some false) else some false) else some false) else some false) else some false
end Go.Pf

namespace Go.Pf
open Go Go.Vm
theorem qag {n : Int} (h1 : -9223372036854775808 ≤ n) (h2 : n < 9223372036854775808) : IntKind.i64.wrap n = n := by rw [IntKind.wrap_i64]; omega
theorem qjW {n : Int} (h : (Lit.int .i64 n).wf = true) : -9223372036854775808 ≤ n ∧ n < 9223372036854775808 := by
 simp only [Lit.wf,Bool.and_eq_true,decide_eq_true_eq] at h
 have h1 : IntKind.i64.min = -9223372036854775808 := by decide
 have h2 : IntKind.i64.max = 9223372036854775807 := by decide
 omega
theorem qiq {l : LI} (h : Fit (.sl (.int .i64)) l) : l.length ≤ 17592186043904 ∧ ∀ x ∈ l,-9223372036854775808 ≤ x ∧ x < 9223372036854775808 := by
 obtain ⟨h1,h2⟩ := h
 have h3 : l.length * 8 ≤ 140737488351232 := h1
 exact ⟨by omega,fun x hx => qjW (h2 x hx)⟩
theorem qaj {α : Type} {l : List α} {i : Nat} (h : i < l.length) (d : α) : l.drop i = l.getD i d :: l.drop (i + 1) := by
 rw [List.drop_eq_getElem_cons h,List.getD_eq_getElem?_getD,List.getElem?_eq_getElem h]; rfl
theorem qaz {α : Type} {l : List α} {i : Nat} (h : i < l.length) (d : α) : l.getD i d ∈ l := by
 rw [List.getD_eq_getElem?_getD,List.getElem?_eq_getElem h]; exact List.getElem_mem h
end Go.Pf

namespace Go.Pf
open Go Go.Vm
def pd : LI → Int
 | [] => 1
 | x :: r => x * pd r
def okD (x : Int) : Bool := decide (1 ≤ x) && decide (x ≤ 8)
def mR (l : LI) : Bool := decide (l.length ≤ 3) && l.all okD && decide (pd l ≤ 8)
def mD (l : LI) : Int := if mR l = true then pd l else 0
def atM : LI → Int → LI
 | [],_ => []
 | x :: r,d => (d / pd r) % x :: atM r d
def mA (l : LI) (d : Int) : LI := if 0 ≤ d ∧ d < mD l then atM l d else []
def ofGo : LI → LI → Int → Int
 | x :: r,p :: s,acc => if p < 0 ∨ x ≤ p then -1 else ofGo r s (acc * x + p)
 | _,_,acc => acc
def mO (l p : LI) : Int := if mR l = true ∧ p.length = l.length then ofGo l p 0 else -1
theorem qbk {x : Int} : okD x = true ↔ 1 ≤ x ∧ x ≤ 8 := by simp [okD]
theorem qiL : ∀ (l : LI),l.all okD = true → 1 ≤ pd l ∧ pd l ≤ 8 ^ l.length
 | [],_ => by simp [pd]
 | x :: r,h => by
  simp only [List.all_cons,Bool.and_eq_true,qbk] at h
  obtain ⟨⟨h1,h2⟩,h3⟩ := h
  obtain ⟨h4,h5⟩ := qiL r h3
  show 1 ≤ x * pd r ∧ x * pd r ≤ 8 ^ (r.length + 1)
  constructor
  ·have := Int.mul_le_mul h1 h4 (by omega) (by omega); simpa using this
  ·have := Int.mul_le_mul h2 h5 (by omega) (by omega)
   rw [Int.pow_succ]; rw [Int.mul_comm] at this; simpa [Int.mul_comm] using this
theorem qbX {l : LI} (h : mR l = true) : l.length ≤ 3 ∧ l.all okD = true ∧ 1 ≤ pd l ∧ pd l ≤ 8 := by
 unfold mR at h
 simp only [Bool.and_eq_true,decide_eq_true_eq] at h
 exact ⟨h.1.1,h.1.2,(qiL l h.1.2).1,h.2⟩
theorem p8 {i : Nat} (h : i ≤ 3) : (1 : Int) ≤ 8 ^ i ∧ (8 : Int) ^ i ≤ 512 := by
 rcases (show i = 0 ∨ i = 1 ∨ i = 2 ∨ i = 3 by omega) with e | e | e | e <;> subst e <;> decide
theorem qeq {p x : Int} {i : Nat} (h1 : 1 ≤ p) (h2 : p ≤ 8 ^ i) (hx : 1 ≤ x ∧ x ≤ 8) : 1 ≤ p * x ∧ p * x ≤ 8 ^ (i + 1) := by
 constructor
 ·have := Int.mul_le_mul h1 hx.1 (by omega) (by omega); simpa using this
 ·rw [Int.pow_succ]; exact Int.mul_le_mul h2 hx.2 (by omega) (by omega)
theorem qdo (l : LI) (hl : l.length ≤ 3) : ∀ (d i : Nat) (p : Int) (n : Nat),l.length = i + d → 1 ≤ p → p ≤ 8 ^ i → d < n →
  qaE.l0 n p l l.length i = some (if (l.drop i).all okD = true then .inl (p * pd (l.drop i)) else .inr false)
 | 0,i,p,n,hi,h1,h2,hn => by
  obtain ⟨n,rfl⟩ : ∃ m,n = m + 1 := ⟨n - 1,by omega⟩
  rw [qaE.l0,if_neg (by omega),List.drop_eq_nil_of_le (by omega)]
  simp [pd]
 | d + 1,i,p,n,hi,h1,h2,hn => by
  obtain ⟨n,rfl⟩ : ∃ m,n = m + 1 := ⟨n - 1,by omega⟩
  rw [qaE.l0,if_pos (by omega),if_pos (by omega),Int.toNat_natCast,qaj (show i < l.length by omega) 0]
  generalize l.getD i 0 = x
  by_cases c1 : x < 1
  ·rw [if_pos c1]; simp [qbk]; omega
  by_cases c2 : 8 < x
  ·rw [if_neg c1,if_pos c2]; simp [qbk]; omega
  have hx : okD x = true := qbk.2 (by omega)
  have hm := qeq h1 h2 (show 1 ≤ x ∧ x ≤ 8 by omega)
  have h8 := p8 (show i + 1 ≤ 3 by omega)
  rw [if_neg c1,if_neg c2,qag (n := p * x) (by omega) (by omega),qag (n := (i : Int) + 1) (by omega) (by omega)]
  have := qdo l hl d (i + 1) (p * x) n (by omega) hm.1 hm.2 (by omega)
  rw [show (i : Int) + 1 = ((i + 1 : Nat) : Int) by omega,this]
  simp [hx,pd,Int.mul_assoc]
theorem qbl (l : LI) (k : Nat) (hk : 10 ≤ k) : qaE.f k l = some (mR l) := by
 unfold qaE.f
 by_cases h : 3 < (l.length : Int)
 ·rw [if_pos h]; simp [mR]; omega
 ·have := qdo l (by omega) l.length 0 1 k (by omega) (by omega) (by simp) (by omega)
  rw [if_neg h,show (0 : Int) = ((0 : Nat) : Int) from rfl,this]
  have hl : l.length ≤ 3 := by omega
  by_cases ha : l.all okD = true
  ·simp [ha,mR,hl]
  ·simp [ha,mR]
theorem qcN (l : LI) : ∀ (d i : Nat) (p : Int) (n : Nat),l.length = i + d → i ≤ 3 → 1 ≤ p → p ≤ 8 ^ i → 4 < n + i →
  qaA.l0 n l p l.length i = some (if l.length ≤ 3 ∧ (l.drop i).all okD = true then .inl (p * pd (l.drop i)) else .inr false)
 | 0,i,p,n,hi,hi3,h1,h2,hn => by
  obtain ⟨n,rfl⟩ : ∃ m,n = m + 1 := ⟨n - 1,by omega⟩
  rw [qaA.l0,if_neg (by omega),List.drop_eq_nil_of_le (by omega),if_pos ⟨by omega,by simp⟩]
  simp [pd]
 | d + 1,i,p,n,hi,hi3,h1,h2,hn => by
  obtain ⟨n,rfl⟩ : ∃ m,n = m + 1 := ⟨n - 1,by omega⟩
  rw [qaA.l0,if_pos (by omega)]
  by_cases c0 : 3 ≤ (i : Int)
  ·rw [if_pos c0,if_neg (by omega)]
  rw [if_neg c0,if_pos (by omega),Int.toNat_natCast,qaj (show i < l.length by omega) 0]
  generalize l.getD i 0 = x
  by_cases c1 : x < 1
  ·rw [if_pos c1,if_neg (by simp [qbk]; omega)]
  by_cases c2 : 8 < x
  ·rw [if_neg c1,if_pos c2,if_neg (by simp [qbk]; omega)]
  have hx : okD x = true := qbk.2 (by omega)
  have hm := qeq h1 h2 (show 1 ≤ x ∧ x ≤ 8 by omega)
  have h8 := p8 (show i + 1 ≤ 3 by omega)
  rw [if_neg c1,if_neg c2,qag (n := p * x) (by omega) (by omega),qag (n := (i : Int) + 1) (by omega) (by omega)]
  have := qcN l d (i + 1) (p * x) n (by omega) (by omega) hm.1 hm.2 (by omega)
  rw [show (i : Int) + 1 = ((i + 1 : Nat) : Int) by omega,this]
  simp [hx,pd,Int.mul_assoc]
theorem qbF (l : LI) (k : Nat) (hk : 10 ≤ k) : qaA.f k l = some (mR l) := by
 unfold qaA.f
 have := qcN l l.length 0 1 k (by omega) (by omega) (by omega) (by simp) (by omega)
 rw [show ((0 : Nat) : Int) = 0 from rfl] at this
 rw [this]
 by_cases ha : l.length ≤ 3 ∧ l.all okD = true
 ·simp [ha.1,ha.2,mR]
 ·rw [List.drop_zero,if_neg ha]
  have : mR l = false := by
   cases h : mR l with
   | false => rfl
   | true => exact absurd ⟨(qbX h).1,(qbX h).2.1⟩ ha
  simp [this]
theorem qcz (l : LI) (hl : l.length ≤ 3) (ha : l.all okD = true) : ∀ (d i : Nat) (p : Int) (n : Nat),l.length = i + d → 1 ≤ p → p ≤ 8 ^ i → d < n →
  qao.l0 n p l l.length i = some (p * pd (l.drop i))
 | 0,i,p,n,hi,h1,h2,hn => by
  obtain ⟨n,rfl⟩ : ∃ m,n = m + 1 := ⟨n - 1,by omega⟩
  rw [qao.l0,if_neg (by omega),List.drop_eq_nil_of_le (by omega)]
  simp [pd]
 | d + 1,i,p,n,hi,h1,h2,hn => by
  obtain ⟨n,rfl⟩ : ∃ m,n = m + 1 := ⟨n - 1,by omega⟩
  have hx := qbk.1 (List.all_eq_true.1 ha _ (qaz (show i < l.length by omega) 0))
  rw [qao.l0,if_pos (by omega),if_pos (by omega),Int.toNat_natCast,qaj (show i < l.length by omega) 0]
  generalize l.getD i 0 = x at hx ⊢
  have hm := qeq h1 h2 hx
  have h8 := p8 (show i + 1 ≤ 3 by omega)
  rw [qag (n := p * x) (by omega) (by omega),qag (n := (i : Int) + 1) (by omega) (by omega)]
  rw [show (i : Int) + 1 = ((i + 1 : Nat) : Int) by omega,qcz l hl ha d (i + 1) (p * x) n (by omega) hm.1 hm.2 (by omega)]
  simp [pd,Int.mul_assoc]
theorem qa7 (l : LI) (k : Nat) (hk : 10 ≤ k) : qao.f k l = some (mD l) := by
 unfold qao.f
 rw [qbl l k hk,obs]
 by_cases h : mR l = true
 ·obtain ⟨h1,h2,_⟩ := qbX h
  have := qcz l h1 h2 l.length 0 1 k (by omega) (by omega) (by simp) (by omega)
  rw [if_pos h,show (0 : Int) = ((0 : Nat) : Int) from rfl,this]
  simp [mD,h]
 ·rw [if_neg h]; simp [mD,h]
theorem qcm (l : LI) (hl : l.length ≤ 3) (ha : l.all okD = true) : ∀ (d i : Nat) (p : Int) (n : Nat),l.length = i + d → 1 ≤ p → p ≤ 8 ^ i → d < n →
  qax.l0 n l p l.length i = some (p * pd (l.drop i))
 | 0,i,p,n,hi,h1,h2,hn => by
  obtain ⟨n,rfl⟩ : ∃ m,n = m + 1 := ⟨n - 1,by omega⟩
  rw [qax.l0,if_neg (by omega),List.drop_eq_nil_of_le (by omega)]
  simp [pd]
 | d + 1,i,p,n,hi,h1,h2,hn => by
  obtain ⟨n,rfl⟩ : ∃ m,n = m + 1 := ⟨n - 1,by omega⟩
  have hx := qbk.1 (List.all_eq_true.1 ha _ (qaz (show i < l.length by omega) 0))
  rw [qax.l0,if_pos (by omega),if_pos (by omega),Int.toNat_natCast,qaj (show i < l.length by omega) 0]
  generalize l.getD i 0 = x at hx ⊢
  have hm := qeq h1 h2 hx
  have h8 := p8 (show i + 1 ≤ 3 by omega)
  rw [qag (n := p * x) (by omega) (by omega),qag (n := (i : Int) + 1) (by omega) (by omega)]
  rw [show (i : Int) + 1 = ((i + 1 : Nat) : Int) by omega,qcm l hl ha d (i + 1) (p * x) n (by omega) hm.1 hm.2 (by omega)]
  simp [pd,Int.mul_assoc]
theorem qcv (l : LI) (k : Nat) (hk : 10 ≤ k) : qax.f k l = some (mD l) := by
 unfold qax.f
 rw [qbF l k hk,obs]
 by_cases h : mR l = true
 ·obtain ⟨h1,h2,_⟩ := qbX h
  have := qcm l h1 h2 l.length 0 1 k (by omega) (by omega) (by simp) (by omega)
  rw [if_pos h,show (0 : Int) = ((0 : Nat) : Int) from rfl,this]
  simp [mD,h]
 ·rw [if_neg h]; simp [mD,h]
theorem qdQ : ∀ (l : LI) (d : Int),(atM l d).length = l.length
 | [],_ => rfl
 | x :: r,d => by show (atM r d).length + 1 = _; rw [qdQ r d]; rfl
theorem qjH {l : LI} (ha : l.all okD = true) {d : Int} (hd0 : 0 ≤ d) (hd8 : d ≤ 8) {m : Nat} (hm : m < l.length) :
  okD (l.getD m 0) = true ∧ (d / pd (l.drop (m + 1))).tdiv (l.getD m 0) = d / pd (l.drop m) ∧ 0 ≤ d / pd (l.drop m) ∧ d / pd (l.drop m) ≤ 8 ∧
  (List.replicate (m + 1) 0 ++ atM (l.drop (m + 1)) d).set m ((d / pd (l.drop (m + 1))).tmod (l.getD m 0)) = List.replicate m 0 ++ atM (l.drop m) d := by
 have hx := List.all_eq_true.1 ha _ (qaz hm 0)
 have hdr := qaj hm 0
 generalize l.getD m 0 = x at hx hdr ⊢
 have hx' := qbk.1 hx
 have hall : (l.drop (m + 1)).all okD = true := by
  rw [List.all_eq_true] at ha ⊢
  exact fun y hy => ha y (List.mem_of_mem_drop hy)
 have hp := (qiL _ hall).1
 have h0 : 0 ≤ d / pd (l.drop (m + 1)) := Int.ediv_nonneg hd0 (by omega)
 have h8 : d / pd (l.drop (m + 1)) ≤ 8 := Int.le_trans (Int.ediv_le_self _ hd0) hd8
 have e1 : (d / pd (l.drop (m + 1))).tdiv x = d / pd (l.drop m) := by
  rw [Int.tdiv_eq_ediv_of_nonneg h0,hdr]
  show d / pd (l.drop (m + 1)) / x = d / (x * pd (l.drop (m + 1)))
  rw [Int.ediv_ediv_of_nonneg (by omega),Int.mul_comm]
 refine ⟨hx,e1,?_,?_,?_⟩
 ·rw [← e1,Int.tdiv_eq_ediv_of_nonneg h0]; exact Int.ediv_nonneg h0 (by omega)
 ·rw [← e1,Int.tdiv_eq_ediv_of_nonneg h0]; exact Int.le_trans (Int.ediv_le_self _ h0) h8
 ·rw [hdr,Int.tmod_eq_emod_of_nonneg h0,List.replicate_succ',List.append_assoc]
  show (List.replicate m 0 ++ (0 :: atM (l.drop (m + 1)) d)).set m _ = List.replicate m 0 ++ ((d / pd (l.drop (m + 1))) % x :: atM (l.drop (m + 1)) d)
  rw [List.set_append]
  simp
theorem qfp (l : LI) (hl : l.length ≤ 3) (ha : l.all okD = true) (d : Int) (hd0 : 0 ≤ d) (hd8 : d ≤ 8) : ∀ (m n : Nat),m ≤ l.length → m < n →
  qbp.l0 n l (d / pd (l.drop m)) ((m : Int) - 1) (List.replicate m 0 ++ atM (l.drop m) d) = some (atM l d)
 | 0,n,hm,hn => by
  obtain ⟨n,rfl⟩ : ∃ m,n = m + 1 := ⟨n - 1,by omega⟩
  rw [qbp.l0,if_neg (by omega)]; simp
 | m + 1,n,hm,hn => by
  obtain ⟨n,rfl⟩ : ∃ m,n = m + 1 := ⟨n - 1,by omega⟩
  obtain ⟨h1,h2,h3,h4,h5⟩ := qjH ha hd0 hd8 (show m < l.length by omega)
  have hx := qbk.1 h1
  have hlen : (List.replicate (m + 1) 0 ++ atM (l.drop (m + 1)) d).length = l.length := by simp [qdQ]; omega
  have e : (((m + 1 : Nat) : Int) - 1) = (m : Int) := by omega
  rw [e,qbp.l0,if_pos (by omega),if_pos (by omega),Int.toNat_natCast,if_pos (by omega),if_pos (by omega),if_pos (by omega),h2,h5,qag (by omega) (by omega),qag (n := (m : Int) - 1) (by omega) (by omega)]
  exact qfp l hl ha d hd0 hd8 m n (by omega) (by omega)
theorem qih {l : LI} {d : Int} (h0 : 0 ≤ d) (h : d < mD l) : mR l = true ∧ l.length ≤ 3 ∧ l.all okD = true ∧ d < pd l ∧ pd l ≤ 8 := by
 have hR : mR l = true := by
  by_cases h' : mR l = true
  ·exact h'
  ·rw [mD,if_neg h'] at h; omega
 rw [mD,if_pos hR] at h
 obtain ⟨h1,h2,_,h3⟩ := qbX hR
 exact ⟨hR,h1,h2,h,h3⟩
theorem qgl (l : LI) (d : Int) (k : Nat) (hk : 10 ≤ k) : qbp.f k l d = some (mA l d) := by
 unfold qbp.f mA
 by_cases c1 : d < 0
 ·rw [if_pos c1,if_neg (by omega)]
 rw [if_neg c1,qa7 l k hk,obs]
 by_cases c2 : mD l ≤ d
 ·rw [if_pos c2,if_neg (by omega)]
 obtain ⟨_,h1,h2,h3,h4⟩ := qih (show 0 ≤ d by omega) (show d < mD l by omega)
 have := qfp l h1 h2 d (by omega) (by omega) l.length k (by omega) (by omega)
 rw [if_neg c2,if_pos (by omega),qag (by omega) (by omega),Int.toNat_natCast,if_pos (by omega)]
 simp [pd,atM] at this
 rw [this]; rfl
theorem qfo (l p : LI) (hl : l.length ≤ 3) (hlen : p.length = l.length) (ha : l.all okD = true) : ∀ (d i : Nat) (acc : Int) (n : Nat),l.length = i + d → 0 ≤ acc → acc < 8 ^ i → d < n →
  ∃ r,qbo.l0 n l acc p p.length i = some r ∧ Sum.elim id id r = ofGo (l.drop i) (p.drop i) acc
 | 0,i,acc,n,hi,h0,h8,hn => by
  obtain ⟨n,rfl⟩ : ∃ m,n = m + 1 := ⟨n - 1,by omega⟩
  rw [qbo.l0,if_neg (by omega),List.drop_eq_nil_of_le (show l.length ≤ i by omega)]
  exact ⟨_,rfl,rfl⟩
 | d + 1,i,acc,n,hi,h0,h8,hn => by
  obtain ⟨n,rfl⟩ : ∃ m,n = m + 1 := ⟨n - 1,by omega⟩
  have hx := qbk.1 (List.all_eq_true.1 ha _ (qaz (show i < l.length by omega) 0))
  rw [qbo.l0,if_pos (by omega),if_pos (by omega),Int.toNat_natCast,qaj (show i < l.length by omega) 0,qaj (show i < p.length by omega) 0]
  generalize l.getD i 0 = x at hx ⊢
  generalize p.getD i 0 = y
  by_cases c1 : y < 0
  ·rw [if_pos c1,ofGo,if_pos (.inl c1)]; exact ⟨_,rfl,rfl⟩
  by_cases c2 : x ≤ y
  ·rw [if_neg c1,if_pos (by omega),if_pos c2,ofGo,if_pos (.inr c2)]; exact ⟨_,rfl,rfl⟩
  have h8' := p8 (show i + 1 ≤ 3 by omega)
  have h8i : (8 : Int) ^ (i + 1) = 8 ^ i * 8 := Int.pow_succ ..
  have hb : 0 ≤ acc * x ∧ acc * x ≤ (8 ^ i - 1) * 8 := ⟨Int.mul_nonneg h0 (by omega),Int.mul_le_mul (by omega) hx.2 (by omega) (by omega)⟩
  rw [if_neg c1,if_pos (by omega),if_neg c2,qag (n := acc * x) (by omega) (by omega),qag (n := acc * x + y) (by omega) (by omega),qag (n := (i : Int) + 1) (by omega) (by omega),ofGo,if_neg (by omega),show (i : Int) + 1 = ((i + 1 : Nat) : Int) by omega]
  exact qfo l p hl hlen ha d (i + 1) (acc * x + y) n (by omega) (by omega) (by omega) (by omega)
theorem qie (l p : LI) (k : Nat) (hk : 10 ≤ k) : qbo.f k l p = some (mO l p) := by
 unfold qbo.f mO
 rw [qbl l k hk,obs]
 by_cases h : mR l = true
 ·rw [if_pos h]
  by_cases hp : p.length = l.length
  ·obtain ⟨h1,h2,_⟩ := qbX h
   obtain ⟨r,h3,h4⟩ := qfo l p h1 hp h2 l.length 0 0 k (by omega) (by omega) (by simp) (by omega)
   rw [if_pos (by omega),show qbo.l0 k l 0 p (↑p.length) 0 = some r from h3,obs,if_pos ⟨h,hp⟩]
   rw [List.drop_zero,List.drop_zero] at h4
   rw [← h4]
   cases r <;> rfl
  ·rw [if_neg (by omega),if_neg (fun c => hp c.2)]
 ·rw [if_neg h,if_neg (fun c => h c.1)]
theorem qjd {l : LI} {d : Int} (h0 : 0 ≤ d) (h1 : d < mD l) : mA l d = atM l d := by rw [mA,if_pos ⟨h0,h1⟩]
end Go.Pf

namespace Go.Pf
open Go Go.Vm
theorem n0 : ((0 : Nat) : Int) = 0 := rfl
theorem drop0 {α : Type} (l : List α) : l.drop 0 = l := rfl
theorem qcq (xs : LI) (v : Int) (hl : xs.length ≤ 4611686018427387904) : ∀ (d i n : Nat),xs.length = i + d → d < n →
  ∃ r,qap.l0 n xs v xs.length i = some r ∧ ((r = .inl () ∧ v ∉ xs.drop i) ∨ ∃ j : Int,r = .inr j ∧ 0 ≤ j ∧ v ∈ xs.drop i)
 | 0,i,n,hi,hn => by
  obtain ⟨n,rfl⟩ : ∃ m,n = m + 1 := ⟨n - 1,by omega⟩
  rw [qap.l0,if_neg (by omega),List.drop_eq_nil_of_le (by omega)]
  exact ⟨_,rfl,.inl ⟨rfl,by simp⟩⟩
 | d + 1,i,n,hi,hn => by
  obtain ⟨n,rfl⟩ : ∃ m,n = m + 1 := ⟨n - 1,by omega⟩
  rw [qap.l0,if_pos (by omega),if_pos (by omega),Int.toNat_natCast,qaj (show i < xs.length by omega) 0]
  by_cases c : v = xs.getD i 0
  ·rw [if_pos c]
   exact ⟨_,rfl,.inr ⟨_,rfl,by omega,by rw [c]; simp⟩⟩
  ·rw [if_neg c,qag (by omega) (by omega),show (i : Int) + 1 = ((i + 1 : Nat) : Int) by omega]
   obtain ⟨r,h1,h2⟩ := qcq xs v hl d (i + 1) n (by omega) (by omega)
   refine ⟨r,h1,?_⟩
   rcases h2 with ⟨h2,h3⟩ | ⟨j,h2,h3,h4⟩
   ·exact .inl ⟨h2,by simp only [List.mem_cons]; exact fun h => h.elim c h3⟩
   ·exact .inr ⟨j,h2,h3,List.mem_cons_of_mem _ h4⟩
theorem qb5 (xs : LI) (v : Int) (hl : xs.length ≤ 4611686018427387904) (k : Nat) (hk : xs.length < k) : qaL.f k xs v = some (decide (v ∈ xs)) := by
 unfold qaL.f qap.f
 obtain ⟨r,h1,h2⟩ := qcq xs v hl xs.length 0 k (by omega) hk
 rw [n0] at h1
 rw [h1,obs]
 rw [drop0] at h2
 rcases h2 with ⟨rfl,h3⟩ | ⟨j,rfl,h3,h4⟩
 ·simp [h3]
 ·simp [h3,h4]
def okGo (m : Int) : LI → LI → Bool
 | _,[] => true
 | pre,k :: r => decide (-1 ≤ k) && decide (k < m) && (decide (k = -1) || !decide (k ∈ pre)) && okGo m (pre ++ [k]) r
def mSp (l sp : LI) (r : Int) : Bool := mR l && decide ((sp.length : Int) = r) && okGo l.length [] sp
theorem qb2 {l : LI} {i : Nat} (h : i < l.length) : l.take (i + 1) = l.take i ++ [l.getD i 0] := by
 rw [List.take_add_one,List.getD_eq_getElem?_getD,List.getElem?_eq_getElem h]; rfl
theorem qda (l sp : LI) (hs : sp.length ≤ 4611686018427387904) (K : Nat) (hK : sp.length < K) : ∀ (d i n : Nat),sp.length = i + d → d < n →
  qaC.l0 K n l sp sp sp.length i = some (if okGo l.length (sp.take i) (sp.drop i) = true then .inl () else .inr false)
 | 0,i,n,hi,hn => by
  obtain ⟨n,rfl⟩ : ∃ m,n = m + 1 := ⟨n - 1,by omega⟩
  rw [qaC.l0,if_neg (by omega),List.drop_eq_nil_of_le (by omega)]; rfl
 | d + 1,i,n,hi,hn => by
  obtain ⟨n,rfl⟩ : ∃ m,n = m + 1 := ⟨n - 1,by omega⟩
  have ih := qda l sp hs K hK d (i + 1) n (by omega) (by omega)
  rw [qb2 (show i < sp.length by omega)] at ih
  rw [qaC.l0,if_pos (by omega),if_pos (by omega),Int.toNat_natCast,qaj (show i < sp.length by omega) 0,qag (by omega) (by omega),show (i : Int) + 1 = ((i + 1 : Nat) : Int) by omega,drop0]
  generalize sp.getD i 0 = x at ih ⊢
  by_cases c1 : x < -1
  ·rw [if_pos c1,if_neg (by simp [okGo]; omega)]
  by_cases c2 : (l.length : Int) ≤ x
  ·rw [if_neg c1,if_pos c2,if_neg (by simp [okGo]; omega)]
  have h1 : -1 ≤ x := by omega
  have h2 : x < (l.length : Int) := by omega
  rw [if_neg c1,if_neg c2]
  by_cases c3 : x = -1
  ·have h2' : (-1 : Int) < l.length := by omega
   rw [if_pos c3,ih]; simp [okGo,c3,h2']
  ·rw [if_neg c3,if_pos (by omega),qb5 _ _ (by simp; omega) K (by simp; omega),obs]
   by_cases c4 : x ∈ sp.take i
   ·rw [if_pos (by simpa using c4),if_neg (by simp [okGo,c3,c4])]
   ·rw [if_neg (by simpa using c4),ih]; simp [okGo,c3,c4,h1,h2]
theorem qbR (l sp : LI) (r : Int) (hs : sp.length ≤ 4611686018427387904) (k : Nat) (hk : sp.length + 10 ≤ k) : qaC.f k l sp r = some (mSp l sp r) := by
 unfold qaC.f mSp
 rw [qbl l k (by omega),obs]
 by_cases h : mR l = true
 ·by_cases hr : (sp.length : Int) = r
  ·have := qda l sp hs k (by omega) sp.length 0 k (by omega) (by omega)
   rw [if_pos h,if_pos hr,show (0 : Int) = ((0 : Nat) : Int) from rfl,this,obs,drop0,List.take_zero,h]
   cases okGo (l.length : Int) [] sp <;> simp [hr]
  ·rw [if_pos h,if_neg hr]; simp [hr]
 ·rw [if_neg h]; simp at h; simp [h]
theorem qdk (l sp : LI) (i : Nat) (hi : i < sp.length) (hs : sp.length ≤ 4611686018427387904) (x19 x20 : Int) : ∀ (d j n : Nat),i = j + d → d < n →
  qaq.l1 n l sp i j x19 x20 = some (if 0 ≤ sp.getD i 0 ∧ sp.getD i 0 ∈ (sp.take i).drop j then .inr false else .inl ())
 | 0,j,n,hj,hn => by
  obtain ⟨n,rfl⟩ : ∃ m,n = m + 1 := ⟨n - 1,by omega⟩
  rw [qaq.l1,if_neg (by omega),List.drop_eq_nil_of_le (by simp; omega),if_neg (by simp)]
 | d + 1,j,n,hj,hn => by
  obtain ⟨n,rfl⟩ : ∃ m,n = m + 1 := ⟨n - 1,by omega⟩
  have hlen : j < (sp.take i).length := by simp; omega
  have hg : (sp.take i).getD j 0 = sp.getD j 0 := by
   rw [List.getD_eq_getElem?_getD,List.getD_eq_getElem?_getD,List.getElem?_take,if_pos (by omega)]
  rw [qaq.l1,if_pos (by omega),if_pos (by omega),if_pos (by omega),Int.toNat_natCast,Int.toNat_natCast,qaj hlen 0,hg,qag (by omega) (by omega),show (j : Int) + 1 = ((j + 1 : Nat) : Int) by omega,qdk l sp i hi hs x19 x20 d (j + 1) n (by omega) (by omega)]
  by_cases c1 : sp.getD j 0 = sp.getD i 0
  ·by_cases c2 : 0 ≤ sp.getD i 0
   ·rw [if_pos c1,if_pos c2,if_pos ⟨c2,by rw [c1]; simp⟩]
   ·rw [if_pos c1,if_neg c2,if_neg (fun h => c2 h.1),if_neg (fun h => c2 h.1)]
  ·rw [if_neg c1]
   simp only [List.mem_cons,Ne.symm c1,false_or]
theorem qdl (l sp : LI) (hs : sp.length ≤ 4611686018427387904) (K : Nat) : ∀ (d i n : Nat),sp.length = i + d → sp.length + sp.length + 2 ≤ n + i →
    qaq.l0 K n l sp sp.length i = some (if okGo l.length (sp.take i) (sp.drop i) = true then .inl () else .inr false)
  | 0,i,n,hi,hn => by
    obtain ⟨n,rfl⟩ : ∃ m,n = m + 1 := ⟨n - 1,by omega⟩
    rw [qaq.l0,if_neg (by omega),List.drop_eq_nil_of_le (by omega)]; rfl
  | d + 1,i,n,hi,hn => by
    obtain ⟨n,rfl⟩ : ∃ m,n = m + 1 := ⟨n - 1,by omega⟩
    have ih := qdl l sp hs K d (i + 1) n (by omega) (by omega)
    have hin := qdk l sp i (by omega) hs sp.length i i 0 n (by omega) (by omega)
    rw [qb2 (show i < sp.length by omega)] at ih
    rw [qaq.l0,if_pos (by omega),if_pos (by omega),Int.toNat_natCast,qaj (show i < sp.length by omega) 0,qag (by omega) (by omega),show (i : Int) + 1 = ((i + 1 : Nat) : Int) by omega]
    rw [n0,drop0] at hin
    rw [hin]
    generalize sp.getD i 0 = x at ih ⊢
    by_cases c1 : x < -1
    · rw [if_pos c1,if_neg (by simp [okGo]; omega)]
    by_cases c2 : (l.length : Int) ≤ x
    · rw [if_neg c1,if_pos c2,if_neg (by simp [okGo]; omega)]
    have h1 : -1 ≤ x := by omega
    have h2 : x < (l.length : Int) := by omega
    rw [if_neg c1,if_neg c2,obs]
    by_cases c3 : 0 ≤ x ∧ x ∈ sp.take i
    · have c4 : ¬ x = -1 := by omega
      rw [if_pos c3,if_neg (by simp [okGo,c4,c3.2])]; rfl
    · rw [if_neg c3]
      simp only [Sum.elim_inl]
      rw [ih]
      have c5 : x = -1 ∨ x ∉ sp.take i := by
        by_cases h : x ∈ sp.take i
        · exact .inl (by have : ¬ 0 ≤ x := fun h' => c3 ⟨h',h⟩
                         omega)
        · exact .inr h
      have e : okGo l.length (sp.take i) (x :: sp.drop (i + 1)) = okGo l.length (sp.take i ++ [x]) (sp.drop (i + 1)) := by
        rcases c5 with h | h <;> simp [okGo,h,h1,h2]
        omega
      rw [e]
theorem qd3 (l sp : LI) (r : Int) (hs : sp.length ≤ 4611686018427387904) (k : Nat) (hk : sp.length + sp.length + 10 ≤ k) : qaq.f k l sp r = some (mSp l sp r) := by
 unfold qaq.f mSp
 rw [qbF l k (by omega),obs]
 by_cases h : mR l = true
 ·by_cases hr : (sp.length : Int) = r
  ·have := qdl l sp hs k sp.length 0 k (by omega) (by omega)
   rw [if_pos h,if_pos hr,show (0 : Int) = ((0 : Nat) : Int) from rfl,this,obs,drop0,List.take_zero,h]
   cases okGo (l.length : Int) [] sp <;> simp [hr]
  ·rw [if_pos h,if_neg hr]; simp [hr]
 ·rw [if_neg h]; simp at h; simp [h]
def part1 (l : LI) (k : Int) : Int := if k < 0 then 1 else l.getD k.toNat 0
theorem qbU {m : Int} : ∀ {r pre : LI},okGo m pre r = true → ∀ x ∈ r,-1 ≤ x ∧ x < m
 | [],_,_,x,hx => by cases hx
 | k :: r,pre,h,x,hx => by
  simp only [okGo,Bool.and_eq_true,decide_eq_true_eq] at h
  rcases List.mem_cons.1 hx with rfl | hx
  ·exact ⟨h.1.1.1,h.1.1.2⟩
  ·exact qbU h.2 x hx
theorem qbd {l sp : LI} {r : Int} (h : mSp l sp r = true) : mR l = true ∧ (sp.length : Int) = r ∧ okGo l.length [] sp = true := by
 unfold mSp at h
 simp only [Bool.and_eq_true,decide_eq_true_eq] at h
 exact ⟨h.1.1,h.1.2,h.2⟩
def mP (l sp : LI) : LI := if mSp l sp sp.length = true then sp.map (part1 l) else []
theorem qcO (l sp : LI) (hs : sp.length ≤ 17592186044415) (hb : ∀ x ∈ sp,-1 ≤ x ∧ x < (l.length : Int)) : ∀ (d i n : Nat),sp.length = i + d → d < n →
  qaH.l0 n l sp sp.length i ((sp.take i).map (part1 l)) = some (sp.map (part1 l))
 | 0,i,n,hi,hn => by
  obtain ⟨n,rfl⟩ : ∃ m,n = m + 1 := ⟨n - 1,by omega⟩
  rw [qaH.l0,if_neg (by omega),List.take_of_length_le (by omega)]
 | d + 1,i,n,hi,hn => by
  obtain ⟨n,rfl⟩ : ∃ m,n = m + 1 := ⟨n - 1,by omega⟩
  have ih := qcO l sp hs hb d (i + 1) n (by omega) (by omega)
  have hx := hb _ (qaz (show i < sp.length by omega) 0)
  rw [qb2 (show i < sp.length by omega),List.map_append] at ih
  rw [qaH.l0,if_pos (by omega),if_pos (by omega),Int.toNat_natCast,qag (by omega) (by omega),show (i : Int) + 1 = ((i + 1 : Nat) : Int) by omega]
  generalize sp.getD i 0 = x at ih hx ⊢
  by_cases c : 0 ≤ x
  ·rw [if_pos c,if_pos ⟨c,hx.2⟩,if_pos (by simp; omega)]
   rw [show List.map (part1 l) [x] = [l.getD x.toNat 0] by simp [part1]; omega] at ih
   exact ih
  ·rw [if_neg c,if_pos (by simp; omega)]
   rw [show List.map (part1 l) [x] = [1] by simp [part1]; omega] at ih
   exact ih
theorem qfO (l sp : LI) (hs : sp.length ≤ 17592186044415) (k : Nat) (hk : sp.length + sp.length + 10 ≤ k) : qaH.f k l sp = some (mP l sp) := by
 unfold qaH.f mP
 rw [qbF l k (by omega),obs,qd3 l sp _ (by omega) k hk,obs]
 by_cases h : mSp l sp sp.length = true
 ·obtain ⟨h1,h2,h3⟩ := qbd h
  have := qcO l sp (by omega) (fun x hx => qbU h3 x hx) sp.length 0 k (by omega) (by omega)
  rw [if_pos h1,if_pos h,if_pos h]
  rw [n0,List.take_zero,List.map_nil] at this
  rw [this]; rfl
 ·rw [if_neg h,if_neg h]
  split <;> rfl
def mC (l sp : LI) : Int := if mSp l sp sp.length = true then (mP l sp).foldl (fun n p => n.tdiv p) (mD l) else 0
theorem qjl {a p : Int} (h0 : 0 ≤ a) (h8 : a ≤ 8) (hp : 1 ≤ p) : 0 ≤ a.tdiv p ∧ a.tdiv p ≤ 8 := by
 rw [Int.tdiv_eq_ediv_of_nonneg h0]
 exact ⟨Int.ediv_nonneg h0 (by omega),Int.le_trans (Int.ediv_le_self _ h0) h8⟩
theorem qcw (y : LI) (hy : y.length ≤ 17592186044415) (hp : ∀ x ∈ y,1 ≤ x) : ∀ (d i : Nat) (c : Int) (n : Nat),y.length = i + d → 0 ≤ c → c ≤ 8 → d < n →
  qaD.l0 n c y.length i y = some ((y.drop i).foldl (fun n p => n.tdiv p) c)
 | 0,i,c,n,hi,h0,h8,hn => by
  obtain ⟨n,rfl⟩ : ∃ m,n = m + 1 := ⟨n - 1,by omega⟩
  rw [qaD.l0,if_neg (by omega),List.drop_eq_nil_of_le (by omega)]; rfl
 | d + 1,i,c,n,hi,h0,h8,hn => by
  obtain ⟨n,rfl⟩ : ∃ m,n = m + 1 := ⟨n - 1,by omega⟩
  have hx := hp _ (qaz (show i < y.length by omega) 0)
  have hb := qjl h0 h8 hx
  rw [qaD.l0,if_pos (by omega),if_pos (by omega),Int.toNat_natCast,if_pos (by omega),if_pos (by omega),qaj (show i < y.length by omega) 0,qag (by omega) (by omega),qag (n := (i : Int) + 1) (by omega) (by omega),show (i : Int) + 1 = ((i + 1 : Nat) : Int) by omega,qcw y hy hp d (i + 1) _ n (by omega) hb.1 hb.2 (by omega)]
  rfl
theorem qjU {l sp : LI} : (mP l sp).length ≤ sp.length := by
 unfold mP
 split <;> simp
theorem qjT {l sp : LI} : ∀ x ∈ mP l sp,1 ≤ x ∧ x ≤ 8 := by
 intro x hx
 unfold mP at hx
 split at hx
 ·rename_i h
  obtain ⟨h1,h2,h3⟩ := qbd h
  obtain ⟨k,hk,rfl⟩ := List.mem_map.1 hx
  have hb := qbU h3 k hk
  unfold part1
  split
  ·omega
  ·exact qbk.1 (List.all_eq_true.1 (qbX h1).2.1 _ (qaz (show k.toNat < l.length by omega) 0))
 ·cases hx
theorem qeR (l : LI) : 0 ≤ mD l ∧ mD l ≤ 8 := by
 unfold mD
 split
 ·rename_i h; have := qbX h; omega
 ·omega
theorem qfg (l sp : LI) (hs : sp.length ≤ 17592186044415) (k : Nat) (hk : sp.length + sp.length + 10 ≤ k) : qaD.f k l sp = some (mC l sp) := by
 unfold qaD.f mC
 rw [qbF l k (by omega),obs,qd3 l sp _ (by omega) k hk,obs]
 have hl := qjU (l := l) (sp := sp)
 have hb := qeR l
 by_cases h : mSp l sp sp.length = true
 ·have := qcw (mP l sp) (by omega) (fun x hx => (qjT x hx).1) (mP l sp).length 0 (mD l) k (by omega) hb.1 hb.2 (by omega)
  rw [if_pos (qbd h).1,if_pos h,qcv l k (by omega),obs,qfO l sp hs k hk,obs,if_pos h]
  rw [n0,drop0] at this
  rw [this]; rfl
 ·rw [if_neg h,if_neg h]
  split <;> rfl
def msk (sp : LI) : Nat → LI → LI
 | _,[] => []
 | i,a :: r => (if (i : Int) ∈ sp then a else 0) :: msk sp (i + 1) r
theorem qgO (sp : LI) : ∀ (l : LI) (i : Nat),(msk sp i l).length = l.length
 | [],_ => rfl
 | _ :: r,i => by show (msk sp (i + 1) r).length + 1 = _; rw [qgO sp r]; rfl
theorem qhi (sp : LI) (a : Int) : ∀ (l : LI) (i : Nat),msk sp i (l ++ [a]) = msk sp i l ++ [if ((i + l.length : Nat) : Int) ∈ sp then a else 0]
 | [],i => rfl
 | b :: r,i => by
  show _ :: msk sp (i + 1) (r ++ [a]) = _ :: _
  rw [qhi sp a r (i + 1)]
  show _ = _ :: (msk sp (i + 1) r ++ _)
  congr 3
  rw [show i + 1 + r.length = i + (b :: r).length by simp; omega]
def mF (l sp : LI) (d : Int) : Int := if mSp l sp sp.length = true ∧ 0 ≤ d ∧ d < mD l then mO l (msk sp 0 (atM l d)) else -1
theorem qjp (a b : LI) (y x : Int) : (a ++ y :: b).set a.length x = (a ++ [x]) ++ b := by
 rw [List.set_append,if_neg (by omega),Nat.sub_self,List.append_assoc]; rfl
theorem qgU (sp A : LI) {i : Nat} (hi : i < A.length) :
  msk sp 0 (A.take i) ++ A.drop i = msk sp 0 (A.take i) ++ A.getD i 0 :: A.drop (i + 1) ∧ (msk sp 0 (A.take i)).length = i ∧
  msk sp 0 (A.take (i + 1)) = msk sp 0 (A.take i) ++ [if (i : Int) ∈ sp then A.getD i 0 else 0] := by
 refine ⟨by rw [qaj hi 0],by rw [qgO]; simp; omega,?_⟩
 rw [qb2 hi,qhi]
 have : 0 + (A.take i).length = i := by simp; omega
 rw [this]
theorem qdb (l sp : LI) (A : LI) (hA : A.length ≤ 8) (hs : sp.length ≤ 17592186044415) (K : Nat) (hK : sp.length < K) : ∀ (d i n : Nat),A.length = i + d → d < n →
  qaK.l0 K n l sp A.length i (msk sp 0 (A.take i) ++ A.drop i) = some (msk sp 0 A)
 | 0,i,n,hi,hn => by
  obtain ⟨n,rfl⟩ : ∃ m,n = m + 1 := ⟨n - 1,by omega⟩
  rw [qaK.l0,if_neg (by omega),List.take_of_length_le (by omega),List.drop_eq_nil_of_le (by omega),List.append_nil]
 | d + 1,i,n,hi,hn => by
  obtain ⟨n,rfl⟩ : ∃ m,n = m + 1 := ⟨n - 1,by omega⟩
  obtain ⟨h1,h2,h3⟩ := qgU sp A (show i < A.length by omega)
  have ih := qdb l sp A hA hs K hK d (i + 1) n (by omega) (by omega)
  rw [h3] at ih
  have hset := fun x => qjp (msk sp 0 (A.take i)) (A.drop (i + 1)) (A.getD i 0) x
  rw [h2] at hset
  rw [h1,qaK.l0,if_pos (by omega),qb5 sp _ (by omega) K hK,obs,qag (by omega) (by omega),show (i : Int) + 1 = ((i + 1 : Nat) : Int) by omega]
  by_cases c : (i : Int) ∈ sp
  ·rw [if_pos (by simpa using c)]
   rw [if_pos c,List.append_assoc] at ih
   exact ih
  ·rw [if_neg (by simpa using c),if_pos (by simp [h2]; omega),Int.toNat_natCast,if_pos (by simp [h2]),hset]
   rw [if_neg c] at ih
   exact ih
theorem qgc (l sp : LI) (d : Int) (hs : sp.length ≤ 17592186044415) (k : Nat) (hk : sp.length + 10 ≤ k) : qaK.f k l sp d = some (mF l sp d) := by
 unfold qaK.f mF
 rw [qbR l sp _ (by omega) k hk,obs]
 by_cases h : mSp l sp sp.length = true
 ·rw [if_pos h,qa7 l k (by omega)]
  by_cases c1 : d < 0
  ·rw [if_pos c1,if_neg (by omega)]
  by_cases c2 : mD l ≤ d
  ·rw [if_neg c1,obs,if_pos c2,if_neg (by omega)]
  have hl := qih (show 0 ≤ d by omega) (show d < mD l by omega)
  have := qdb l sp (atM l d) (by rw [qdQ]; omega) hs k (by omega) (atM l d).length 0 k (by omega) (by rw [qdQ]; omega)
  rw [n0,drop0] at this
  rw [if_neg c1,obs,if_neg c2,qgl l d k (by omega),obs,qjd (by omega) (by omega),show qaK.l0 k k l sp (atM l d).length 0 (atM l d) = _ from this,obs,qie _ _ k (by omega),if_pos ⟨h,by omega,by omega⟩]
  rfl
 ·rw [if_neg h,if_neg (fun c => h c.1)]
theorem qbx (n : Int) (L : LI) (hL : L.length ≤ 17592186044415) (hw : ∀ x ∈ L,-9223372036854775808 ≤ x ∧ x < 9223372036854775808) (p : Int) (h0 : 0 ≤ p) (hp : p ≤ 17592186044415) (hn : 1 ≤ n) : ∃ r q,qav.f n L p = some (r,q) ∧ 0 ≤ r ∧ r < n ∧ 0 ≤ q ∧ q ≤ 17592186044415 ∧ p ≤ q ∧ q ≤ p + 1 := by
 unfold qav.f
 by_cases c : (L.length : Int) ≤ p
 ·rw [if_pos c]; exact ⟨_,_,rfl,by omega,by omega,h0,hp,by omega,by omega⟩
 rw [if_neg c,if_neg (by omega),qag (n := p + 1) (by omega) (by omega),show p + 1 - 1 = p by omega,qag (n := p) (by omega) (by omega),if_pos ⟨h0,by omega⟩]
 have hx := hw _ (qaz (show p.toNat < L.length by omega) 0)
 generalize L.getD p.toNat 0 = x at hx
 have key : ∃ r,qbQ.f x 0 1073741824 = some r ∧ 0 ≤ r := by
  unfold qbQ.f
  rw [qag (n := 1073741824 - 0) (by omega) (by omega),qag (n := 1073741824 - 0 + 1) (by omega) (by omega)]
  have t2 := Int.lt_tmod_of_pos x (show (0 : Int) < 1073741824 - 0 + 1 by omega)
  have t3 := Int.tmod_lt_of_pos x (show (0 : Int) < 1073741824 - 0 + 1 by omega)
  have k2 : ∃ r,(if (1073741824 - 0 + 1 : Int) ≠ 0 then if x.tmod (1073741824 - 0 + 1) < 0 then some (IntKind.i64.wrap (0 + (IntKind.i64.wrap ((IntKind.i64.wrap ((IntKind.i64.wrap ((x.tmod (1073741824 - 0 + 1)) + 1073741824)) - 0)) + 1)))) else some (IntKind.i64.wrap (0 + (x.tmod (1073741824 - 0 + 1)))) else none) = some r ∧ 0 ≤ r := by
   rw [if_pos (by omega)]
   split
   ·rw [qag (n := x.tmod (1073741824 - 0 + 1) + 1073741824) (by omega) (by omega),qag (n := x.tmod (1073741824 - 0 + 1) + 1073741824 - 0) (by omega) (by omega),qag (n := x.tmod (1073741824 - 0 + 1) + 1073741824 - 0 + 1) (by omega) (by omega),qag (by omega) (by omega)]
    exact ⟨_,rfl,by omega⟩
   ·rw [qag (by omega) (by omega)]
    exact ⟨_,rfl,by omega⟩
  split
  ·split
   ·exact ⟨_,rfl,by omega⟩
   ·exact k2
  ·exact k2
 obtain ⟨r,hr,hr0⟩ := key
 rw [hr,obs,if_pos (by omega)]
 refine ⟨_,_,rfl,?_,?_,by omega,by omega,by omega,by omega⟩
 ·rw [Int.tmod_eq_emod_of_nonneg hr0]; exact Int.emod_nonneg _ (by omega)
 ·rw [Int.tmod_eq_emod_of_nonneg hr0]; exact Int.emod_lt_of_pos _ (by omega)
theorem qeK {m : Int} (x : Int) : ∀ (r pre : LI),okGo m pre (r ++ [x]) = (okGo m pre r && (decide (-1 ≤ x) && decide (x < m) && (decide (x = -1) || !decide (x ∈ pre ++ r))))
 | [],pre => by simp [okGo]
 | k :: r,pre => by
  show (decide (-1 ≤ k) && decide (k < m) && (decide (k = -1) || !decide (k ∈ pre)) && okGo m (pre ++ [k]) (r ++ [x])) = (decide (-1 ≤ k) && decide (k < m) && (decide (k = -1) || !decide (k ∈ pre)) && okGo m (pre ++ [k]) r && _)
  rw [qeK x r (pre ++ [k]),List.append_assoc]
  simp only [List.singleton_append,Bool.and_assoc]
theorem qf9 (m : LI) (hm : m.length ≤ 3) (L : LI) (hL : L.length ≤ 17592186044415) (hw : ∀ x ∈ L,-9223372036854775808 ≤ x ∧ x < 9223372036854775808) (N : Nat) (hN : N ≤ 5) : ∀ (d i : Nat) (p : Int) (y1 : LI) (y2 : List Bool) (n : Nat),N = i + d → 0 ≤ p → p ≤ 17592186000000 - 2 * d → y1.length = N → y2.length = m.length → okGo m.length [] (y1.take i) = true → (∀ j : Nat,j < m.length → (y2.getD j false = true ↔ (j : Int) ∈ y1.take i)) → d < n →
    ∃ q s,qai.l0 n m N i L p y1 y2 = some (q,s) ∧ s.length = N ∧ okGo m.length [] s = true ∧ 0 ≤ q ∧ q ≤ p + 2 * d := by
  intro d
  induction d with
  | zero =>
    intro i p y1 y2 n hi h0 hp h1 h2 hok hu hn
    obtain ⟨n,rfl⟩ : ∃ m,n = m + 1 := ⟨n - 1,by omega⟩
    rw [qai.l0,if_neg (by omega)]
    rw [List.take_of_length_le (by omega)] at hok
    exact ⟨_,_,rfl,h1,hok,h0,by omega⟩
  | succ d IH =>
    intro i p y1 y2 n hi h0 hp h1 h2 hok hu hn
    obtain ⟨n,rfl⟩ : ∃ m,n = m + 1 := ⟨n - 1,by omega⟩
    have htake : ∀ x : Int,(y1.set i x).take (i + 1) = y1.take i ++ [x] := fun x => by
      rw [List.take_set,List.take_add_one,List.getElem?_eq_getElem (by omega)]
      have : (y1.take i).length = i := by simp; omega
      rw [List.set_append,if_neg (by omega),this,Nat.sub_self]; rfl
    have hidx : (i : Int) + 1 = ((i + 1 : Nat) : Int) := by omega
    rw [qai.l0,if_pos (by omega),if_pos (by omega),Int.toNat_natCast,if_pos (by omega),qag (n := (i : Int) + 1) (by omega) (by omega),hidx]
    -- without an axis
    have stay : ∀ q,0 ≤ q → q ≤ p + 2 → ∃ q' s,qai.l0 n m N ((i + 1 : Nat) : Int) L q (y1.set i (-1)) y2 = some (q',s) ∧ s.length = N ∧ okGo m.length [] s = true ∧ 0 ≤ q' ∧ q' ≤ q + 2 * d := fun q hq hq2 => by
      refine IH (i + 1) q (y1.set i (-1)) y2 n (by omega) hq (by omega) (by simpa using h1) h2 ?_ (fun j hj => ?_) (by omega)
      · rw [htake,qeK,hok]; simp; omega
      · rw [htake,List.mem_append,hu j hj]; simp
    by_cases c0 : 0 < (m.length : Int)
    · rw [if_pos c0]
      obtain ⟨r,q,e1,r0,r1,q0,q1,q2,q3⟩ := qbx 2 L hL hw p h0 (by omega) (by omega)
      rw [e1,obs]
      dsimp only
      by_cases c1 : r = 0
      · rw [if_pos c1]
        obtain ⟨r',q',e1',r0',r1',q0',q1',q2',q3'⟩ := qbx m.length L hL hw q q0 (by omega) (by omega)
        rw [e1',obs]
        dsimp only
        rw [if_pos ⟨r0',by omega⟩,if_pos (by omega)]
        by_cases c2 : y2.getD r'.toNat false = true
        · rw [if_pos c2]
          obtain ⟨q'',s,g1,g2,g3,g4,g5⟩ := stay q' q0' (by omega)
          exact ⟨q'',s,g1,g2,g3,g4,by omega⟩
        · rw [if_neg c2,if_pos (by simp; omega),if_pos (by simp; omega),List.set_set]
          have hnot : r' ∉ y1.take i := fun h => c2 ((hu r'.toNat (by omega)).2 (by rw [show ((r'.toNat : Nat) : Int) = r' by omega]; exact h))
          obtain ⟨q'',s,g1,g2,g3,g4,g5⟩ := IH (i + 1) q' (y1.set i r') (y2.set r'.toNat true) n (by omega) q0' (by omega) (by simpa using h1) (by simpa using h2) (by
            rw [htake,qeK,hok]; simp [hnot]; omega) (fun j hj => by
            rw [htake,List.mem_append,← hu j hj,List.getD_eq_getElem?_getD,List.getD_eq_getElem?_getD,List.getElem?_set]
            by_cases hjr : r'.toNat = j
            · subst hjr
              rw [if_pos rfl,if_pos (by omega)]
              simp; omega
            · rw [if_neg hjr]
              simp
              omega) (by omega)
          exact ⟨q'',s,g1,g2,g3,g4,by omega⟩
      · rw [if_neg c1]
        obtain ⟨q'',s,g1,g2,g3,g4,g5⟩ := stay q q0 (by omega)
        exact ⟨q'',s,g1,g2,g3,g4,by omega⟩
    · rw [if_neg c0]
      obtain ⟨q'',s,g1,g2,g3,g4,g5⟩ := stay p h0 (by omega)
      exact ⟨q'',s,g1,g2,g3,g4,by omega⟩
theorem qh0 (m : LI) (hm : m.length ≤ 3) (L : LI) (hL : L.length ≤ 17592186044415) (hw : ∀ x ∈ L,-9223372036854775808 ≤ x ∧ x < 9223372036854775808) (N : Int) (hN0 : 0 ≤ N) (hN : N ≤ 5) (p : Int) (h0 : 0 ≤ p) (hp : p ≤ 17592185999000) (k : Nat) (hk : 10 ≤ k) :
  ∃ q s,qai.f k m N L p = some (q,s) ∧ (s.length : Int) = N ∧ okGo m.length [] s = true ∧ 0 ≤ q ∧ q ≤ p + 10 := by
 unfold qai.f
 obtain ⟨q,s,g1,g2,g3,g4,g5⟩ := qf9 m hm L hL hw N.toNat (by omega) N.toNat 0 p (List.replicate N.toNat 0) (List.replicate m.length false) k (by omega) h0 (by omega) (by simp) (by simp) rfl (fun j hj => by
  rw [List.getD_eq_getElem?_getD,List.getElem?_replicate]; simp [hj]) (by omega)
 rw [n0] at g1
 rw [if_pos (by omega),if_pos (by omega),Int.toNat_natCast,List.length_replicate,g1,obs]
 exact ⟨q,s,rfl,by omega,g3,g4,by omega⟩
def rangeI (m : Nat) : LI := (List.range (m + 1)).map fun i : Nat => (i : Int) - 1
def allL (m : Nat) : Nat → List LI
 | 0 => [[]]
 | n + 1 => (rangeI m).flatMap fun x : Int => (allL m n).map (x :: ·)
theorem qhl {m : Nat} : ∀ {s : LI},(∀ x ∈ s,-1 ≤ x ∧ x < (m : Int)) → s ∈ allL m s.length
 | [],_ => by simp [allL]
 | x :: r,h => by
  have hx := h x (by simp)
  refine List.mem_flatMap.2 ⟨x,?_,List.mem_map_of_mem (qhl fun y hy => h y (by simp [hy]))⟩
  exact List.mem_map.2 ⟨(x + 1).toNat,List.mem_range.2 (by omega),by omega⟩
theorem qjS {m s : LI} (h : mR m = true) (hok : okGo m.length [] s = true) (r : Int) (hr : (s.length : Int) = r) : mSp m s r = true := by simp [mSp,h,hok,hr]
end Go.Pf

namespace Go.Pf
open Go Go.Vm
def mWd (n k : Int) : Int := if n < 1 ∨ k < 1 then 0 else (n - 1) / k + 1
theorem qf7 (n k : Int) (hn : -9223372036854775808 ≤ n ∧ n < 9223372036854775808) : qb0.f n k = some (mWd n k) := by
 unfold qb0.f mWd
 by_cases c1 : n < 0
 ·rw [if_pos c1,if_pos (by omega)]
 by_cases c2 : k < 1
 ·rw [if_neg c1,if_pos c2,if_pos (by omega)]
 by_cases c3 : n = 0
 ·rw [if_neg c1,if_neg c2,if_pos c3,if_pos (by omega)]
 have h1 : 0 ≤ (n - 1) / k := Int.ediv_nonneg (by omega) (by omega)
 have h2 : (n - 1) / k ≤ n - 1 := Int.ediv_le_self _ (by omega)
 rw [if_neg c1,if_neg c2,if_neg c3,if_pos (by omega),if_neg (by omega),qag (n := n - 1) (by omega) (by omega),Int.tdiv_eq_ediv_of_nonneg (by omega),qag (n := (n - 1) / k) (by omega) (by omega),qag (by omega) (by omega)]
theorem qer {n k : Int} (hn : 1 ≤ n) (hk : 1 ≤ k) : 1 ≤ mWd n k ∧ mWd n k ≤ n ∧ n ≤ mWd n k * k := by
 unfold mWd
 rw [if_neg (by omega)]
 have h1 : 0 ≤ (n - 1) / k := Int.ediv_nonneg (by omega) (by omega)
 have h2 : (n - 1) / k ≤ n - 1 := Int.ediv_le_self _ (by omega)
 refine ⟨by omega,by omega,?_⟩
 have h3 := Int.emod_add_mul_ediv (n - 1) k
 have h4 := Int.emod_lt_of_pos (n - 1) (show 0 < k by omega)
 rw [Int.add_mul,Int.one_mul,Int.mul_comm]
 omega
theorem qdS {w i n : Int} (hw : 1 ≤ w) (hi : 0 ≤ i) (hn : 0 ≤ n) (hn2 : n < 9223372036854775808) (hw2 : w ≤ n) : qbI.f w i n = some (min (w * i) n) := by
 unfold qbI.f
 have h0 : 0 ≤ n / w := Int.ediv_nonneg hn (by omega)
 have h1 : n / w ≤ n := Int.ediv_le_self _ hn
 rw [if_pos (by omega),if_pos (by omega),Int.tdiv_eq_ediv_of_nonneg hn,qag (by omega) (by omega)]
 have h2 := Int.emod_add_mul_ediv n w
 have h3 := Int.emod_lt_of_pos n (show 0 < w by omega)
 have h5 := Int.emod_nonneg n (show w ≠ 0 by omega)
 by_cases c : n / w < i
 ·rw [if_pos c]
  have h4 : w * (n / w + 1) ≤ w * i := Int.mul_le_mul_of_nonneg_left (by omega) (by omega)
  rw [Int.mul_add,Int.mul_one] at h4
  congr 1; omega
 ·have h4 : w * i ≤ w * (n / w) := Int.mul_le_mul_of_nonneg_left (by omega) (by omega)
  have h6 : 0 ≤ w * i := Int.mul_nonneg (by omega) hi
  rw [if_neg c,qag (n := w * i) (by omega) (by omega)]
  congr 1
  split <;> omega
def mCut (n k i : Int) : Int × Int := if n < 1 ∨ i < 0 ∨ k ≤ i then (0,0) else (min (mWd n k * i) n,min (mWd n k * (i + 1)) n)
theorem qhD (n k i : Int) (hn : 0 ≤ n ∧ n < 9223372036854775808) (hk : 1 ≤ k) (hk2 : k < 9223372036854775808) : qc3.f n k i = some (mCut n k i) := by
 unfold qc3.f mCut
 rw [qf7 n k (by omega),obs]
 by_cases c0 : n < 1
 ·rw [if_pos (by rw [mWd,if_pos (by omega)]),if_pos (.inl c0)]
 obtain ⟨h1,h2,h3⟩ := qer (show 1 ≤ n by omega) hk
 rw [if_neg (by omega)]
 by_cases c1 : i < 0
 ·rw [if_pos c1,if_pos (by omega)]
 by_cases c2 : k ≤ i
 ·rw [if_neg c1,if_pos c2,if_pos (by omega)]
 rw [if_neg c1,if_neg c2,qdS h1 (by omega) hn.1 hn.2 h2,obs,qag (n := i + 1) (by omega) (by omega),qdS h1 (by omega) hn.1 hn.2 h2,obs,if_neg (by omega)]
def pr : LI → Int
 | [] => 1
 | x :: r => x * pr r
def sm : LI → Int
 | [] => 0
 | x :: r => x + sm r
def okS (x : Int) : Bool := decide (0 ≤ x) && decide (x ≤ 32)
def mSR (l : LI) : Bool := decide (l.length ≤ 4) && l.all okS && decide (pr l ≤ 4096)
theorem qcg {x : Int} : okS x = true ↔ 0 ≤ x ∧ x ≤ 32 := by simp [okS]
theorem p32 {i : Nat} (h : i ≤ 4) : (1 : Int) ≤ 32 ^ i ∧ (32 : Int) ^ i ≤ 1048576 := by
 rcases (show i = 0 ∨ i = 1 ∨ i = 2 ∨ i = 3 ∨ i = 4 by omega) with e | e | e | e | e <;> subst e <;> decide
theorem qcJ (l : LI) (hl : l.length ≤ 4) : ∀ (d i : Nat) (p : Int) (n : Nat),l.length = i + d → 0 ≤ p → p ≤ 32 ^ i → d < n →
  qaw.l0 n p l l.length i = some (if (l.drop i).all okS = true then .inl (p * pr (l.drop i)) else .inr false)
 | 0,i,p,n,hi,h1,h2,hn => by
  obtain ⟨n,rfl⟩ : ∃ m,n = m + 1 := ⟨n - 1,by omega⟩
  rw [qaw.l0,if_neg (by omega),List.drop_eq_nil_of_le (by omega)]
  simp [pr]
 | d + 1,i,p,n,hi,h1,h2,hn => by
  obtain ⟨n,rfl⟩ : ∃ m,n = m + 1 := ⟨n - 1,by omega⟩
  rw [qaw.l0,if_pos (by omega),if_pos (by omega),Int.toNat_natCast,qaj (show i < l.length by omega) 0]
  generalize l.getD i 0 = x
  by_cases c1 : x < 0
  ·rw [if_pos c1]; simp [qcg]; omega
  by_cases c2 : 32 < x
  ·rw [if_neg c1,if_pos c2]; simp [qcg]; omega
  have hx : okS x = true := qcg.2 (by omega)
  have h8 := p32 (show i + 1 ≤ 4 by omega)
  have e8 : (32 : Int) ^ (i + 1) = 32 ^ i * 32 := Int.pow_succ ..
  have hm : 0 ≤ p * x ∧ p * x ≤ 32 ^ (i + 1) := ⟨Int.mul_nonneg h1 (by omega),by rw [e8]; exact Int.mul_le_mul h2 (by omega) (by omega) (by omega)⟩
  rw [if_neg c1,if_neg c2,qag (n := p * x) (by omega) (by omega),qag (n := (i : Int) + 1) (by omega) (by omega)]
  have := qcJ l hl d (i + 1) (p * x) n (by omega) hm.1 hm.2 (by omega)
  rw [show (i : Int) + 1 = ((i + 1 : Nat) : Int) by omega,this]
  simp [hx,pr,Int.mul_assoc]
theorem qbc (l : LI) (k : Nat) (hk : 10 ≤ k) : qaw.f k l = some (mSR l) := by
 unfold qaw.f
 by_cases h : 4 < (l.length : Int)
 ·rw [if_pos h]; simp [mSR]; omega
 ·have := qcJ l (by omega) l.length 0 1 k (by omega) (by omega) (by simp) (by omega)
  rw [if_neg h,show (0 : Int) = ((0 : Nat) : Int) from rfl,this]
  have hl : l.length ≤ 4 := by omega
  by_cases ha : l.all okS = true
  ·simp [ha,mSR,hl]
  ·simp [ha,mSR]
theorem qau {l : LI} (h : mSR l = true) : l.length ≤ 4 ∧ (∀ x ∈ l,0 ≤ x ∧ x ≤ 32) ∧ pr l ≤ 4096 := by
 unfold mSR at h
 simp only [Bool.and_eq_true,decide_eq_true_eq] at h
 exact ⟨h.1.1,fun x hx => qcg.1 (List.all_eq_true.1 h.1.2 x hx),h.2⟩
def tl1 (m A : LI) (x k : Int) : Int × Int := if 0 ≤ k then mCut x (m.getD k.toNat 0) (A.getD k.toNat 0) else (0,x)
def mTile (sh m sp : LI) (d : Int) : List (Int × Int) := List.zipWith (tl1 m (atM m d)) sh sp
theorem qdy {f : Int → Int → Int × Int} {a b : LI} {i : Nat} (ha : i < a.length) (hb : i < b.length) : List.zipWith f (a.take (i + 1)) (b.take (i + 1)) = List.zipWith f (a.take i) (b.take i) ++ [f (a.getD i 0) (b.getD i 0)] := by
 rw [qb2 ha,qb2 hb,List.zipWith_append (by simp; omega)]; rfl
theorem qdT (sh m sp A : LI) (hsh : ∀ x ∈ sh,0 ≤ x ∧ x ≤ 32) (hlen : sp.length = sh.length) (h4 : sh.length ≤ 4) (hA : A.length = m.length) (hm : ∀ x ∈ m,1 ≤ x ∧ x ≤ 8) (hsp : ∀ x ∈ sp,-1 ≤ x ∧ x < (m.length : Int)) : ∀ (d i n : Nat),sp.length = i + d → d < n →
  qaT.l0 n sh m sp sp.length i A (List.zipWith (tl1 m A) (sh.take i) (sp.take i)) = some (List.zipWith (tl1 m A) sh sp)
 | 0,i,n,hi,hn => by
  obtain ⟨n,rfl⟩ : ∃ m,n = m + 1 := ⟨n - 1,by omega⟩
  rw [qaT.l0,if_neg (by omega),List.take_of_length_le (by omega),List.take_of_length_le (by omega)]
 | d + 1,i,n,hi,hn => by
  obtain ⟨n,rfl⟩ : ∃ m,n = m + 1 := ⟨n - 1,by omega⟩
  have ih := qdT sh m sp A hsh hlen h4 hA hm hsp d (i + 1) n (by omega) (by omega)
  rw [qdy (by omega) (by omega)] at ih
  have hk := hsp _ (qaz (show i < sp.length by omega) 0)
  have hx := hsh _ (qaz (show i < sh.length by omega) 0)
  have hl : (List.zipWith (tl1 m A) (sh.take i) (sp.take i)).length ≤ 4 := by simp; omega
  rw [qaT.l0,if_pos (by omega),if_pos (by omega),if_pos (by omega),Int.toNat_natCast,qag (n := (i : Int) + 1) (by omega) (by omega),show (i : Int) + 1 = ((i + 1 : Nat) : Int) by omega]
  generalize sp.getD i 0 = k at ih hk ⊢
  generalize sh.getD i 0 = x at ih hx ⊢
  by_cases c : 0 ≤ k
  ·have hmk := hm _ (qaz (show k.toNat < m.length by omega) 0)
   rw [if_pos c,if_pos (by omega),if_pos (by omega),if_pos (by omega),qhD _ _ _ (by omega) hmk.1 (by omega),obs,if_pos (by simp only [List.length_singleton]; omega)]
   rw [show tl1 m A x k = mCut x (m.getD k.toNat 0) (A.getD k.toNat 0) by rw [tl1,if_pos c]] at ih
   exact ih
  ·rw [if_neg c,if_pos (by simp only [List.length_singleton]; omega)]
   rw [show tl1 m A x k = (0,x) by rw [tl1,if_neg c]] at ih
   exact ih
theorem qeL {m : LI} (h : mR m = true) : ∀ x ∈ m,1 ≤ x ∧ x ≤ 8 := fun x hx => qbk.1 (List.all_eq_true.1 (qbX h).2.1 x hx)
theorem qev {sh m sp : LI} {d : Int} (h1 : mSR sh = true) (h2 : mSp m sp sh.length = true) (h3 : 0 ≤ d) (h4 : d < mD m) (k : Nat) (hk : 30 ≤ k) : qaT.f k sh m sp d = some (true,mTile sh m sp d) := by
 obtain ⟨s1,s2,s3⟩ := qau h1
 obtain ⟨p1,p2,p3⟩ := qbd h2
 have := qdT sh m sp (atM m d) s2 (by omega) s1 (qdQ m d) (qeL p1) (qbU p3) sp.length 0 k (by omega) (by omega)
 unfold qaT.f
 rw [n0] at this
 rw [qbc sh k (by omega),obs,if_pos h1,qbR m sp _ (by omega) k (by omega),obs,if_pos h2,if_neg (by omega),qa7 m k (by omega),obs,if_neg (by omega),qgl m d k (by omega),obs,qjd h3 h4,
  show qaT.l0 k sh m sp sp.length 0 (atM m d) [] = _ from this,obs]
 rfl
theorem qdU (y : List (Int × Int)) (hy : y.length ≤ 100) (hb : ∀ p ∈ y,0 ≤ p.1 ∧ p.1 ≤ 100 ∧ 0 ≤ p.2 ∧ p.2 ≤ 100) : ∀ (d i n : Nat),y.length = i + d → d < n →
  qaU.l0 n y.length i ((y.take i).map fun p => p.2 - p.1) y = some (y.map fun p => p.2 - p.1)
 | 0,i,n,hi,hn => by
  obtain ⟨n,rfl⟩ : ∃ m,n = m + 1 := ⟨n - 1,by omega⟩
  rw [qaU.l0,if_neg (by omega),List.take_of_length_le (by omega)]
 | d + 1,i,n,hi,hn => by
  obtain ⟨n,rfl⟩ : ∃ m,n = m + 1 := ⟨n - 1,by omega⟩
  have ih := qdU y hy hb d (i + 1) n (by omega) (by omega)
  have hx := hb _ (qaz (show i < y.length by omega) (0,0))
  have ht : y.take (i + 1) = y.take i ++ [y.getD i (0,0)] := by
   rw [List.take_add_one,List.getD_eq_getElem?_getD,List.getElem?_eq_getElem (by omega)]; rfl
  rw [ht,List.map_append] at ih
  rw [qaU.l0,if_pos (by omega),if_pos (by omega),Int.toNat_natCast,if_pos (by omega),if_pos (by simp; omega),qag (n := (i : Int) + 1) (by omega) (by omega),show (i : Int) + 1 = ((i + 1 : Nat) : Int) by omega,qag (by omega) (by omega)]
  exact ih
theorem qdV (y : List (Int × Int)) (hy : y.length ≤ 100) : ∀ (d i n : Nat),y.length = i + d → d < n →
  qaO.l0 n y.length i ((y.take i).map fun p => p.1) y = some (y.map fun p => p.1)
 | 0,i,n,hi,hn => by
  obtain ⟨n,rfl⟩ : ∃ m,n = m + 1 := ⟨n - 1,by omega⟩
  rw [qaO.l0,if_neg (by omega),List.take_of_length_le (by omega)]
 | d + 1,i,n,hi,hn => by
  obtain ⟨n,rfl⟩ : ∃ m,n = m + 1 := ⟨n - 1,by omega⟩
  have ih := qdV y hy d (i + 1) n (by omega) (by omega)
  have ht : y.take (i + 1) = y.take i ++ [y.getD i (0,0)] := by
   rw [List.take_add_one,List.getD_eq_getElem?_getD,List.getElem?_eq_getElem (by omega)]; rfl
  rw [ht,List.map_append] at ih
  rw [qaO.l0,if_pos (by omega),if_pos (by omega),Int.toNat_natCast,if_pos (by omega),if_pos (by simp; omega),qag (n := (i : Int) + 1) (by omega) (by omega),show (i : Int) + 1 = ((i + 1 : Nat) : Int) by omega]
  exact ih
theorem qii {x k i : Int} (hx : 0 ≤ x) (hk : 1 ≤ k) : 0 ≤ (mCut x k i).1 ∧ (mCut x k i).1 ≤ (mCut x k i).2 ∧ (mCut x k i).2 ≤ x := by
 unfold mCut
 split
 ·simp; omega
 ·rename_i h
  obtain ⟨h1,h2,h3⟩ := qer (show 1 ≤ x by omega) hk
  have hq : 0 ≤ mWd x k * i := Int.mul_nonneg (by omega) (by omega)
  have hp : mWd x k * (i + 1) = mWd x k * i + mWd x k := by rw [Int.mul_add,Int.mul_one]
  dsimp only
  omega
theorem qhj {f : Int → Int → Int × Int} : ∀ {a b : LI} {p : Int × Int},p ∈ List.zipWith f a b → ∃ x k,x ∈ a ∧ k ∈ b ∧ p = f x k
 | [],_,_,h => by simp at h
 | _ :: _,[],_,h => by simp at h
 | x :: a,k :: b,p,h => by
  rw [List.zipWith_cons_cons] at h
  rcases List.mem_cons.1 h with rfl | h
  ·exact ⟨x,k,by simp,by simp,rfl⟩
  ·obtain ⟨y,l,h1,h2,h3⟩ := qhj h
   exact ⟨y,l,by simp [h1],by simp [h2],h3⟩
theorem qiO {sh m sp : LI} {d : Int} (hsh : ∀ x ∈ sh,0 ≤ x ∧ x ≤ 32) (hm : ∀ x ∈ m,1 ≤ x ∧ x ≤ 8) (hsp : ∀ x ∈ sp,-1 ≤ x ∧ x < (m.length : Int)) : ∀ p ∈ mTile sh m sp d,0 ≤ p.1 ∧ p.1 ≤ 100 ∧ 0 ≤ p.2 ∧ p.2 ≤ 100 := by
 intro p hp
 unfold mTile at hp
 obtain ⟨x,k,hx,hk,rfl⟩ : ∃ x k,x ∈ sh ∧ k ∈ sp ∧ p = tl1 m (atM m d) x k := by
  exact qhj hp
 have hx := hsh x hx
 have hk := hsp k hk
 unfold tl1
 split
 ·have hmk := hm _ (qaz (show k.toNat < m.length by omega) 0)
  have := qii (i := (atM m d).getD k.toNat 0) hx.1 hmk.1
  omega
 ·simp; omega
def mSz (sh m sp : LI) (d : Int) : LI := (mTile sh m sp d).map fun p => p.2 - p.1
theorem qgm {sh m sp : LI} {d : Int} (h : sp.length = sh.length) : (mTile sh m sp d).length = sh.length := by simp [mTile,h]
theorem qew {sh m sp : LI} {d : Int} (h1 : mSR sh = true) (h2 : mSp m sp sh.length = true) (h3 : 0 ≤ d) (h4 : d < mD m) (k : Nat) (hk : 30 ≤ k) : qaU.f k sh m sp d = some (mSz sh m sp d) := by
 obtain ⟨s1,s2,s3⟩ := qau h1
 obtain ⟨p1,p2,p3⟩ := qbd h2
 have hl := qgm (sh := sh) (m := m) (sp := sp) (d := d) (by omega)
 have := qdU (mTile sh m sp d) (by omega) (qiO s2 (qeL p1) (qbU p3)) (mTile sh m sp d).length 0 k (by omega) (by omega)
 unfold qaU.f
 rw [qev h1 h2 h3 h4 k hk,obs]
 rw [n0] at this
 dsimp only
 rw [show qaU.l0 k (mTile sh m sp d).length 0 [] (mTile sh m sp d) = _ from this]; rfl
theorem qex {sh m sp : LI} {d : Int} (h1 : mSR sh = true) (h2 : mSp m sp sh.length = true) (h3 : 0 ≤ d) (h4 : d < mD m) (k : Nat) (hk : 30 ≤ k) : qaO.f k sh m sp d = some ((mTile sh m sp d).map fun p => p.1) := by
 obtain ⟨s1,s2,s3⟩ := qau h1
 obtain ⟨p1,p2,p3⟩ := qbd h2
 have hl := qgm (sh := sh) (m := m) (sp := sp) (d := d) (by omega)
 have := qdV (mTile sh m sp d) (by omega) (mTile sh m sp d).length 0 k (by omega) (by omega)
 unfold qaO.f
 rw [qev h1 h2 h3 h4 k hk,obs]
 rw [n0] at this
 dsimp only
 rw [show qaO.l0 k (mTile sh m sp d).length 0 [] (mTile sh m sp d) = _ from this]; rfl
def wd (x p c : Int) : Int := (mCut x p c).2 - (mCut x p c).1
theorem qjK {x : Int} (hx : 0 ≤ x) : wd x 1 0 = x := by
 unfold wd mCut
 split
 ·simp; omega
 ·rename_i h
  have : mWd x 1 = x := by rw [mWd,if_neg (by omega),Int.ediv_one]; omega
  rw [this]; simp; omega
theorem qcp (a b : LI) : sm (a ++ b) = sm a + sm b := by
 induction a with
 | nil => simp [sm]
 | cons x r ih => show x + sm (r ++ b) = x + sm r + sm b; rw [ih]; omega
theorem qjJ {x p : Int} (hx : 0 ≤ x) (hp : 1 ≤ p) : sm ((List.range p.toNat).map fun c : Nat => wd x p c) = x := by
 by_cases hz : x < 1
 ·have : ∀ n : Nat,sm ((List.range n).map fun c : Nat => wd x p c) = 0 := by
   intro n
   induction n with
   | zero => rfl
   | succ n ih => rw [List.range_succ,List.map_append,qcp,ih]; simp [sm,wd,mCut,hz]
  rw [this]; omega
 ·obtain ⟨h1,h2,h3⟩ := qer (show 1 ≤ x by omega) hp
  have : ∀ n : Nat,(n : Int) ≤ p → sm ((List.range n).map fun c : Nat => wd x p c) = min (mWd x p * n) x := by
   intro n
   induction n with
   | zero => intro _; simp [sm]; omega
   | succ n ih =>
    intro hn
    rw [List.range_succ,List.map_append,qcp,ih (by omega)]
    have hp' : mWd x p * ((n + 1 : Nat) : Int) = mWd x p * n + mWd x p := by rw [Int.natCast_add,Int.mul_add]; simp
    have hq : 0 ≤ mWd x p * (n : Int) := Int.mul_nonneg (by omega) (by omega)
    have e : wd x p n = min (mWd x p * ((n + 1 : Nat) : Int)) x - min (mWd x p * n) x := by
     unfold wd mCut
     rw [if_neg (by omega)]
     rfl
    simp only [List.map_cons,List.map_nil,sm,e]
    omega
  rw [this p.toNat (by omega),show ((p.toNat : Nat) : Int) = p by omega]
  omega
def box : LI → List LI
 | [] => [[]]
 | p :: r => (List.range p.toNat).flatMap fun c : Nat => (box r).map ((c : Int) :: ·)
def szs (X : List (Int × Int)) (t : LI) : LI := List.zipWith (fun xp c => wd xp.1 xp.2 c) X t
theorem qjL (a : Int) (l : LI) : sm (l.map (a * ·)) = a * sm l := by
 induction l with
 | nil => simp [sm]
 | cons x r ih => show a * x + sm _ = a * (x + sm r); rw [ih,Int.mul_add]
theorem qiA : ∀ (X : List (Int × Int)),(∀ q ∈ X,0 ≤ q.1 ∧ 1 ≤ q.2) → sm ((box (X.map (·.2))).map fun t => pr (szs X t)) = pr (X.map (·.1))
 | [],_ => rfl
 | (x,p) :: r,h => by
  have hx := h (x,p) (by simp)
  have ih := qiA r fun q hq => h q (by simp [hq])
  show sm (((List.range p.toNat).flatMap fun c : Nat => (box (r.map (·.2))).map ((c : Int) :: ·)).map fun t => pr (szs ((x,p) :: r) t)) = x * pr (r.map (·.1))
  have key : ∀ n : Nat,sm (((List.range n).flatMap fun c : Nat => (box (r.map (·.2))).map ((c : Int) :: ·)).map fun t => pr (szs ((x,p) :: r) t)) = sm ((List.range n).map fun c : Nat => wd x p c) * pr (r.map (·.1)) := by
   intro n
   induction n with
   | zero => simp [sm]
   | succ n ihn =>
    rw [List.range_succ,List.flatMap_append,List.map_append,qcp,ihn,List.map_append,qcp,Int.add_mul]
    congr 1
    simp only [List.flatMap_cons,List.flatMap_nil,List.append_nil,List.map_map,List.map_cons,List.map_nil,sm,Int.add_zero]
    rw [← ih,← qjL]
    congr 1
    rw [List.map_map]
    rfl
  rw [key,qjJ hx.1 hx.2]
theorem qjo {a b : LI} (h : a.Perm b) : sm a = sm b := by
 induction h with
 | nil => rfl
 | cons x _ ih => show x + _ = x + _; rw [ih]
 | swap x y l => show y + (x + sm l) = x + (y + sm l); omega
 | trans _ _ h1 h2 => rw [h1,h2]
theorem qi8 {α : Type} (f : α → Int) (l : List α) : ∀ n : Nat,sm ((List.replicate n l).flatten.map f) = n * sm (l.map f)
 | 0 => by simp [sm]
 | n + 1 => by
  rw [List.replicate_succ,List.flatten_cons,List.map_append,qcp,qi8 f l n,Int.natCast_add,Int.add_mul]
  simp only [Int.natCast_one,Int.one_mul]; omega
def tix (A : LI) (k : Int) : Int := if k < 0 then 0 else A.getD k.toNat 0
theorem qjR {m sp : LI} {d : Int} : ∀ {sh : LI},(∀ x ∈ sh,0 ≤ x) → mSz sh m sp d = szs (sh.zip (sp.map (part1 m))) (sp.map (tix (atM m d))) := by
 unfold mSz mTile szs
 induction sp with
 | nil => intro sh _; simp
 | cons k r ih =>
  intro sh h
  cases sh with
  | nil => rfl
  | cons x sh =>
   simp only [List.zipWith_cons_cons,List.map_cons,List.zip_cons_cons]
   rw [ih fun y hy => h y (by simp [hy])]
   congr 1
   unfold tl1 part1 tix
   by_cases c : 0 ≤ k
   ·rw [if_pos c,if_neg (by omega),if_neg (by omega)]; rfl
   ·rw [if_neg c,if_pos (by omega),if_pos (by omega),qjK (h x (by simp))]; simp
def chk16 (m s : LI) : Bool := (((List.range (mD m).toNat).map fun d : Nat => s.map (tix (atM m d))).isPerm ((List.replicate (mC m s).toNat (box (s.map (part1 m)))).flatten)) && decide (0 ≤ mC m s)
def T8 : LI := [1,2,3,4,5,0,7,2]
theorem T8_bd : ∀ x ∈ T8,0 ≤ x ∧ x ≤ 7 := by decide
theorem qjN : ∀ (l : LI),(∀ x ∈ l,0 ≤ x ∧ x ≤ 7) → 0 ≤ pr l ∧ pr l ≤ 7 ^ l.length
 | [],_ => by simp [pr]
 | x :: r,h => by
  have hx := h x (by simp)
  obtain ⟨h1,h2⟩ := qjN r fun y hy => h y (by simp [hy])
  show 0 ≤ x * pr r ∧ x * pr r ≤ 7 ^ (r.length + 1)
  refine ⟨Int.mul_nonneg hx.1 h1,?_⟩
  rw [Int.pow_succ,Int.mul_comm]
  exact Int.mul_le_mul h2 hx.2 hx.1 (Int.pow_nonneg (by omega))
theorem qfH (L : LI) (hL : L.length ≤ 17592186044415) (hw : ∀ x ∈ L,-9223372036854775808 ≤ x ∧ x < 9223372036854775808) : ∀ (d : Nat) (p : Int) (y : LI) (n : Nat),0 ≤ p → p ≤ 17592186000000 - d → y.length + d ≤ 3 → (∀ x ∈ y,0 ≤ x ∧ x ≤ 7) → d < n →
  ∃ q s,qas.l0 n d L p y = some (q,s) ∧ s.length = y.length + d ∧ (∀ x ∈ s,0 ≤ x ∧ x ≤ 7) ∧ 0 ≤ q ∧ q ≤ p + d := by
 intro d
 induction d with
 | zero =>
  intro p y n h0 hp hy hb hn
  obtain ⟨n,rfl⟩ : ∃ m,n = m + 1 := ⟨n - 1,by omega⟩
  rw [qas.l0,if_neg (by omega)]
  exact ⟨_,_,rfl,rfl,hb,h0,by omega⟩
 | succ d ih =>
  intro p y n h0 hp hy hb hn
  obtain ⟨n,rfl⟩ : ∃ m,n = m + 1 := ⟨n - 1,by omega⟩
  obtain ⟨r,q,e,r0,r1,q0,_,_,q1⟩ := qbx 8 L hL hw p h0 (by omega) (by omega)
  have hl : T8.length = 8 := rfl
  rw [qas.l0,if_pos (by omega),e,obs,show ([1,2,3,4,5,0,7,2] : LI) = T8 from rfl]
  dsimp only
  rw [if_pos (by omega),if_pos (by omega),if_pos (by simp only [List.length_singleton]; omega),qag (by omega) (by omega),show (((d + 1 : Nat) : Int) - 1) = (d : Int) by omega]
  have hx := T8_bd _ (qaz (show r.toNat < T8.length by omega) 0)
  obtain ⟨q',s,e2,h1,h2,h3,h4⟩ := ih q (y ++ [T8.getD r.toNat 0]) n q0 (by omega) (by simp only [List.length_append,List.length_singleton]; omega) (fun x hx' => by
   rcases List.mem_append.1 hx' with h | h
   ·exact hb x h
   ·rw [List.mem_singleton.1 h]; exact hx) (by omega)
  exact ⟨q',s,e2,by simp only [List.length_append,List.length_singleton] at h1; omega,h2,h3,by omega⟩
theorem qhE (L : LI) (hL : L.length ≤ 17592186044415) (hw : ∀ x ∈ L,-9223372036854775808 ≤ x ∧ x < 9223372036854775808) (p : Int) (h0 : 0 ≤ p) (hp : p ≤ 17592185990000) (k : Nat) (hk : 10 ≤ k) :
  ∃ q s,qas.f k L p = some (q,s) ∧ s.length ≤ 3 ∧ (∀ x ∈ s,0 ≤ x ∧ x ≤ 7) ∧ 0 ≤ q ∧ q ≤ p + 4 := by
 unfold qas.f
 obtain ⟨r,q,e,r0,r1,q0,_,_,q1⟩ := qbx 4 L hL hw p h0 (by omega) (by omega)
 rw [e,obs]
 dsimp only
 obtain ⟨q',s,e2,h1,h2,h3,h4⟩ := qfH L hL hw r.toNat q [] k q0 (by omega) (by simp only [List.length_nil]; omega) (fun x hx => by cases hx) (by omega)
 rw [show ((r.toNat : Nat) : Int) = r by omega] at e2
 rw [e2,obs]
 exact ⟨q',s,rfl,by simp only [List.length_nil] at h1; omega,h2,h3,by omega⟩
end Go.Pf

namespace Go.Pf
open Go Go.Vm
def zSz (s : LI) : Int := if mSR s = true then pr s else 0
theorem qdj (l : LI) : ∀ (d i : Nat) (p : Int) (n : Nat),l.length = i + d → i ≤ 4 → 0 ≤ p → p ≤ 32 ^ i → d < n →
  qaJ.l0 n l p i = some (if (l.drop i).all okS = true ∧ l.length ≤ 4 then .inl (p * pr (l.drop i)) else .inr false)
 | 0,i,p,n,hi,h4,h1,h2,hn => by
  obtain ⟨n,rfl⟩ : ∃ m,n = m + 1 := ⟨n - 1,by omega⟩
  rw [qaJ.l0,if_neg (by omega),List.drop_eq_nil_of_le (by omega)]
  simp [pr]; omega
 | d + 1,i,p,n,hi,h4,h1,h2,hn => by
  obtain ⟨n,rfl⟩ : ∃ m,n = m + 1 := ⟨n - 1,by omega⟩
  rw [qaJ.l0,if_pos (by omega),if_pos (by omega),Int.toNat_natCast,qaj (show i < l.length by omega) 0]
  generalize l.getD i 0 = x
  by_cases c1 : x < 0
  ·rw [if_pos c1]; simp [qcg]; omega
  by_cases c2 : 32 < x
  ·rw [if_neg c1,if_pos c2]; simp [qcg]; omega
  have hx : okS x = true := qcg.2 (by omega)
  rw [if_neg c1,if_neg c2]
  by_cases c3 : 4 ≤ (i : Int)
  ·rw [if_pos c3]; simp; omega
  rw [if_neg c3]
  have h8 := p32 (show i + 1 ≤ 4 by omega)
  have e8 : (32 : Int) ^ (i + 1) = 32 ^ i * 32 := Int.pow_succ ..
  have hm : 0 ≤ p * x ∧ p * x ≤ 32 ^ (i + 1) := ⟨Int.mul_nonneg h1 (by omega),by rw [e8]; exact Int.mul_le_mul h2 (by omega) (by omega) (by omega)⟩
  rw [qag (n := p * x) (by omega) (by omega),qag (n := (i : Int) + 1) (by omega) (by omega)]
  have := qdj l d (i + 1) (p * x) n (by omega) (by omega) hm.1 hm.2 (by omega)
  rw [show (i : Int) + 1 = ((i + 1 : Nat) : Int) by omega,this]
  simp [hx,pr,Int.mul_assoc]
theorem qcl (l : LI) : ∀ (d i : Nat) (p : Int) (n : Nat),4 = i + d → 4 < l.length → 0 ≤ p → p ≤ 32 ^ i → d < n →
  qaJ.l0 n l p i = some (.inr false)
 | 0,i,p,n,hi,h4,h1,h2,hn => by
  obtain ⟨n,rfl⟩ : ∃ m,n = m + 1 := ⟨n - 1,by omega⟩
  rw [qaJ.l0,if_pos (by omega),if_pos (by omega)]
  repeat' split
  all_goals first | rfl | omega
 | d + 1,i,p,n,hi,h4,h1,h2,hn => by
  obtain ⟨n,rfl⟩ : ∃ m,n = m + 1 := ⟨n - 1,by omega⟩
  rw [qaJ.l0,if_pos (by omega),if_pos (by omega),Int.toNat_natCast]
  generalize l.getD i 0 = x
  by_cases c1 : x < 0
  ·rw [if_pos c1]
  by_cases c2 : 32 < x
  ·rw [if_neg c1,if_pos c2]
  rw [if_neg c1,if_neg c2,if_neg (by omega)]
  have h8 := p32 (show i + 1 ≤ 4 by omega)
  have e8 : (32 : Int) ^ (i + 1) = 32 ^ i * 32 := Int.pow_succ ..
  have hm : 0 ≤ p * x ∧ p * x ≤ 32 ^ (i + 1) := ⟨Int.mul_nonneg h1 (by omega),by rw [e8]; exact Int.mul_le_mul h2 (by omega) (by omega) (by omega)⟩
  rw [qag (n := p * x) (by omega) (by omega),qag (n := (i : Int) + 1) (by omega) (by omega)]
  have := qcl l d (i + 1) (p * x) n (by omega) (by omega) hm.1 hm.2 (by omega)
  rw [show (i : Int) + 1 = ((i + 1 : Nat) : Int) by omega,this]
theorem qgi (l : LI) (k : Nat) (hk : 10 ≤ k) : qaJ.f k l = some (mSR l) := by
 unfold qaJ.f
 by_cases h4 : l.length ≤ 4
 ·have := qdj l l.length 0 1 k (by omega) (by omega) (by omega) (by simp) (by omega)
  rw [show (0 : Int) = ((0 : Nat) : Int) from rfl,this]
  by_cases ha : l.all okS = true
  ·simp [ha,mSR,h4]
  ·simp [ha,mSR]
 ·have := qcl l 4 0 1 k (by omega) (by omega) (by omega) (by simp) (by omega)
  rw [show (0 : Int) = ((0 : Nat) : Int) from rfl,this]
  simp [mSR]; omega
theorem qb6 : ∀ {l : LI},(∀ x ∈ l,0 ≤ x) → 0 ≤ pr l
 | [],_ => by decide
 | x :: r,h => Int.mul_nonneg (h x (List.mem_cons_self ..)) (qb6 fun y hy => h y (List.mem_cons_of_mem _ hy))
theorem qde (l : LI) (h : ∀ x ∈ l,0 ≤ x ∧ x ≤ 32) (hl : l.length ≤ 4) : ∀ (d i : Nat) (p : Int) (n : Nat),l.length = i + d → 0 ≤ p → p ≤ 32 ^ i → d < n →
  qaI.l0 n p l l.length i = some (p * pr (l.drop i))
 | 0,i,p,n,hi,h1,h2,hn => by
  obtain ⟨n,rfl⟩ : ∃ m,n = m + 1 := ⟨n - 1,by omega⟩
  rw [qaI.l0,if_neg (by omega),List.drop_eq_nil_of_le (by omega)]
  simp [pr]
 | d + 1,i,p,n,hi,h1,h2,hn => by
  obtain ⟨n,rfl⟩ : ∃ m,n = m + 1 := ⟨n - 1,by omega⟩
  have hx := h _ (qaz (show i < l.length by omega) 0)
  rw [qaI.l0,if_pos (by omega),if_pos (by omega),Int.toNat_natCast,qaj (show i < l.length by omega) 0]
  generalize l.getD i 0 = x at hx ⊢
  have h8 := p32 (show i + 1 ≤ 4 by omega)
  have e8 : (32 : Int) ^ (i + 1) = 32 ^ i * 32 := Int.pow_succ ..
  have hm : 0 ≤ p * x ∧ p * x ≤ 32 ^ (i + 1) := ⟨Int.mul_nonneg h1 (by omega),by rw [e8]; exact Int.mul_le_mul h2 (by omega) (by omega) (by omega)⟩
  rw [qag (n := p * x) (by omega) (by omega),qag (n := (i : Int) + 1) (by omega) (by omega)]
  have := qde l h hl d (i + 1) (p * x) n (by omega) hm.1 hm.2 (by omega)
  rw [show (i : Int) + 1 = ((i + 1 : Nat) : Int) by omega,this]
  simp [pr,Int.mul_assoc]
theorem qbT (l : LI) (k : Nat) (hk : 10 ≤ k) : qaI.f k l = some (zSz l) := by
 unfold qaI.f zSz
 rw [qbc l k hk,obs]
 by_cases h : mSR l = true
 ·obtain ⟨h1,h2,_⟩ := qau h
  have := qde l h2 h1 l.length 0 1 k (by omega) (by omega) (by simp) (by omega)
  rw [if_pos h,if_pos h,show (0 : Int) = ((0 : Nat) : Int) from rfl,this]
  simp
 ·rw [if_neg h,if_neg h]
theorem qdZ (l : LI) (h : ∀ x ∈ l,0 ≤ x ∧ x ≤ 32) (hl : l.length ≤ 4) : ∀ (d i : Nat) (p : Int) (n : Nat),l.length = i + d → 0 ≤ p → p ≤ 32 ^ i → d < n →
  qaY.l0 n l p i = some (p * pr (l.drop i))
 | 0,i,p,n,hi,h1,h2,hn => by
  obtain ⟨n,rfl⟩ : ∃ m,n = m + 1 := ⟨n - 1,by omega⟩
  rw [qaY.l0,if_neg (by omega),List.drop_eq_nil_of_le (by omega)]
  simp [pr]
 | d + 1,i,p,n,hi,h1,h2,hn => by
  obtain ⟨n,rfl⟩ : ∃ m,n = m + 1 := ⟨n - 1,by omega⟩
  have hx := h _ (qaz (show i < l.length by omega) 0)
  rw [qaY.l0,if_pos (by omega),if_pos (by omega),Int.toNat_natCast,qaj (show i < l.length by omega) 0]
  generalize l.getD i 0 = x at hx ⊢
  have h8 := p32 (show i + 1 ≤ 4 by omega)
  have e8 : (32 : Int) ^ (i + 1) = 32 ^ i * 32 := Int.pow_succ ..
  have hm : 0 ≤ p * x ∧ p * x ≤ 32 ^ (i + 1) := ⟨Int.mul_nonneg h1 (by omega),by rw [e8]; exact Int.mul_le_mul h2 (by omega) (by omega) (by omega)⟩
  rw [qag (n := p * x) (by omega) (by omega),qag (n := (i : Int) + 1) (by omega) (by omega)]
  have := qdZ l h hl d (i + 1) (p * x) n (by omega) hm.1 hm.2 (by omega)
  rw [show (i : Int) + 1 = ((i + 1 : Nat) : Int) by omega,this]
  simp [pr,Int.mul_assoc]
theorem qeI (l : LI) (k : Nat) (hk : 10 ≤ k) : qaY.f k l = some (zSz l) := by
 unfold qaY.f zSz
 rw [qgi l k hk,obs]
 by_cases h : mSR l = true
 ·obtain ⟨h1,h2,_⟩ := qau h
  have := qdZ l h2 h1 l.length 0 1 k (by omega) (by omega) (by simp) (by omega)
  rw [if_pos h,if_pos h,show (0 : Int) = ((0 : Nat) : Int) from rfl,this]
  simp
 ·rw [if_neg h,if_neg h]
def zT (s d : LI) : Bool := mSR s && decide ((d.length : Int) = pr s)
theorem qbu (s d : LI) (k : Nat) (hk : 10 ≤ k) : qa1.f k s d = some (zT s d) := by
 unfold qa1.f zT
 rw [qbc s k hk,obs,qbT s k hk,obs]
 by_cases h : mSR s = true
 ·simp [h,zSz]
 ·simp [h]
theorem qbe {s d : LI} (h : zT s d = true) : mSR s = true ∧ (d.length : Int) = pr s := by
 unfold zT at h
 simpa using h
def pl : LI → Int → LI
 | [],_ => []
 | a :: r,x => (x / pr r) % a :: pl r x
theorem qhe : ∀ (s : LI) (x : Int),(pl s x).length = s.length
 | [],_ => rfl
 | _ :: r,x => by simp [pl,qhe r x]
def ix : LI → LI → Int
 | a :: s,b :: p => b * pr s + ix s p
 | _,_ => 0
def mIn : LI → LI → Bool
 | [],[] => true
 | a :: s,b :: p => decide (0 ≤ b) && decide (b < a) && mIn s p
 | _,_ => false
theorem qig : ∀ {s p : LI},mIn s p = true → p.length = s.length
 | [],[],_ => rfl
 | _ :: s,_ :: p,h => by
  simp only [mIn,Bool.and_eq_true] at h
  simp [qig h.2]
 | [],_ :: _,h => by simp [mIn] at h
 | _ :: _,[],h => by simp [mIn] at h
theorem qin : ∀ {s p : LI},mIn s p = true → 0 ≤ ix s p ∧ ix s p < pr s
 | [],[],_ => by decide
 | a :: s,b :: p,h => by
  simp only [mIn,Bool.and_eq_true,decide_eq_true_eq] at h
  obtain ⟨h1,h2⟩ := qin h.2
  have h3 : b * pr s + pr s ≤ a * pr s := by
   have := Int.mul_le_mul_of_nonneg_right (show b + 1 ≤ a by omega) (show 0 ≤ pr s by omega)
   rw [Int.add_mul,Int.one_mul] at this; exact this
  have h4 : 0 ≤ b * pr s := Int.mul_nonneg h.1.1 (by omega)
  exact ⟨by show 0 ≤ b * pr s + ix s p; omega,by show b * pr s + ix s p < a * pr s; omega⟩
 | [],_ :: _,h => by simp [mIn] at h
 | _ :: _,[],h => by simp [mIn] at h
theorem qiK : ∀ {s : LI},(∀ a ∈ s,0 < a) → ∀ (x : Int),mIn s (pl s x) = true
 | [],_,_ => rfl
 | a :: s,h,x => by
  have ha := h a (List.mem_cons_self ..)
  have := qiK (s := s) (fun b hb => h b (List.mem_cons_of_mem _ hb)) x
  simp only [pl,mIn,Bool.and_eq_true,decide_eq_true_eq]
  exact ⟨⟨Int.emod_nonneg _ (by omega),Int.emod_lt_of_pos _ ha⟩,this⟩
theorem qhd : ∀ {l : LI},(∀ x ∈ l,0 < x) → 0 < pr l
 | [],_ => by decide
 | x :: r,h => Int.mul_pos (h x (List.mem_cons_self ..)) (qhd fun y hy => h y (List.mem_cons_of_mem _ hy))
theorem qeJ : ∀ {l : LI},(∀ x ∈ l,0 ≤ x) → 0 < pr l → ∀ x ∈ l,0 < x
 | [],_,_,_,h => by cases h
 | y :: r,h0,hp,x,hx => by
  have h1 := h0 y (List.mem_cons_self ..)
  have hr := qb6 (l := r) fun z hz => h0 z (List.mem_cons_of_mem _ hz)
  have hp : 0 < y * pr r := hp
  have hy : y ≠ 0 := fun e => by rw [e,Int.zero_mul] at hp; omega
  have hr' : pr r ≠ 0 := fun e => by rw [e,Int.mul_zero] at hp; omega
  rcases List.mem_cons.1 hx with e | hx
  ·omega
  ·exact qeJ (fun z hz => h0 z (List.mem_cons_of_mem _ hz)) (by omega) x hx
theorem qgq : ∀ {s : LI},(∀ a ∈ s,0 < a) → ∀ (x : Int),ix s (pl s x) = x % pr s
 | [],_,x => by show (0 : Int) = x % 1; omega
 | a :: s,h,x => by
  have ha := h a (List.mem_cons_self ..)
  have hs : ∀ b ∈ s,0 < b := fun b hb => h b (List.mem_cons_of_mem _ hb)
  have hp := qhd hs
  show (x / pr s) % a * pr s + ix s (pl s x) = x % (a * pr s)
  rw [qgq hs x]
  have e1 := Int.mul_ediv_add_emod x (pr s)
  have e2 := Int.mul_ediv_add_emod (x / pr s) a
  have m1 := Int.emod_nonneg x (show pr s ≠ 0 by omega)
  have m2 := Int.emod_lt_of_pos x hp
  have m3 := Int.emod_nonneg (x / pr s) (show a ≠ 0 by omega)
  have m4 := Int.emod_lt_of_pos (x / pr s) ha
  generalize x / pr s = q at *
  generalize x % pr s = r at *
  generalize q / a = q2 at *
  generalize q % a = r2 at *
  generalize pr s = p at *
  have e3 : x = (r2 * p + r) + (a * p) * q2 := by
   rw [← e1,← e2]
   simp only [Int.mul_add,Int.add_mul,Int.mul_comm,Int.mul_left_comm,Int.mul_assoc,Int.add_comm,Int.add_left_comm]
  have h5 : 0 ≤ r2 * p := Int.mul_nonneg m3 (by omega)
  have h6 : r2 * p + p ≤ a * p := by
   have := Int.mul_le_mul_of_nonneg_right (show r2 + 1 ≤ a by omega) (show 0 ≤ p by omega)
   rw [Int.add_mul,Int.one_mul] at this; exact this
  rw [e3,Int.add_mul_emod_self_left]
  exact (Int.emod_eq_of_lt (by omega) (by omega)).symm
theorem ix_pl {s : LI} (h : ∀ a ∈ s,0 ≤ a) {x : Int} (h0 : 0 ≤ x) (h1 : x < pr s) : ix s (pl s x) = x := by
 rw [qgq (qeJ h (by omega))]
 exact Int.emod_eq_of_lt h0 h1
end Go.Pf

namespace Go.Pf
open Go Go.Vm
theorem qjb : ∀ {s : LI},(∀ a ∈ s,0 < a) → ∀ (x m : Int),pl s (x + m * pr s) = pl s x
 | [],_,_,_ => rfl
 | a :: s,h,x,m => by
  have hs : ∀ b ∈ s,0 < b := fun b hb => h b (List.mem_cons_of_mem _ hb)
  have hp := qhd hs
  have e : x + m * pr (a :: s) = x + (m * a) * pr s := by show x + m * (a * pr s) = _; rw [Int.mul_assoc]
  rw [e]
  show ((x + m * a * pr s) / pr s) % a :: pl s (x + m * a * pr s) = (x / pr s) % a :: pl s x
  rw [qjb hs,Int.add_mul_ediv_right _ _ (by omega),Int.add_mul_emod_self_right]
theorem qjO : ∀ {s p : LI},mIn s p = true → pl s (ix s p) = p
 | [],[],_ => rfl
 | a :: s,b :: p,h => by
  have h' := h
  simp only [mIn,Bool.and_eq_true,decide_eq_true_eq] at h
  have hb := qin h.2
  have hs : ∀ x ∈ s,0 < x := by
   have : ∀ {s p : LI},mIn s p = true → ∀ x ∈ s,0 < x := fun {s} => by
    induction s with
    | nil => intro p _ x hx; cases hx
    | cons y s ih =>
     intro p hh x hx
     cases p with
     | nil => simp [mIn] at hh
     | cons z p =>
      simp only [mIn,Bool.and_eq_true,decide_eq_true_eq] at hh
      rcases List.mem_cons.1 hx with e | hx
      ·omega
      ·exact ih hh.2 x hx
   exact this h.2
  show ((b * pr s + ix s p) / pr s) % a :: pl s (b * pr s + ix s p) = b :: p
  rw [Int.add_comm (b * pr s),qjb hs,qjO h.2,Int.add_mul_ediv_right _ _ (by omega),Int.ediv_eq_zero_of_lt hb.1 hb.2,Int.zero_add,Int.emod_eq_of_lt h.1.1 h.1.2]
 | [],_ :: _,h => by simp [mIn] at h
 | _ :: _,[],h => by simp [mIn] at h
theorem qht {α : Type} (l : List α) (i j : Nat) (x d : α) : (l.set i x).getD j d = if i = j ∧ i < l.length then x else l.getD j d := by
 simp only [List.getD_eq_getElem?_getD,List.getElem?_set]
 by_cases h : i = j
 ·subst h
  by_cases h2 : i < l.length
  ·simp [h2]
  ·simp [h2]
 ·simp [h]
theorem qju {i : Nat} {x : Int} {r : LI} : (List.replicate (i + 1) (0 : Int) ++ r).set i x = List.replicate i 0 ++ x :: r := by
 rw [List.set_append,if_pos (by simp)]
 have : List.replicate (i + 1) (0 : Int) = List.replicate i 0 ++ [0] := List.replicate_succ'
 rw [this,List.set_append,if_neg (by simp)]
 simp
theorem qcK (s : LI) (hs : ∀ a ∈ s,0 < a ∧ a ≤ 32) (hl : s.length ≤ 4) (x : Int) (hx : 0 ≤ x) (hx2 : x ≤ 1048576) : ∀ (i n : Nat),i ≤ s.length → i < n →
  qaB.l0 n s (x / pr (s.drop i)) ((i : Int) - 1) (List.replicate i 0 ++ pl (s.drop i) x) = some (pl s x)
 | 0,n,hi,hn => by
  obtain ⟨n,rfl⟩ : ∃ m,n = m + 1 := ⟨n - 1,by omega⟩
  rw [qaB.l0,if_neg (by omega)]; simp
 | i + 1,n,hi,hn => by
  obtain ⟨n,rfl⟩ : ∃ m,n = m + 1 := ⟨n - 1,by omega⟩
  have ha := hs _ (qaz (show i < s.length by omega) 0)
  have hd := qaj (show i < s.length by omega) (0 : Int)
  have hp : 0 < pr (s.drop (i + 1)) := qhd fun b hb => (hs b (List.mem_of_mem_drop hb)).1
  have ih := qcK s hs hl x hx hx2 i n (by omega) (by omega)
  rw [hd] at ih
  have hlen : (List.replicate (i + 1) (0 : Int) ++ pl (s.drop (i + 1)) x).length = s.length := by
   rw [List.length_append,qhe,List.length_replicate,List.length_drop]; omega
  have hq : 0 ≤ x / pr (s.drop (i + 1)) := Int.ediv_nonneg hx (by omega)
  have hq2 : x / pr (s.drop (i + 1)) ≤ x := Int.ediv_le_self _ hx
  rw [qaB.l0,show ((i + 1 : Nat) : Int) - 1 = (i : Int) by omega,if_pos (by omega),if_pos (by omega),Int.toNat_natCast,if_pos (by omega),if_pos (by rw [hlen]; omega),if_pos (by rw [hlen]; omega),qag (n := (i : Int) - 1) (by omega) (by omega),qju]
  generalize s.getD i 0 = a at ha ih ⊢
  rw [Int.tdiv_eq_ediv_of_nonneg hq,Int.tmod_eq_emod_of_nonneg hq]
  have hq3 : 0 ≤ x / pr (s.drop (i + 1)) / a := Int.ediv_nonneg hq (by omega)
  have hq4 : x / pr (s.drop (i + 1)) / a ≤ x / pr (s.drop (i + 1)) := Int.ediv_le_self _ hq
  rw [qag (by omega) (by omega),Int.ediv_ediv_of_nonneg (by omega)]
  rw [show pr (a :: s.drop (i + 1)) = a * pr (s.drop (i + 1)) from rfl,Int.mul_comm] at ih
  exact ih
theorem qeQ {s : LI} (h : mSR s = true) (hp : 0 < pr s) : ∀ a ∈ s,0 < a ∧ a ≤ 32 := fun a ha =>
 ⟨qeJ (fun b hb => ((qau h).2.1 b hb).1) hp a ha,((qau h).2.1 a ha).2⟩
theorem qcd {s : LI} (h : mSR s = true) {x : Int} (h0 : 0 ≤ x) (h1 : x < pr s) (k : Nat) (hk : 20 ≤ k) : qaB.f k s x = some (pl s x) := by
 obtain ⟨hl,_,hb⟩ := qau h
 have := qcK s (qeQ h (by omega)) hl x h0 (by omega) s.length k (Nat.le_refl _) (by omega)
 rw [List.drop_length] at this
 unfold qaB.f
 rw [if_neg (by omega),qbT s k (by omega),obs,zSz,if_pos h,if_neg (by omega),if_pos (by omega),qag (n := (s.length : Int) - 1) (by omega) (by omega),Int.toNat_natCast]
 rw [show x / pr ([] : LI) = x from Int.ediv_one x,show pl ([] : LI) x = [] from rfl,List.append_nil] at this
 rw [this,obs]
def zIx (s p : LI) : Int := if mSR s = true ∧ mIn s p = true then ix s p else -1
theorem qbg {a b : Int} {s p : LI} : mIn (a :: s) (b :: p) = true ↔ (0 ≤ b ∧ b < a) ∧ mIn s p = true := by
 simp only [mIn,Bool.and_eq_true,decide_eq_true_eq]
theorem qcL (s p : LI) (hs : ∀ a ∈ s,0 ≤ a ∧ a ≤ 32) (hl : s.length ≤ 4) (hp : p.length = s.length) : ∀ (d i : Nat) (q : Int) (n : Nat),s.length = i + d → 0 ≤ q → q < 32 ^ i → d < n →
  qaG.l0 n s q p p.length i = some (if mIn (s.drop i) (p.drop i) = true then .inl (q * pr (s.drop i) + ix (s.drop i) (p.drop i)) else .inr (-1))
 | 0,i,q,n,hi,h0,h1,hn => by
  obtain ⟨n,rfl⟩ : ∃ m,n = m + 1 := ⟨n - 1,by omega⟩
  rw [qaG.l0,if_neg (by omega),List.drop_eq_nil_of_le (by omega),List.drop_eq_nil_of_le (by omega)]
  simp [mIn,pr,ix]
 | d + 1,i,q,n,hi,h0,h1,hn => by
  obtain ⟨n,rfl⟩ : ∃ m,n = m + 1 := ⟨n - 1,by omega⟩
  have ha := hs _ (qaz (show i < s.length by omega) 0)
  rw [qaG.l0,if_pos (by omega),if_pos (by omega),Int.toNat_natCast,qaj (show i < s.length by omega) (0 : Int),qaj (show i < p.length by omega) (0 : Int)]
  generalize s.getD i 0 = a at ha ⊢
  generalize p.getD i 0 = b
  by_cases c1 : b < 0
  ·rw [if_pos c1,if_neg (by rw [qbg]; omega)]
  rw [if_neg c1,if_pos (by omega)]
  by_cases c2 : a ≤ b
  ·rw [if_pos c2,if_neg (by rw [qbg]; omega)]
  rw [if_neg c2]
  have h8 := p32 (show i + 1 ≤ 4 by omega)
  have e8 : (32 : Int) ^ (i + 1) = 32 ^ i * 32 := Int.pow_succ ..
  have hm0 : 0 ≤ q * a := Int.mul_nonneg h0 (by omega)
  have hm1 : q * a + a ≤ 32 ^ (i + 1) := by
   have := Int.mul_le_mul_of_nonneg_right (show q + 1 ≤ 32 ^ i by omega) (show 0 ≤ a by omega)
   rw [Int.add_mul,Int.one_mul] at this
   have h3 : (32 : Int) ^ i * a ≤ 32 ^ i * 32 := Int.mul_le_mul_of_nonneg_left (by omega) (by omega)
   omega
  rw [qag (n := q * a) (by omega) (by omega),qag (n := q * a + b) (by omega) (by omega),qag (n := (i : Int) + 1) (by omega) (by omega)]
  have := qcL s p hs hl hp d (i + 1) (q * a + b) n (by omega) (by omega) (by omega) (by omega)
  rw [show (i : Int) + 1 = ((i + 1 : Nat) : Int) by omega,this]
  by_cases c : mIn (s.drop (i + 1)) (p.drop (i + 1)) = true
  ·rw [if_pos c,if_pos (qbg.2 ⟨by omega,c⟩)]
   show some (Sum.inl ((q * a + b) * pr (s.drop (i + 1)) + ix (s.drop (i + 1)) (p.drop (i + 1)))) = some (Sum.inl (q * (a * pr (s.drop (i + 1))) + (b * pr (s.drop (i + 1)) + ix (s.drop (i + 1)) (p.drop (i + 1)))))
   rw [Int.add_mul,Int.mul_assoc,Int.add_assoc]
  ·rw [if_neg c,if_neg (by rw [qbg]; exact fun h => c h.2)]
theorem qdf (s p : LI) (k : Nat) (hk : 20 ≤ k) : qaG.f k s p = some (zIx s p) := by
 unfold qaG.f zIx
 rw [qbc s k (by omega),obs]
 by_cases h : mSR s = true
 ·obtain ⟨hl,h2,_⟩ := qau h
  rw [if_pos h]
  by_cases hp : p.length = s.length
  ·have := qcL s p h2 hl hp s.length 0 0 k (by omega) (by omega) (by simp) (by omega)
   rw [n0,List.drop_zero,List.drop_zero] at this
   rw [if_pos (by omega),this]
   by_cases c : mIn s p = true
   ·rw [if_pos c,if_pos ⟨h,c⟩]; simp
   ·rw [if_neg c,if_neg (fun hh => c hh.2)]; simp
  ·rw [if_neg (by omega),if_neg (fun hh => hp (qig hh.2))]
 ·rw [if_neg h,if_neg (fun hh => h hh.1)]
theorem qfe (s d p : LI) (k : Nat) (hk : 20 ≤ k) : qbw.f k s d p = some (if zT s d = true then zIx s p else -1) := by
 unfold qbw.f
 rw [qbu s d k (by omega),obs]
 by_cases h : zT s d = true
 ·rw [if_pos h,if_pos h,qdf s p k hk]; rfl
 ·rw [if_neg h,if_neg h]
theorem qf8 {s d : LI} (h : zT s d = true) (p : LI) (k : Nat) (hk : 20 ≤ k) : qb1.f k s d p = some (if mIn s p = true then (d.getD (ix s p).toNat 0,true) else (0,false)) := by
 obtain ⟨h1,h2⟩ := qbe h
 unfold qb1.f
 rw [qfe s d p k hk,obs,if_pos h]
 by_cases c : mIn s p = true
 ·have hb := qin c
  have hz : zIx s p = ix s p := if_pos ⟨h1,c⟩
  rw [hz,if_neg (by omega),if_pos (by omega),if_pos c]
 ·have hz : zIx s p = -1 := if_neg (fun hh => c hh.2)
  rw [hz,if_pos (by omega),if_neg c]
theorem qiC {s d : LI} (h : zT s d = true) (p : LI) (k : Nat) (hk : 20 ≤ k) : qe8.f k s d p = some (if mIn s p = true then d.getD (ix s p).toNat 0 else 0) := by
 unfold qe8.f
 rw [qf8 h p k hk,obs]
 by_cases c : mIn s p = true
 ·rw [if_pos c,if_pos c]
 ·rw [if_neg c,if_neg c]
end Go.Pf

namespace Go.Pf
open Go Go.Vm
theorem setL {α : Type} (L r : List α) (x v : α) : (L ++ x :: r).set L.length v = (L ++ [v]) ++ r := by
 rw [List.set_append,if_neg (by omega),Nat.sub_self]; simp
theorem getL {α : Type} (L r : List α) (x d : α) : (L ++ x :: r).getD L.length d = x := by
 simp [List.getD_eq_getElem?_getD]
theorem qhw (g : Nat → Int) (i d : Nat) (c : Int) : ((List.range i).map g ++ List.replicate (d + 1) c).set i (g i) = (List.range (i + 1)).map g ++ List.replicate d c := by
 have := setL ((List.range i).map g) (List.replicate d c) c (g i)
 rw [List.length_map,List.length_range] at this
 rw [List.replicate_succ,this,List.range_succ,List.map_append]; rfl
theorem qd2 (s : LI) (c : Int) (k : Nat) (hk : 10 ≤ k) (hz : zSz s ≤ 4096) : ∀ (d i n : Nat),(zSz s).toNat = i + d → d < n →
  qa0.l0 k n s c i ([] ++ s) (List.replicate i c) = some (List.replicate (i + d) c)
 | 0,i,n,hi,hn => by
  obtain ⟨n,rfl⟩ : ∃ m,n = m + 1 := ⟨n - 1,by omega⟩
  rw [qa0.l0,qeI s k hk,obs,if_neg (by omega)]; rfl
 | d + 1,i,n,hi,hn => by
  obtain ⟨n,rfl⟩ : ∃ m,n = m + 1 := ⟨n - 1,by omega⟩
  rw [qa0.l0,qeI s k hk,obs,if_pos (by omega),if_pos (by simp only [List.length_replicate,List.length_singleton]; omega),qag (n := (i : Int) + 1) (by omega) (by omega)]
  have := qd2 s c k hk hz d (i + 1) n (by omega) (by omega)
  rw [show (i : Int) + 1 = ((i + 1 : Nat) : Int) by omega,show List.replicate i c ++ [c] = List.replicate (i + 1) c from List.replicate_succ'.symm,this]
  congr 2; omega
theorem qi7 (s : LI) : 0 ≤ zSz s ∧ zSz s ≤ 4096 := by
 unfold zSz
 by_cases h : mSR s = true
 ·rw [if_pos h]; exact ⟨qb6 fun x hx => ((qau h).2.1 x hx).1,(qau h).2.2⟩
 ·rw [if_neg h]; omega
theorem qgL (s : LI) (c : Int) (h : s.length ≤ 1000) (k : Nat) (hk : 5000 ≤ k) : qa0.f k s c = some (s,List.replicate (zSz s).toNat c) := by
 have hz := qi7 s
 have := qd2 s c k (by omega) hz.2 (zSz s).toNat 0 k (by omega) (by omega)
 unfold qa0.f
 rw [n0,Nat.zero_add] at this
 rw [if_pos (by omega),show ([] : LI) = List.replicate 0 c from rfl,show (List.replicate 0 c ++ s) = [] ++ s from rfl,this,obs]
 rfl
theorem qbS (s : LI) (h : s.length ≤ 1000000) : qaQ.f s = some s := by
 unfold qaQ.f
 rw [if_pos (by omega)]; rfl
def made (s : LI) (f : LI → Int) : LI := (List.range (pr s).toNat).map fun (i : Nat) => f (pl s i)
theorem qiM {s : LI} (h : 0 ≤ pr s) (f : LI → Int) : ((made s f).length : Int) = pr s := by
 unfold made; rw [List.length_map,List.length_range]; omega
theorem qjQ {s : LI} (h : mSR s = true) (f : LI → Int) : zT s (made s f) = true := by
 have := qb6 fun x hx => ((qau h).2.1 x hx).1
 unfold zT; rw [qiM this]; simp [h]
theorem qiN {s : LI} (f : LI → Int) {i : Nat} (h : (i : Int) < pr s) : (made s f).getD i 0 = f (pl s i) := by
 unfold made
 rw [List.getD_eq_getElem?_getD,List.getElem?_map,List.getElem?_range (by omega)]; rfl
def zAdd : LI → LI → LI := List.zipWith (· + ·)
def zSl : LI → LI → LI → Bool
 | [],[],[] => true
 | a :: s,f :: fr,z :: sz => decide (0 ≤ f ∧ f ≤ a ∧ 0 ≤ z ∧ z ≤ a - f) && zSl s fr sz
 | _,_,_ => false
theorem qbt {a f z : Int} {s fr sz : LI} : zSl (a :: s) (f :: fr) (z :: sz) = true ↔ (0 ≤ f ∧ f ≤ a ∧ 0 ≤ z ∧ z ≤ a - f) ∧ zSl s fr sz = true := by
 simp only [zSl,Bool.and_eq_true,decide_eq_true_eq]
theorem qdz : ∀ {s f z : LI},zSl s f z = true → f.length = s.length ∧ z.length = s.length
 | [],[],[],_ => ⟨rfl,rfl⟩
 | _ :: s,_ :: f,_ :: z,h => by
  have := qdz (qbt.1 h).2
  simp [this.1,this.2]
 | [],_ :: _,_,h => by simp [zSl] at h
 | [],[],_ :: _,h => by simp [zSl] at h
 | _ :: _,[],_,h => by simp [zSl] at h
 | _ :: _,_ :: _,[],h => by simp [zSl] at h
theorem qcR (s f z : LI) (hs : ∀ a ∈ s,0 ≤ a ∧ a ≤ 32) (hl : s.length ≤ 4) (hf : f.length = s.length) (hz : z.length = s.length) : ∀ (d i n : Nat),s.length = i + d → d < n →
  qaN.l0 n f z s s.length i = some (if zSl (s.drop i) (f.drop i) (z.drop i) = true then .inl () else .inr 1)
 | 0,i,n,hi,hn => by
  obtain ⟨n,rfl⟩ : ∃ m,n = m + 1 := ⟨n - 1,by omega⟩
  rw [qaN.l0,if_neg (by omega),List.drop_eq_nil_of_le (by omega),List.drop_eq_nil_of_le (by omega),List.drop_eq_nil_of_le (by omega)]; rfl
 | d + 1,i,n,hi,hn => by
  obtain ⟨n,rfl⟩ : ∃ m,n = m + 1 := ⟨n - 1,by omega⟩
  have ha := hs _ (qaz (show i < s.length by omega) 0)
  have ih := qcR s f z hs hl hf hz d (i + 1) n (by omega) (by omega)
  rw [qaN.l0,if_pos (by omega),if_pos (by omega),if_pos (by omega),if_pos (show 0 ≤ (i : Int) ∧ (i : Int) < (z.length : Int) by omega),Int.toNat_natCast,qaj (show i < s.length by omega) (0 : Int),qaj (show i < f.length by omega) (0 : Int),qaj (show i < z.length by omega) (0 : Int)]
  generalize s.getD i 0 = a at ha ⊢
  generalize f.getD i 0 = b
  generalize z.getD i 0 = c
  by_cases c1 : b < 0
  ·rw [if_pos c1,if_neg (by rw [qbt]; omega)]
  by_cases c2 : a < b
  ·rw [if_neg c1,if_pos c2,if_neg (by rw [qbt]; omega)]
  by_cases c3 : c < 0
  ·rw [if_neg c1,if_neg c2,if_pos c3,if_neg (by rw [qbt]; omega)]
  rw [if_neg c1,if_neg c2,if_neg c3,qag (n := a - b) (by omega) (by omega)]
  by_cases c4 : a - b < c
  ·rw [if_pos c4,if_neg (by rw [qbt]; omega)]
  rw [if_neg c4,qag (n := (i : Int) + 1) (by omega) (by omega),show (i : Int) + 1 = ((i + 1 : Nat) : Int) by omega,ih]
  by_cases c : zSl (s.drop (i + 1)) (f.drop (i + 1)) (z.drop (i + 1)) = true
  ·rw [if_pos c,if_pos (qbt.2 ⟨by omega,c⟩)]
  ·rw [if_neg c,if_neg (fun hh => c (qbt.1 hh).2)]
theorem qfZ {s : LI} (h : mSR s = true) (f z : LI) (k : Nat) (hk : 10 ≤ k) : qaN.f k s f z = some (if zSl s f z = true then 0 else 1) := by
 obtain ⟨hl,hs,_⟩ := qau h
 unfold qaN.f
 by_cases hf : f.length = s.length
 ·by_cases hz : z.length = s.length
  ·have := qcR s f z hs hl hf hz s.length 0 k (by omega) (by omega)
   rw [n0,List.drop_zero,List.drop_zero,List.drop_zero] at this
   rw [if_pos (by omega),if_pos (by omega),this]
   by_cases c : zSl s f z = true
   ·rw [if_pos c,if_pos c]; rfl
   ·rw [if_neg c,if_neg c]; rfl
  ·rw [if_pos (by omega),if_neg (by omega),if_neg (fun hh => hz (qdz hh).2)]
 ·rw [if_neg (by omega),if_neg (fun hh => hf (qdz hh).1)]
theorem qcE (f : LI) (p : LI) (hf : ∀ a ∈ f,0 ≤ a ∧ a ≤ 32) (hp : ∀ a ∈ p,0 ≤ a ∧ a ≤ 32) (hl : f.length ≤ 4) (hlen : p.length = f.length) (y1 y2 y3 : LI) : ∀ (d : Nat) (L : LI) (n : Nat),f.length = L.length + d → d < n →
  qaF.l0 n f f.length L.length (L ++ p.drop L.length) y1 y2 y3 = some (L ++ zAdd (p.drop L.length) (f.drop L.length))
 | 0,L,n,hi,hn => by
  obtain ⟨n,rfl⟩ : ∃ m,n = m + 1 := ⟨n - 1,by omega⟩
  rw [qaF.l0,if_neg (by omega),List.drop_eq_nil_of_le (by omega)]; rfl
 | d + 1,L,n,hi,hn => by
  obtain ⟨n,rfl⟩ : ∃ m,n = m + 1 := ⟨n - 1,by omega⟩
  have ha := hf _ (qaz (show L.length < f.length by omega) 0)
  have hb := hp _ (qaz (show L.length < p.length by omega) 0)
  have ih := qcE f p hf hp hl hlen y1 y2 y3 d (L ++ [p.getD L.length 0 + f.getD L.length 0]) n (by simp; omega) (by omega)
  have hL : (L ++ p.drop L.length).length = f.length := by rw [List.length_append,List.length_drop]; omega
  rw [qaF.l0,if_pos (by omega),if_pos (by omega),if_pos (by rw [hL]; omega),if_pos (by rw [hL]; omega),Int.toNat_natCast,qaj (show L.length < p.length by omega) (0 : Int),qaj (show L.length < f.length by omega) (0 : Int),getL,setL,qag (n := p.getD L.length 0 + f.getD L.length 0) (by omega) (by omega),qag (n := (L.length : Int) + 1) (by omega) (by omega)]
  rw [List.length_append,List.length_singleton] at ih
  rw [show (L.length : Int) + 1 = ((L.length + 1 : Nat) : Int) by omega,ih]
  simp [zAdd]
theorem qjP {s : LI} (h : mSR s = true) (hp : 0 < pr s) (x : Int) : ∀ a ∈ pl s x,0 ≤ a ∧ a ≤ 32 := by
 have hs := qeQ h hp
 clear h hp
 induction s with
 | nil => intro a ha; cases ha
 | cons b s ih =>
  have hb := hs b (List.mem_cons_self ..)
  intro a ha
  rcases List.mem_cons.1 ha with e | ha
  ·have h1 := Int.emod_nonneg (x / pr s) (show b ≠ 0 by omega)
   have h2 := Int.emod_lt_of_pos (x / pr s) hb.1
   omega
  ·exact ih (fun c hc => hs c (List.mem_cons_of_mem _ hc)) a ha
theorem qf3 : ∀ {s f z : LI},(∀ a ∈ s,0 ≤ a ∧ a ≤ 32) → zSl s f z = true → (∀ a ∈ f,0 ≤ a ∧ a ≤ 32) ∧ (∀ a ∈ z,0 ≤ a ∧ a ≤ 32) ∧ 0 ≤ pr z ∧ pr z ≤ pr s
 | [],[],[],_,_ => ⟨(by intro a ha; cases ha),(by intro a ha; cases ha),by decide,by decide⟩
 | a :: s,f :: fr,z :: sz,hs,h => by
  obtain ⟨h1,h2⟩ := qbt.1 h
  have ha := hs a (List.mem_cons_self ..)
  obtain ⟨i1,i2,i3,i4⟩ := qf3 (fun b hb => hs b (List.mem_cons_of_mem _ hb)) h2
  refine ⟨fun b hb => ?_,fun b hb => ?_,Int.mul_nonneg (by omega) i3,?_⟩
  ·rcases List.mem_cons.1 hb with e | hb
   ·omega
   ·exact i1 b hb
  ·rcases List.mem_cons.1 hb with e | hb
   ·omega
   ·exact i2 b hb
  ·show z * pr sz ≤ a * pr s
   exact Int.mul_le_mul (by omega) i4 i3 (by omega)
 | [],_ :: _,_,_,h => by simp [zSl] at h
 | [],[],_ :: _,_,h => by simp [zSl] at h
 | _ :: _,[],_,_,h => by simp [zSl] at h
 | _ :: _,_ :: _,[],_,h => by simp [zSl] at h
theorem qiF {s f z : LI} (h : mSR s = true) (hc : zSl s f z = true) : mSR z = true := by
 obtain ⟨h1,h2,h3⟩ := qau h
 obtain ⟨_,i2,_,i4⟩ := qf3 h2 hc
 have hl := (qdz hc).2
 unfold mSR
 simp only [Bool.and_eq_true,decide_eq_true_eq,List.all_eq_true]
 exact ⟨⟨by omega,fun x hx => qcg.2 (i2 x hx)⟩,by omega⟩
theorem qhT : ∀ {s f z p : LI},zSl s f z = true → mIn z p = true → mIn s (zAdd p f) = true
 | [],[],[],[],_,_ => rfl
 | a :: s,f :: fr,z :: sz,b :: p,h,hp => by
  obtain ⟨h1,h2⟩ := qbt.1 h
  obtain ⟨h3,h4⟩ := qbg.1 hp
  exact qbg.2 ⟨by show 0 ≤ b + f ∧ b + f < a; omega,qhT h2 h4⟩
 | [],_ :: _,_,_,h,_ => by simp [zSl] at h
 | [],[],_ :: _,_,h,_ => by simp [zSl] at h
 | _ :: _,[],_,_,h,_ => by simp [zSl] at h
 | _ :: _,_ :: _,[],_,h,_ => by simp [zSl] at h
 | [],[],[],_ :: _,_,h => by simp [mIn] at h
 | _ :: _,_ :: _,_ :: _,[],_,h => by simp [mIn] at h
def zCut (s d f z : LI) : LI := made z fun p => d.getD (ix s (zAdd p f)).toNat 0
theorem qfi {s d f z : LI} (h : zT s d = true) (hc : zSl s f z = true) (x : Int) (h0 : 0 ≤ x) (h1 : x < pr z) (k : Nat) (hk : 20 ≤ k) :
  qaF.f k (pl z x) f s d = some (d.getD (ix s (zAdd (pl z x) f)).toNat 0,zAdd (pl z x) f) := by
 obtain ⟨hr,_⟩ := qbe h
 obtain ⟨g1,g2,g3⟩ := qau hr
 have hz := qiF hr hc
 have hl := qdz hc
 have := qcE f (pl z x) (qf3 g2 hc).1 (qjP hz (by omega) x) (by omega) (by rw [qhe]; omega) f s d f.length [] k (by simp) (by omega)
 unfold qaF.f
 rw [List.length_nil,n0,List.drop_zero,List.drop_zero,List.nil_append,List.nil_append] at this
 rw [this,obs,qiC h _ k hk,if_pos (qhT hc (qiK (fun a ha => (qeQ hz (by omega) a ha).1) x)),obs]
theorem qbD {s d f z : LI} (h : zT s d = true) (hc : zSl s f z = true) (k : Nat) (hk : 20 ≤ k) (y4 : LI) : ∀ (e i n : Nat),(pr z).toNat = i + e → e < n →
  qae.l0 k n z (pr z) i f s d y4 ((List.range i).map (fun (i : Nat) => d.getD (ix s (zAdd (pl z i) f)).toNat 0) ++ List.replicate e 0) = some (zCut s d f z)
 | 0,i,n,hi,hn => by
  obtain ⟨n,rfl⟩ : ∃ m,n = m + 1 := ⟨n - 1,by omega⟩
  have hz := (qf3 (qau (qbe h).1).2.1 hc).2.2.1
  rw [qae.l0,if_neg (by omega)]
  unfold zCut made
  rw [hi]; simp
 | e + 1,i,n,hi,hn => by
  obtain ⟨n,rfl⟩ : ∃ m,n = m + 1 := ⟨n - 1,by omega⟩
  have hr := qiF (qbe h).1 hc
  have hb := (qau hr).2.2
  have ih := qbD h hc k hk y4 e (i + 1) n (by omega) (by omega)
  rw [qae.l0,if_pos (by omega),qcd hr (by omega) (by omega) k hk,obs,qfi h hc i (by omega) (by omega) k hk,obs,
   if_pos (by simp; omega),if_pos (by simp),Int.toNat_natCast,qhw (fun (i : Nat) => d.getD (ix s (zAdd (pl z i) f)).toNat 0),qag (n := (i : Int) + 1) (by omega) (by omega),show (i : Int) + 1 = ((i + 1 : Nat) : Int) by omega]
  exact ih
theorem qgC (s d f z : LI) (k : Nat) (hk : 5000 ≤ k) : qcb.f k s d f z = some (if zT s d = true then (if zSl s f z = true then (0,z,zCut s d f z) else (1,[],[])) else (13,[],[])) := by
 unfold qcb.f
 rw [qbu s d k (by omega),obs]
 by_cases h : zT s d = true
 ·obtain ⟨hr,_⟩ := qbe h
  rw [if_pos h,if_pos h,qfZ hr f z k (by omega),obs]
  by_cases hc : zSl s f z = true
  ·have hz := qiF hr hc
   have hb := qau hz
   have h0 := qb6 fun x hx => (hb.2.1 x hx).1
   have := qbD h hc k (by omega) z (pr z).toNat 0 k (by omega) (by omega)
   rw [if_pos hc,if_pos hc,if_pos rfl]
   unfold qae.f
   rw [qbS z (by omega),obs,qbT z k (by omega),obs,zSz,if_pos hz,if_pos (by omega),List.length_replicate,show (((pr z).toNat : Nat) : Int) = pr z by omega]
   rw [n0] at this
   rw [show List.replicate (pr z).toNat (0 : Int) = (List.range 0).map (fun (i : Nat) => d.getD (ix s (zAdd (pl z i) f)).toNat 0) ++ List.replicate (pr z).toNat 0 from rfl,this]
   rfl
  ·rw [if_neg hc,if_neg hc,if_neg (by decide)]
 ·rw [if_neg h,if_neg h]
end Go.Pf

namespace Go.Pf
open Go Go.Vm
theorem qd1 (a : LI) (ha : a.length ≤ 17592186043904) : ∀ (d i n : Nat),a.length = i + d → d < n → qa3.l0 n a a i = some (.inl ())
 | 0,i,n,hi,hn => by
  obtain ⟨n,rfl⟩ : ∃ m,n = m + 1 := ⟨n - 1,by omega⟩
  rw [qa3.l0,if_neg (by omega)]
 | d + 1,i,n,hi,hn => by
  obtain ⟨n,rfl⟩ : ∃ m,n = m + 1 := ⟨n - 1,by omega⟩
  rw [qa3.l0,if_pos (by omega),if_pos (by omega),if_pos (by omega),if_pos rfl,qag (n := (i : Int) + 1) (by omega) (by omega),show (i : Int) + 1 = ((i + 1 : Nat) : Int) by omega]
  exact qd1 a ha d (i + 1) n (by omega) (by omega)
theorem qd0 (s a : LI) (ha : a.length ≤ 17592186043904) : ∀ (d i n : Nat),a.length = i + d → d < n → qaZ.l0 n i s a s a = some (.inl ())
 | 0,i,n,hi,hn => by
  obtain ⟨n,rfl⟩ : ∃ m,n = m + 1 := ⟨n - 1,by omega⟩
  rw [qaZ.l0,if_neg (by omega)]
 | d + 1,i,n,hi,hn => by
  obtain ⟨n,rfl⟩ : ∃ m,n = m + 1 := ⟨n - 1,by omega⟩
  rw [qaZ.l0,if_pos (by omega),if_pos (by omega),if_pos (by omega),if_pos rfl,qag (n := (i : Int) + 1) (by omega) (by omega),show (i : Int) + 1 = ((i + 1 : Nat) : Int) by omega]
  exact qd0 s a ha d (i + 1) n (by omega) (by omega)
theorem qff (s d : LI) (k : Nat) (h1 : s.length < k) (h2 : d.length < k) (h3 : s.length ≤ 17592186043904) (h4 : d.length ≤ 17592186043904) : qaZ.f k s d s d = some true := by
 have e1 := qd1 s h3 s.length 0 k (by omega) (by omega)
 have e2 := qd0 s d h4 d.length 0 k (by omega) (by omega)
 unfold qaZ.f qa3.f
 rw [n0] at e1 e2
 rw [if_pos rfl,e1]
 show (if (d.length : Int) = d.length then _ else _) = _
 rw [if_pos rfl,e2]; rfl
end Go.Pf

namespace Go.Pf
open Go Go.Vm
structure Perm' (n : Nat) (a : LI) : Prop where
 len : a.length = n
 mem : ∀ k ∈ a,0 ≤ k ∧ k < (n : Int)
 nd : a.Nodup
theorem qiX {a b : LI} (hl : a.length = b.length) (h : ∀ i,i < a.length → a.getD i 0 = b.getD i 0) : a = b := by
 apply List.ext_getElem hl
 intro i h1 h2
 have := h i h1
 rwa [List.getD_eq_getElem?_getD,List.getD_eq_getElem?_getD,List.getElem?_eq_getElem h1,List.getElem?_eq_getElem h2] at this
end Go.Pf

namespace Go.Pf
open Go Go.Vm
theorem qjq {l : LI} {i : Nat} {x : Int} : (l.set i x).length = l.length := List.length_set
end Go.Pf

namespace Go.Pf
open Go Go.Vm
structure Small (x : Int × LI × LI) : Prop where
 s : x.2.1.length ≤ 4
 d : x.2.2.length ≤ 4096
theorem qgI (L : LI) (hL : L.length ≤ 17592186044415) (hw : ∀ x ∈ L,-9223372036854775808 ≤ x ∧ x < 9223372036854775808) (p : Int) (h0 : 0 ≤ p) (hp : p ≤ 17592186000000) :
  ∃ r q,qa4.f L p = some (r,q) ∧ 0 ≤ q ∧ q ≤ p + 2 := by
 unfold qa4.f
 obtain ⟨r,q,e,r0,r1,q0,_,_,q1⟩ := qbx 9 L hL hw p h0 (by omega) (by omega)
 rw [e,obs]
 dsimp only
 by_cases c : r = 0
 ·obtain ⟨r',q',e',r0',r1',q0',_,_,q1'⟩ := qbx 6 L hL hw q q0 (by omega) (by omega)
  rw [if_pos c,e',obs]
  dsimp only
  rw [if_pos ⟨r0',by show r' < 6; omega⟩,if_pos (by show r'.toNat < 6; omega)]
  exact ⟨_,_,rfl,q0',by omega⟩
 ·rw [if_neg c]
  by_cases c1 : r = 1
  ·rw [if_pos c1]; exact ⟨_,_,rfl,q0,by omega⟩
  ·obtain ⟨r',q',e',r0',r1',q0',_,_,q1'⟩ := qbx 19 L hL hw q q0 (by omega) (by omega)
   rw [if_neg c1,e',obs]
   exact ⟨_,_,rfl,q0',by omega⟩
theorem qcI (L : LI) (hL : L.length ≤ 17592186044415) (hw : ∀ x ∈ L,-9223372036854775808 ≤ x ∧ x < 9223372036854775808) (m : Nat) (hm : m ≤ 4096) (y3 : LI) (M : Int) (hM : M ≤ 17592185000000) : ∀ (e i : Nat) (p : Int) (y : LI) (n : Nat),m = i + e → e < n → 0 ≤ p → p ≤ M - 2 * e → y.length = m →
  ∃ q y',qam.l0 n m i L p y3 y = some (q,y') ∧ y'.length = m ∧ 0 ≤ q ∧ q ≤ p + 2 * e
 | 0,i,p,y,n,hi,hn,h0,hp,hy => by
  obtain ⟨n,rfl⟩ : ∃ m,n = m + 1 := ⟨n - 1,by omega⟩
  exact ⟨p,y,by rw [qam.l0,if_neg (by omega)],hy,h0,by omega⟩
 | e + 1,i,p,y,n,hi,hn,h0,hp,hy => by
  obtain ⟨n,rfl⟩ : ∃ m,n = m + 1 := ⟨n - 1,by omega⟩
  obtain ⟨r,q,e1,q0,q1⟩ := qgI L hL hw p h0 (by omega)
  obtain ⟨q',y',e2,h1,h2,h3⟩ := qcI L hL hw m hm y3 M hM e (i + 1) q (y.set i r) n (by omega) (by omega) q0 (by omega) (by rw [qjq]; exact hy)
  refine ⟨q',y',?_,h1,h2,by omega⟩
  rw [qam.l0,if_pos (by omega),e1,obs]
  dsimp only
  rw [if_pos (by omega),if_pos (by omega),Int.toNat_natCast,qag (n := (i : Int) + 1) (by omega) (by omega),show (i : Int) + 1 = ((i + 1 : Nat) : Int) by omega]
  exact e2
theorem qgH (L : LI) (hL : L.length ≤ 17592186044415) (hw : ∀ x ∈ L,-9223372036854775808 ≤ x ∧ x < 9223372036854775808) (s : LI) (hs : s.length ≤ 1000) (p : Int) (h0 : 0 ≤ p) (hp : p ≤ 17592184000000) (k : Nat) (hk : 5000 ≤ k) :
  ∃ q d,qam.f k s L p = some (q,s,d) ∧ (d.length : Int) = zSz s ∧ 0 ≤ q ∧ q ≤ p + 8192 := by
 have hz := qi7 s
 obtain ⟨q,d,e,h1,h2,h3⟩ := qcI L hL hw (zSz s).toNat (by omega) s 17592185000000 (by omega) (zSz s).toNat 0 p (List.replicate (zSz s).toNat 0) k (by omega) (by omega) h0 (by omega) (by simp)
 unfold qam.f
 rw [n0] at e
 rw [qgL s 0 hs k hk,obs]
 dsimp only
 rw [List.length_replicate,e]
 exact ⟨q,d,rfl,by omega,h2,by omega⟩
end Go.Pf

namespace Go.Pf
open Go
def zMay17 (s d m sp : LI) : Int := if zT s d = true then (if mSp m sp s.length = true then 0 else 1) else 13
theorem qg4 {s d m sp : LI} : zMay17 s d m sp = 0 ↔ zT s d = true ∧ mSp m sp s.length = true := by
 unfold zMay17
 by_cases h : zT s d = true <;> by_cases g : mSp m sp s.length = true <;> simp [h,g]
theorem qey (s d m sp : LI) (hs : sp.length ≤ 17592186044415) (k : Nat) (hk : sp.length + 10 ≤ k) : qb3.f k s d m sp = some (zMay17 s d m sp) := by
 rw [qb3.f,qbu s d k (by omega)]
 unfold zMay17
 by_cases h : zT s d = true
 ·by_cases hm : mR m = true
  ·simp only [h,hm,obs,if_true,qbl m k (by omega),qbR m sp _ (by omega) k hk]
   by_cases g : mSp m sp s.length = true <;> simp [g]
  ·have g : ¬ mSp m sp s.length = true := fun g => hm (by unfold mSp at g; simp only [Bool.and_eq_true] at g; exact g.1.1)
   simp only [h,obs,if_true,qbl m k (by omega)]
   rw [if_neg hm,if_neg g]
 ·simp [h]
def mFr (s m sp : LI) (e : Int) : LI := (mTile s m sp e).map fun p => p.1
theorem qhZ {m A : LI} (hm : ∀ x ∈ m,1 ≤ x ∧ x ≤ 8) : ∀ {sh sp : LI},sp.length = sh.length → (∀ x ∈ sh,0 ≤ x) → (∀ x ∈ sp,-1 ≤ x ∧ x < (m.length : Int)) → zSl sh ((List.zipWith (tl1 m A) sh sp).map fun p => p.1) ((List.zipWith (tl1 m A) sh sp).map fun p => p.2 - p.1) = true
 | [],[],_,_,_ => rfl
 | [],_ :: _,h,_,_ => by simp at h
 | _ :: _,[],h,_,_ => by simp at h
 | x :: sh,q :: sp,h,hx,hq => by
  simp only [List.zipWith_cons_cons,List.map_cons]
  refine qbt.2 ⟨?_,qhZ hm (by simpa using h) (fun y hy => hx y (List.mem_cons_of_mem _ hy)) fun y hy => hq y (List.mem_cons_of_mem _ hy)⟩
  have h0 := hx x (List.mem_cons_self ..)
  have hq0 := hq q (List.mem_cons_self ..)
  unfold tl1
  split
  ·rename_i hq1
   have h1 : 1 ≤ m.getD q.toNat 0 := by
    have hlt : q.toNat < m.length := by omega
    rw [show m.getD q.toNat 0 = m[q.toNat] by simp [List.getD,hlt]]; exact (hm _ (List.getElem_mem hlt)).1
   have := qii (x := x) (k := m.getD q.toNat 0) (i := A.getD q.toNat 0) h0 h1
   omega
  ·simp only; omega
theorem qib {m : Int} : ∀ {sp pre : LI},okGo m pre sp = true → ∀ x ∈ sp,-1 ≤ x ∧ x < m
 | [],_,_,x,hx => by cases hx
 | a :: r,pre,h,x,hx => by
  simp only [okGo,Bool.and_eq_true,decide_eq_true_eq] at h
  rcases List.mem_cons.1 hx with rfl | hx
  ·exact ⟨by omega,by omega⟩
  ·exact qib h.2 x hx
theorem qfE {s m sp : LI} (h1 : mSR s = true) (h2 : mSp m sp s.length = true) (e : Int) : zSl s (mFr s m sp e) (mSz s m sp e) = true := by
 have hsp := qbd h2
 exact qhZ (qeL hsp.1) (by omega) (fun x hx => ((qau h1).2.1 x hx).1) (qib hsp.2.2)
def zPrt (s d m sp : LI) (e : Int) : LI × LI := (mSz s m sp e,zCut s d (mFr s m sp e) (mSz s m sp e))
def zPart (s d m sp : LI) (e : Int) : Int × LI × LI := if zMay17 s d m sp = 0 then (if 0 ≤ e ∧ e < mD m then (0,zPrt s d m sp e) else (23,[],[])) else (zMay17 s d m sp,[],[])
theorem qgb (s d m sp : LI) (e : Int) (hs : sp.length ≤ 17592186044415) (k : Nat) (hk : sp.length + 5010 ≤ k) : qb4.f k s d m sp e = some (zPart s d m sp e) := by
  rw [qb4.f,qey s d m sp hs k (by omega)]
  simp only [obs]
  unfold zPart
  by_cases h : zMay17 s d m sp = 0
  · rw [if_pos h,if_pos h]
    obtain ⟨hT,h2⟩ := qg4.1 h
    have h1 := (qbe hT).1
    by_cases c1 : e < 0
    · rw [if_pos c1,if_neg (by omega)]
    · rw [if_neg c1,qa7 m k (by omega)]
      simp only [obs]
      by_cases c2 : mD m ≤ e
      · rw [if_pos c2,if_neg (by omega)]
      · have hf : qaO.f k s m sp e = some (mFr s m sp e) := qex h1 h2 (by omega) (by omega) k (by omega)
        rw [if_neg c2,if_pos (by omega),hf,qew h1 h2 (by omega) (by omega) k (by omega)]
        simp only [obs]
        rw [qgC s d _ _ k (by omega),if_pos hT,if_pos (qfE h1 h2 e)]
        rfl
  · rw [if_neg h,if_neg h]
def zAll17 (s d m sp : LI) : List (LI × LI) := (List.range (mD m).toNat).map fun i : Nat => zPrt s d m sp i
theorem qfj (s d m sp : LI) : ((zAll17 s d m sp).length : Int) = mD m := by
 have := qeR m
 simp [zAll17]; omega
theorem qdX (s d m sp : LI) (hs : sp.length ≤ 17592186044415) (h : zMay17 s d m sp = 0) (k : Nat) (hk : sp.length + 5010 ≤ k) : ∀ (e i n : Nat),mD m = ((i + e : Nat) : Int) → e < n →
  qaV.l0 k n m sp (mD m) i s d ((List.range i).map fun i : Nat => zPrt s d m sp i) = some (.inl (zAll17 s d m sp))
 | 0,i,n,h1,h2 => by
  obtain ⟨n,rfl⟩ : ∃ n',n = n' + 1 := ⟨n - 1,by omega⟩
  rw [qaV.l0,if_neg (by omega)]
  have : i = (mD m).toNat := by omega
  rw [this]; rfl
 | e + 1,i,n,h1,h2 => by
  obtain ⟨n,rfl⟩ : ∃ n',n = n' + 1 := ⟨n - 1,by omega⟩
  have hb := qeR m
  rw [qaV.l0,if_pos (by omega),qgb s d m sp i hs k hk]
  have hp : zPart s d m sp i = (0,zPrt s d m sp i) := by unfold zPart; rw [if_pos h,if_pos (by omega)]
  rw [hp]
  simp only [obs,if_true]
  rw [if_pos (by simp; omega)]
  have hw : IntKind.i64.wrap ((i : Int) + 1) = ((i + 1 : Nat) : Int) := by rw [IntKind.wrap_i64]; omega
  rw [hw]
  have := qdX s d m sp hs h k hk e (i + 1) n (by omega) (by omega)
  rw [List.range_succ,List.map_append] at this
  exact this
theorem qez (s d m sp : LI) (hs : sp.length ≤ 17592186044415) (k : Nat) (hk : sp.length + 5010 ≤ k) : qaV.f k s d m sp = some (if zMay17 s d m sp = 0 then (0,zAll17 s d m sp) else (zMay17 s d m sp,[])) := by
 rw [qaV.f,qey s d m sp hs k (by omega)]
 simp only [obs]
 by_cases h : zMay17 s d m sp = 0
 ·rw [if_pos h,if_pos h,qa7 m k (by omega)]
  have hb := qeR m
  simp only [obs]
  have := qdX s d m sp hs h k hk (mD m).toNat 0 k (by omega) (by omega)
  simp only [List.range_zero,List.map_nil] at this
  rw [show (0 : Int) = ((0 : Nat) : Int) from rfl,this]
  rfl
 ·rw [if_neg h,if_neg h]
end Go.Pf

namespace Go.Pf
open Go Go.Vm
theorem iterX {S R : Type} {L : Nat → Int → S → Option R} {st : Nat → S} (res : Nat → R) {m : Nat} (N : Nat)
  (hend : ∀ n,N ≤ n → L (n + 1) (m : Int) (st m) = some (res m))
  (hstep : ∀ i n,i < m → N ≤ n → L n ((i + 1 : Nat) : Int) (st (i + 1)) = some (res (i + 1)) → L (n + 1) (i : Int) (st i) = some (res i)) :
  ∀ (e i n : Nat),m = i + e → e + N < n → L n (i : Int) (st i) = some (res i)
 | 0,i,n,hi,hn => by
  obtain ⟨n,rfl⟩ : ∃ q,n = q + 1 := ⟨n - 1,by omega⟩
  obtain rfl : m = i := by omega
  exact hend n (by omega)
 | e + 1,i,n,hi,hn => by
  obtain ⟨n,rfl⟩ : ∃ q,n = q + 1 := ⟨n - 1,by omega⟩
  exact hstep i n (by omega) (by omega) (iterX res N hend hstep e (i + 1) n (by omega) (by omega))
theorem iter0 {S R : Type} {L : Nat → Int → S → Option R} {st : Nat → S} (res : Nat → R) {m : Nat} (N : Nat)
  (hend : ∀ n,N ≤ n → L (n + 1) (m : Int) (st m) = some (res m))
  (hstep : ∀ i n,i < m → N ≤ n → L n ((i + 1 : Nat) : Int) (st (i + 1)) = some (res (i + 1)) → L (n + 1) (i : Int) (st i) = some (res i)) (n : Nat) (hn : m + N < n) : L n 0 (st 0) = some (res 0) :=
 iterX res N hend hstep m 0 n (by omega) hn
theorem qbW {i m : Nat} (h : i < m) (hm : m ≤ 1152921504606846976) : IntKind.i64.wrap ((i : Int) + 1) = ((i + 1 : Nat) : Int) := by
 rw [qag (by omega) (by omega)]; omega
theorem qdc (a b : LI) (ha : a.length ≤ 17592186043904) (k : Nat) (hk : a.length < k) : qal.f k a b = some (decide (a = b)) := by
 unfold qal.f
 by_cases hl : a.length = b.length
 ·have := iter0 (L := fun n i (_ : Unit) => qal.l0 n a b a.length i) (st := fun _=>()) (fun i => if a.drop i = b.drop i then .inl () else .inr false) (m := a.length) 0
   (fun n _ => by rw [qal.l0,if_neg (by omega),List.drop_eq_nil_of_le (Nat.le_refl _),List.drop_eq_nil_of_le (by omega),if_pos rfl])
   (fun i n hi _ ih => by
    rw [qal.l0,if_pos (by omega),if_pos (by omega),if_pos (by omega),Int.toNat_natCast,qbW hi (by omega),ih,qaj hi (0 : Int),qaj (show i < b.length by omega) (0 : Int)]
    by_cases c : a.getD i 0 = b.getD i 0
    ·rw [if_pos c,c]
     by_cases c2 : a.drop (i + 1) = b.drop (i + 1)
     ·rw [if_pos c2,c2,if_pos rfl]
     ·rw [if_neg c2,if_neg (fun h => c2 (List.cons.inj h).2)]
    ·rw [if_neg c,if_neg (fun h => c (List.cons.inj h).1)]) k (by omega)
  rw [if_pos (by omega),this,List.drop_zero,List.drop_zero]
  by_cases c : a = b
  ·rw [if_pos c,decide_eq_true c]; rfl
  ·rw [if_neg c,decide_eq_false c]; rfl
 ·rw [if_neg (by omega),decide_eq_false (fun h => hl (by rw [h]))]
theorem qir (g : Nat → Int) {m i : Nat} (h : i < m) (c : Int) : ((List.range i).map g ++ List.replicate (m - i) c).set i (g i) = (List.range (i + 1)).map g ++ List.replicate (m - (i + 1)) c := by
 have := qhw g i (m - (i + 1)) c
 rwa [show m - (i + 1) + 1 = m - i by omega] at this
end Go.Pf

namespace Go.Pf
open Go Go.Vm
theorem qdY (a b : LI) (ha : a.length ≤ 17592186043904) (k : Nat) (hk : a.length < k) : qbJ.f k a b = some (decide (a = b)) := by
 unfold qbJ.f
 rw [qdc a b ha k hk,obs]
end Go.Pf

namespace Go.Pf
open Go Go.Vm
theorem qif {s : LI} {L : Nat → Int → LI → Option LI} (f : LI → Int) {M : Nat} (hM : M = (pr s).toNat) (N : Nat)
  (hend : ∀ n y,N ≤ n → L (n + 1) (M : Int) y = some y)
  (hstep : ∀ (i n : Nat) (y : LI),i < M → N ≤ n → y.length = M → L (n + 1) (i : Int) y = L n ((i + 1 : Nat) : Int) (y.set i (f (pl s i)))) (c : Int) (n : Nat) (hn : M + N < n) : L n 0 (List.replicate M c) = some (made s f) := by
 have := iter0 (L := L) (st := fun (i : Nat) => (List.range i).map (fun (i : Nat) => f (pl s i)) ++ List.replicate (M - i) c) (fun _=>made s f) (m := M) N
  (fun n hn => by rw [hend n _ hn,Nat.sub_self,List.replicate_zero,List.append_nil,hM]; rfl)
  (fun i n hi hn ih => by
   rw [hstep i n _ hi hn (by simp; omega),qir (fun (i : Nat) => f (pl s i)) hi,ih]) n (by omega)
 rw [Nat.sub_zero,List.range_zero,List.map_nil,List.nil_append] at this
 exact this
theorem qeo {s : LI} (hs : mSR s = true) : 0 ≤ pr s ∧ pr s ≤ 4096 ∧ zSz s = pr s := by
 have hb := qau hs
 exact ⟨qb6 fun x hx => (hb.2.1 x hx).1,hb.2.2,by rw [zSz,if_pos hs]⟩
theorem qfG (s : LI) (n : Int) (k : Nat) (hk : 10000 ≤ k) : qbq.f k s n = some (if mSR s = true then (0,s,List.replicate (zSz s).toNat n) else (13,[],[])) := by
  unfold qbq.f
  rw [qbc _ k (by omega),obs]
  by_cases hs : mSR s = true
  rotate_left
  · rw [if_neg hs,if_neg hs]
  have hb := qau hs
  obtain ⟨h0,h1,h2⟩ := qeo hs
  have e : ∀ M : Nat,M = (pr s).toNat → List.replicate M n = made s fun _=>n := fun M hM => by
    rw [made,← hM]
    refine List.ext_getElem (by simp) fun i h1 h2 => ?_
    simp
  rw [if_pos hs,if_pos hs]
  unfold qad.f
  rw [qbS _ (by omega),obs,qbT _ k (by omega),obs,h2,if_pos (by omega),List.length_replicate,
    qif (s := s) (L := fun m i y => qad.l0 k m s ((pr s).toNat : Int) i n s y) (fun _=>n) rfl 0 (fun m y _ => by rw [qad.l0,if_neg (by omega)]) (fun i m y hi _ hy => by
      rw [qad.l0,if_pos (by omega),qcd hs (by omega) (by omega) k (by omega),obs,qbE.f,obs,if_pos (by omega),if_pos (by omega),Int.toNat_natCast,qbW hi (by omega)]) 0 k (by omega),obs,obs,e _ rfl]
end Go.Pf

namespace Go.Pf
open Go
theorem qic : ∀ (l p : LI) (acc : Int),l.all okD = true → mIn l p = true → 0 ≤ acc → 0 ≤ ofGo l p acc ∧ ofGo l p acc < (acc + 1) * pd l
 | [],[],acc,_,_,h0 => by simp [ofGo,pd]; omega
 | [],_ :: _,_,_,h,_ => by simp [mIn] at h
 | _ :: _,[],_,_,h,_ => by simp [mIn] at h
 | x :: r,p :: s,acc,ha,h,h0 => by
  obtain ⟨⟨h1,h2⟩,h3⟩ := qbg.1 h
  have hr : r.all okD = true := by simp only [List.all_cons,Bool.and_eq_true] at ha; exact ha.2
  have hp := (qiL r hr).1
  have hx : 0 ≤ acc * x := Int.mul_nonneg h0 (by omega)
  obtain ⟨g1,g2⟩ := qic r s (acc * x + p) hr h3 (by omega)
  rw [ofGo,if_neg (by omega)]
  refine ⟨g1,Int.lt_of_lt_of_le g2 ?_⟩
  show _ ≤ (acc + 1) * (x * pd r)
  rw [← Int.mul_assoc]
  refine Int.mul_le_mul_of_nonneg_right ?_ (by omega)
  rw [Int.add_mul]; omega
theorem qjj : ∀ {l : LI} (d : Int),l.all okD = true → mIn l (atM l d) = true
 | [],_,_ => rfl
 | x :: r,d,h => by
  simp only [List.all_cons,Bool.and_eq_true] at h
  have hx := qbk.1 h.1
  exact qbg.2 ⟨⟨Int.emod_nonneg _ (by omega),Int.emod_lt_of_pos _ (by omega)⟩,qjj d h.2⟩
theorem qjc (sp : LI) : ∀ {l A : LI} (i : Nat),mIn l A = true → mIn l (msk sp i A) = true
 | [],[],_,_ => rfl
 | [],_ :: _,_,h => by simp [mIn] at h
 | _ :: _,[],_,h => by simp [mIn] at h
 | x :: r,a :: s,i,h => by
  obtain ⟨h1,h3⟩ := qbg.1 h
  refine qbg.2 ⟨?_,qjc sp (i + 1) h3⟩
  split <;> omega
theorem qjV {m sp : LI} {r : Int} (h : mSp m sp r = true) {e : Int} (h0 : 0 ≤ e) (h1 : e < mD m) : 0 ≤ mF m sp e ∧ mF m sp e < mD m := by
 have hs := qbd h
 have hR := qbX hs.1
 have h2 : mSp m sp sp.length = true := by unfold mSp at h ⊢; simp only [Bool.and_eq_true,decide_eq_true_eq] at h ⊢; exact ⟨⟨h.1.1,trivial⟩,h.2⟩
 have hd : mD m = pd m := by rw [mD,if_pos hs.1]
 rw [mF,if_pos ⟨h2,h0,h1⟩,mO,if_pos ⟨hs.1,by rw [qgO,qdQ]⟩,hd]
 have := qic m (msk sp 0 (atM m e)) 0 hR.2.1 (qjc sp 0 (qjj e hR.2.1)) (Int.le_refl _)
 rw [Int.zero_add,Int.one_mul] at this
 exact this
abbrev tz : LI × LI := ([],[])
def zOkP (s m sp : LI) (l : List (LI × LI)) (j : Nat) : Bool := zT (l.getD j tz).1 (l.getD j tz).2 && decide ((l.getD j tz).1 = mSz s m sp j)
theorem qc8 {s m sp : LI} (h1 : mSR s = true) (h2 : mSp m sp s.length = true) {l : List (LI × LI)} (hl : (l.length : Int) = mD m) (k : Nat) (hk : 100 ≤ k) : ∀ (e i n : Nat),l.length = i + e → e < n →
  qac.l0 k n l s m sp l l.length i = some (if (List.range' i e).all (zOkP s m sp l) = true then .inl () else .inr 13)
 | 0,i,n,hi,hn => by
  obtain ⟨n,rfl⟩ : ∃ m,n = m + 1 := ⟨n - 1,by omega⟩
  rw [qac.l0,if_neg (by omega)]; rfl
 | e + 1,i,n,hi,hn => by
  obtain ⟨n,rfl⟩ : ∃ m,n = m + 1 := ⟨n - 1,by omega⟩
  have hb := qeR m
  rw [qac.l0,if_pos (by omega),if_pos (by omega),Int.toNat_natCast,qbu _ _ k (by omega),obs,List.range'_succ,List.all_cons]
  unfold zOkP
  by_cases c : zT (l.getD i ([],[])).1 (l.getD i ([],[])).2 = true
  ·have hz := (qau (qbe c).1).1
   rw [if_pos c,qew h1 h2 (by omega) (by omega) k (by omega),obs,qdY _ _ (by omega) k (by omega),obs,qbW (m := l.length) (by omega) (by omega)]
   by_cases c2 : (l.getD i ([],[])).1 = mSz s m sp i
   ·have ih := qc8 h1 h2 hl k hk e (i + 1) n (by omega) (by omega)
    rw [decide_eq_true c2,if_pos rfl,ih,c]; rfl
   ·rw [decide_eq_false c2,if_neg (by decide),if_neg (by simp)]
  ·have c' := Bool.eq_false_iff.2 c
   rw [c']; rfl
theorem qfD (a b : LI) (hl : a.length = b.length) (hb : a.length ≤ 1152921504606846976) : ∀ (d i n : Nat),a.length = i + d → d < n →
  qah.l0 n a b a.length i = some (if a.drop i = b.drop i then .inl () else .inr false)
 | 0,i,n,hi,hn => by
  obtain ⟨n,rfl⟩ : ∃ m,n = m + 1 := ⟨n - 1,by omega⟩
  rw [qah.l0,if_neg (by omega),List.drop_eq_nil_of_le (by omega),List.drop_eq_nil_of_le (by omega),if_pos rfl]
 | d + 1,i,n,hi,hn => by
  obtain ⟨n,rfl⟩ : ∃ m,n = m + 1 := ⟨n - 1,by omega⟩
  rw [qah.l0,if_pos (by omega),if_pos (by omega),if_pos (by omega),Int.toNat_natCast,qaj (show i < a.length by omega) 0,qaj (show i < b.length by omega) 0,qbW (m := a.length) (by omega) (by omega),qfD a b hl hb d (i + 1) n (by omega) (by omega)]
  by_cases c : a.getD i 0 = b.getD i 0
  ·rw [if_pos c,c]; simp
  ·rw [if_neg c,if_neg (by simp at c ⊢; exact fun h => absurd h c)]
theorem qiE (a b : LI) (hb : a.length ≤ 1152921504606846976) (k : Nat) (hk : a.length < k) : qah.f k a b = some (decide (a = b)) := by
 unfold qah.f
 by_cases h : a.length = b.length
 ·have := qfD a b h hb a.length 0 k (by omega) hk
  rw [n0,List.drop_zero,List.drop_zero] at this
  rw [if_pos (by omega),this,obs]
  by_cases c : a = b
  ·rw [if_pos c,decide_eq_true c]; rfl
  ·rw [if_neg c,decide_eq_false c]; rfl
 ·rw [if_neg (by omega),decide_eq_false (fun c => h (by rw [c]))]
theorem qfF (s d s' d' : LI) (h : zT s d = true) (k : Nat) (hk : 5000 ≤ k) : qbL.f k s d s' d' = some (decide ((s,d) = (s',d'))) := by
 obtain ⟨g1,g2⟩ := qbe h
 have g3 := qau g1
 unfold qbL.f
 rw [qdY _ _ (by omega) k (by omega),obs]
 by_cases c : s = s'
 ·rw [decide_eq_true c,if_pos rfl,qiE _ _ (by omega) k (by omega),obs]
  simp [c]
 ·rw [decide_eq_false c,if_neg (by decide)]
  simp [c]
def zSmP (m sp : LI) (l : List (LI × LI)) (j : Nat) : Bool := decide (l.getD j tz = l.getD (mF m sp j).toNat tz)
theorem qc7 {s m sp : LI} (h2 : mSp m sp s.length = true) (hsp : sp.length ≤ 1000) {l : List (LI × LI)} (hl : (l.length : Int) = mD m) (hT : ∀ j,j < l.length → zT (l.getD j tz).1 (l.getD j tz).2 = true) (k : Nat) (hk : 5000 ≤ k) : ∀ (e i n : Nat),l.length = i + e → e < n →
  qac.l1 k n l s m sp l l.length i = some (if (List.range' i e).all (zSmP m sp l) = true then .inl () else .inr 25)
 | 0,i,n,hi,hn => by
  obtain ⟨n,rfl⟩ : ∃ m,n = m + 1 := ⟨n - 1,by omega⟩
  rw [qac.l1,if_neg (by omega)]; rfl
 | e + 1,i,n,hi,hn => by
  obtain ⟨n,rfl⟩ : ∃ m,n = m + 1 := ⟨n - 1,by omega⟩
  have hb := qeR m
  have hF := qjV h2 (show (0 : Int) ≤ (i : Nat) by omega) (by omega)
  rw [qac.l1,if_pos (by omega),if_pos (by omega),Int.toNat_natCast,qgc m sp _ (by omega) k (by omega),obs,if_pos (by omega),qfF _ _ _ _ (hT i (by omega)) k hk,obs,List.range'_succ,List.all_cons,qbW (m := l.length) (by omega) (by omega),
   qc7 h2 hsp hl hT k hk e (i + 1) n (by omega) (by omega)]
  unfold zSmP
  by_cases c : l.getD i tz = l.getD (mF m sp i).toNat tz
  ·have c' : ((l.getD i ([],[])).1,(l.getD i ([],[])).2) = ((l.getD (mF m sp i).toNat ([],[])).1,(l.getD (mF m sp i).toNat ([],[])).2) := c
   rw [decide_eq_true c',if_pos rfl]; simp only [c,decide_true,Bool.true_and]
  ·have c' : ¬ ((l.getD i ([],[])).1,(l.getD i ([],[])).2) = ((l.getD (mF m sp i).toNat ([],[])).1,(l.getD (mF m sp i).toNat ([],[])).2) := c
   rw [decide_eq_false c',if_neg (by decide)]; simp only [c,decide_false,Bool.false_and]; rfl
theorem qc4 (f : LI) (p : LI) (hf : ∀ a ∈ f,0 ≤ a ∧ a ≤ 32) (hp : ∀ a ∈ p,0 ≤ a ∧ a ≤ 32) (hl : f.length ≤ 4) (hlen : p.length = f.length) (s m sp : LI) (a b : Int) (l : List (LI × LI)) (c e : Int) (x : LI) (g h : Int) (y z w v : LI) : ∀ (d : Nat) (L : LI) (n : Nat),f.length = L.length + d → d < n →
  qac.l4 n s m sp a b l c e x g h p.length L.length y z f (L ++ p.drop L.length) w v = some (L ++ zAdd (p.drop L.length) (f.drop L.length))
 | 0,L,n,hi,hn => by
  obtain ⟨n,rfl⟩ : ∃ m,n = m + 1 := ⟨n - 1,by omega⟩
  rw [qac.l4,if_neg (by omega),List.drop_eq_nil_of_le (by omega)]; rfl
 | d + 1,L,n,hi,hn => by
  obtain ⟨n,rfl⟩ : ∃ m,n = m + 1 := ⟨n - 1,by omega⟩
  have ha := hf _ (qaz (show L.length < f.length by omega) 0)
  have hb := hp _ (qaz (show L.length < p.length by omega) 0)
  have ih := qc4 f p hf hp hl hlen s m sp a b l c e x g h y z w v d (L ++ [p.getD L.length 0 + f.getD L.length 0]) n (by simp; omega) (by omega)
  have hL : (L ++ p.drop L.length).length = f.length := by rw [List.length_append,List.length_drop]; omega
  rw [qac.l4,if_pos (by omega),if_pos (by rw [hL]; omega),if_pos (by rw [hL]; omega),if_pos (by omega),if_pos (by omega),Int.toNat_natCast,qaj (show L.length < p.length by omega) (0 : Int),qaj (show L.length < f.length by omega) (0 : Int),getL,setL,qag (n := p.getD L.length 0 + f.getD L.length 0) (by omega) (by omega),qag (n := (L.length : Int) + 1) (by omega) (by omega)]
  rw [List.length_append,List.length_singleton] at ih
  rw [show (L.length : Int) + 1 = ((L.length + 1 : Nat) : Int) by omega,ih]
  simp [zAdd]
def putS (s z f x : LI) (o : LI) (i : Nat) : LI := o.set (ix s (zAdd (pl z i) f)).toNat (x.getD i 0)
theorem qen (s z f x o : LI) (i : Nat) : (putS s z f x o i).length = o.length := by simp [putS]
theorem qeZ {α : Type} {g : LI → α → LI} (hg : ∀ o a,(g o a).length = o.length) : ∀ (l : List α) (o : LI),(l.foldl g o).length = o.length
 | [],_ => rfl
 | a :: r,o => by rw [List.foldl_cons,qeZ hg r,hg]
theorem qc5 {s z f x : LI} (h1 : mSR s = true) (hc : zSl s f z = true) (hx : zT z x = true) (m sp : LI) (a : Int) (l : List (LI × LI)) (c e : Int) (y4 : LI) (k : Nat) (hk : 5000 ≤ k) : ∀ (d i n : Nat) (o : LI),x.length = i + d → d + 10 < n → (o.length : Int) = pr s →
  qac.l3 k n s m sp a l c e x x.length i z x f y4 o = some ((List.range' i d).foldl (putS s z f x) o)
 | 0,i,n,o,hi,hn,ho => by
  obtain ⟨n,rfl⟩ : ∃ m,n = m + 1 := ⟨n - 1,by omega⟩
  rw [qac.l3,if_neg (by omega)]; rfl
 | d + 1,i,n,o,hi,hn,ho => by
  obtain ⟨n,rfl⟩ : ∃ m,n = m + 1 := ⟨n - 1,by omega⟩
  obtain ⟨g1,g2⟩ := qbe hx
  have g3 := qau g1
  have gs := qau h1
  have hlz := qdz hc
  have hbz := qf3 gs.2.1 hc
  have hin : mIn s (zAdd (pl z i) f) = true := qhT hc (qiK (fun a ha => (qeQ g1 (by omega) a ha).1) i)
  have hib := qin hin
  have h4' := fun n (hn : f.length < n) => qc4 f (pl z i) hbz.1 (qjP g1 (by omega) i) (by omega) (by rw [qhe]; omega) s m sp a (x.getD i 0) l c e x x.length i z x y4 o f.length [] n (by simp) hn
  have ih := qc5 h1 hc hx m sp a l c e y4 k hk d (i + 1) n (putS s z f x o i) (by omega) (by omega) (by rw [qen]; exact ho)
  have hzi : zIx s (zAdd (pl z i) f) = ix s (zAdd (pl z i) f) := by rw [zIx,if_pos ⟨h1,hin⟩]
  have h5 := h4' n (by omega)
  rw [List.length_nil,n0,List.drop_zero,List.drop_zero,List.nil_append,List.nil_append] at h5
  rw [qac.l3,if_pos (by omega),if_pos (by omega),qcd g1 (by omega) (by omega) k (by omega),obs,Int.toNat_natCast,h5,obs,qdf _ _ k (by omega),obs,hzi,if_pos (by omega),if_pos (by omega),qbW (m := x.length) (by omega) (by omega),List.range'_succ,List.foldl_cons]
  exact ih
def putP (s m sp : LI) (l : List (LI × LI)) (o : LI) (e : Nat) : LI := (List.range' 0 (l.getD e tz).2.length).foldl (putS s (mSz s m sp e) (mFr s m sp e) (l.getD e tz).2) o
theorem qfQ (s m sp : LI) (l : List (LI × LI)) (o : LI) (e : Nat) : (putP s m sp l o e).length = o.length := qeZ (fun _ _ => qen _ _ _ _ _ _) _ _
theorem qc6 {s m sp : LI} (h1 : mSR s = true) (h2 : mSp m sp s.length = true) {l : List (LI × LI)} (hl : (l.length : Int) = mD m) (hT : ∀ j,j < l.length → zOkP s m sp l j = true) (a : Int) (y2 : LI) (k : Nat) (hk : 5000 ≤ k) : ∀ (d i n : Nat) (o : LI),l.length = i + d → d + 5000 < n → (o.length : Int) = pr s →
  qac.l2 k n s m sp a l l.length i y2 o = some ((List.range' i d).foldl (putP s m sp l) o)
 | 0,i,n,o,hi,hn,ho => by
  obtain ⟨n,rfl⟩ : ∃ m,n = m + 1 := ⟨n - 1,by omega⟩
  rw [qac.l2,if_neg (by omega)]; rfl
 | d + 1,i,n,o,hi,hn,ho => by
  obtain ⟨n,rfl⟩ : ∃ m,n = m + 1 := ⟨n - 1,by omega⟩
  have hb := qeR m
  have hc := hT i (by omega)
  unfold zOkP at hc
  simp only [Bool.and_eq_true,decide_eq_true_eq] at hc
  obtain ⟨c1,c2⟩ := hc
  have hp := (qau (qbe c1).1).2.2
  have hle := (qbe c1).2
  have hf : qaO.f k s m sp i = some (mFr s m sp i) := qex h1 h2 (by omega) (by omega) k (by omega)
  have h3 := qc5 h1 (show zSl s (mFr s m sp i) (l.getD i tz).1 = true by rw [c2]; exact qfE h1 h2 i) c1 m sp a l l.length i y2 k hk (l.getD i tz).2.length 0 n o (by omega) (by omega) ho
  have ih := qc6 h1 h2 hl hT a y2 k hk d (i + 1) n (putP s m sp l o i) (by omega) (by omega) (by rw [qfQ]; exact ho)
  rw [qac.l2,if_pos (by omega),if_pos (by omega),hf,obs,Int.toNat_natCast]
  rw [show (0 : Int) = ((0 : Nat) : Int) from rfl]
  rw [h3,obs,qbW (m := l.length) (by omega) (by omega),List.range'_succ,List.foldl_cons]
  rw [c2]
  exact ih
def zJn (s m sp : LI) (l : List (LI × LI)) : LI := (List.range' 0 l.length).foldl (putP s m sp l) (List.replicate (pr s).toNat 0)
def zJoin17 (s m sp : LI) (l : List (LI × LI)) : Int × LI × LI :=
 if mSR s = true ∧ mSp m sp s.length = true then (if (l.length : Int) = mD m then (if (List.range' 0 l.length).all (zOkP s m sp l) = true then (if (List.range' 0 l.length).all (zSmP m sp l) = true then (0,s,zJn s m sp l) else (25,[],[])) else (13,[],[])) else (13,[],[])) else (1,[],[])
theorem qdW (l : List (LI × LI)) (s m sp : LI) (hsp : sp.length ≤ 17592186044415) (k : Nat) (hk : sp.length + 10000 ≤ k) : qac.f k l s m sp = some (zJoin17 s m sp l) := by
 unfold qac.f zJoin17
 rw [qbl m k (by omega),obs]
 by_cases r1 : mR m = true
 rotate_left
 ·rw [if_neg r1,if_neg (fun h => r1 (qbd h.2).1)]
 rw [if_pos r1,qbc s k (by omega),obs]
 by_cases r2 : mSR s = true
 rotate_left
 ·rw [if_neg r2,if_neg (fun h => r2 h.1)]
 rw [if_pos r2,qbR m sp _ (by omega) k (by omega),obs]
 by_cases r3 : mSp m sp s.length = true
 rotate_left
 ·rw [if_neg r3,if_neg (fun h => r3 h.2)]
 have hb := qeR m
 have gs := qau r2
 have hsl := (qbd r3).2.1
 rw [if_pos r3,if_pos ⟨r2,r3⟩,qa7 m k (by omega),obs]
 by_cases r4 : (l.length : Int) = mD m
 rotate_left
 ·rw [if_neg r4,if_neg r4]
 have e0 := qc8 r2 r3 r4 k (by omega) l.length 0 k (by omega) (by omega)
 rw [if_pos r4,if_pos r4,show (0 : Int) = ((0 : Nat) : Int) from rfl,e0,obs]
 by_cases r5 : (List.range' 0 l.length).all (zOkP s m sp l) = true
 rotate_left
 ·rw [if_neg r5,if_neg r5]; rfl
 have hT : ∀ j,j < l.length → zOkP s m sp l j = true := fun j hj => List.all_eq_true.1 r5 j (by simp [List.mem_range']; omega)
 have e1 := qc7 r3 (by omega) r4 (fun j hj => by
  have := hT j hj
  unfold zOkP at this
  simp only [Bool.and_eq_true] at this
  exact this.1) k (by omega) l.length 0 k (by omega) (by omega)
 rw [if_pos r5,if_pos r5]
 show ((qac.l1 k k l s m sp l l.length ((0 : Nat) : Int)).bind _) = _
 rw [e1,obs]
 by_cases r6 : (List.range' 0 l.length).all (zSmP m sp l) = true
 rotate_left
 ·rw [if_neg r6,if_neg r6]; rfl
 rw [if_pos r6,if_pos r6]
 show ((qbq.f k s ((0 : Nat) : Int)).bind _) = _
 have hp0 := qeo r2
 rw [qfG s _ k (by omega),if_pos r2,obs,hp0.2.2]
 have e2 := qc6 r2 r3 r4 hT 0 s k (by omega) l.length 0 k (List.replicate (pr s).toNat 0) (by omega) (by omega) (by simp; omega)
 rw [show ((0 : Nat) : Int) = 0 from rfl] at e2 ⊢
 rw [e2,obs]
 rfl
end Go.Pf

namespace Go.Pf
open Go
def M7 : List LI := [[2],[2,4],[3,2],[2,2,2],[],[5],[2,2]]
def dev (m s : LI) (e : Int) : LI := s.map (tix (atM m e))
def chk17 (m s : LI) : Bool := (chk16 m s && decide (mC m s ≤ 8)) && ((List.range (mD m).toNat).all fun e : Nat => decide (dev m s e = dev m s (mF m s e))) && ((box (s.map (part1 m))).all fun t => (List.range (mD m).toNat).any fun e : Nat => decide (dev m s e = t))
theorem all17m : (M7.all fun m => mR m && decide (1 ≤ mD m ∧ mD m ≤ 8 ∧ m.length ≤ 3)) = true := by decide +kernel
theorem all17 : (M7.all fun m => (List.range 4).all fun n : Nat => (allL m.length n).all fun s => decide (okGo m.length [] s = true → chk17 m s = true)) = true := by decide +kernel
theorem got17m {m : LI} (hm : m ∈ M7) : mR m = true ∧ 1 ≤ mD m ∧ mD m ≤ 8 ∧ m.length ≤ 3 := by
 have := List.all_eq_true.1 all17m m hm
 simp only [Bool.and_eq_true,decide_eq_true_eq] at this
 exact this
theorem got17 {m : LI} (hm : m ∈ M7) {s : LI} (hs : s.length < 4) (hok : okGo m.length [] s = true) : (chk16 m s = true ∧ mC m s ≤ 8) ∧ (∀ e : Nat,(e : Int) < mD m → dev m s e = dev m s (mF m s e)) ∧ ∀ t ∈ box (s.map (part1 m)),∃ e : Nat,(e : Int) < mD m ∧ dev m s e = t := by
 have := List.all_eq_true.1 (List.all_eq_true.1 all17 m hm) s.length (List.mem_range.2 hs)
 have := of_decide_eq_true (List.all_eq_true.1 this s (qhl (qbU hok))) hok
 have hb := qeR m
 simp only [chk17,Bool.and_eq_true] at this
 obtain ⟨⟨h1,h2⟩,h3⟩ := this
 refine ⟨⟨h1.1,of_decide_eq_true h1.2⟩,fun e he => of_decide_eq_true (List.all_eq_true.1 h2 e (List.mem_range.2 (by omega))),fun t ht => ?_⟩
 obtain ⟨e,he,h⟩ := List.any_eq_true.1 (List.all_eq_true.1 h3 t ht)
 have := List.mem_range.1 he
 exact ⟨e,by omega,of_decide_eq_true h⟩
theorem qhY {m A : LI} {x k : Int} (hx : 0 ≤ x) : tl1 m A x k = mCut x (part1 m k) (tix A k) := by
  unfold tl1 part1 tix
  by_cases c : 0 ≤ k
  · rw [if_pos c,if_neg (by omega),if_neg (by omega)]
  · rw [if_neg c,if_pos (by omega),if_pos (by omega)]
    unfold mCut
    by_cases d : x < 1
    · rw [if_pos (by omega)]
      have : x = 0 := by omega
      rw [this]
    · rw [if_neg (by omega)]
      have : mWd x 1 = x := by
        unfold mWd
        rw [if_neg (by omega),Int.ediv_one]; omega
      rw [this]
      simp; omega
theorem qf6 {m A A' : LI} : ∀ {sp sh : LI},(∀ k ∈ sp,tix A k = tix A' k) → (∀ x ∈ sh,0 ≤ x) → List.zipWith (tl1 m A) sh sp = List.zipWith (tl1 m A') sh sp
 | [],_,_,_ => by simp
 | _ :: _,[],_,_ => rfl
 | k :: sp,x :: sh,h,hx => by
  rw [List.zipWith_cons_cons,List.zipWith_cons_cons,qf6 (fun a ha => h a (List.mem_cons_of_mem _ ha)) (fun y hy => hx y (List.mem_cons_of_mem _ hy)),qhY (hx x (List.mem_cons_self ..)),qhY (hx x (List.mem_cons_self ..)),h k (List.mem_cons_self ..)]
theorem qgP {m sp : LI} {e e' : Int} (h : dev m sp e = dev m sp e') {sh : LI} (hx : ∀ x ∈ sh,0 ≤ x) : mTile sh m sp e = mTile sh m sp e' :=
 qf6 (List.map_inj_left.1 h) hx
theorem qhC {s d m sp : LI} {e e' : Int} (h : dev m sp e = dev m sp e') (hs : ∀ x ∈ s,0 ≤ x) : zPrt s d m sp e = zPrt s d m sp e' := by
 unfold zPrt mSz mFr
 rw [qgP h hs]
theorem cover1 {x P p : Int} (h0 : 0 ≤ p) (h : p < x) (hP : 1 ≤ P) : ∃ c : Int,0 ≤ c ∧ c < P ∧ (mCut x P c).1 ≤ p ∧ p < (mCut x P c).2 := by
 obtain ⟨w1,w2,w3⟩ := qer (show 1 ≤ x by omega) hP
 generalize hw : mWd x P = w at w1 w2 w3
 have e1 : 0 ≤ p / w := Int.ediv_nonneg h0 (by omega)
 have e2 : p / w < P := Int.ediv_lt_of_lt_mul (by omega) (by rw [Int.mul_comm] at w3; omega)
 have e3 := Int.mul_ediv_add_emod p w
 have e4 := Int.emod_lt_of_pos p (show 0 < w by omega)
 have e5 := Int.emod_nonneg p (show w ≠ 0 by omega)
 refine ⟨p / w,e1,e2,?_⟩
 unfold mCut
 rw [if_neg (by omega),hw,Int.mul_add,Int.mul_one]
 generalize w * (p / w) = q at *
 simp only
 omega
theorem cover {m : LI} : ∀ {sh sp p : LI},sp.length = sh.length → mIn sh p = true → (∀ k ∈ sp,1 ≤ part1 m k) → ∃ t ∈ box (sp.map (part1 m)),∀ A,sp.map (tix A) = t → ∃ q,mIn ((List.zipWith (tl1 m A) sh sp).map fun p => p.2 - p.1) q = true ∧ zAdd q ((List.zipWith (tl1 m A) sh sp).map fun p => p.1) = p
 | [],[],[],_,_,_ => ⟨[],by simp [box],fun A _ => ⟨[],rfl,rfl⟩⟩
 | [],[],_ :: _,_,h,_ => by simp [mIn] at h
 | [],_ :: _,_,h,_,_ => by simp at h
 | _ :: _,[],_,h,_,_ => by simp at h
 | _ :: _,_ :: _,[],_,h,_ => by simp [mIn] at h
 | x :: sh,k :: sp,a :: p,hl,h,hk => by
  obtain ⟨⟨a0,a1⟩,h3⟩ := qbg.1 h
  obtain ⟨c,c0,c1,c2,c3⟩ := cover1 a0 a1 (hk k (List.mem_cons_self ..))
  obtain ⟨t,ht,hA⟩ := cover (m := m) (sh := sh) (sp := sp) (p := p) (by simpa using hl) h3 (fun y hy => hk y (List.mem_cons_of_mem _ hy))
  refine ⟨c :: t,?_,fun A e => ?_⟩
  ·rw [List.map_cons,box,List.mem_flatMap]
   exact ⟨c.toNat,List.mem_range.2 (by omega),List.mem_map.2 ⟨t,ht,by rw [show ((c.toNat : Nat) : Int) = c by omega]⟩⟩
  ·rw [List.map_cons] at e
   injection e with e1 e2
   obtain ⟨q,q1,q2⟩ := hA A e2
   rw [List.zipWith_cons_cons,qhY (by omega),e1]
   simp only [List.map_cons]
   refine ⟨(a - (mCut x (part1 m k) c).1) :: q,qbg.2 ⟨by omega,q1⟩,?_⟩
   show (_ + _) :: zAdd q _ = _
   rw [q2]
   congr 1
   omega
theorem qdH {α β : Type} {g : β → α → β} {Q P : β → Prop} : ∀ {l : List α} {o : β},(∀ o a,a ∈ l → Q o → Q (g o a)) → (∀ o a,a ∈ l → Q o → P o → P (g o a)) → Q o → P o → P (l.foldl g o)
 | [],_,_,_,_,h => h
 | a :: r,o,h1,h2,hQ,hP => by
  rw [List.foldl_cons]
  exact qdH (fun o b hb => h1 o b (List.mem_cons_of_mem _ hb)) (fun o b hb => h2 o b (List.mem_cons_of_mem _ hb)) (h1 o a (List.mem_cons_self ..) hQ) (h2 o a (List.mem_cons_self ..) hQ hP)
theorem qe0 {α β : Type} {g : β → α → β} {Q P : β → Prop} : ∀ {l : List α} {o : β},(∀ o a,a ∈ l → Q o → Q (g o a)) → (∀ o a,a ∈ l → Q o → P o → P (g o a)) → (∃ a ∈ l,∀ o,Q o → P (g o a)) → Q o → P (l.foldl g o)
 | [],_,_,_,⟨_,h,_⟩,_ => by cases h
 | a :: r,o,h1,h2,⟨b,hb,h3⟩,hQ => by
  rw [List.foldl_cons]
  have k1 := fun o b hb => h1 o b (List.mem_cons_of_mem a hb)
  have k2 := fun o b hb => h2 o b (List.mem_cons_of_mem a hb)
  rcases List.mem_cons.1 hb with rfl | hb
  ·exact qdH k1 k2 (h1 o b (List.mem_cons_self ..) hQ) (h3 o hQ)
  ·exact qe0 k1 k2 ⟨b,hb,h3⟩ (h1 o a (List.mem_cons_self ..) hQ)
theorem qf1 (s d m sp : LI) : (zAll17 s d m sp).length = (mD m).toNat := by simp [zAll17]
theorem qfc (s d m sp : LI) {e : Nat} (h : (e : Int) < mD m) : (zAll17 s d m sp).getD e tz = zPrt s d m sp e := by
 have : e < (mD m).toNat := by omega
 simp [zAll17,List.getD_eq_getElem?_getD,this]
theorem qhU {s d m sp : LI} (h1 : mSR s = true) (h2 : mSp m sp s.length = true) (e : Int) : zT (zPrt s d m sp e).1 (zPrt s d m sp e).2 = true := by
 show zT (mSz s m sp e) (zCut s d (mFr s m sp e) (mSz s m sp e)) = true
 unfold zCut
 exact qjQ (qiF h1 (qfE h1 h2 e)) _
theorem qg3 {s d m sp : LI} {e : Int} {i : Nat} (hi : i < (zPrt s d m sp e).2.length) : (zPrt s d m sp e).2.getD i 0 = d.getD (ix s (zAdd (pl (mSz s m sp e) i) (mFr s m sp e))).toNat 0 := by
 have : (i : Int) < pr (mSz s m sp e) := by
  have : (zPrt s d m sp e).2.length = (pr (mSz s m sp e)).toNat := by simp [zPrt,zCut,made]
  omega
 show (zCut s d (mFr s m sp e) (mSz s m sp e)).getD i 0 = _
 unfold zCut
 exact qiN _ this
theorem qhJ {s d m sp : LI} (hm : m ∈ M7) (hT : zT s d = true) (h2 : mSp m sp s.length = true) (hs : sp.length < 4) : zJn s m sp (zAll17 s d m sp) = d := by
 obtain ⟨h1,hd⟩ := qbe hT
 have hp := qeo h1
 have hsp := qbd h2
 obtain ⟨_,_,hcov⟩ := got17 hm hs hsp.2.2
 have hb := qeR m
 have hlen : (zJn s m sp (zAll17 s d m sp)).length = d.length := by
  unfold zJn
  rw [qeZ (fun o e => qfQ s m sp _ o e)]
  simp; omega
 refine qiX hlen fun j hj => ?_
 rw [hlen] at hj
 have hpos := qeQ h1 (show 0 < pr s by omega)
 have hin : mIn s (pl s j) = true := qiK (fun a ha => (hpos a ha).1) j
 have hix : ix s (pl s j) = j := ix_pl (fun a ha => by have := hpos a ha; omega) (by omega) (by omega)
 have hpart : ∀ k ∈ sp,1 ≤ part1 m k := fun k hk => by
  have hb := qbU hsp.2.2 k hk
  unfold part1
  split
  ·omega
  ·exact (qeL hsp.1 _ (qaz (show k.toNat < m.length by omega) 0)).1
 obtain ⟨t,ht,hA⟩ := cover (m := m) (show sp.length = s.length by omega) hin hpart
 obtain ⟨e,he,het⟩ := hcov t ht
 obtain ⟨q,q1,q2⟩ := hA (atM m e) het
 have q1 : mIn (mSz s m sp e) q = true := q1
 have q2 : zAdd q (mFr s m sp e) = pl s j := q2
 have hq := qin q1
 have hplq := qjO q1
 have hL : ∀ e : Nat,(e : Int) < mD m → (zPrt s d m sp e).2.length = (pr (mSz s m sp e)).toNat := fun e _ => by simp [zPrt,zCut,made]
 have step : ∀ (e : Nat) (o : LI) (i : Nat),(e : Int) < mD m → i < (zPrt s d m sp e).2.length → o.length = d.length → o.getD j 0 = d.getD j 0 → (putS s (mSz s m sp e) (mFr s m sp e) (zPrt s d m sp e).2 o i).getD j 0 = d.getD j 0 := fun e o i _ hi ho h => by
  unfold putS
  rw [qht]
  split
  ·rename_i c
   rw [qg3 hi,c.1]
  ·exact h
 unfold zJn
 refine qe0 (Q := fun o : LI => o.length = d.length) (P := fun o : LI => o.getD j 0 = d.getD j 0) (fun o a _ h => by rw [qfQ]; exact h) (fun o a ha hQ h => ?_) ⟨e,?_,fun o hQ => ?_⟩ (by simp; omega)
 ·have ha : a < (zAll17 s d m sp).length := by simp [List.mem_range'] at ha; omega
  rw [qf1] at ha
  unfold putP
  rw [qfc s d m sp (by omega)]
  refine qdH (Q := fun o : LI => o.length = d.length) (P := fun o : LI => o.getD j 0 = d.getD j 0) (fun o a _ h => by rw [qen]; exact h) (fun o i hi hQ h => step a o i (by omega) (by simp [List.mem_range'] at hi; omega) hQ h) hQ h
 ·rw [List.mem_range']
  exact ⟨e,by rw [qf1]; omega,by omega⟩
 ·unfold putP
  rw [qfc s d m sp he]
  refine qe0 (Q := fun o : LI => o.length = d.length) (P := fun o : LI => o.getD j 0 = d.getD j 0) (fun o a _ h => by rw [qen]; exact h) (fun o i hi hQ h => step e o i he (by simp [List.mem_range'] at hi; omega) hQ h) ⟨(ix (mSz s m sp e) q).toNat,?_,fun o hQ => ?_⟩ hQ
  ·rw [List.mem_range']
   exact ⟨(ix (mSz s m sp e) q).toNat,by rw [hL e he]; omega,by omega⟩
  ·unfold putS
   rw [qht,show (((ix (mSz s m sp e) q).toNat : Nat) : Int) = ix (mSz s m sp e) q by omega,hplq,q2,hix,if_pos ⟨by omega,by omega⟩,qg3 (by rw [hL e he]; omega),show (((ix (mSz s m sp e) q).toNat : Nat) : Int) = ix (mSz s m sp e) q by omega,hplq,q2,hix]
   simp
theorem qiV {s d m sp : LI} (hm : m ∈ M7) (hT : zT s d = true) (h2 : mSp m sp s.length = true) (hs : sp.length < 4) : zJoin17 s m sp (zAll17 s d m sp) = (0,s,d) := by
 obtain ⟨h1,hd⟩ := qbe hT
 have hsp := qbd h2
 obtain ⟨_,hF,_⟩ := got17 hm hs hsp.2.2
 have hb := qeR m
 have hx : ∀ x ∈ s,0 ≤ x := fun x hx => ((qau h1).2.1 x hx).1
 have a1 : (List.range' 0 (zAll17 s d m sp).length).all (zOkP s m sp (zAll17 s d m sp)) = true := List.all_eq_true.2 fun e he => by
  have he : e < (zAll17 s d m sp).length := by simp [List.mem_range'] at he; omega
  rw [qf1] at he
  unfold zOkP
  rw [qfc s d m sp (by omega),qhU h1 h2]
  exact decide_eq_true rfl
 have a2 : (List.range' 0 (zAll17 s d m sp).length).all (zSmP m sp (zAll17 s d m sp)) = true := List.all_eq_true.2 fun e he => by
  have he : e < (zAll17 s d m sp).length := by simp [List.mem_range'] at he; omega
  rw [qf1] at he
  have hf := qjV h2 (show (0 : Int) ≤ (e : Nat) by omega) (by omega)
  unfold zSmP
  rw [qfc s d m sp (by omega),qfc s d m sp (by omega),show (((mF m sp e).toNat : Nat) : Int) = mF m sp e by omega]
  exact decide_eq_true (qhC (hF e (by omega)) hx)
 unfold zJoin17
 rw [if_pos ⟨h1,h2⟩,if_pos (qfj s d m sp),if_pos a1,if_pos a2,qhJ hm hT h2 hs]
end Go.Pf

namespace Go.Pf
open Go Go.Vm
theorem shares17 {m : LI} (hR : mR m = true) {s : LI} (hok : okGo m.length [] s = true) (hc : chk16 m s = true) {sh : LI} (hlen : s.length = sh.length) (hsh : ∀ x ∈ sh,0 ≤ x) : sm ((List.range (mD m).toNat).map fun d : Nat => pr (mSz sh m s d)) = mC m s * pr sh := by
 simp only [chk16,Bool.and_eq_true,decide_eq_true_eq] at hc
 obtain ⟨h1,h2⟩ := hc
 have h1 := List.isPerm_iff.1 h1
 have e : ∀ d : Nat,pr (mSz sh m s d) = pr (szs (sh.zip (s.map (part1 m))) (s.map (tix (atM m d)))) := fun d => by rw [qjR hsh]
 simp only [e]
 have h3 := qjo (h1.map fun t => pr (szs (sh.zip (s.map (part1 m))) t))
 rw [List.map_map] at h3
 have e2 : s.map (part1 m) = (sh.zip (s.map (part1 m))).map (·.2) := by rw [List.map_snd_zip]; simp; omega
 have e3 : sh = (sh.zip (s.map (part1 m))).map (·.1) := by rw [List.map_fst_zip]; simp; omega
 have hX : ∀ q ∈ sh.zip (s.map (part1 m)),0 ≤ q.1 ∧ 1 ≤ q.2 := fun q hq => by
  obtain ⟨q1,q2⟩ := q
  have h := List.of_mem_zip hq
  refine ⟨hsh _ h.1,?_⟩
  obtain ⟨k,hk,rfl⟩ := List.mem_map.1 h.2
  have hb := qbU hok k hk
  unfold part1
  split
  ·omega
  ·exact (qeL hR _ (qaz (show k.toNat < m.length by omega) 0)).1
 have h4 := qiA (sh.zip (s.map (part1 m))) hX
 rw [← e2,← e3] at h4
 rw [qi8,h4,show (((mC m s).toNat : Nat) : Int) = mC m s by omega] at h3
 exact h3
theorem which17 {L : LI} (hL : Fit (.sl (.int .i64)) L) : ∃ r q,qav.f 7 L 0 = some (r,q) ∧ 0 ≤ r ∧ r < (M7.length : Int) ∧ r.toNat < M7.length ∧ M7.getD r.toNat [] ∈ M7 ∧ 0 ≤ q ∧ q ≤ 1 := by
 obtain ⟨h1,h2⟩ := qiq hL
 obtain ⟨r,q,e,r0,r1,q0,q1,q2,q3⟩ := qbx 7 L (by omega) h2 0 (by omega) (by omega) (by omega)
 have hl : M7.length = 7 := rfl
 exact ⟨r,q,e,r0,by omega,by omega,qaz (by omega) _,q0,by omega⟩
theorem made17 {L : LI} (hL : Fit (.sl (.int .i64)) L) (k : Nat) (hk : 5000 ≤ k) : ∃ m s d sp,qb7.f k L = some (m,s,d,sp) ∧ m ∈ M7 ∧ zT s d = true ∧ mSp m sp s.length = true ∧ sp.length < 4 ∧ s.length < 4 ∧ pr s ≤ 343 := by
 obtain ⟨r,q,e,r0,r1,r2,hm,q0,q1⟩ := which17 hL
 obtain ⟨f1,f2⟩ := qiq hL
 unfold qb7.f
 rw [e,obs]
 rw [show ([([2] : LI),([2,4] : LI),([3,2] : LI),([2,2,2] : LI),[],([5] : LI),([2,2] : LI)] : List LI) = M7 from rfl,if_pos ⟨r0,r1⟩,if_pos r2]
 generalize M7.getD r.toNat [] = m at hm ⊢
 obtain ⟨hR,d1,d8,l3⟩ := got17m hm
 obtain ⟨p,sh,e2,hl,hb,p0,p1⟩ := qhE L (by omega) f2 q q0 (by omega) k (by omega)
 obtain ⟨p2,d,e3,hd,p20,p21⟩ := qgH L (by omega) f2 sh (by omega) p p0 (by omega) k (by omega)
 obtain ⟨p',s,e4,hs,hok,p0',_⟩ := qh0 m l3 L (by omega) f2 (sh.length : Int) (by omega) (by omega) p2 p20 (by omega) k (by omega)
 have hsp : mSp m s sh.length = true := qjS hR hok _ hs
 have hpr := qjN sh hb
 have h343 : (7 : Int) ^ sh.length ≤ 343 := by
  rcases (show sh.length = 0 ∨ sh.length = 1 ∨ sh.length = 2 ∨ sh.length = 3 by omega) with e | e | e | e <;> rw [e] <;> decide
 have hSR : mSR sh = true := by
  simp only [mSR,Bool.and_eq_true,decide_eq_true_eq,List.all_eq_true]
  exact ⟨⟨by omega,fun x hx => qcg.2 (by have := hb x hx; omega)⟩,by omega⟩
 have hT : zT sh d = true := by
  simp only [zT,Bool.and_eq_true,decide_eq_true_eq]
  exact ⟨hSR,by rw [hd,zSz,if_pos hSR]⟩
 rw [e2,obs]
 dsimp only
 rw [e3,obs]
 dsimp only
 rw [e4,obs]
 exact ⟨m,sh,d,s,rfl,hm,hT,hsp,by omega,by omega,by omega⟩
theorem known17 (k : Nat) (hk : 20000 ≤ k) : qbO.f k = some true := by
 unfold qbO.f
 rw [qez _ _ _ _ (by decide) k (by simp; omega),obs,qdW _ _ _ _ (by decide) k (by simp; omega),obs]
 decide +kernel
theorem qd9 (a : LI) (b c : Int) (y1 : LI) (l : List (LI × LI)) (y4 y5 y6 y7 : LI) (hl : l.length ≤ 8) (hx : ∀ p ∈ l,p.2.length ≤ 4096) : ∀ (d i : Nat) (x : Int) (n : Nat),l.length = i + d → d < n → 0 ≤ x → x ≤ 4096 * i →
  qar.l0 n a b c x l.length i y1 l y4 y5 y6 y7 = some (x + sm ((l.drop i).map fun p => (p.2.length : Int)))
 | 0,i,x,n,hi,hn,h0,h1 => by
  obtain ⟨n,rfl⟩ : ∃ m,n = m + 1 := ⟨n - 1,by omega⟩
  rw [qar.l0,if_neg (by omega),List.drop_eq_nil_of_le (by omega)]
  simp [sm]
 | d + 1,i,x,n,hi,hn,h0,h1 => by
  obtain ⟨n,rfl⟩ : ∃ m,n = m + 1 := ⟨n - 1,by omega⟩
  have hp := hx _ (qaz (show i < l.length by omega) ([],[]))
  have ih := qd9 a b c y1 l y4 y5 y6 y7 hl hx d (i + 1) (x + ((l.getD i ([],[])).2.length : Int)) n (by omega) (by omega) (by omega) (by omega)
  rw [qar.l0,if_pos (by omega),if_pos (by omega),Int.toNat_natCast,qag (n := x + ((l.getD i ([],[])).2.length : Int)) (by omega) (by omega),qbW (m := l.length) (by omega) (by omega),ih,qaj (show i < l.length by omega) ([],[]),List.map_cons,sm,Int.add_assoc]
theorem qgD (a0 : LI) (w : Fit (.sl (.int .i64)) a0) : ∃ k,qar.f k a0 = some true := by
 refine ⟨20020,?_⟩
 have hk : 20000 ≤ 20020 := by decide
 have hkn := known17 20020 hk
 generalize 20020 = k at hk hkn ⊢
 obtain ⟨m,s,d,sp,e,hm,hT,h2,hs4,hl4,h343⟩ := made17 w k (by omega)
 obtain ⟨h1,hd⟩ := qbe hT
 obtain ⟨hR,d1,d8,l3⟩ := got17m hm
 have hsp := qbd h2
 have hx : ∀ x ∈ s,0 ≤ x := fun x hx => ((qau h1).2.1 x hx).1
 obtain ⟨⟨hc,hC8⟩,_,_⟩ := got17 hm hs4 hsp.2.2
 have hp := qeo h1
 have hmay : zMay17 s d m sp = 0 := qg4.2 ⟨hT,h2⟩
 have hC : 0 ≤ mC m sp := by
  simp only [chk16,Bool.and_eq_true,decide_eq_true_eq] at hc
  exact hc.2
 have hlen : ∀ p ∈ zAll17 s d m sp,p.2.length ≤ 4096 := fun p hp => by
  obtain ⟨e,_,rfl⟩ := List.mem_map.1 hp
  have := qbe (qhU (d := d) h1 h2 e)
  have := (qau this.1).2.2
  omega
 have hsum : sm ((zAll17 s d m sp).map fun p => (p.2.length : Int)) = mC m sp * pr s := by
  rw [← shares17 hR hsp.2.2 hc (show sp.length = s.length by omega) hx]
  unfold zAll17
  rw [List.map_map]
  congr 1
  refine List.map_congr_left fun e _ => ?_
  exact (qbe (qhU (d := d) h1 h2 e)).2
 have hal := qfj s d m sp
 have hL := qd9 m 0 0 sp (zAll17 s d m sp) s d s d (by omega) hlen (zAll17 s d m sp).length 0 0 k (by omega) (by omega) (by omega) (by omega)
 rw [n0,List.drop_zero,Int.zero_add,hsum] at hL
 have hmul : mC m sp * pr s ≤ 8 * 4096 := Int.mul_le_mul hC8 (by omega) (by omega) (by omega)
 have hmul0 : 0 ≤ mC m sp * pr s := Int.mul_nonneg hC (by omega)
 unfold qar.f
 rw [e,obs]
 dsimp only
 rw [qez s d m sp (by omega) k (by omega),if_pos hmay,obs]
 dsimp only
 rw [qdW _ s m sp (by omega) k (by omega),qiV hm hT h2 hs4,obs]
 dsimp only
 rw [hL,obs,if_pos rfl,if_pos rfl,qff s d k (by omega) (by omega) (by omega) (by omega),obs,if_pos rfl,qfg m sp (by omega) k (by omega),obs,hd,Int.mul_comm (pr s),qag (n := mC m sp * pr s) (by omega) (by omega),if_pos rfl,qcv m k (by omega),obs,hal,if_pos rfl,hkn,obs]
end Go.Pf
