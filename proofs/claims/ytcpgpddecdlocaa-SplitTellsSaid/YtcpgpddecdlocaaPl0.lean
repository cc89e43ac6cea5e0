/- Own texts put together: P14, P16, P5 .. -/
import Derived.Test.YtcpgpddecdlocaaVm1
namespace Go.Pf
abbrev LI := List Int
abbrev LN := Int × LI × LI × LI × Int × Int × ByteArray
abbrev ln0 : LN := (0,([],([],([],(0,(0,ByteArray.empty))))))
abbrev LT := LI × LI
theorem obs {α β : Type} (a : α) (f : α → Option β) : (some a).bind f = f a := rfl
end Go.Pf

set_option linter.unusedVariables false
set_option linter.unusedSimpArgs false
namespace Go.Pf
open Go
def qaF.l0 : Nat → LI → Int → Int → Int → Option (Int ⊕ Bool)
 | 0,_,_,_,_ => none
 | n + 1,x0,x3,x6,x7 => if x7 < x6 then (if 3 ≤ x7 then (some (.inr false)) else if 0 ≤ x7 ∧ x7 < (x0.length : Int) then if x0.getD x7.toNat 0 < 1 then (some (.inr false)) else if 8 < x0.getD x7.toNat 0 then (some (.inr false)) else qaF.l0 n x0 (IntKind.i64.wrap (x3 * (x0.getD x7.toNat 0))) x6 (IntKind.i64.wrap (x7 + 1)) else none) else some (.inl x3)
def qaF.f (k : Nat) (a0 : LI) : Option (Bool) := (qaF.l0 k a0 1 (a0.length : Int) 0).bind fun t1 => Sum.elim (fun t1 => some (decide (t1 ≤ 8))) (fun t1 => some t1) t1
def qaq.l0 : Nat → LI → Int → Int → Int → Option (Int)
 | 0,_,_,_,_ => none
 | n + 1,x0,x3,x9,x10 => if x10 < x9 then (if 0 ≤ x10 ∧ x10 < (x0.length : Int) then qaq.l0 n x0 (IntKind.i64.wrap (x3 * (x0.getD x10.toNat 0))) x9 (IntKind.i64.wrap (x10 + 1)) else none) else some x3
def qaq.f (k : Nat) (a0 : LI) : Option (Int) := (qaF.f k a0).bind fun t1 => if t1 = true then ((qaq.l0 k a0 1 (a0.length : Int) 0).bind fun t2 => some t2) else some 0
def qbp.l0 : Nat → LI → Int → Int → LI → Option (LI)
 | 0,_,_,_,_ => none
 | n + 1,x0,x1,x6,y0 => if 0 ≤ x6 then (if 0 ≤ x6 ∧ x6 < (x0.length : Int) then if x0.getD x6.toNat 0 ≠ 0 then if 0 ≤ x6 ∧ x6 < (y0.length : Int) then if x6.toNat < y0.length then qbp.l0 n x0 (IntKind.i64.wrap (x1.tdiv (x0.getD x6.toNat 0))) (IntKind.i64.wrap (x6 - 1)) (y0.set x6.toNat (x1.tmod (x0.getD x6.toNat 0))) else none else none else none else none) else some y0
def qbp.f (k : Nat) (a0 : LI) (a1 : Int) : Option (LI) := if a1 < 0 then (some []) else (qaq.f k a0).bind fun t1 => if t1 ≤ a1 then (some []) else if 0 ≤ (a0.length : Int) ∧ (a0.length : Int) ≤ 281474976710656 ∧ ((8 : Nat) : Int) * (a0.length : Int) ≤ 140737488355328 then (qbp.l0 k a0 a1 (IntKind.i64.wrap ((a0.length : Int) - 1)) (List.replicate (a0.length : Int).toNat (0 : Int))).bind fun t2 => some t2 else none
def qaM.l0 : Nat → Int → LI → Int → Int → Option (Int ⊕ Bool)
 | 0,_,_,_,_ => none
 | n + 1,x3,x9,x10,x11 => if x11 < x10 then (if 0 ≤ x11 ∧ x11 < (x9.length : Int) then if x9.getD x11.toNat 0 < 1 then (some (.inr false)) else if 8 < x9.getD x11.toNat 0 then (some (.inr false)) else qaM.l0 n (IntKind.i64.wrap (x3 * (x9.getD x11.toNat 0))) x9 x10 (IntKind.i64.wrap (x11 + 1)) else none) else some (.inl x3)
def qaM.f (k : Nat) (a0 : LI) : Option (Bool) := if 3 < (a0.length : Int) then (some false) else (qaM.l0 k 1 a0 (a0.length : Int) 0).bind fun t1 => Sum.elim (fun t1 => some (decide (t1 ≤ 8))) (fun t1 => some t1) t1
def qaw.l0 : Nat → Int → LI → Int → Int → Option (Int)
 | 0,_,_,_,_ => none
 | n + 1,x3,x9,x10,x11 => if x11 < x10 then (if 0 ≤ x11 ∧ x11 < (x9.length : Int) then qaw.l0 n (IntKind.i64.wrap (x3 * (x9.getD x11.toNat 0))) x9 x10 (IntKind.i64.wrap (x11 + 1)) else none) else some x3
def qaw.f (k : Nat) (a0 : LI) : Option (Int) := (qaM.f k a0).bind fun t1 => if t1 = true then ((qaw.l0 k 1 a0 (a0.length : Int) 0).bind fun t2 => some t2) else some 0
def qbF.l0 : Nat → LI → Int → Int → LI → Option (LI)
 | 0,_,_,_,_ => none
 | n + 1,x0,x1,x6,y0 => if 0 ≤ x6 then (if 0 ≤ x6 ∧ x6 < (x0.length : Int) then if x0.getD x6.toNat 0 ≠ 0 then if 0 ≤ x6 ∧ x6 < (y0.length : Int) then if x6.toNat < y0.length then qbF.l0 n x0 (IntKind.i64.wrap (x1.tdiv (x0.getD x6.toNat 0))) (IntKind.i64.wrap (x6 - 1)) (y0.set x6.toNat (x1.tmod (x0.getD x6.toNat 0))) else none else none else none else none) else some y0
def qbF.f (k : Nat) (a0 : LI) (a1 : Int) : Option (LI) := if a1 < 0 then (some []) else (qaw.f k a0).bind fun t1 => if t1 ≤ a1 then (some []) else if 0 ≤ (a0.length : Int) ∧ (a0.length : Int) ≤ 281474976710656 ∧ ((8 : Nat) : Int) * (a0.length : Int) ≤ 140737488355328 then (qbF.l0 k a0 a1 (IntKind.i64.wrap ((a0.length : Int) - 1)) (List.replicate (a0.length : Int).toNat (0 : Int))).bind fun t2 => some t2 else none
def qbE.l0 : Nat → LI → Int → LI → Int → Int → Option (Int ⊕ Int)
 | 0,_,_,_,_,_ => none
 | n + 1,x0,x5,x18,x19,x20 => if x20 < x19 then (if 0 ≤ x20 ∧ x20 < (x18.length : Int) then if x18.getD x20.toNat 0 < 0 then (some (.inr (-1))) else if 0 ≤ x20 ∧ x20 < (x0.length : Int) then if x0.getD x20.toNat 0 ≤ x18.getD x20.toNat 0 then (some (.inr (-1))) else qbE.l0 n x0 (IntKind.i64.wrap ((IntKind.i64.wrap (x5 * (x0.getD x20.toNat 0))) + (x18.getD x20.toNat 0))) x18 x19 (IntKind.i64.wrap (x20 + 1)) else none else none) else some (.inl x5)
def qbE.f (k : Nat) (a0 : LI) (a1 : LI) : Option (Int) := (qaM.f k a0).bind fun t1 => if t1 = true then (if (a1.length : Int) = (a0.length : Int) then ((qbE.l0 k a0 0 a1 (a1.length : Int) 0).bind fun t2 => Sum.elim (fun t2 => some t2) (fun t2 => some t2) t2) else some (-1)) else some (-1)
def qbo.l0 : Nat → LI → LI → Int → Int → Int → Option (Int ⊕ Int)
 | 0,_,_,_,_,_ => none
 | n + 1,x0,x1,x5,x18,x19 => if x19 < x18 then (if 0 ≤ x19 ∧ x19 < (x1.length : Int) then if x1.getD x19.toNat 0 < 0 then (some (.inr (-1))) else if 0 ≤ x19 ∧ x19 < (x0.length : Int) then if x0.getD x19.toNat 0 ≤ x1.getD x19.toNat 0 then (some (.inr (-1))) else qbo.l0 n x0 x1 (IntKind.i64.wrap ((IntKind.i64.wrap (x5 * (x0.getD x19.toNat 0))) + (x1.getD x19.toNat 0))) x18 (IntKind.i64.wrap (x19 + 1)) else none else none) else some (.inl x5)
def qbo.f (k : Nat) (a0 : LI) (a1 : LI) : Option (Int) := (qaF.f k a0).bind fun t1 => if t1 = true then (if (a1.length : Int) = (a0.length : Int) then ((qbo.l0 k a0 a1 0 (a0.length : Int) 0).bind fun t2 => Sum.elim (fun t2 => some t2) (fun t2 => some t2) t2) else some (-1)) else some (-1)
def qcd.f (a0 : Int) (a1 : Int) (a2 : Int) : Option (Int) := if a1 ≤ a0 then (if a0 ≤ a2 then (some a0) else if IntKind.i64.wrap ((IntKind.i64.wrap (a2 - a1)) + 1) ≠ 0 then if a0.tmod (IntKind.i64.wrap ((IntKind.i64.wrap (a2 - a1)) + 1)) < 0 then (some (IntKind.i64.wrap (a1 + (IntKind.i64.wrap ((IntKind.i64.wrap ((IntKind.i64.wrap ((a0.tmod (IntKind.i64.wrap ((IntKind.i64.wrap (a2 - a1)) + 1))) + a2)) - a1)) + 1))))) else some (IntKind.i64.wrap (a1 + (a0.tmod (IntKind.i64.wrap ((IntKind.i64.wrap (a2 - a1)) + 1))))) else none) else if IntKind.i64.wrap ((IntKind.i64.wrap (a2 - a1)) + 1) ≠ 0 then if a0.tmod (IntKind.i64.wrap ((IntKind.i64.wrap (a2 - a1)) + 1)) < 0 then (some (IntKind.i64.wrap (a1 + (IntKind.i64.wrap ((IntKind.i64.wrap ((IntKind.i64.wrap ((a0.tmod (IntKind.i64.wrap ((IntKind.i64.wrap (a2 - a1)) + 1))) + a2)) - a1)) + 1))))) else some (IntKind.i64.wrap (a1 + (a0.tmod (IntKind.i64.wrap ((IntKind.i64.wrap (a2 - a1)) + 1))))) else none
end Go.Pf

namespace Go.Pf
open Go
def qcr.f (a0 : Int) (a1 : Int) : Option (Int) := if a0 < 0 then (some 0) else if a1 < 1 then (some 0) else if a0 = 0 then (some 0) else if a1 ≠ 0 then some (IntKind.i64.wrap ((IntKind.i64.wrap ((IntKind.i64.wrap (a0 - 1)).tdiv a1)) + 1)) else none
def qb1.f (a0 : Int) (a1 : Int) (a2 : Int) : Option (Int) := if 0 < a0 then (if a0 ≠ 0 then if IntKind.i64.wrap (a2.tdiv a0) < a1 then (some a2) else some (if a2 < IntKind.i64.wrap (a0 * a1) then a2 else IntKind.i64.wrap (a0 * a1)) else none) else some (if a2 < IntKind.i64.wrap (a0 * a1) then a2 else IntKind.i64.wrap (a0 * a1))
def qdE.f (a0 : Int) (a1 : Int) (a2 : Int) : Option (Int × Int) := (qcr.f a0 a1).bind fun t1 => if t1 = 0 then (some (0,0)) else if a2 < 0 then (some (0,0)) else if a1 ≤ a2 then (some (0,0)) else (qb1.f t1 a2 a0).bind fun t2 => (qb1.f t1 (IntKind.i64.wrap (a2 + 1)) a0).bind fun t3 => some (t2,t3)
def qaD.l0 : Nat → Int → LI → Int → Int → Option (Int ⊕ Bool)
 | 0,_,_,_,_ => none
 | n + 1,x3,x9,x10,x11 => if x11 < x10 then (if 0 ≤ x11 ∧ x11 < (x9.length : Int) then if x9.getD x11.toNat 0 < 0 then (some (.inr false)) else if 32 < x9.getD x11.toNat 0 then (some (.inr false)) else qaD.l0 n (IntKind.i64.wrap (x3 * (x9.getD x11.toNat 0))) x9 x10 (IntKind.i64.wrap (x11 + 1)) else none) else some (.inl x3)
def qaD.f (k : Nat) (a0 : LI) : Option (Bool) := if 4 < (a0.length : Int) then (some false) else (qaD.l0 k 1 a0 (a0.length : Int) 0).bind fun t1 => Sum.elim (fun t1 => some (decide (t1 ≤ 4096))) (fun t1 => some t1) t1
def qax.l0 : Nat → LI → Int → Int → Int → Option (Unit ⊕ Int)
 | 0,_,_,_,_ => none
 | n + 1,x0,x1,x7,x8 => if x8 < x7 then (if 0 ≤ x8 ∧ x8 < (x0.length : Int) then if x1 = x0.getD x8.toNat 0 then (some (.inr x8)) else qax.l0 n x0 x1 x7 (IntKind.i64.wrap (x8 + 1)) else none) else some (.inl ())
def qax.f (k : Nat) (a0 : LI) (a1 : Int) : Option (Int) := (qax.l0 k a0 a1 (a0.length : Int) 0).bind fun t1 => Sum.elim (fun t1 => some (-1)) (fun t1 => some t1) t1
def qaV.f (k : Nat) (a0 : LI) (a1 : Int) : Option (Bool) := (qax.f k a0 a1).bind fun t1 => some (decide (0 ≤ t1))
def qaK.l0 (k : Nat) : Nat → LI → LI → LI → Int → Int → Option (Unit ⊕ Bool)
 | 0,_,_,_,_,_ => none
 | n + 1,x0,x1,x18,x19,x20 => if x20 < x19 then (if 0 ≤ x20 ∧ x20 < (x18.length : Int) then if x18.getD x20.toNat 0 < -1 then (some (.inr false)) else if (x0.length : Int) ≤ x18.getD x20.toNat 0 then (some (.inr false)) else if x18.getD x20.toNat 0 = -1 then (qaK.l0 k n x0 x1 x18 x19 (IntKind.i64.wrap (x20 + 1))) else if 0 ≤ ((0 : Nat) : Int) ∧ ((0 : Nat) : Int) ≤ x20 ∧ x20 ≤ (x1.length : Int) then (qaV.f k ((x1.take x20.toNat).drop 0) (x18.getD x20.toNat 0)).bind fun t2 => if t2 = true then (some (.inr false)) else qaK.l0 k n x0 x1 x18 x19 (IntKind.i64.wrap (x20 + 1)) else none else none) else some (.inl ())
def qaK.f (k : Nat) (a0 : LI) (a1 : LI) (a2 : Int) : Option (Bool) := (qaM.f k a0).bind fun t1 => if t1 = true then (if (a1.length : Int) = a2 then ((qaK.l0 k k a0 a1 a1 (a1.length : Int) 0).bind fun t3 => Sum.elim (fun t3 => some true) (fun t3 => some t3) t3) else some false) else some false
def qa2.l0 : Nat → LI → LI → LI → Int → Int → LI → (List (Int × Int)) → Option ((List (Int × Int)))
 | 0,_,_,_,_,_,_,_ => none
 | n + 1,x0,x1,x39,x40,x41,y0,y1 => if x41 < x40 then (if 0 ≤ x41 ∧ x41 < (x39.length : Int) then if 0 ≤ x41 ∧ x41 < (x0.length : Int) then if 0 ≤ x39.getD x41.toNat 0 then (if 0 ≤ x39.getD x41.toNat 0 ∧ x39.getD x41.toNat 0 < (x1.length : Int) then if 0 ≤ x39.getD x41.toNat 0 ∧ x39.getD x41.toNat 0 < (y0.length : Int) then if (x39.getD x41.toNat 0).toNat < y0.length then (qdE.f (x0.getD x41.toNat 0) (x1.getD (x39.getD x41.toNat 0).toNat 0) (y0.getD (x39.getD x41.toNat 0).toNat 0)).bind fun t5 => if y1.length + [(t5.1,t5.2)].length ≤ 281474976710656 ∧ (y1.length + [(t5.1,t5.2)].length) * 16 ≤ 140737488355328 then qa2.l0 n x0 x1 x39 x40 (IntKind.i64.wrap (x41 + 1)) y0 (y1 ++ [(t5.1,t5.2)]) else none else none else none else none) else if y1.length + [(0,x0.getD x41.toNat 0)].length ≤ 281474976710656 ∧ (y1.length + [(0,x0.getD x41.toNat 0)].length) * 16 ≤ 140737488355328 then qa2.l0 n x0 x1 x39 x40 (IntKind.i64.wrap (x41 + 1)) y0 (y1 ++ [(0,x0.getD x41.toNat 0)]) else none else none else none) else some y1
def qa2.f (k : Nat) (a0 : LI) (a1 : LI) (a2 : LI) (a3 : Int) : Option (Bool × (List (Int × Int))) := (qaD.f k a0).bind fun t1 => if t1 = true then ((qaK.f k a1 a2 (a0.length : Int)).bind fun t2 => if t2 = true then (if a3 < 0 then (some (false,[])) else (qaw.f k a1).bind fun t3 => if t3 ≤ a3 then (some (false,[])) else (qbF.f k a1 a3).bind fun t4 => (qa2.l0 k a0 a1 a2 (a2.length : Int) 0 t4 []).bind fun t6 => some (true,t6)) else some (false,[])) else some (false,[])
def qa5.l0 : Nat → Int → Int → LI → (List (Int × Int)) → Option (LI)
 | 0,_,_,_,_ => none
 | n + 1,x23,x24,y0,y1 => if x24 < x23 then (if 0 ≤ x24 ∧ x24 < (y1.length : Int) then if x24.toNat < y1.length then if y0.length + [IntKind.i64.wrap ((y1.getD x24.toNat (0,0)).2 - (y1.getD x24.toNat (0,0)).1)].length ≤ 281474976710656 ∧ (y0.length + [IntKind.i64.wrap ((y1.getD x24.toNat (0,0)).2 - (y1.getD x24.toNat (0,0)).1)].length) * 8 ≤ 140737488355328 then qa5.l0 n x23 (IntKind.i64.wrap (x24 + 1)) (y0 ++ [IntKind.i64.wrap ((y1.getD x24.toNat (0,0)).2 - (y1.getD x24.toNat (0,0)).1)]) y1 else none else none else none) else some y0
def qa5.f (k : Nat) (a0 : LI) (a1 : LI) (a2 : LI) (a3 : Int) : Option (LI) := (qa2.f k a0 a1 a2 a3).bind fun t1 => (qa5.l0 k (t1.2.length : Int) 0 [] t1.2).bind fun t2 => some t2
def qaY.l0 : Nat → Int → Int → LI → (List (Int × Int)) → Option (LI)
 | 0,_,_,_,_ => none
 | n + 1,x23,x24,y0,y1 => if x24 < x23 then (if 0 ≤ x24 ∧ x24 < (y1.length : Int) then if x24.toNat < y1.length then if y0.length + [(y1.getD x24.toNat (0,0)).1].length ≤ 281474976710656 ∧ (y0.length + [(y1.getD x24.toNat (0,0)).1].length) * 8 ≤ 140737488355328 then qaY.l0 n x23 (IntKind.i64.wrap (x24 + 1)) (y0 ++ [(y1.getD x24.toNat (0,0)).1]) y1 else none else none else none) else some y0
def qaY.f (k : Nat) (a0 : LI) (a1 : LI) (a2 : LI) (a3 : Int) : Option (LI) := (qa2.f k a0 a1 a2 a3).bind fun t1 => (qaY.l0 k (t1.2.length : Int) 0 [] t1.2).bind fun t2 => some t2
def qaC.f (a1 : Int) (o0_0 : LI) (o0_1 : Int) : Option (Int × Int) := if (o0_0.length : Int) ≤ o0_1 then (some (0,o0_1)) else if a1 < 1 then (some (0,o0_1)) else if 0 ≤ IntKind.i64.wrap ((IntKind.i64.wrap (o0_1 + 1)) - 1) ∧ IntKind.i64.wrap ((IntKind.i64.wrap (o0_1 + 1)) - 1) < (o0_0.length : Int) then (qcd.f (o0_0.getD (IntKind.i64.wrap ((IntKind.i64.wrap (o0_1 + 1)) - 1)).toNat 0) 0 1073741824).bind fun t1 => if a1 ≠ 0 then some (t1.tmod a1,IntKind.i64.wrap (o0_1 + 1)) else none else none
def qaz.l0 : Nat → Int → LI → Int → LI → Option (Int × LI)
 | 0,_,_,_,_ => none
 | n + 1,x4,y0_0,y0_1,y1 => if 0 < x4 then ((qaC.f 8 y0_0 y0_1).bind fun t2 => if 0 ≤ t2.1 ∧ t2.1 < (([1,2,3,4,5,0,7,2] : LI).length : Int) then if t2.1.toNat < ([1,2,3,4,5,0,7,2] : LI).length then if y1.length + [([1,2,3,4,5,0,7,2] : LI).getD t2.1.toNat 0].length ≤ 281474976710656 ∧ (y1.length + [([1,2,3,4,5,0,7,2] : LI).getD t2.1.toNat 0].length) * 8 ≤ 140737488355328 then qaz.l0 n (IntKind.i64.wrap (x4 - 1)) y0_0 t2.2 (y1 ++ [([1,2,3,4,5,0,7,2] : LI).getD t2.1.toNat 0]) else none else none else none) else some (y0_1,y1)
def qaz.f (k : Nat) (o0_0 : LI) (o0_1 : Int) : Option (Int × LI) := (qaC.f 4 o0_0 o0_1).bind fun t1 => (qaz.l0 k t1.1 o0_0 t1.2 []).bind fun t3 => some (t3.1,t3.2)
def qao.l0 : Nat → LI → Int → Int → LI → Int → LI → (List Bool) → Option (Int × LI)
 | 0,_,_,_,_,_,_,_ => none
 | n + 1,x1,x17,x18,y0_0,y0_1,y1,y2 => if x18 < x17 then (if 0 ≤ x18 ∧ x18 < (y1.length : Int) then if x18.toNat < y1.length then if 0 < (x1.length : Int) then ((qaC.f 2 y0_0 y0_1).bind fun t1 => if t1.1 = 0 then ((qaC.f (x1.length : Int) y0_0 t1.2).bind fun t2 => if 0 ≤ t2.1 ∧ t2.1 < (y2.length : Int) then if t2.1.toNat < y2.length then if (y2.getD t2.1.toNat false) = true then (qao.l0 n x1 x17 (IntKind.i64.wrap (x18 + 1)) y0_0 t2.2 (y1.set x18.toNat (-1)) y2) else if 0 ≤ x18 ∧ x18 < ((y1.set x18.toNat (-1)).length : Int) then if x18.toNat < (y1.set x18.toNat (-1)).length then qao.l0 n x1 x17 (IntKind.i64.wrap (x18 + 1)) y0_0 t2.2 ((y1.set x18.toNat (-1)).set x18.toNat t2.1) (y2.set t2.1.toNat true) else none else none else none else none) else qao.l0 n x1 x17 (IntKind.i64.wrap (x18 + 1)) y0_0 t1.2 (y1.set x18.toNat (-1)) y2) else qao.l0 n x1 x17 (IntKind.i64.wrap (x18 + 1)) y0_0 y0_1 (y1.set x18.toNat (-1)) y2 else none else none) else some (y0_1,y1)
def qao.f (k : Nat) (a1 : LI) (a2 : Int) (o0_0 : LI) (o0_1 : Int) : Option (Int × LI) := if 0 ≤ a2 ∧ a2 ≤ 281474976710656 ∧ ((8 : Nat) : Int) * a2 ≤ 140737488355328 then if 0 ≤ (a1.length : Int) ∧ (a1.length : Int) ≤ 281474976710656 ∧ ((1 : Nat) : Int) * (a1.length : Int) ≤ 140737488355328 then (qao.l0 k a1 ((List.replicate a2.toNat (0 : Int)).length : Int) 0 o0_0 o0_1 (List.replicate a2.toNat (0 : Int)) (List.replicate (a1.length : Int).toNat (false : Bool))).bind fun t3 => some (t3.1,t3.2) else none else none
def qay.l1 : Nat → LI → LI → Int → Int → Int → Int → Option (Unit ⊕ Bool)
 | 0,_,_,_,_,_,_ => none
 | n + 1,x0,x1,x7,x8,x19,x20 => if x8 < x7 then (if 0 ≤ x8 ∧ x8 < (x1.length : Int) then if 0 ≤ x7 ∧ x7 < (x1.length : Int) then if x1.getD x8.toNat 0 = x1.getD x7.toNat 0 then (if 0 ≤ x1.getD x7.toNat 0 then (some (.inr false)) else qay.l1 n x0 x1 x7 (IntKind.i64.wrap (x8 + 1)) x19 x20) else qay.l1 n x0 x1 x7 (IntKind.i64.wrap (x8 + 1)) x19 x20 else none else none) else some (.inl ())
def qay.l0 (k : Nat) : Nat → LI → LI → Int → Int → Option (Unit ⊕ Bool)
 | 0,_,_,_,_ => none
 | n + 1,x0,x1,x19,x20 => if x20 < x19 then (if 0 ≤ x20 ∧ x20 < (x1.length : Int) then if x1.getD x20.toNat 0 < -1 then (some (.inr false)) else if (x0.length : Int) ≤ x1.getD x20.toNat 0 then (some (.inr false)) else (qay.l1 n x0 x1 x20 0 x19 x20).bind fun t2 => Sum.elim (fun t2 => qay.l0 k n x0 x1 x19 (IntKind.i64.wrap (x20 + 1))) (fun t2 => some (.inr t2)) t2 else none) else some (.inl ())
def qay.f (k : Nat) (a0 : LI) (a1 : LI) (a2 : Int) : Option (Bool) := (qaF.f k a0).bind fun t1 => if t1 = true then (if (a1.length : Int) = a2 then ((qay.l0 k k a0 a1 (a1.length : Int) 0).bind fun t3 => Sum.elim (fun t3 => some true) (fun t3 => some t3) t3) else some false) else some false
end Go.Pf

namespace Go.Pf
open Go
def qaE.l0 : Nat → LI → Int → Int → Option (Int ⊕ Bool)
 | 0,_,_,_ => none
 | n + 1,x0,x3,x4 => if x4 < (x0.length : Int) then (if 0 ≤ x4 ∧ x4 < (x0.length : Int) then if x0.getD x4.toNat 0 < 0 then (some (.inr false)) else if 32 < x0.getD x4.toNat 0 then (some (.inr false)) else if 4 ≤ x4 then (some (.inr false)) else qaE.l0 n x0 (IntKind.i64.wrap (x3 * (x0.getD x4.toNat 0))) (IntKind.i64.wrap (x4 + 1)) else none) else some (.inl x3)
def qaE.f (k : Nat) (a0 : LI) : Option (Bool) := (qaE.l0 k a0 1 0).bind fun t1 => Sum.elim (fun t1 => some (decide (t1 ≤ 4096))) (fun t1 => some t1) t1
def qa6.l0 : Nat → LI → Int → Int → Option (Int)
 | 0,_,_,_ => none
 | n + 1,x0,x3,x4 => if x4 < (x0.length : Int) then (if 0 ≤ x4 ∧ x4 < (x0.length : Int) then qa6.l0 n x0 (IntKind.i64.wrap (x3 * (x0.getD x4.toNat 0))) (IntKind.i64.wrap (x4 + 1)) else none) else some x3
def qa6.f (k : Nat) (a0 : LI) : Option (Int) := (qaE.f k a0).bind fun t1 => if t1 = true then ((qa6.l0 k a0 1 0).bind fun t2 => some t2) else some 0
def qa7.l0 (k : Nat) : Nat → LI → Int → Int → LI → LI → Option (LI)
 | 0,_,_,_,_,_ => none
 | n + 1,x0,x1,x6,y2,y3 => (qa6.f k x0).bind fun t1 => if x6 < t1 then (if y3.length + [x1].length ≤ 281474976710656 ∧ (y3.length + [x1].length) * 8 ≤ 140737488355328 then qa7.l0 k n x0 x1 (IntKind.i64.wrap (x6 + 1)) y2 (y3 ++ [x1]) else none) else some y3
def qa7.f (k : Nat) (a0 : LI) (a1 : Int) : Option LT := if 0 + a0.length ≤ 281474976710656 ∧ (0 + a0.length) * 8 ≤ 140737488355328 then (qa7.l0 k k a0 a1 0 ([] ++ a0) []).bind fun t2 => some ([] ++ a0,t2) else none
def qbk.f (o0_0 : LI) (o0_1 : Int) : Option (Int × Int) := (qaC.f 9 o0_0 o0_1).bind fun t1 => if t1.1 = 0 then ((qaC.f 6 o0_0 t1.2).bind fun t2 => if 0 ≤ t2.1 ∧ t2.1 < (([9223372036854775807,-9223372036854775808,4611686018427387904,-1099511627776,8589934592,3037000500] : LI).length : Int) then if t2.1.toNat < ([9223372036854775807,-9223372036854775808,4611686018427387904,-1099511627776,8589934592,3037000500] : LI).length then some (([9223372036854775807,-9223372036854775808,4611686018427387904,-1099511627776,8589934592,3037000500] : LI).getD t2.1.toNat 0,t2.2) else none else none) else if t1.1 = 1 then (some (0,t1.2)) else (qaC.f 19 o0_0 t1.2).bind fun t3 => some (IntKind.i64.wrap (t3.1 - 9),t3.2)
def qav.l0 : Nat → Int → Int → LI → Int → LI → LI → Option (Int × LI)
 | 0,_,_,_,_,_,_ => none
 | n + 1,x11,x12,y0_0,y0_1,y3,y4 => if x12 < x11 then ((qbk.f y0_0 y0_1).bind fun t2 => if 0 ≤ x12 ∧ x12 < (y4.length : Int) then if x12.toNat < y4.length then qav.l0 n x11 (IntKind.i64.wrap (x12 + 1)) y0_0 t2.2 y3 (y4.set x12.toNat t2.1) else none else none) else some (y0_1,y4)
def qav.f (k : Nat) (a1 : LI) (o0_0 : LI) (o0_1 : Int) : Option (Int × LI × LI) := (qa7.f k a1 0).bind fun t1 => (qav.l0 k (t1.2.length : Int) 0 o0_0 o0_1 t1.1 t1.2).bind fun t3 => some (t3.1,t1.1,t3.2)
def qaR.l0 : Nat → Int → LI → Int → Int → Option (Int)
 | 0,_,_,_,_ => none
 | n + 1,x3,x9,x10,x11 => if x11 < x10 then (if 0 ≤ x11 ∧ x11 < (x9.length : Int) then qaR.l0 n (IntKind.i64.wrap (x3 * (x9.getD x11.toNat 0))) x9 x10 (IntKind.i64.wrap (x11 + 1)) else none) else some x3
def qaR.f (k : Nat) (a0 : LI) : Option (Int) := (qaD.f k a0).bind fun t1 => if t1 = true then ((qaR.l0 k 1 a0 (a0.length : Int) 0).bind fun t2 => some t2) else some 0
def qbg.f (k : Nat) (a0_0 : LI) (a0_1 : LI) : Option (Bool) := (qaD.f k a0_0).bind fun t1 => if t1 = true then ((qaR.f k a0_0).bind fun t2 => some (decide ((a0_1.length : Int) = t2))) else some false
def qa0.f (a0 : LI) : Option (LI) := if 0 + a0.length ≤ 281474976710656 ∧ (0 + a0.length) * 8 ≤ 140737488355328 then some ([] ++ a0) else none
def qaH.l0 : Nat → LI → Int → Int → LI → Option (LI)
 | 0,_,_,_,_ => none
 | n + 1,x0,x1,x6,y0 => if 0 ≤ x6 then (if 0 ≤ x6 ∧ x6 < (x0.length : Int) then if x0.getD x6.toNat 0 ≠ 0 then if 0 ≤ x6 ∧ x6 < (y0.length : Int) then if x6.toNat < y0.length then qaH.l0 n x0 (IntKind.i64.wrap (x1.tdiv (x0.getD x6.toNat 0))) (IntKind.i64.wrap (x6 - 1)) (y0.set x6.toNat (x1.tmod (x0.getD x6.toNat 0))) else none else none else none else none) else some y0
def qaH.f (k : Nat) (a0 : LI) (a1 : Int) : Option (LI) := if a1 < 0 then (some []) else (qaR.f k a0).bind fun t1 => if t1 ≤ a1 then (some []) else if 0 ≤ (a0.length : Int) ∧ (a0.length : Int) ≤ 281474976710656 ∧ ((8 : Nat) : Int) * (a0.length : Int) ≤ 140737488355328 then (qaH.l0 k a0 a1 (IntKind.i64.wrap ((a0.length : Int) - 1)) (List.replicate (a0.length : Int).toNat (0 : Int))).bind fun t2 => some t2 else none
def qaP.l0 : Nat → LI → Int → LI → Int → Int → Option (Int ⊕ Int)
 | 0,_,_,_,_,_ => none
 | n + 1,x0,x5,x18,x19,x20 => if x20 < x19 then (if 0 ≤ x20 ∧ x20 < (x18.length : Int) then if x18.getD x20.toNat 0 < 0 then (some (.inr (-1))) else if 0 ≤ x20 ∧ x20 < (x0.length : Int) then if x0.getD x20.toNat 0 ≤ x18.getD x20.toNat 0 then (some (.inr (-1))) else qaP.l0 n x0 (IntKind.i64.wrap ((IntKind.i64.wrap (x5 * (x0.getD x20.toNat 0))) + (x18.getD x20.toNat 0))) x18 x19 (IntKind.i64.wrap (x20 + 1)) else none else none) else some (.inl x5)
def qaP.f (k : Nat) (a0 : LI) (a1 : LI) : Option (Int) := (qaD.f k a0).bind fun t1 => if t1 = true then (if (a1.length : Int) = (a0.length : Int) then ((qaP.l0 k a0 0 a1 (a1.length : Int) 0).bind fun t2 => Sum.elim (fun t2 => some t2) (fun t2 => some t2) t2) else some (-1)) else some (-1)
def qbP.f (k : Nat) (a0_0 : LI) (a0_1 : LI) (a1 : LI) : Option (Int) := (qbg.f k a0_0 a0_1).bind fun t1 => if t1 = true then ((qaP.f k a0_0 a1).bind fun t2 => some t2) else some (-1)
def qcs.f (k : Nat) (a0_0 : LI) (a0_1 : LI) (a1 : LI) : Option (Int × Bool) := (qbP.f k a0_0 a0_1 a1).bind fun t1 => if t1 < 0 then (some (0,false)) else if 0 ≤ t1 ∧ t1 < (a0_1.length : Int) then some (a0_1.getD t1.toNat 0,true) else none
def qfU.f (k : Nat) (a0_0 : LI) (a0_1 : LI) (a1 : LI) : Option (Int) := (qcs.f k a0_0 a0_1 a1).bind fun t1 => some t1.1
def qhU.l0 : Nat → LI → Int → Int → LI → LI → LI → LI → LI → Option (LI)
 | 0,_,_,_,_,_,_,_,_ => none
 | n + 1,x8,x9,x10,y0,y1,y3_0,y3_1,y4 => if x10 < x9 then (if 0 ≤ x10 ∧ x10 < (x8.length : Int) then if 0 ≤ x10 ∧ x10 < (y0.length : Int) then if x10.toNat < y0.length then if 0 ≤ x8.getD x10.toNat 0 ∧ x8.getD x10.toNat 0 < (y4.length : Int) then if (x8.getD x10.toNat 0).toNat < y4.length then qhU.l0 n x8 x9 (IntKind.i64.wrap (x10 + 1)) y0 y1 y3_0 y3_1 (y4.set (x8.getD x10.toNat 0).toNat (y0.getD x10.toNat 0)) else none else none else none else none else none) else some y4
def qaX.l0 : Nat → LI → LI → LI → Int → Int → Option (Unit ⊕ Int)
 | 0,_,_,_,_,_ => none
 | n + 1,x1,x2,x21,x22,x23 => if x23 < x22 then (if 0 ≤ x23 ∧ x23 < (x21.length : Int) then if 0 ≤ x23 ∧ x23 < (x1.length : Int) then if x1.getD x23.toNat 0 < 0 then (some (.inr 1)) else if x21.getD x23.toNat 0 < x1.getD x23.toNat 0 then (some (.inr 1)) else if 0 ≤ x23 ∧ x23 < (x2.length : Int) then if x2.getD x23.toNat 0 < 0 then (some (.inr 1)) else if IntKind.i64.wrap ((x21.getD x23.toNat 0) - (x1.getD x23.toNat 0)) < x2.getD x23.toNat 0 then (some (.inr 1)) else qaX.l0 n x1 x2 x21 x22 (IntKind.i64.wrap (x23 + 1)) else none else none else none) else some (.inl ())
def qaX.f (k : Nat) (a0 : LI) (a1 : LI) (a2 : LI) : Option (Int) := if (a1.length : Int) = (a0.length : Int) then (if (a2.length : Int) = (a0.length : Int) then ((qaX.l0 k a1 a2 a0 (a0.length : Int) 0).bind fun t1 => Sum.elim (fun t1 => some 0) (fun t1 => some t1) t1) else some 1) else some 1
def qaN.l0 : Nat → LI → Int → Int → LI → LI → LI → LI → Option (LI)
 | 0,_,_,_,_,_,_,_ => none
 | n + 1,x7,x8,x9,y0,y1,y2_0,y2_1 => if x9 < x8 then (if 0 ≤ x9 ∧ x9 < (x7.length : Int) then if 0 ≤ x9 ∧ x9 < (y0.length : Int) then if x9.toNat < y0.length then qaN.l0 n x7 x8 (IntKind.i64.wrap (x9 + 1)) (y0.set x9.toNat (IntKind.i64.wrap ((y0.getD x9.toNat 0) + (x7.getD x9.toNat 0)))) y1 y2_0 y2_1 else none else none else none) else some y0
def qaN.f (k : Nat) (o0 : LI) (o1 : LI) (o2_0 : LI) (o2_1 : LI) : Option (Int × LI) := (qaN.l0 k o1 (o1.length : Int) 0 o0 o1 o2_0 o2_1).bind fun t1 => (qfU.f k o2_0 o2_1 t1).bind fun t2 => some (t2,t1)
def qaf.l0 (k : Nat) : Nat → LI → Int → Int → LI → LI → LI → LI → LI → Option (LI)
 | 0,_,_,_,_,_,_,_,_ => none
 | n + 1,x0,x15,x16,y0,y1_0,y1_1,y4,y5 => if x16 < x15 then ((qaH.f k x0 x16).bind fun t3 => (qaN.f k t3 y0 y1_0 y1_1).bind fun t4 => if 0 ≤ x16 ∧ x16 < (y5.length : Int) then if x16.toNat < y5.length then qaf.l0 k n x0 x15 (IntKind.i64.wrap (x16 + 1)) y0 y1_0 y1_1 y4 (y5.set x16.toNat t4.1) else none else none) else some y5
def qaf.f (k : Nat) (a0 : LI) (o0 : LI) (o1_0 : LI) (o1_1 : LI) : Option LT := (qa0.f a0).bind fun t1 => (qaR.f k a0).bind fun t2 => if 0 ≤ t2 ∧ t2 ≤ 281474976710656 ∧ ((8 : Nat) : Int) * t2 ≤ 140737488355328 then (qaf.l0 k k a0 ((List.replicate t2.toNat (0 : Int)).length : Int) 0 o0 o1_0 o1_1 t1 (List.replicate t2.toNat (0 : Int))).bind fun t5 => some (t1,t5) else none
def qcz.f (k : Nat) (a0_0 : LI) (a0_1 : LI) (a1 : LI) (a2 : LI) : Option (Int × LI × LI) := (qbg.f k a0_0 a0_1).bind fun t1 => if t1 = true then ((qaX.f k a0_0 a1 a2).bind fun t2 => if t2 = 0 then ((qaf.f k a2 a1 a0_0 a0_1).bind fun t3 => some (0,t3.1,t3.2)) else some (t2,[],[])) else some (13,[],[])
def qaT.l0 : Nat → LI → LI → Int → Option (Unit ⊕ Bool)
 | 0,_,_,_ => none
 | n + 1,x0,x1,x5 => if x5 < (x0.length : Int) then (if 0 ≤ x5 ∧ x5 < (x0.length : Int) then if 0 ≤ x5 ∧ x5 < (x1.length : Int) then if x0.getD x5.toNat 0 = x1.getD x5.toNat 0 then (qaT.l0 n x0 x1 (IntKind.i64.wrap (x5 + 1))) else some (.inr false) else none else none) else some (.inl ())
def qaT.f (k : Nat) (a0 : LI) (a1 : LI) : Option (Bool) := if (a0.length : Int) = (a1.length : Int) then ((qaT.l0 k a0 a1 0).bind fun t1 => Sum.elim (fun t1 => some true) (fun t1 => some t1) t1) else some false
def qaG.l0 : Nat → Int → LI → LI → LI → LI → Option (Unit ⊕ Bool)
 | 0,_,_,_,_,_ => none
 | n + 1,x5,y0_0,y0_1,y1_0,y1_1 => if x5 < (y0_1.length : Int) then (if 0 ≤ x5 ∧ x5 < (y0_1.length : Int) then if 0 ≤ x5 ∧ x5 < (y1_1.length : Int) then if y0_1.getD x5.toNat 0 = y1_1.getD x5.toNat 0 then (qaG.l0 n (IntKind.i64.wrap (x5 + 1)) y0_0 y0_1 y1_0 y1_1) else some (.inr false) else none else none) else some (.inl ())
def qaG.f (k : Nat) (a0_0 : LI) (a0_1 : LI) (a1_0 : LI) (a1_1 : LI) : Option (Bool) := (qaT.f k a0_0 a1_0).bind fun t1 => if t1 = true then (if (a0_1.length : Int) = (a1_1.length : Int) then ((qaG.l0 k 0 a0_0 a0_1 a1_0 a1_1).bind fun t2 => Sum.elim (fun t2 => some true) (fun t2 => some t2) t2) else some false) else some false
def qbt.f (k : Nat) (a0_0 : LI) (a0_1 : LI) : Option (Bool) := (qaE.f k a0_0).bind fun t1 => if t1 = true then ((qa6.f k a0_0).bind fun t2 => some (decide ((a0_1.length : Int) = t2))) else some false
def qaW.l0 : Nat → LI → Int → Int → LI → Option (LI)
 | 0,_,_,_,_ => none
 | n + 1,x0,x1,x6,y0 => if 0 ≤ x6 then (if 0 ≤ x6 ∧ x6 < (x0.length : Int) then if x0.getD x6.toNat 0 ≠ 0 then if 0 ≤ x6 ∧ x6 < (y0.length : Int) then if x6.toNat < y0.length then qaW.l0 n x0 (IntKind.i64.wrap (x1.tdiv (x0.getD x6.toNat 0))) (IntKind.i64.wrap (x6 - 1)) (y0.set x6.toNat (x1.tmod (x0.getD x6.toNat 0))) else none else none else none else none) else some y0
def qaW.f (k : Nat) (a0 : LI) (a1 : Int) : Option (LI) := if a1 < 0 then (some []) else (qa6.f k a0).bind fun t1 => if t1 ≤ a1 then (some []) else if 0 ≤ (a0.length : Int) ∧ (a0.length : Int) ≤ 281474976710656 ∧ ((8 : Nat) : Int) * (a0.length : Int) ≤ 140737488355328 then (qaW.l0 k a0 a1 (IntKind.i64.wrap ((a0.length : Int) - 1)) (List.replicate (a0.length : Int).toNat (0 : Int))).bind fun t2 => some t2 else none
def qaZ.l0 : Nat → LI → LI → Int → Int → Option (Int ⊕ Int)
 | 0,_,_,_,_ => none
 | n + 1,x0,x1,x5,x6 => if x6 < (x0.length : Int) then (if 0 ≤ x6 ∧ x6 < (x1.length : Int) then if x1.getD x6.toNat 0 < 0 then (some (.inr (-1))) else if 0 ≤ x6 ∧ x6 < (x0.length : Int) then if x0.getD x6.toNat 0 ≤ x1.getD x6.toNat 0 then (some (.inr (-1))) else qaZ.l0 n x0 x1 (IntKind.i64.wrap ((IntKind.i64.wrap (x5 * (x0.getD x6.toNat 0))) + (x1.getD x6.toNat 0))) (IntKind.i64.wrap (x6 + 1)) else none else none) else some (.inl x5)
def qaZ.f (k : Nat) (a0 : LI) (a1 : LI) : Option (Int) := (qaE.f k a0).bind fun t1 => if t1 = true then (if (a1.length : Int) = (a0.length : Int) then ((qaZ.l0 k a0 a1 0 0).bind fun t2 => Sum.elim (fun t2 => some t2) (fun t2 => some t2) t2) else some (-1)) else some (-1)
def qbI.f (k : Nat) (a0_0 : LI) (a0_1 : LI) (a1 : LI) : Option (Int) := (qaZ.f k a0_0 a1).bind fun t1 => if 0 ≤ t1 ∧ t1 < (a0_1.length : Int) then some (a0_1.getD t1.toNat 0) else none
def qbz.l0 : Nat → LI → LI → Int → Int → LI → LI → Option (Unit ⊕ Int)
 | 0,_,_,_,_,_,_ => none
 | n + 1,x1,x2,x31,x32,y0_0,y0_1 => if x32 < x31 then (if 0 ≤ x32 ∧ x32 < (x2.length : Int) then if x2.getD x32.toNat 0 < 0 then (some (.inr 1)) else if (x1.length : Int) ≤ x2.getD x32.toNat 0 then (some (.inr 1)) else if 0 < x32 then (if 0 ≤ IntKind.i64.wrap (x32 - 1) ∧ IntKind.i64.wrap (x32 - 1) < (x2.length : Int) then if x2.getD x32.toNat 0 ≤ x2.getD (IntKind.i64.wrap (x32 - 1)).toNat 0 then (some (.inr 1)) else if 0 ≤ x2.getD x32.toNat 0 ∧ x2.getD x32.toNat 0 < (x1.length : Int) then if 0 ≤ x32 ∧ x32 < (y0_0.length : Int) then if x1.getD (x2.getD x32.toNat 0).toNat 0 = y0_0.getD x32.toNat 0 then (qbz.l0 n x1 x2 x31 (IntKind.i64.wrap (x32 + 1)) y0_0 y0_1) else some (.inr 1) else none else none else none) else if 0 ≤ x2.getD x32.toNat 0 ∧ x2.getD x32.toNat 0 < (x1.length : Int) then if 0 ≤ x32 ∧ x32 < (y0_0.length : Int) then if x1.getD (x2.getD x32.toNat 0).toNat 0 = y0_0.getD x32.toNat 0 then (qbz.l0 n x1 x2 x31 (IntKind.i64.wrap (x32 + 1)) y0_0 y0_1) else some (.inr 1) else none else none else none) else some (.inl ())
def qbz.l2 : Nat → LI → LI → Int → Int → Int → Int → Int → LI → LI → LI → LI → LI → LI → Option (LI)
 | 0,_,_,_,_,_,_,_,_,_,_,_,_,_ => none
 | n + 1,x1,x2,x10,x86,x87,x94,x95,y0_0,y0_1,y3,y4,y5,y6 => if x95 < x94 then (if 0 ≤ x95 ∧ x95 < (x2.length : Int) then if 0 ≤ x2.getD x95.toNat 0 ∧ x2.getD x95.toNat 0 < (y3.length : Int) then if (x2.getD x95.toNat 0).toNat < y3.length then if y4.length + [y3.getD (x2.getD x95.toNat 0).toNat 0].length ≤ 281474976710656 ∧ (y4.length + [y3.getD (x2.getD x95.toNat 0).toNat 0].length) * 8 ≤ 140737488355328 then qbz.l2 n x1 x2 x10 x86 x87 x94 (IntKind.i64.wrap (x95 + 1)) y0_0 y0_1 y3 (y4 ++ [y3.getD (x2.getD x95.toNat 0).toNat 0]) y5 y6 else none else none else none else none) else some y4
def qbz.l1 (k : Nat) : Nat → LI → LI → Int → Int → LI → LI → LI → LI → Option (LI)
 | 0,_,_,_,_,_,_,_,_ => none
 | n + 1,x1,x2,x86,x87,y0_0,y0_1,y3,y4 => if x87 < x86 then ((qaW.f k x1 x87).bind fun t5 => (qbz.l2 n x1 x2 x87 x86 x87 (x2.length : Int) 0 y0_0 y0_1 t5 [] y3 y4).bind fun t6 => (qbI.f k y0_0 y0_1 t6).bind fun t7 => if 0 ≤ x87 ∧ x87 < (y4.length : Int) then if x87.toNat < y4.length then qbz.l1 k n x1 x2 x86 (IntKind.i64.wrap (x87 + 1)) y0_0 y0_1 y3 (y4.set x87.toNat t7) else none else none) else some y4
def qam.l0 : Nat → LI → LI → Int → Int → LI → LI → Option (Unit ⊕ Int)
 | 0,_,_,_,_,_,_ => none
 | n + 1,x1,x2,x33,x34,y0_0,y0_1 => if x34 < x33 then (if 0 ≤ x34 ∧ x34 < (x1.length : Int) then if x1.getD x34.toNat 0 < 0 then (some (.inr 1)) else if 0 ≤ x34 ∧ x34 < (x2.length : Int) then if x2.getD x34.toNat 0 < 0 then (some (.inr 1)) else if 0 ≤ x34 ∧ x34 < (y0_0.length : Int) then if y0_0.getD x34.toNat 0 < x1.getD x34.toNat 0 then (some (.inr 1)) else if IntKind.i64.wrap ((y0_0.getD x34.toNat 0) - (x1.getD x34.toNat 0)) < x2.getD x34.toNat 0 then (some (.inr 1)) else qam.l0 n x1 x2 x33 (IntKind.i64.wrap (x34 + 1)) y0_0 y0_1 else none else none else none) else some (.inl ())
def qam.l2 : Nat → LI → LI → Int → Int → Int → Int → Int → LI → LI → LI → LI → LI → Option (LI)
 | 0,_,_,_,_,_,_,_,_,_,_,_,_ => none
 | n + 1,x1,x2,x10,x84,x85,x92,x93,y0_0,y0_1,y3,y4,y5 => if x93 < x92 then (if 0 ≤ x93 ∧ x93 < (y3.length : Int) then if x93.toNat < y3.length then if 0 ≤ x93 ∧ x93 < (x1.length : Int) then qam.l2 n x1 x2 x10 x84 x85 x92 (IntKind.i64.wrap (x93 + 1)) y0_0 y0_1 (y3.set x93.toNat (IntKind.i64.wrap ((y3.getD x93.toNat 0) + (x1.getD x93.toNat 0)))) y4 y5 else none else none else none) else some y3
def qam.l1 (k : Nat) : Nat → LI → LI → Int → Int → LI → LI → LI → LI → Option (LI)
 | 0,_,_,_,_,_,_,_,_ => none
 | n + 1,x1,x2,x84,x85,y0_0,y0_1,y3,y4 => if x85 < x84 then ((qaW.f k x2 x85).bind fun t4 => (qam.l2 n x1 x2 x85 x84 x85 (t4.length : Int) 0 y0_0 y0_1 t4 y3 y4).bind fun t5 => (qbI.f k y0_0 y0_1 t5).bind fun t6 => if 0 ≤ x85 ∧ x85 < (y4.length : Int) then if x85.toNat < y4.length then qam.l1 k n x1 x2 x84 (IntKind.i64.wrap (x85 + 1)) y0_0 y0_1 y3 (y4.set x85.toNat t6) else none else none) else some y4
def qam.f (k : Nat) (a0_0 : LI) (a0_1 : LI) (a1 : LI) (a2 : LI) : Option (Int × LI × LI) := (qbt.f k a0_0 a0_1).bind fun t1 => if t1 = true then (if (a1.length : Int) = (a0_0.length : Int) then (if (a2.length : Int) = (a0_0.length : Int) then ((qam.l0 k a1 a2 (a1.length : Int) 0 a0_0 a0_1).bind fun t2 => Sum.elim (fun t2 => (qa7.f k a2 0).bind fun t3 => (qam.l1 k k a1 a2 (t3.2.length : Int) 0 a0_0 a0_1 t3.1 t3.2).bind fun t7 => some (0,t3.1,t7)) (fun t2 => some (t2,[],[])) t2) else some (1,[],[])) else some (1,[],[])) else some (13,[],[])
end Go.Pf

namespace Go.Pf
open Go
def qf1.l0 : Nat → LI → LI → Int → Int → LI → Option (LI)
 | 0,_,_,_,_,_ => none
 | n + 1,x0,x17,x18,x19,y0 => if x19 < x18 then (if 0 ≤ x19 ∧ x19 < (x17.length : Int) then if 0 ≤ x19 ∧ x19 < (y0.length : Int) then if x19.toNat < y0.length then if x17.getD x19.toNat 0 = -1 then (qf1.l0 n x0 x17 x18 (IntKind.i64.wrap (x19 + 1)) (y0.set x19.toNat 1)) else if 0 ≤ x17.getD x19.toNat 0 ∧ x17.getD x19.toNat 0 < (x0.length : Int) then if 0 ≤ x19 ∧ x19 < ((y0.set x19.toNat 1).length : Int) then if x19.toNat < (y0.set x19.toNat 1).length then qf1.l0 n x0 x17 x18 (IntKind.i64.wrap (x19 + 1)) ((y0.set x19.toNat 1).set x19.toNat (x0.getD (x17.getD x19.toNat 0).toNat 0)) else none else none else none else none else none else none) else some y0
def qaU.l0 (k : Nat) : Nat → LI → LI → Int → Int → LI → Option (LI)
 | 0,_,_,_,_,_ => none
 | n + 1,x0,x1,x29,x30,y0 => if x30 < x29 then ((qaV.f k x1 x30).bind fun t4 => if t4 = true then (qaU.l0 k n x0 x1 x29 (IntKind.i64.wrap (x30 + 1)) y0) else if 0 ≤ x30 ∧ x30 < (y0.length : Int) then if x30.toNat < y0.length then qaU.l0 k n x0 x1 x29 (IntKind.i64.wrap (x30 + 1)) (y0.set x30.toNat 0) else none else none) else some y0
def qaU.f (k : Nat) (a0 : LI) (a1 : LI) (a2 : Int) : Option (Int) := (qaK.f k a0 a1 (a1.length : Int)).bind fun t1 => if t1 = true then (if a2 < 0 then (some (-1)) else (qaw.f k a0).bind fun t2 => if t2 ≤ a2 then (some (-1)) else (qbF.f k a0 a2).bind fun t3 => (qaU.l0 k k a0 a1 (t3.length : Int) 0 t3).bind fun t5 => (qbE.f k a0 t5).bind fun t6 => some t6) else some (-1)
def qan.l1 : Nat → LI → LI → Int → Bool → Int → Int → Int → Int → LI → Option (Bool)
 | 0,_,_,_,_,_,_,_,_,_ => none
 | n + 1,x0,x1,x8,x9,x31,x32,x36,x37,y0 => if x37 < x36 then (if x9 = true then (qan.l1 n x0 x1 x8 true x31 x32 x36 (IntKind.i64.wrap (x37 + 1)) y0) else if 0 ≤ x37 ∧ x37 < (x1.length : Int) then qan.l1 n x0 x1 x8 (decide (x1.getD x37.toNat 0 = x8)) x31 x32 x36 (IntKind.i64.wrap (x37 + 1)) y0 else none) else some x9
def qan.l0 (k : Nat) : Nat → LI → LI → Int → Int → LI → Option (LI)
 | 0,_,_,_,_,_ => none
 | n + 1,x0,x1,x31,x32,y0 => if x32 < x31 then ((qan.l1 n x0 x1 x32 false x31 x32 (x1.length : Int) 0 y0).bind fun t4 => if t4 = true then (qan.l0 k n x0 x1 x31 (IntKind.i64.wrap (x32 + 1)) y0) else if 0 ≤ x32 ∧ x32 < (y0.length : Int) then if x32.toNat < y0.length then qan.l0 k n x0 x1 x31 (IntKind.i64.wrap (x32 + 1)) (y0.set x32.toNat 0) else none else none) else some y0
def qan.f (k : Nat) (a0 : LI) (a1 : LI) (a2 : Int) : Option (Int) := if a2 < 0 then (some (-1)) else (qaq.f k a0).bind fun t1 => if t1 ≤ a2 then (some (-1)) else (qay.f k a0 a1 (a1.length : Int)).bind fun t2 => if t2 = true then ((qbp.f k a0 a2).bind fun t3 => (qan.l0 k k a0 a1 (t3.length : Int) 0 t3).bind fun t5 => (qbo.f k a0 t5).bind fun t6 => some t6) else some (-1)
def qau.l0 : Nat → LI → LI → Int → Int → Option (Unit ⊕ Bool)
 | 0,_,_,_,_ => none
 | n + 1,x0,x1,x12,x13 => if x13 < x12 then (if 0 ≤ x13 ∧ x13 < (x0.length : Int) then if 0 ≤ x13 ∧ x13 < (x1.length : Int) then if x0.getD x13.toNat 0 = x1.getD x13.toNat 0 then (qau.l0 n x0 x1 x12 (IntKind.i64.wrap (x13 + 1))) else some (.inr false) else none else none) else some (.inl ())
def qau.f (k : Nat) (a0 : LI) (a1 : LI) : Option (Bool) := if (a0.length : Int) = (a1.length : Int) then ((qau.l0 k a0 a1 (a0.length : Int) 0).bind fun t1 => Sum.elim (fun t1 => some true) (fun t1 => some t1) t1) else some false
end Go.Pf

namespace Go.Pf
open Go
def qb5.f (k : Nat) (a0 : LI) : Option (LI × LI × LI × LI) := (qaC.f 7 a0 0).bind fun t1 => if 0 ≤ t1.1 ∧ t1.1 < ([([2] : LI),([2,4] : LI),([3,2] : LI),([2,2,2] : LI),[],([5] : LI),([2,2] : LI)].length : Int) then if t1.1.toNat < [([2] : LI),([2,4] : LI),([3,2] : LI),([2,2,2] : LI),[],([5] : LI),([2,2] : LI)].length then (qaz.f k a0 t1.2).bind fun t2 => (qav.f k t2.2 a0 t2.1).bind fun t3 => (qao.f k ([([2] : LI),([2,4] : LI),([3,2] : LI),([2,2,2] : LI),[],([5] : LI),([2,2] : LI)].getD t1.1.toNat []) (t3.2.1.length : Int) a0 t3.1).bind fun t4 => some ([([2] : LI),([2,4] : LI),([3,2] : LI),([2,2,2] : LI),[],([5] : LI),([2,2] : LI)].getD t1.1.toNat [],t3.2.1,t3.2.2,t4.2) else none else none
def qct.f (k : Nat) (a0_0 : LI) (a0_1 : LI) (a1 : LI) (a2 : LI) : Option (Int) := (qbg.f k a0_0 a0_1).bind fun t1 => if t1 = true then ((qaM.f k a1).bind fun t2 => if t2 = true then ((qaK.f k a1 a2 (a0_0.length : Int)).bind fun t3 => if t3 = true then (some 0) else some 1) else some 1) else some 13
def qb2.f (k : Nat) (a0_0 : LI) (a0_1 : LI) (a1 : LI) (a2 : LI) (a3 : Int) : Option (Int × LI × LI) := (qct.f k a0_0 a0_1 a1 a2).bind fun t1 => if t1 = 0 then (if a3 < 0 then (some (23,[],[])) else (qaw.f k a1).bind fun t2 => if t2 ≤ a3 then (some (23,[],[])) else (qaY.f k a0_0 a1 a2 a3).bind fun t3 => (qa5.f k a0_0 a1 a2 a3).bind fun t4 => (qcz.f k a0_0 a0_1 t3 t4).bind fun t5 => some (t5.1,t5.2.1,t5.2.2)) else some (t1,[],[])
def qbR.f (k : Nat) (a0 : LI) (a1 : LI) (a2 : LI) : Option (Bool) := (qaE.f k a0).bind fun t1 => if t1 = true then ((qaF.f k a1).bind fun t2 => if t2 = true then ((qay.f k a1 a2 (a0.length : Int)).bind fun t3 => some t3) else some false) else some false
def qdr.f (a0 : Int) (a1 : Int) : Option (Int) := if a0 < 0 then (some 0) else if a1 < 1 then (some 0) else if a1 ≠ 0 then if 0 < a0.tmod a1 then (some (IntKind.i64.wrap ((IntKind.i64.wrap (a0.tdiv a1)) + 1))) else some (IntKind.i64.wrap (a0.tdiv a1)) else none
def qcV.f (a0 : Int) (a1 : Int) (a2 : Int) : Option (Int × Int) := if a0 < 0 then (some (0,0)) else if a1 < 1 then (some (0,0)) else if a2 < 0 then (some (0,0)) else if a1 ≤ a2 then (some (0,0)) else (qdr.f a0 a1).bind fun t1 => if t1 = 0 then (if t1 ≤ IntKind.i64.wrap (a0 - (if a0 < IntKind.i64.wrap (a2 * t1) then a0 else IntKind.i64.wrap (a2 * t1))) then (some (if a0 < IntKind.i64.wrap (a2 * t1) then a0 else IntKind.i64.wrap (a2 * t1),IntKind.i64.wrap ((if a0 < IntKind.i64.wrap (a2 * t1) then a0 else IntKind.i64.wrap (a2 * t1)) + t1))) else some (if a0 < IntKind.i64.wrap (a2 * t1) then a0 else IntKind.i64.wrap (a2 * t1),a0)) else if t1 ≠ 0 then if a2 ≤ IntKind.i64.wrap (a0.tdiv t1) then (if t1 ≤ IntKind.i64.wrap (a0 - (if a0 < IntKind.i64.wrap (a2 * t1) then a0 else IntKind.i64.wrap (a2 * t1))) then (some (if a0 < IntKind.i64.wrap (a2 * t1) then a0 else IntKind.i64.wrap (a2 * t1),IntKind.i64.wrap ((if a0 < IntKind.i64.wrap (a2 * t1) then a0 else IntKind.i64.wrap (a2 * t1)) + t1))) else some (if a0 < IntKind.i64.wrap (a2 * t1) then a0 else IntKind.i64.wrap (a2 * t1),a0)) else if t1 ≤ IntKind.i64.wrap (a0 - a0) then (some (a0,IntKind.i64.wrap (a0 + t1))) else some (a0,a0) else none
def qaS.l0 : Nat → LI → LI → LI → Int → Int → LI → LI → LI → Option LT
 | 0,_,_,_,_,_,_,_,_ => none
 | n + 1,x0,x1,x2,x35,x36,y0,y1,y2 => if x36 < x35 then (if 0 ≤ x36 ∧ x36 < (x0.length : Int) then if 0 ≤ x36 ∧ x36 < (x2.length : Int) then if 0 ≤ x2.getD x36.toNat 0 then (if 0 ≤ x2.getD x36.toNat 0 ∧ x2.getD x36.toNat 0 < (x1.length : Int) then if 0 ≤ x2.getD x36.toNat 0 ∧ x2.getD x36.toNat 0 < (y0.length : Int) then if (x2.getD x36.toNat 0).toNat < y0.length then (qcV.f (x0.getD x36.toNat 0) (x1.getD (x2.getD x36.toNat 0).toNat 0) (y0.getD (x2.getD x36.toNat 0).toNat 0)).bind fun t4 => if y1.length + [t4.1].length ≤ 281474976710656 ∧ (y1.length + [t4.1].length) * 8 ≤ 140737488355328 then if y2.length + [IntKind.i64.wrap (t4.2 - t4.1)].length ≤ 281474976710656 ∧ (y2.length + [IntKind.i64.wrap (t4.2 - t4.1)].length) * 8 ≤ 140737488355328 then qaS.l0 n x0 x1 x2 x35 (IntKind.i64.wrap (x36 + 1)) y0 (y1 ++ [t4.1]) (y2 ++ [IntKind.i64.wrap (t4.2 - t4.1)]) else none else none else none else none else none) else if y1.length + ([0] : LI).length ≤ 281474976710656 ∧ (y1.length + ([0] : LI).length) * 8 ≤ 140737488355328 then if y2.length + [IntKind.i64.wrap ((x0.getD x36.toNat 0) - 0)].length ≤ 281474976710656 ∧ (y2.length + [IntKind.i64.wrap ((x0.getD x36.toNat 0) - 0)].length) * 8 ≤ 140737488355328 then qaS.l0 n x0 x1 x2 x35 (IntKind.i64.wrap (x36 + 1)) y0 (y1 ++ ([0] : LI)) (y2 ++ [IntKind.i64.wrap ((x0.getD x36.toNat 0) - 0)]) else none else none else none else none) else some (y1,y2)
def qaS.f (k : Nat) (a0 : LI) (a1 : LI) (a2 : LI) (a3 : Int) : Option LT := (qbR.f k a0 a1 a2).bind fun t1 => if t1 = true then (if a3 < 0 then (some ([],[])) else (qaq.f k a1).bind fun t2 => if t2 ≤ a3 then (some ([],[])) else (qbp.f k a1 a3).bind fun t3 => (qaS.l0 k a0 a1 a2 (a0.length : Int) 0 t3 [] []).bind fun t5 => some (t5.1,t5.2)) else some ([],[])
def qb4.f (k : Nat) (a0_0 : LI) (a0_1 : LI) (a1 : LI) (a2 : LI) (a3 : Int) : Option (Int × LI × LI) := (qbt.f k a0_0 a0_1).bind fun t1 => if t1 = true then ((qbR.f k a0_0 a1 a2).bind fun t2 => if t2 = true then (if a3 < 0 then (some (23,[],[])) else (qaq.f k a1).bind fun t3 => if t3 ≤ a3 then (some (23,[],[])) else (qaS.f k a0_0 a1 a2 a3).bind fun t4 => (qam.f k a0_0 a0_1 t4.1 t4.2).bind fun t5 => some (t5.1,t5.2.1,t5.2.2)) else some (1,[],[])) else some (13,[],[])
def qa9.l0 (k : Nat) : Nat → LI → LI → Int → Int → LI → LI → (List LT) → Option ((List LT) ⊕ Int)
 | 0,_,_,_,_,_,_,_ => none
 | n + 1,x1,x2,x21,x22,y0_0,y0_1,y1 => if x22 < x21 then ((qb2.f k y0_0 y0_1 x1 x2 x22).bind fun t3 => if t3.1 = 0 then (if y1.length + [(t3.2.1,t3.2.2)].length ≤ 281474976710656 ∧ (y1.length + [(t3.2.1,t3.2.2)].length) * 48 ≤ 140737488355328 then qa9.l0 k n x1 x2 x21 (IntKind.i64.wrap (x22 + 1)) y0_0 y0_1 (y1 ++ [(t3.2.1,t3.2.2)]) else none) else some (.inr t3.1)) else some (.inl y1)
def qa9.f (k : Nat) (a0_0 : LI) (a0_1 : LI) (a1 : LI) (a2 : LI) : Option (Int × (List LT)) := (qct.f k a0_0 a0_1 a1 a2).bind fun t1 => if t1 = 0 then ((qaw.f k a1).bind fun t2 => (qa9.l0 k k a1 a2 t2 0 a0_0 a0_1 []).bind fun t4 => Sum.elim (fun t4 => some (0,t4)) (fun t4 => some (t4,[])) t4) else some (t1,[])
def qa3.l0 (k : Nat) : Nat → LI → LI → Int → LI → LI → (List LT) → Option ((List LT))
 | 0,_,_,_,_,_,_ => none
 | n + 1,x1,x2,x9,y0_0,y0_1,y1 => (qaq.f k x1).bind fun t3 => if x9 < t3 then ((qb4.f k y0_0 y0_1 x1 x2 x9).bind fun t4 => if y1.length + [(t4.2.1,t4.2.2)].length ≤ 281474976710656 ∧ (y1.length + [(t4.2.1,t4.2.2)].length) * 48 ≤ 140737488355328 then qa3.l0 k n x1 x2 (IntKind.i64.wrap (x9 + 1)) y0_0 y0_1 (y1 ++ [(t4.2.1,t4.2.2)]) else none) else some y1
def qa3.f (k : Nat) (a0_0 : LI) (a0_1 : LI) (a1 : LI) (a2 : LI) : Option (Int × (List LT)) := (qbt.f k a0_0 a0_1).bind fun t1 => if t1 = true then ((qbR.f k a0_0 a1 a2).bind fun t2 => if t2 = true then ((qa3.l0 k k a1 a2 0 a0_0 a0_1 []).bind fun t5 => some (0,t5)) else some (1,[])) else some (13,[])
def qaL.l0 (k : Nat) : Nat → (List LT) → (List LT) → Int → Option (Unit ⊕ Bool)
 | 0,_,_,_ => none
 | n + 1,x0,x1,x5 => if x5 < (x0.length : Int) then (if 0 ≤ x5 ∧ x5 < (x0.length : Int) then if 0 ≤ x5 ∧ x5 < (x1.length : Int) then (qaG.f k (x0.getD x5.toNat ([],[])).1 (x0.getD x5.toNat ([],[])).2 (x1.getD x5.toNat ([],[])).1 (x1.getD x5.toNat ([],[])).2).bind fun t1 => if t1 = true then (qaL.l0 k n x0 x1 (IntKind.i64.wrap (x5 + 1))) else some (.inr false) else none else none) else some (.inl ())
def qaL.f (k : Nat) (a0 : List LT) (a1 : List LT) : Option (Bool) := if (a0.length : Int) = (a1.length : Int) then ((qaL.l0 k k a0 a1 0).bind fun t2 => Sum.elim (fun t2 => some true) (fun t2 => some t2) t2) else some false
def qaB.f (k : Nat) (a0_0 : LI) (a0_1 : LI) (a1 : LI) (a2 : LI) (a3 : Int) : Option (Bool) := (qb2.f k a0_0 a0_1 a1 a2 a3).bind fun t1 => (qb4.f k a0_0 a0_1 a1 a2 a3).bind fun t2 => (qa9.f k a0_0 a0_1 a1 a2).bind fun t3 => (qa3.f k a0_0 a0_1 a1 a2).bind fun t4 => if t1.1 = t2.1 then ((qaG.f k t1.2.1 t1.2.2 t2.2.1 t2.2.2).bind fun t5 => if t5 = true then (if t3.1 = t4.1 then ((qaL.f k t3.2 t4.2).bind fun t6 => some t6) else some false) else some false) else some false
def qb3.f (k : Nat) (a0 : LI) (a1 : LI) : Option (Bool) := (qau.f k a0 a1).bind fun t1 => some t1
def qal.l0 : Nat → LI → LI → Int → Int → Option (Unit ⊕ Bool)
 | 0,_,_,_,_ => none
 | n + 1,x0,x1,x12,x13 => if x13 < x12 then (if 0 ≤ x13 ∧ x13 < (x0.length : Int) then if 0 ≤ x13 ∧ x13 < (x1.length : Int) then if x0.getD x13.toNat 0 = x1.getD x13.toNat 0 then (qal.l0 n x0 x1 x12 (IntKind.i64.wrap (x13 + 1))) else some (.inr false) else none else none) else some (.inl ())
def qal.f (k : Nat) (a0 : LI) (a1 : LI) : Option (Bool) := if (a0.length : Int) = (a1.length : Int) then ((qal.l0 k a0 a1 (a0.length : Int) 0).bind fun t1 => Sum.elim (fun t1 => some true) (fun t1 => some t1) t1) else some false
def qb7.f (k : Nat) (a0_0 : LI) (a0_1 : LI) (a1_0 : LI) (a1_1 : LI) : Option (Bool) := (qb3.f k a0_0 a1_0).bind fun t1 => if t1 = true then ((qal.f k a0_1 a1_1).bind fun t2 => some t2) else some false
def qbW.f (a0 : LI) (o0 : Int) : Option (Unit) := some ()
def qad.l0 (k : Nat) : Nat → LI → Int → Int → Int → LI → LI → Option (LI)
 | 0,_,_,_,_,_,_ => none
 | n + 1,x0,x15,x16,y0,y3,y4 => if x16 < x15 then ((qaH.f k x0 x16).bind fun t3 => (qbW.f t3 y0).bind fun t4 => if 0 ≤ x16 ∧ x16 < (y4.length : Int) then if x16.toNat < y4.length then qad.l0 k n x0 x15 (IntKind.i64.wrap (x16 + 1)) y0 y3 (y4.set x16.toNat y0) else none else none) else some y4
def qad.f (k : Nat) (a0 : LI) (o0 : Int) : Option LT := (qa0.f a0).bind fun t1 => (qaR.f k a0).bind fun t2 => if 0 ≤ t2 ∧ t2 ≤ 281474976710656 ∧ ((8 : Nat) : Int) * t2 ≤ 140737488355328 then (qad.l0 k k a0 ((List.replicate t2.toNat (0 : Int)).length : Int) 0 o0 t1 (List.replicate t2.toNat (0 : Int))).bind fun t5 => some (t1,t5) else none
def qbH.f (k : Nat) (a0 : LI) (a1 : Int) : Option (Int × LI × LI) := (qaD.f k a0).bind fun t1 => if t1 = true then ((qad.f k a0 a1).bind fun t2 => some (0,t2.1,t2.2)) else some (13,[],[])
def qac.l0 (k : Nat) : Nat → (List LT) → LI → LI → LI → (List LT) → Int → Int → Option (Unit ⊕ Int)
 | 0,_,_,_,_,_,_,_ => none
 | n + 1,x0,x1,x2,x3,x46,x47,x48 => if x48 < x47 then (if 0 ≤ x48 ∧ x48 < (x46.length : Int) then (qbg.f k (x46.getD x48.toNat ([],[])).1 (x46.getD x48.toNat ([],[])).2).bind fun t5 => if t5 = true then ((qa5.f k x1 x2 x3 x48).bind fun t6 => (qb3.f k (x46.getD x48.toNat ([],[])).1 t6).bind fun t7 => if t7 = true then (qac.l0 k n x0 x1 x2 x3 x46 x47 (IntKind.i64.wrap (x48 + 1))) else some (.inr 13)) else some (.inr 13) else none) else some (.inl ())
def qac.l1 (k : Nat) : Nat → (List LT) → LI → LI → LI → (List LT) → Int → Int → Option (Unit ⊕ Int)
 | 0,_,_,_,_,_,_,_ => none
 | n + 1,x0,x1,x2,x3,x69,x70,x71 => if x71 < x70 then (if 0 ≤ x71 ∧ x71 < (x69.length : Int) then (qaU.f k x2 x3 x71).bind fun t9 => if 0 ≤ t9 ∧ t9 < (x0.length : Int) then (qb7.f k (x69.getD x71.toNat ([],[])).1 (x69.getD x71.toNat ([],[])).2 (x0.getD t9.toNat ([],[])).1 (x0.getD t9.toNat ([],[])).2).bind fun t10 => if t10 = true then (qac.l1 k n x0 x1 x2 x3 x69 x70 (IntKind.i64.wrap (x71 + 1))) else some (.inr 25) else none else none) else some (.inl ())
def qac.l4 : Nat → LI → LI → LI → Int → Int → (List LT) → Int → Int → LI → Int → Int → Int → Int → LI → LI → LI → LI → LI → LI → Option (LI)
 | 0,_,_,_,_,_,_,_,_,_,_,_,_,_,_,_,_,_,_,_ => none
 | n + 1,x1,x2,x3,x15,x20,x93,x94,x95,x106,x107,x108,x118,x119,y2_0,y2_1,y3,y4,y5,y6 => if x119 < x118 then (if 0 ≤ x119 ∧ x119 < (y4.length : Int) then if x119.toNat < y4.length then if 0 ≤ x119 ∧ x119 < (y3.length : Int) then if x119.toNat < y3.length then qac.l4 n x1 x2 x3 x15 x20 x93 x94 x95 x106 x107 x108 x118 (IntKind.i64.wrap (x119 + 1)) y2_0 y2_1 y3 (y4.set x119.toNat (IntKind.i64.wrap ((y4.getD x119.toNat 0) + (y3.getD x119.toNat 0)))) y5 y6 else none else none else none else none) else some y4
def qac.l3 (k : Nat) : Nat → LI → LI → LI → Int → (List LT) → Int → Int → LI → Int → Int → LI → LI → LI → LI → LI → Option (LI)
 | 0,_,_,_,_,_,_,_,_,_,_,_,_,_,_,_ => none
 | n + 1,x1,x2,x3,x15,x93,x94,x95,x106,x107,x108,y2_0,y2_1,y3,y4,y5 => if x108 < x107 then (if 0 ≤ x108 ∧ x108 < (x106.length : Int) then (qaH.f k y2_0 x108).bind fun t14 => (qac.l4 n x1 x2 x3 x15 (x106.getD x108.toNat 0) x93 x94 x95 x106 x107 x108 (t14.length : Int) 0 y2_0 y2_1 y3 t14 y4 y5).bind fun t15 => (qaP.f k x1 t15).bind fun t16 => if 0 ≤ t16 ∧ t16 < (y5.length : Int) then if t16.toNat < y5.length then qac.l3 k n x1 x2 x3 x15 x93 x94 x95 x106 x107 (IntKind.i64.wrap (x108 + 1)) y2_0 y2_1 y3 y4 (y5.set t16.toNat (x106.getD x108.toNat 0)) else none else none else none) else some y5
def qac.l2 (k : Nat) : Nat → LI → LI → LI → Int → (List LT) → Int → Int → LI → LI → Option (LI)
 | 0,_,_,_,_,_,_,_,_,_ => none
 | n + 1,x1,x2,x3,x15,x93,x94,x95,y2,y3 => if x95 < x94 then (if 0 ≤ x95 ∧ x95 < (x93.length : Int) then (qaY.f k x1 x2 x3 x95).bind fun t13 => (qac.l3 k n x1 x2 x3 x15 x93 x94 x95 (x93.getD x95.toNat ([],[])).2 ((x93.getD x95.toNat ([],[])).2.length : Int) 0 (x93.getD x95.toNat ([],[])).1 (x93.getD x95.toNat ([],[])).2 t13 y2 y3).bind fun t17 => qac.l2 k n x1 x2 x3 x15 x93 x94 (IntKind.i64.wrap (x95 + 1)) y2 t17 else none) else some y3
def qac.f (k : Nat) (a0 : List LT) (a1 : LI) (a2 : LI) (a3 : LI) : Option (Int × LI × LI) := (qaM.f k a2).bind fun t1 => if t1 = true then ((qaD.f k a1).bind fun t2 => if t2 = true then ((qaK.f k a2 a3 (a1.length : Int)).bind fun t3 => if t3 = true then ((qaw.f k a2).bind fun t4 => if (a0.length : Int) = t4 then ((qac.l0 k k a0 a1 a2 a3 a0 (a0.length : Int) 0).bind fun t8 => Sum.elim (fun t8 => (qac.l1 k k a0 a1 a2 a3 a0 (a0.length : Int) 0).bind fun t11 => Sum.elim (fun t11 => (qbH.f k a1 0).bind fun t12 => (qac.l2 k k a1 a2 a3 t12.1 a0 (a0.length : Int) 0 t12.2.1 t12.2.2).bind fun t18 => some (t12.1,t12.2.1,t18)) (fun t11 => some (t11,[],[])) t11) (fun t8 => some (t8,[],[])) t8) else some (13,[],[])) else some (1,[],[])) else some (1,[],[])) else some (1,[],[])
def qag.l0 (k : Nat) : Nat → (List LT) → LI → LI → LI → Int → Int → LI → LI → Option (Unit ⊕ Int)
 | 0,_,_,_,_,_,_,_,_ => none
 | n + 1,x0,x1,x2,x3,x35,x36,y2,y3 => if x36 < x35 then ((qaS.f k x1 x2 x3 x36).bind fun t4 => if 0 ≤ x36 ∧ x36 < (x0.length : Int) then (qbt.f k (x0.getD x36.toNat ([],[])).1 (x0.getD x36.toNat ([],[])).2).bind fun t5 => if t5 = true then ((qaT.f k (x0.getD x36.toNat ([],[])).1 t4.2).bind fun t6 => if t6 = true then (qag.l0 k n x0 x1 x2 x3 x35 (IntKind.i64.wrap (x36 + 1)) y2 y3) else some (.inr 13)) else some (.inr 13) else none) else some (.inl ())
def qag.l3 : Nat → (List LT) → LI → LI → LI → Int → Int → Int → Int → Int → Int → Int → Int → LI → LI → LI → LI → Option (LI)
 | 0,_,_,_,_,_,_,_,_,_,_,_,_,_,_,_,_ => none
 | n + 1,x0,x1,x2,x3,x14,x17,x66,x67,x97,x98,x109,x110,y2,y3,y4,y5 => if x110 < x109 then (if 0 ≤ x110 ∧ x110 < (y3.length : Int) then if x110.toNat < y3.length then if 0 ≤ x110 ∧ x110 < (y2.length : Int) then if x110.toNat < y2.length then qag.l3 n x0 x1 x2 x3 x14 x17 x66 x67 x97 x98 x109 (IntKind.i64.wrap (x110 + 1)) y2 (y3.set x110.toNat (IntKind.i64.wrap ((y3.getD x110.toNat 0) + (y2.getD x110.toNat 0)))) y4 y5 else none else none else none else none) else some y3
def qag.l2 (k : Nat) : Nat → (List LT) → LI → LI → LI → Int → Int → Int → Int → Int → LI → LI → LI → Option (LI)
 | 0,_,_,_,_,_,_,_,_,_,_,_,_ => none
 | n + 1,x0,x1,x2,x3,x14,x66,x67,x97,x98,y2,y3,y4 => if x98 < x97 then (if 0 ≤ x14 ∧ x14 < (x0.length : Int) then (qaW.f k (x0.getD x14.toNat ([],[])).1 x98).bind fun t11 => (qag.l3 n x0 x1 x2 x3 x14 x98 x66 x67 x97 x98 (t11.length : Int) 0 y2 t11 y3 y4).bind fun t12 => (qaZ.f k x1 t12).bind fun t13 => if 0 ≤ x98 ∧ x98 < ((x0.getD x14.toNat ([],[])).2.length : Int) then if 0 ≤ t13 ∧ t13 < (y4.length : Int) then if t13.toNat < y4.length then qag.l2 k n x0 x1 x2 x3 x14 x66 x67 x97 (IntKind.i64.wrap (x98 + 1)) y2 y3 (y4.set t13.toNat ((x0.getD x14.toNat ([],[])).2.getD x98.toNat 0)) else none else none else none else none) else some y4
def qag.l1 (k : Nat) : Nat → (List LT) → LI → LI → LI → Int → Int → LI → LI → Option (LI ⊕ Int)
 | 0,_,_,_,_,_,_,_,_ => none
 | n + 1,x0,x1,x2,x3,x66,x67,y2,y3 => if x67 < x66 then (if 0 ≤ x67 ∧ x67 < (x0.length : Int) then (qan.f k x2 x3 x67).bind fun t8 => if 0 ≤ t8 ∧ t8 < (x0.length : Int) then (qaG.f k (x0.getD x67.toNat ([],[])).1 (x0.getD x67.toNat ([],[])).2 (x0.getD t8.toNat ([],[])).1 (x0.getD t8.toNat ([],[])).2).bind fun t9 => if t9 = true then ((qaS.f k x1 x2 x3 x67).bind fun t10 => (qag.l2 k n x0 x1 x2 x3 x67 x66 x67 ((x0.getD x67.toNat ([],[])).2.length : Int) 0 t10.1 y2 y3).bind fun t14 => qag.l1 k n x0 x1 x2 x3 x66 (IntKind.i64.wrap (x67 + 1)) y2 t14) else some (.inr 25) else none else none) else some (.inl y3)
def qag.f (k : Nat) (a0 : List LT) (a1 : LI) (a2 : LI) (a3 : LI) : Option (Int × LI × LI) := (qbR.f k a1 a2 a3).bind fun t1 => if t1 = true then ((qaq.f k a2).bind fun t2 => if (a0.length : Int) = t2 then ((qa7.f k a1 0).bind fun t3 => (qag.l0 k k a0 a1 a2 a3 (a0.length : Int) 0 t3.1 t3.2).bind fun t7 => Sum.elim (fun t7 => (qag.l1 k k a0 a1 a2 a3 (a0.length : Int) 0 t3.1 t3.2).bind fun t15 => Sum.elim (fun t15 => some (0,t3.1,t15)) (fun t15 => some (t15,[],[])) t15) (fun t7 => some (t7,[],[])) t7) else some (13,[],[])) else some (1,[],[])
def qat.f (k : Nat) (a0 : List LT) (a1 : LI) (a2 : LI) (a3 : LI) : Option (Bool) := (qac.f k a0 a1 a2 a3).bind fun t1 => (qag.f k a0 a1 a2 a3).bind fun t2 => if t1.1 = t2.1 then ((qaG.f k t1.2.1 t1.2.2 t2.2.1 t2.2.2).bind fun t3 => some t3) else some false
def qbc.f (k : Nat) : Option (Bool) := (qa9.f k ([3] : LI) ([1,2,3] : LI) ([2] : LI) ([0] : LI)).bind fun t1 => (qac.f k [(([3] : LI),([1,2,3] : LI)),(([3] : LI),([1,2,4] : LI))] ([3] : LI) ([2] : LI) ([-1] : LI)).bind fun t2 => if t1.1 = 0 then (if (t1.2.length : Int) = 2 then (if (0 : Int) ≤ 0 ∧ 0 < (t1.2.length : Int) then if 0 < t1.2.length then if ((t1.2.getD 0 ([],[])).2.length : Int) = 2 then (if (0 : Int) ≤ 1 ∧ 1 < (t1.2.length : Int) then if 1 < t1.2.length then if ((t1.2.getD 1 ([],[])).2.length : Int) = 1 then (if (0 : Int) ≤ 0 ∧ 0 < ((t1.2.getD 1 ([],[])).2.length : Int) then if (t1.2.getD 1 ([],[])).2.getD 0 0 = 3 then (some (decide (t2.1 = 25))) else some false else none) else some false else none else none) else some false else none else none) else some false) else some false
end Go.Pf

namespace Go.Pf
open Go
def qbj.f (k : Nat) (a0 : LI) (a1_0 : LI) (a1_1 : LI) (a2 : LI) (a3 : LI) (a4 : LI) (a5 : List LT) (a6 : Int) (a7 : Int) (a8 : Int) : Option (Bool) := (qb5.f k a0).bind fun t1 => if 9 < (a5.length : Int) then (if 0 ≤ ((0 : Nat) : Int) ∧ ((0 : Nat) : Int) ≤ 9 ∧ 9 ≤ (a5.length : Int) then (qa3.f k t1.2.1 t1.2.2.1 t1.1 t1.2.2.2).bind fun t2 => if 0 + t2.2.length ≤ 281474976710656 ∧ (0 + t2.2.length) * 48 ≤ 140737488355328 then if 0 < (([] ++ t2.2).length : Int) then (if (([] ++ t2.2).length : Int) ≠ 0 then if 0 ≤ (IntKind.i64.wrap ((a7.tmod (([] ++ t2.2).length : Int)) + (([] ++ t2.2).length : Int))).tmod (([] ++ t2.2).length : Int) ∧ (IntKind.i64.wrap ((a7.tmod (([] ++ t2.2).length : Int)) + (([] ++ t2.2).length : Int))).tmod (([] ++ t2.2).length : Int) < (([] ++ t2.2).length : Int) then if ((IntKind.i64.wrap ((a7.tmod (([] ++ t2.2).length : Int)) + (([] ++ t2.2).length : Int))).tmod (([] ++ t2.2).length : Int)).toNat < ([] ++ t2.2).length then if 0 + (([] ++ t2.2).getD ((IntKind.i64.wrap ((a7.tmod (([] ++ t2.2).length : Int)) + (([] ++ t2.2).length : Int))).tmod (([] ++ t2.2).length : Int)).toNat ([],[])).2.length ≤ 281474976710656 ∧ (0 + (([] ++ t2.2).getD ((IntKind.i64.wrap ((a7.tmod (([] ++ t2.2).length : Int)) + (([] ++ t2.2).length : Int))).tmod (([] ++ t2.2).length : Int)).toNat ([],[])).2.length) * 8 ≤ 140737488355328 then if ((IntKind.i64.wrap ((a7.tmod (([] ++ t2.2).length : Int)) + (([] ++ t2.2).length : Int))).tmod (([] ++ t2.2).length : Int)).toNat = ((IntKind.i64.wrap ((a7.tmod (([] ++ t2.2).length : Int)) + (([] ++ t2.2).length : Int))).tmod (([] ++ t2.2).length : Int)).toNat then if 0 < (([] ++ (([] ++ t2.2).getD ((IntKind.i64.wrap ((a7.tmod (([] ++ t2.2).length : Int)) + (([] ++ t2.2).length : Int))).tmod (([] ++ t2.2).length : Int)).toNat ([],[])).2).length : Int) then (if (0 : Int) ≤ 0 ∧ 0 < (([] ++ (([] ++ t2.2).getD ((IntKind.i64.wrap ((a7.tmod (([] ++ t2.2).length : Int)) + (([] ++ t2.2).length : Int))).tmod (([] ++ t2.2).length : Int)).toNat ([],[])).2).length : Int) then if 0 < ([] ++ (([] ++ t2.2).getD ((IntKind.i64.wrap ((a7.tmod (([] ++ t2.2).length : Int)) + (([] ++ t2.2).length : Int))).tmod (([] ++ t2.2).length : Int)).toNat ([],[])).2).length then (qaB.f k t1.2.1 t1.2.2.1 t1.1 t1.2.2.2 (bits .and .i64 a6 7)).bind fun t3 => if t3 = true then ((qaB.f k a1_0 a1_1 a2 a3 a6).bind fun t4 => if t4 = true then ((qaB.f k t1.2.1 t1.2.2.1 t1.1 a3 a6).bind fun t5 => if t5 = true then ((qat.f k (([] ++ t2.2).set ((IntKind.i64.wrap ((a7.tmod (([] ++ t2.2).length : Int)) + (([] ++ t2.2).length : Int))).tmod (([] ++ t2.2).length : Int)).toNat ((([] ++ t2.2).getD ((IntKind.i64.wrap ((a7.tmod (([] ++ t2.2).length : Int)) + (([] ++ t2.2).length : Int))).tmod (([] ++ t2.2).length : Int)).toNat ([],[])).1,([] ++ (([] ++ t2.2).getD ((IntKind.i64.wrap ((a7.tmod (([] ++ t2.2).length : Int)) + (([] ++ t2.2).length : Int))).tmod (([] ++ t2.2).length : Int)).toNat ([],[])).2).set 0 a8)) t1.2.1 t1.1 t1.2.2.2).bind fun t6 => if t6 = true then ((qat.f k ((a5.take 9).drop 0) a4 a2 a3).bind fun t7 => if t7 = true then ((qat.f k t2.2 a4 t1.1 t1.2.2.2).bind fun t8 => if t8 = true then ((qbc.f k).bind fun t9 => some t9) else some false) else some false) else some false) else some false) else some false) else some false else none else none) else (qaB.f k t1.2.1 t1.2.2.1 t1.1 t1.2.2.2 (bits .and .i64 a6 7)).bind fun t10 => if t10 = true then ((qaB.f k a1_0 a1_1 a2 a3 a6).bind fun t11 => if t11 = true then ((qaB.f k t1.2.1 t1.2.2.1 t1.1 a3 a6).bind fun t12 => if t12 = true then ((qat.f k (([] ++ t2.2).set ((IntKind.i64.wrap ((a7.tmod (([] ++ t2.2).length : Int)) + (([] ++ t2.2).length : Int))).tmod (([] ++ t2.2).length : Int)).toNat ((([] ++ t2.2).getD ((IntKind.i64.wrap ((a7.tmod (([] ++ t2.2).length : Int)) + (([] ++ t2.2).length : Int))).tmod (([] ++ t2.2).length : Int)).toNat ([],[])).1,[] ++ (([] ++ t2.2).getD ((IntKind.i64.wrap ((a7.tmod (([] ++ t2.2).length : Int)) + (([] ++ t2.2).length : Int))).tmod (([] ++ t2.2).length : Int)).toNat ([],[])).2)) t1.2.1 t1.1 t1.2.2.2).bind fun t13 => if t13 = true then ((qat.f k ((a5.take 9).drop 0) a4 a2 a3).bind fun t14 => if t14 = true then ((qat.f k t2.2 a4 t1.1 t1.2.2.2).bind fun t15 => if t15 = true then ((qbc.f k).bind fun t16 => some t16) else some false) else some false) else some false) else some false) else some false) else some false else none else none else none else none else none) else (qaB.f k t1.2.1 t1.2.2.1 t1.1 t1.2.2.2 (bits .and .i64 a6 7)).bind fun t17 => if t17 = true then ((qaB.f k a1_0 a1_1 a2 a3 a6).bind fun t18 => if t18 = true then ((qaB.f k t1.2.1 t1.2.2.1 t1.1 a3 a6).bind fun t19 => if t19 = true then ((qat.f k ([] ++ t2.2) t1.2.1 t1.1 t1.2.2.2).bind fun t20 => if t20 = true then ((qat.f k ((a5.take 9).drop 0) a4 a2 a3).bind fun t21 => if t21 = true then ((qat.f k t2.2 a4 t1.1 t1.2.2.2).bind fun t22 => if t22 = true then ((qbc.f k).bind fun t23 => some t23) else some false) else some false) else some false) else some false) else some false) else some false else none else none) else (qa3.f k t1.2.1 t1.2.2.1 t1.1 t1.2.2.2).bind fun t24 => if 0 + t24.2.length ≤ 281474976710656 ∧ (0 + t24.2.length) * 48 ≤ 140737488355328 then if 0 < (([] ++ t24.2).length : Int) then (if (([] ++ t24.2).length : Int) ≠ 0 then if 0 ≤ (IntKind.i64.wrap ((a7.tmod (([] ++ t24.2).length : Int)) + (([] ++ t24.2).length : Int))).tmod (([] ++ t24.2).length : Int) ∧ (IntKind.i64.wrap ((a7.tmod (([] ++ t24.2).length : Int)) + (([] ++ t24.2).length : Int))).tmod (([] ++ t24.2).length : Int) < (([] ++ t24.2).length : Int) then if ((IntKind.i64.wrap ((a7.tmod (([] ++ t24.2).length : Int)) + (([] ++ t24.2).length : Int))).tmod (([] ++ t24.2).length : Int)).toNat < ([] ++ t24.2).length then if 0 + (([] ++ t24.2).getD ((IntKind.i64.wrap ((a7.tmod (([] ++ t24.2).length : Int)) + (([] ++ t24.2).length : Int))).tmod (([] ++ t24.2).length : Int)).toNat ([],[])).2.length ≤ 281474976710656 ∧ (0 + (([] ++ t24.2).getD ((IntKind.i64.wrap ((a7.tmod (([] ++ t24.2).length : Int)) + (([] ++ t24.2).length : Int))).tmod (([] ++ t24.2).length : Int)).toNat ([],[])).2.length) * 8 ≤ 140737488355328 then if ((IntKind.i64.wrap ((a7.tmod (([] ++ t24.2).length : Int)) + (([] ++ t24.2).length : Int))).tmod (([] ++ t24.2).length : Int)).toNat = ((IntKind.i64.wrap ((a7.tmod (([] ++ t24.2).length : Int)) + (([] ++ t24.2).length : Int))).tmod (([] ++ t24.2).length : Int)).toNat then if 0 < (([] ++ (([] ++ t24.2).getD ((IntKind.i64.wrap ((a7.tmod (([] ++ t24.2).length : Int)) + (([] ++ t24.2).length : Int))).tmod (([] ++ t24.2).length : Int)).toNat ([],[])).2).length : Int) then (if (0 : Int) ≤ 0 ∧ 0 < (([] ++ (([] ++ t24.2).getD ((IntKind.i64.wrap ((a7.tmod (([] ++ t24.2).length : Int)) + (([] ++ t24.2).length : Int))).tmod (([] ++ t24.2).length : Int)).toNat ([],[])).2).length : Int) then if 0 < ([] ++ (([] ++ t24.2).getD ((IntKind.i64.wrap ((a7.tmod (([] ++ t24.2).length : Int)) + (([] ++ t24.2).length : Int))).tmod (([] ++ t24.2).length : Int)).toNat ([],[])).2).length then (qaB.f k t1.2.1 t1.2.2.1 t1.1 t1.2.2.2 (bits .and .i64 a6 7)).bind fun t25 => if t25 = true then ((qaB.f k a1_0 a1_1 a2 a3 a6).bind fun t26 => if t26 = true then ((qaB.f k t1.2.1 t1.2.2.1 t1.1 a3 a6).bind fun t27 => if t27 = true then ((qat.f k (([] ++ t24.2).set ((IntKind.i64.wrap ((a7.tmod (([] ++ t24.2).length : Int)) + (([] ++ t24.2).length : Int))).tmod (([] ++ t24.2).length : Int)).toNat ((([] ++ t24.2).getD ((IntKind.i64.wrap ((a7.tmod (([] ++ t24.2).length : Int)) + (([] ++ t24.2).length : Int))).tmod (([] ++ t24.2).length : Int)).toNat ([],[])).1,([] ++ (([] ++ t24.2).getD ((IntKind.i64.wrap ((a7.tmod (([] ++ t24.2).length : Int)) + (([] ++ t24.2).length : Int))).tmod (([] ++ t24.2).length : Int)).toNat ([],[])).2).set 0 a8)) t1.2.1 t1.1 t1.2.2.2).bind fun t28 => if t28 = true then ((qat.f k a5 a4 a2 a3).bind fun t29 => if t29 = true then ((qat.f k t24.2 a4 t1.1 t1.2.2.2).bind fun t30 => if t30 = true then ((qbc.f k).bind fun t31 => some t31) else some false) else some false) else some false) else some false) else some false) else some false else none else none) else (qaB.f k t1.2.1 t1.2.2.1 t1.1 t1.2.2.2 (bits .and .i64 a6 7)).bind fun t32 => if t32 = true then ((qaB.f k a1_0 a1_1 a2 a3 a6).bind fun t33 => if t33 = true then ((qaB.f k t1.2.1 t1.2.2.1 t1.1 a3 a6).bind fun t34 => if t34 = true then ((qat.f k (([] ++ t24.2).set ((IntKind.i64.wrap ((a7.tmod (([] ++ t24.2).length : Int)) + (([] ++ t24.2).length : Int))).tmod (([] ++ t24.2).length : Int)).toNat ((([] ++ t24.2).getD ((IntKind.i64.wrap ((a7.tmod (([] ++ t24.2).length : Int)) + (([] ++ t24.2).length : Int))).tmod (([] ++ t24.2).length : Int)).toNat ([],[])).1,[] ++ (([] ++ t24.2).getD ((IntKind.i64.wrap ((a7.tmod (([] ++ t24.2).length : Int)) + (([] ++ t24.2).length : Int))).tmod (([] ++ t24.2).length : Int)).toNat ([],[])).2)) t1.2.1 t1.1 t1.2.2.2).bind fun t35 => if t35 = true then ((qat.f k a5 a4 a2 a3).bind fun t36 => if t36 = true then ((qat.f k t24.2 a4 t1.1 t1.2.2.2).bind fun t37 => if t37 = true then ((qbc.f k).bind fun t38 => some t38) else some false) else some false) else some false) else some false) else some false) else some false else none else none else none else none else none) else (qaB.f k t1.2.1 t1.2.2.1 t1.1 t1.2.2.2 (bits .and .i64 a6 7)).bind fun t39 => if t39 = true then ((qaB.f k a1_0 a1_1 a2 a3 a6).bind fun t40 => if t40 = true then ((qaB.f k t1.2.1 t1.2.2.1 t1.1 a3 a6).bind fun t41 => if t41 = true then ((qat.f k ([] ++ t24.2) t1.2.1 t1.1 t1.2.2.2).bind fun t42 => if t42 = true then ((qat.f k a5 a4 a2 a3).bind fun t43 => if t43 = true then ((qat.f k t24.2 a4 t1.1 t1.2.2.2).bind fun t44 => if t44 = true then ((qbc.f k).bind fun t45 => some t45) else some false) else some false) else some false) else some false) else some false) else some false else none
end Go.Pf

namespace Go.Pf
open Go Go.Vm
theorem qah {n : Int} (h1 : -9223372036854775808 ≤ n) (h2 : n < 9223372036854775808) : IntKind.i64.wrap n = n := by rw [IntKind.wrap_i64]; omega
theorem qjT {n : Int} (h : (Lit.int .i64 n).wf = true) : -9223372036854775808 ≤ n ∧ n < 9223372036854775808 := by
 simp only [Lit.wf,Bool.and_eq_true,decide_eq_true_eq] at h
 have h1 : IntKind.i64.min = -9223372036854775808 := by decide
 have h2 : IntKind.i64.max = 9223372036854775807 := by decide
 omega
theorem qhO {l : LI} (h : Fit (.sl (.int .i64)) l) : l.length ≤ 17592186043904 ∧ ∀ x ∈ l,-9223372036854775808 ≤ x ∧ x < 9223372036854775808 := by
 obtain ⟨h1,h2⟩ := h
 have h3 : l.length * 8 ≤ 140737488351232 := h1
 exact ⟨by omega,fun x hx => qjT (h2 x hx)⟩
theorem qae {α : Type} {l : List α} {i : Nat} (h : i < l.length) (d : α) : l.drop i = l.getD i d :: l.drop (i + 1) := by
 rw [List.drop_eq_getElem_cons h,List.getD_eq_getElem?_getD,List.getElem?_eq_getElem h]; rfl
theorem qas {α : Type} {l : List α} {i : Nat} (h : i < l.length) (d : α) : l.getD i d ∈ l := by
 rw [List.getD_eq_getElem?_getD,List.getElem?_eq_getElem h]; exact List.getElem_mem h
end Go.Pf

namespace Go.Pf
open Go Go.Vm
def pd : LI → Int
 | [] => 1
 | x :: r => x * pd r
def okD (x : Int) : Bool := decide (1 ≤ x) && decide (x ≤ 8)
def mR (l : LI) : Bool := decide (l.length ≤ 3) && l.all okD && decide (pd l ≤ 8)
def mD (l : LI) : Int := if mR l = true then pd l else 0
def atM : LI → Int → LI
 | [],_ => []
 | x :: r,d => (d / pd r) % x :: atM r d
def mA (l : LI) (d : Int) : LI := if 0 ≤ d ∧ d < mD l then atM l d else []
def ofGo : LI → LI → Int → Int
 | x :: r,p :: s,acc => if p < 0 ∨ x ≤ p then -1 else ofGo r s (acc * x + p)
 | _,_,acc => acc
def mO (l p : LI) : Int := if mR l = true ∧ p.length = l.length then ofGo l p 0 else -1
theorem qbx {x : Int} : okD x = true ↔ 1 ≤ x ∧ x ≤ 8 := by simp [okD]
theorem qju : ∀ (l : LI),l.all okD = true → 1 ≤ pd l ∧ pd l ≤ 8 ^ l.length
 | [],_ => by simp [pd]
 | x :: r,h => by
  simp only [List.all_cons,Bool.and_eq_true,qbx] at h
  obtain ⟨⟨h1,h2⟩,h3⟩ := h
  obtain ⟨h4,h5⟩ := qju r h3
  show 1 ≤ x * pd r ∧ x * pd r ≤ 8 ^ (r.length + 1)
  constructor
  ·have := Int.mul_le_mul h1 h4 (by omega) (by omega); simpa using this
  ·have := Int.mul_le_mul h2 h5 (by omega) (by omega)
   rw [Int.pow_succ]; rw [Int.mul_comm] at this; simpa [Int.mul_comm] using this
theorem qcn {l : LI} (h : mR l = true) : l.length ≤ 3 ∧ l.all okD = true ∧ 1 ≤ pd l ∧ pd l ≤ 8 := by
 unfold mR at h
 simp only [Bool.and_eq_true,decide_eq_true_eq] at h
 exact ⟨h.1.1,h.1.2,(qju l h.1.2).1,h.2⟩
theorem p8 {i : Nat} (h : i ≤ 3) : (1 : Int) ≤ 8 ^ i ∧ (8 : Int) ^ i ≤ 512 := by
 rcases (show i = 0 ∨ i = 1 ∨ i = 2 ∨ i = 3 by omega) with e | e | e | e <;> subst e <;> decide
theorem qfd {p x : Int} {i : Nat} (h1 : 1 ≤ p) (h2 : p ≤ 8 ^ i) (hx : 1 ≤ x ∧ x ≤ 8) : 1 ≤ p * x ∧ p * x ≤ 8 ^ (i + 1) := by
 constructor
 ·have := Int.mul_le_mul h1 hx.1 (by omega) (by omega); simpa using this
 ·rw [Int.pow_succ]; exact Int.mul_le_mul h2 hx.2 (by omega) (by omega)
theorem qec (l : LI) (hl : l.length ≤ 3) : ∀ (d i : Nat) (p : Int) (n : Nat),l.length = i + d → 1 ≤ p → p ≤ 8 ^ i → d < n →
  qaM.l0 n p l l.length i = some (if (l.drop i).all okD = true then .inl (p * pd (l.drop i)) else .inr false)
 | 0,i,p,n,hi,h1,h2,hn => by
  obtain ⟨n,rfl⟩ : ∃ m,n = m + 1 := ⟨n - 1,by omega⟩
  rw [qaM.l0,if_neg (by omega),List.drop_eq_nil_of_le (by omega)]
  simp [pd]
 | d + 1,i,p,n,hi,h1,h2,hn => by
  obtain ⟨n,rfl⟩ : ∃ m,n = m + 1 := ⟨n - 1,by omega⟩
  rw [qaM.l0,if_pos (by omega),if_pos (by omega),Int.toNat_natCast,qae (show i < l.length by omega) 0]
  generalize l.getD i 0 = x
  by_cases c1 : x < 1
  ·rw [if_pos c1]; simp [qbx]; omega
  by_cases c2 : 8 < x
  ·rw [if_neg c1,if_pos c2]; simp [qbx]; omega
  have hx : okD x = true := qbx.2 (by omega)
  have hm := qfd h1 h2 (show 1 ≤ x ∧ x ≤ 8 by omega)
  have h8 := p8 (show i + 1 ≤ 3 by omega)
  rw [if_neg c1,if_neg c2,qah (n := p * x) (by omega) (by omega),qah (n := (i : Int) + 1) (by omega) (by omega)]
  have := qec l hl d (i + 1) (p * x) n (by omega) hm.1 hm.2 (by omega)
  rw [show (i : Int) + 1 = ((i + 1 : Nat) : Int) by omega,this]
  simp [hx,pd,Int.mul_assoc]
theorem qbA (l : LI) (k : Nat) (hk : 10 ≤ k) : qaM.f k l = some (mR l) := by
 unfold qaM.f
 by_cases h : 3 < (l.length : Int)
 ·rw [if_pos h]; simp [mR]; omega
 ·have := qec l (by omega) l.length 0 1 k (by omega) (by omega) (by simp) (by omega)
  rw [if_neg h,show (0 : Int) = ((0 : Nat) : Int) from rfl,this]
  have hl : l.length ≤ 3 := by omega
  by_cases ha : l.all okD = true
  ·simp [ha,mR,hl]
  ·simp [ha,mR]
theorem qdg (l : LI) : ∀ (d i : Nat) (p : Int) (n : Nat),l.length = i + d → i ≤ 3 → 1 ≤ p → p ≤ 8 ^ i → 4 < n + i →
  qaF.l0 n l p l.length i = some (if l.length ≤ 3 ∧ (l.drop i).all okD = true then .inl (p * pd (l.drop i)) else .inr false)
 | 0,i,p,n,hi,hi3,h1,h2,hn => by
  obtain ⟨n,rfl⟩ : ∃ m,n = m + 1 := ⟨n - 1,by omega⟩
  rw [qaF.l0,if_neg (by omega),List.drop_eq_nil_of_le (by omega),if_pos ⟨by omega,by simp⟩]
  simp [pd]
 | d + 1,i,p,n,hi,hi3,h1,h2,hn => by
  obtain ⟨n,rfl⟩ : ∃ m,n = m + 1 := ⟨n - 1,by omega⟩
  rw [qaF.l0,if_pos (by omega)]
  by_cases c0 : 3 ≤ (i : Int)
  ·rw [if_pos c0,if_neg (by omega)]
  rw [if_neg c0,if_pos (by omega),Int.toNat_natCast,qae (show i < l.length by omega) 0]
  generalize l.getD i 0 = x
  by_cases c1 : x < 1
  ·rw [if_pos c1,if_neg (by simp [qbx]; omega)]
  by_cases c2 : 8 < x
  ·rw [if_neg c1,if_pos c2,if_neg (by simp [qbx]; omega)]
  have hx : okD x = true := qbx.2 (by omega)
  have hm := qfd h1 h2 (show 1 ≤ x ∧ x ≤ 8 by omega)
  have h8 := p8 (show i + 1 ≤ 3 by omega)
  rw [if_neg c1,if_neg c2,qah (n := p * x) (by omega) (by omega),qah (n := (i : Int) + 1) (by omega) (by omega)]
  have := qdg l d (i + 1) (p * x) n (by omega) (by omega) hm.1 hm.2 (by omega)
  rw [show (i : Int) + 1 = ((i + 1 : Nat) : Int) by omega,this]
  simp [hx,pd,Int.mul_assoc]
theorem qbY (l : LI) (k : Nat) (hk : 10 ≤ k) : qaF.f k l = some (mR l) := by
 unfold qaF.f
 have := qdg l l.length 0 1 k (by omega) (by omega) (by omega) (by simp) (by omega)
 rw [show ((0 : Nat) : Int) = 0 from rfl] at this
 rw [this]
 by_cases ha : l.length ≤ 3 ∧ l.all okD = true
 ·simp [ha.1,ha.2,mR]
 ·rw [List.drop_zero,if_neg ha]
  have : mR l = false := by
   cases h : mR l with
   | false => rfl
   | true => exact absurd ⟨(qcn h).1,(qcn h).2.1⟩ ha
  simp [this]
theorem qcY (l : LI) (hl : l.length ≤ 3) (ha : l.all okD = true) : ∀ (d i : Nat) (p : Int) (n : Nat),l.length = i + d → 1 ≤ p → p ≤ 8 ^ i → d < n →
  qaw.l0 n p l l.length i = some (p * pd (l.drop i))
 | 0,i,p,n,hi,h1,h2,hn => by
  obtain ⟨n,rfl⟩ : ∃ m,n = m + 1 := ⟨n - 1,by omega⟩
  rw [qaw.l0,if_neg (by omega),List.drop_eq_nil_of_le (by omega)]
  simp [pd]
 | d + 1,i,p,n,hi,h1,h2,hn => by
  obtain ⟨n,rfl⟩ : ∃ m,n = m + 1 := ⟨n - 1,by omega⟩
  have hx := qbx.1 (List.all_eq_true.1 ha _ (qas (show i < l.length by omega) 0))
  rw [qaw.l0,if_pos (by omega),if_pos (by omega),Int.toNat_natCast,qae (show i < l.length by omega) 0]
  generalize l.getD i 0 = x at hx ⊢
  have hm := qfd h1 h2 hx
  have h8 := p8 (show i + 1 ≤ 3 by omega)
  rw [qah (n := p * x) (by omega) (by omega),qah (n := (i : Int) + 1) (by omega) (by omega)]
  rw [show (i : Int) + 1 = ((i + 1 : Nat) : Int) by omega,qcY l hl ha d (i + 1) (p * x) n (by omega) hm.1 hm.2 (by omega)]
  simp [pd,Int.mul_assoc]
theorem qbn (l : LI) (k : Nat) (hk : 10 ≤ k) : qaw.f k l = some (mD l) := by
 unfold qaw.f
 rw [qbA l k hk,obs]
 by_cases h : mR l = true
 ·obtain ⟨h1,h2,_⟩ := qcn h
  have := qcY l h1 h2 l.length 0 1 k (by omega) (by omega) (by simp) (by omega)
  rw [if_pos h,show (0 : Int) = ((0 : Nat) : Int) from rfl,this]
  simp [mD,h]
 ·rw [if_neg h]; simp [mD,h]
theorem qcN (l : LI) (hl : l.length ≤ 3) (ha : l.all okD = true) : ∀ (d i : Nat) (p : Int) (n : Nat),l.length = i + d → 1 ≤ p → p ≤ 8 ^ i → d < n →
  qaq.l0 n l p l.length i = some (p * pd (l.drop i))
 | 0,i,p,n,hi,h1,h2,hn => by
  obtain ⟨n,rfl⟩ : ∃ m,n = m + 1 := ⟨n - 1,by omega⟩
  rw [qaq.l0,if_neg (by omega),List.drop_eq_nil_of_le (by omega)]
  simp [pd]
 | d + 1,i,p,n,hi,h1,h2,hn => by
  obtain ⟨n,rfl⟩ : ∃ m,n = m + 1 := ⟨n - 1,by omega⟩
  have hx := qbx.1 (List.all_eq_true.1 ha _ (qas (show i < l.length by omega) 0))
  rw [qaq.l0,if_pos (by omega),if_pos (by omega),Int.toNat_natCast,qae (show i < l.length by omega) 0]
  generalize l.getD i 0 = x at hx ⊢
  have hm := qfd h1 h2 hx
  have h8 := p8 (show i + 1 ≤ 3 by omega)
  rw [qah (n := p * x) (by omega) (by omega),qah (n := (i : Int) + 1) (by omega) (by omega)]
  rw [show (i : Int) + 1 = ((i + 1 : Nat) : Int) by omega,qcN l hl ha d (i + 1) (p * x) n (by omega) hm.1 hm.2 (by omega)]
  simp [pd,Int.mul_assoc]
theorem qa8 (l : LI) (k : Nat) (hk : 10 ≤ k) : qaq.f k l = some (mD l) := by
 unfold qaq.f
 rw [qbY l k hk,obs]
 by_cases h : mR l = true
 ·obtain ⟨h1,h2,_⟩ := qcn h
  have := qcN l h1 h2 l.length 0 1 k (by omega) (by omega) (by simp) (by omega)
  rw [if_pos h,show (0 : Int) = ((0 : Nat) : Int) from rfl,this]
  simp [mD,h]
 ·rw [if_neg h]; simp [mD,h]
theorem qco : ∀ (l : LI) (d : Int),(atM l d).length = l.length
 | [],_ => rfl
 | x :: r,d => by show (atM r d).length + 1 = _; rw [qco r d]; rfl
theorem qjm {l : LI} (ha : l.all okD = true) {d : Int} (hd0 : 0 ≤ d) (hd8 : d ≤ 8) {m : Nat} (hm : m < l.length) :
  okD (l.getD m 0) = true ∧ (d / pd (l.drop (m + 1))).tdiv (l.getD m 0) = d / pd (l.drop m) ∧ 0 ≤ d / pd (l.drop m) ∧ d / pd (l.drop m) ≤ 8 ∧
  (List.replicate (m + 1) 0 ++ atM (l.drop (m + 1)) d).set m ((d / pd (l.drop (m + 1))).tmod (l.getD m 0)) = List.replicate m 0 ++ atM (l.drop m) d := by
 have hx := List.all_eq_true.1 ha _ (qas hm 0)
 have hdr := qae hm 0
 generalize l.getD m 0 = x at hx hdr ⊢
 have hx' := qbx.1 hx
 have hall : (l.drop (m + 1)).all okD = true := by
  rw [List.all_eq_true] at ha ⊢
  exact fun y hy => ha y (List.mem_of_mem_drop hy)
 have hp := (qju _ hall).1
 have h0 : 0 ≤ d / pd (l.drop (m + 1)) := Int.ediv_nonneg hd0 (by omega)
 have h8 : d / pd (l.drop (m + 1)) ≤ 8 := Int.le_trans (Int.ediv_le_self _ hd0) hd8
 have e1 : (d / pd (l.drop (m + 1))).tdiv x = d / pd (l.drop m) := by
  rw [Int.tdiv_eq_ediv_of_nonneg h0,hdr]
  show d / pd (l.drop (m + 1)) / x = d / (x * pd (l.drop (m + 1)))
  rw [Int.ediv_ediv_of_nonneg (by omega),Int.mul_comm]
 refine ⟨hx,e1,?_,?_,?_⟩
 ·rw [← e1,Int.tdiv_eq_ediv_of_nonneg h0]; exact Int.ediv_nonneg h0 (by omega)
 ·rw [← e1,Int.tdiv_eq_ediv_of_nonneg h0]; exact Int.le_trans (Int.ediv_le_self _ h0) h8
 ·rw [hdr,Int.tmod_eq_emod_of_nonneg h0,List.replicate_succ',List.append_assoc]
  show (List.replicate m 0 ++ (0 :: atM (l.drop (m + 1)) d)).set m _ = List.replicate m 0 ++ ((d / pd (l.drop (m + 1))) % x :: atM (l.drop (m + 1)) d)
  rw [List.set_append]
  simp
theorem qf7 (l : LI) (hl : l.length ≤ 3) (ha : l.all okD = true) (d : Int) (hd0 : 0 ≤ d) (hd8 : d ≤ 8) : ∀ (m n : Nat),m ≤ l.length → m < n →
  qbF.l0 n l (d / pd (l.drop m)) ((m : Int) - 1) (List.replicate m 0 ++ atM (l.drop m) d) = some (atM l d)
 | 0,n,hm,hn => by
  obtain ⟨n,rfl⟩ : ∃ m,n = m + 1 := ⟨n - 1,by omega⟩
  rw [qbF.l0,if_neg (by omega)]; simp
 | m + 1,n,hm,hn => by
  obtain ⟨n,rfl⟩ : ∃ m,n = m + 1 := ⟨n - 1,by omega⟩
  obtain ⟨h1,h2,h3,h4,h5⟩ := qjm ha hd0 hd8 (show m < l.length by omega)
  have hx := qbx.1 h1
  have hlen : (List.replicate (m + 1) 0 ++ atM (l.drop (m + 1)) d).length = l.length := by simp [qco]; omega
  have e : (((m + 1 : Nat) : Int) - 1) = (m : Int) := by omega
  rw [e,qbF.l0,if_pos (by omega),if_pos (by omega),Int.toNat_natCast,if_pos (by omega),if_pos (by omega),if_pos (by omega),h2,h5,qah (by omega) (by omega),qah (n := (m : Int) - 1) (by omega) (by omega)]
  exact qf7 l hl ha d hd0 hd8 m n (by omega) (by omega)
theorem qfv (l : LI) (hl : l.length ≤ 3) (ha : l.all okD = true) (d : Int) (hd0 : 0 ≤ d) (hd8 : d ≤ 8) : ∀ (m n : Nat),m ≤ l.length → m < n →
  qbp.l0 n l (d / pd (l.drop m)) ((m : Int) - 1) (List.replicate m 0 ++ atM (l.drop m) d) = some (atM l d)
 | 0,n,hm,hn => by
  obtain ⟨n,rfl⟩ : ∃ m,n = m + 1 := ⟨n - 1,by omega⟩
  rw [qbp.l0,if_neg (by omega)]; simp
 | m + 1,n,hm,hn => by
  obtain ⟨n,rfl⟩ : ∃ m,n = m + 1 := ⟨n - 1,by omega⟩
  obtain ⟨h1,h2,h3,h4,h5⟩ := qjm ha hd0 hd8 (show m < l.length by omega)
  have hx := qbx.1 h1
  have hlen : (List.replicate (m + 1) 0 ++ atM (l.drop (m + 1)) d).length = l.length := by simp [qco]; omega
  have e : (((m + 1 : Nat) : Int) - 1) = (m : Int) := by omega
  rw [e,qbp.l0,if_pos (by omega),if_pos (by omega),Int.toNat_natCast,if_pos (by omega),if_pos (by omega),if_pos (by omega),h2,h5,qah (by omega) (by omega),qah (n := (m : Int) - 1) (by omega) (by omega)]
  exact qfv l hl ha d hd0 hd8 m n (by omega) (by omega)
theorem qgF {l : LI} {d : Int} (h0 : 0 ≤ d) (h : d < mD l) : mR l = true ∧ l.length ≤ 3 ∧ l.all okD = true ∧ d < pd l ∧ pd l ≤ 8 := by
 have hR : mR l = true := by
  by_cases h' : mR l = true
  ·exact h'
  ·rw [mD,if_neg h'] at h; omega
 rw [mD,if_pos hR] at h
 obtain ⟨h1,h2,_,h3⟩ := qcn hR
 exact ⟨hR,h1,h2,h,h3⟩
theorem qhe (l : LI) (d : Int) (k : Nat) (hk : 10 ≤ k) : qbF.f k l d = some (mA l d) := by
 unfold qbF.f mA
 by_cases c1 : d < 0
 ·rw [if_pos c1,if_neg (by omega)]
 rw [if_neg c1,qbn l k hk,obs]
 by_cases c2 : mD l ≤ d
 ·rw [if_pos c2,if_neg (by omega)]
 obtain ⟨_,h1,h2,h3,h4⟩ := qgF (show 0 ≤ d by omega) (show d < mD l by omega)
 have := qf7 l h1 h2 d (by omega) (by omega) l.length k (by omega) (by omega)
 rw [if_neg c2,if_pos (by omega),qah (by omega) (by omega),Int.toNat_natCast,if_pos (by omega)]
 simp [pd,atM] at this
 rw [this]; rfl
theorem qf5 (l : LI) (d : Int) (k : Nat) (hk : 10 ≤ k) : qbp.f k l d = some (mA l d) := by
 unfold qbp.f mA
 by_cases c1 : d < 0
 ·rw [if_pos c1,if_neg (by omega)]
 rw [if_neg c1,qa8 l k hk,obs]
 by_cases c2 : mD l ≤ d
 ·rw [if_pos c2,if_neg (by omega)]
 obtain ⟨_,h1,h2,h3,h4⟩ := qgF (show 0 ≤ d by omega) (show d < mD l by omega)
 have := qfv l h1 h2 d (by omega) (by omega) l.length k (by omega) (by omega)
 rw [if_neg c2,if_pos (by omega),qah (by omega) (by omega),Int.toNat_natCast,if_pos (by omega)]
 simp [pd,atM] at this
 rw [this]; rfl
theorem qf6 (l p : LI) (hl : l.length ≤ 3) (hlen : p.length = l.length) (ha : l.all okD = true) : ∀ (d i : Nat) (acc : Int) (n : Nat),l.length = i + d → 0 ≤ acc → acc < 8 ^ i → d < n →
  ∃ r,qbE.l0 n l acc p p.length i = some r ∧ Sum.elim id id r = ofGo (l.drop i) (p.drop i) acc
 | 0,i,acc,n,hi,h0,h8,hn => by
  obtain ⟨n,rfl⟩ : ∃ m,n = m + 1 := ⟨n - 1,by omega⟩
  rw [qbE.l0,if_neg (by omega),List.drop_eq_nil_of_le (show l.length ≤ i by omega)]
  exact ⟨_,rfl,rfl⟩
 | d + 1,i,acc,n,hi,h0,h8,hn => by
  obtain ⟨n,rfl⟩ : ∃ m,n = m + 1 := ⟨n - 1,by omega⟩
  have hx := qbx.1 (List.all_eq_true.1 ha _ (qas (show i < l.length by omega) 0))
  rw [qbE.l0,if_pos (by omega),if_pos (by omega),Int.toNat_natCast,qae (show i < l.length by omega) 0,qae (show i < p.length by omega) 0]
  generalize l.getD i 0 = x at hx ⊢
  generalize p.getD i 0 = y
  by_cases c1 : y < 0
  ·rw [if_pos c1,ofGo,if_pos (.inl c1)]; exact ⟨_,rfl,rfl⟩
  by_cases c2 : x ≤ y
  ·rw [if_neg c1,if_pos (by omega),if_pos c2,ofGo,if_pos (.inr c2)]; exact ⟨_,rfl,rfl⟩
  have h8' := p8 (show i + 1 ≤ 3 by omega)
  have h8i : (8 : Int) ^ (i + 1) = 8 ^ i * 8 := Int.pow_succ ..
  have hb : 0 ≤ acc * x ∧ acc * x ≤ (8 ^ i - 1) * 8 := ⟨Int.mul_nonneg h0 (by omega),Int.mul_le_mul (by omega) hx.2 (by omega) (by omega)⟩
  rw [if_neg c1,if_pos (by omega),if_neg c2,qah (n := acc * x) (by omega) (by omega),qah (n := acc * x + y) (by omega) (by omega),qah (n := (i : Int) + 1) (by omega) (by omega),ofGo,if_neg (by omega),show (i : Int) + 1 = ((i + 1 : Nat) : Int) by omega]
  exact qf6 l p hl hlen ha d (i + 1) (acc * x + y) n (by omega) (by omega) (by omega) (by omega)
theorem qi2 (l p : LI) (k : Nat) (hk : 10 ≤ k) : qbE.f k l p = some (mO l p) := by
 unfold qbE.f mO
 rw [qbA l k hk,obs]
 by_cases h : mR l = true
 ·rw [if_pos h]
  by_cases hp : p.length = l.length
  ·obtain ⟨h1,h2,_⟩ := qcn h
   obtain ⟨r,h3,h4⟩ := qf6 l p h1 hp h2 l.length 0 0 k (by omega) (by omega) (by simp) (by omega)
   rw [if_pos (by omega),show qbE.l0 k l 0 p (↑p.length) 0 = some r from h3,obs,if_pos ⟨h,hp⟩]
   rw [List.drop_zero,List.drop_zero] at h4
   rw [← h4]
   cases r <;> rfl
  ·rw [if_neg (by omega),if_neg (fun c => hp c.2)]
 ·rw [if_neg h,if_neg (fun c => h c.1)]
theorem qfu (l p : LI) (hl : l.length ≤ 3) (hlen : p.length = l.length) (ha : l.all okD = true) : ∀ (d i : Nat) (acc : Int) (n : Nat),l.length = i + d → 0 ≤ acc → acc < 8 ^ i → d < n →
  ∃ r,qbo.l0 n l p acc l.length i = some r ∧ Sum.elim id id r = ofGo (l.drop i) (p.drop i) acc
 | 0,i,acc,n,hi,h0,h8,hn => by
  obtain ⟨n,rfl⟩ : ∃ m,n = m + 1 := ⟨n - 1,by omega⟩
  rw [qbo.l0,if_neg (by omega),List.drop_eq_nil_of_le (show l.length ≤ i by omega)]
  exact ⟨_,rfl,rfl⟩
 | d + 1,i,acc,n,hi,h0,h8,hn => by
  obtain ⟨n,rfl⟩ : ∃ m,n = m + 1 := ⟨n - 1,by omega⟩
  have hx := qbx.1 (List.all_eq_true.1 ha _ (qas (show i < l.length by omega) 0))
  rw [qbo.l0,if_pos (by omega),if_pos (by omega),Int.toNat_natCast,qae (show i < l.length by omega) 0,qae (show i < p.length by omega) 0]
  generalize l.getD i 0 = x at hx ⊢
  generalize p.getD i 0 = y
  by_cases c1 : y < 0
  ·rw [if_pos c1,ofGo,if_pos (.inl c1)]; exact ⟨_,rfl,rfl⟩
  by_cases c2 : x ≤ y
  ·rw [if_neg c1,if_pos (by omega),if_pos c2,ofGo,if_pos (.inr c2)]; exact ⟨_,rfl,rfl⟩
  have h8' := p8 (show i + 1 ≤ 3 by omega)
  have h8i : (8 : Int) ^ (i + 1) = 8 ^ i * 8 := Int.pow_succ ..
  have hb : 0 ≤ acc * x ∧ acc * x ≤ (8 ^ i - 1) * 8 := ⟨Int.mul_nonneg h0 (by omega),Int.mul_le_mul (by omega) hx.2 (by omega) (by omega)⟩
  rw [if_neg c1,if_pos (by omega),if_neg c2,qah (n := acc * x) (by omega) (by omega),qah (n := acc * x + y) (by omega) (by omega),qah (n := (i : Int) + 1) (by omega) (by omega),ofGo,if_neg (by omega),show (i : Int) + 1 = ((i + 1 : Nat) : Int) by omega]
  exact qfu l p hl hlen ha d (i + 1) (acc * x + y) n (by omega) (by omega) (by omega) (by omega)
theorem qiv (l p : LI) (k : Nat) (hk : 10 ≤ k) : qbo.f k l p = some (mO l p) := by
 unfold qbo.f mO
 rw [qbY l k hk,obs]
 by_cases h : mR l = true
 ·rw [if_pos h]
  by_cases hp : p.length = l.length
  ·obtain ⟨h1,h2,_⟩ := qcn h
   obtain ⟨r,h3,h4⟩ := qfu l p h1 hp h2 l.length 0 0 k (by omega) (by omega) (by simp) (by omega)
   rw [if_pos (by omega),show qbo.l0 k l p 0 (↑l.length) 0 = some r from h3,obs,if_pos ⟨h,hp⟩]
   rw [List.drop_zero,List.drop_zero] at h4
   rw [← h4]
   cases r <;> rfl
  ·rw [if_neg (by omega),if_neg (fun c => hp c.2)]
 ·rw [if_neg h,if_neg (fun c => h c.1)]
theorem qib {l : LI} {d : Int} (h0 : 0 ≤ d) (h1 : d < mD l) : mA l d = atM l d := by rw [mA,if_pos ⟨h0,h1⟩]
end Go.Pf

namespace Go.Pf
open Go Go.Vm
theorem n0 : ((0 : Nat) : Int) = 0 := rfl
theorem drop0 {α : Type} (l : List α) : l.drop 0 = l := rfl
theorem qcQ (xs : LI) (v : Int) (hl : xs.length ≤ 4611686018427387904) : ∀ (d i n : Nat),xs.length = i + d → d < n →
  ∃ r,qax.l0 n xs v xs.length i = some r ∧ ((r = .inl () ∧ v ∉ xs.drop i) ∨ ∃ j : Int,r = .inr j ∧ 0 ≤ j ∧ v ∈ xs.drop i)
 | 0,i,n,hi,hn => by
  obtain ⟨n,rfl⟩ : ∃ m,n = m + 1 := ⟨n - 1,by omega⟩
  rw [qax.l0,if_neg (by omega),List.drop_eq_nil_of_le (by omega)]
  exact ⟨_,rfl,.inl ⟨rfl,by simp⟩⟩
 | d + 1,i,n,hi,hn => by
  obtain ⟨n,rfl⟩ : ∃ m,n = m + 1 := ⟨n - 1,by omega⟩
  rw [qax.l0,if_pos (by omega),if_pos (by omega),Int.toNat_natCast,qae (show i < xs.length by omega) 0]
  by_cases c : v = xs.getD i 0
  ·rw [if_pos c]
   exact ⟨_,rfl,.inr ⟨_,rfl,by omega,by rw [c]; simp⟩⟩
  ·rw [if_neg c,qah (by omega) (by omega),show (i : Int) + 1 = ((i + 1 : Nat) : Int) by omega]
   obtain ⟨r,h1,h2⟩ := qcQ xs v hl d (i + 1) n (by omega) (by omega)
   refine ⟨r,h1,?_⟩
   rcases h2 with ⟨h2,h3⟩ | ⟨j,h2,h3,h4⟩
   ·exact .inl ⟨h2,by simp only [List.mem_cons]; exact fun h => h.elim c h3⟩
   ·exact .inr ⟨j,h2,h3,List.mem_cons_of_mem _ h4⟩
theorem qcu (xs : LI) (v : Int) (hl : xs.length ≤ 4611686018427387904) (k : Nat) (hk : xs.length < k) : qaV.f k xs v = some (decide (v ∈ xs)) := by
 unfold qaV.f qax.f
 obtain ⟨r,h1,h2⟩ := qcQ xs v hl xs.length 0 k (by omega) hk
 rw [n0] at h1
 rw [h1,obs]
 rw [drop0] at h2
 rcases h2 with ⟨rfl,h3⟩ | ⟨j,rfl,h3,h4⟩
 ·simp [h3]
 ·simp [h3,h4]
def okGo (m : Int) : LI → LI → Bool
 | _,[] => true
 | pre,k :: r => decide (-1 ≤ k) && decide (k < m) && (decide (k = -1) || !decide (k ∈ pre)) && okGo m (pre ++ [k]) r
def mSp (l sp : LI) (r : Int) : Bool := mR l && decide ((sp.length : Int) = r) && okGo l.length [] sp
theorem qcP {l : LI} {i : Nat} (h : i < l.length) : l.take (i + 1) = l.take i ++ [l.getD i 0] := by
 rw [List.take_add_one,List.getD_eq_getElem?_getD,List.getElem?_eq_getElem h]; rfl
theorem qdM (l sp : LI) (hs : sp.length ≤ 4611686018427387904) (K : Nat) (hK : sp.length < K) : ∀ (d i n : Nat),sp.length = i + d → d < n →
  qaK.l0 K n l sp sp sp.length i = some (if okGo l.length (sp.take i) (sp.drop i) = true then .inl () else .inr false)
 | 0,i,n,hi,hn => by
  obtain ⟨n,rfl⟩ : ∃ m,n = m + 1 := ⟨n - 1,by omega⟩
  rw [qaK.l0,if_neg (by omega),List.drop_eq_nil_of_le (by omega)]; rfl
 | d + 1,i,n,hi,hn => by
  obtain ⟨n,rfl⟩ : ∃ m,n = m + 1 := ⟨n - 1,by omega⟩
  have ih := qdM l sp hs K hK d (i + 1) n (by omega) (by omega)
  rw [qcP (show i < sp.length by omega)] at ih
  rw [qaK.l0,if_pos (by omega),if_pos (by omega),Int.toNat_natCast,qae (show i < sp.length by omega) 0,qah (by omega) (by omega),show (i : Int) + 1 = ((i + 1 : Nat) : Int) by omega,drop0]
  generalize sp.getD i 0 = x at ih ⊢
  by_cases c1 : x < -1
  ·rw [if_pos c1,if_neg (by simp [okGo]; omega)]
  by_cases c2 : (l.length : Int) ≤ x
  ·rw [if_neg c1,if_pos c2,if_neg (by simp [okGo]; omega)]
  have h1 : -1 ≤ x := by omega
  have h2 : x < (l.length : Int) := by omega
  rw [if_neg c1,if_neg c2]
  by_cases c3 : x = -1
  ·have h2' : (-1 : Int) < l.length := by omega
   rw [if_pos c3,ih]; simp [okGo,c3,h2']
  ·rw [if_neg c3,if_pos (by omega),qcu _ _ (by simp; omega) K (by simp; omega),obs]
   by_cases c4 : x ∈ sp.take i
   ·rw [if_pos (by simpa using c4),if_neg (by simp [okGo,c3,c4])]
   ·rw [if_neg (by simpa using c4),ih]; simp [okGo,c3,c4,h1,h2]
theorem qce (l sp : LI) (r : Int) (hs : sp.length ≤ 4611686018427387904) (k : Nat) (hk : sp.length + 10 ≤ k) : qaK.f k l sp r = some (mSp l sp r) := by
 unfold qaK.f mSp
 rw [qbA l k (by omega),obs]
 by_cases h : mR l = true
 ·by_cases hr : (sp.length : Int) = r
  ·have := qdM l sp hs k (by omega) sp.length 0 k (by omega) (by omega)
   rw [if_pos h,if_pos hr,show (0 : Int) = ((0 : Nat) : Int) from rfl,this,obs,drop0,List.take_zero,h]
   cases okGo (l.length : Int) [] sp <;> simp [hr]
  ·rw [if_pos h,if_neg hr]; simp [hr]
 ·rw [if_neg h]; simp at h; simp [h]
theorem qd4 (l sp : LI) (i : Nat) (hi : i < sp.length) (hs : sp.length ≤ 4611686018427387904) (x19 x20 : Int) : ∀ (d j n : Nat),i = j + d → d < n →
  qay.l1 n l sp i j x19 x20 = some (if 0 ≤ sp.getD i 0 ∧ sp.getD i 0 ∈ (sp.take i).drop j then .inr false else .inl ())
 | 0,j,n,hj,hn => by
  obtain ⟨n,rfl⟩ : ∃ m,n = m + 1 := ⟨n - 1,by omega⟩
  rw [qay.l1,if_neg (by omega),List.drop_eq_nil_of_le (by simp; omega),if_neg (by simp)]
 | d + 1,j,n,hj,hn => by
  obtain ⟨n,rfl⟩ : ∃ m,n = m + 1 := ⟨n - 1,by omega⟩
  have hlen : j < (sp.take i).length := by simp; omega
  have hg : (sp.take i).getD j 0 = sp.getD j 0 := by
   rw [List.getD_eq_getElem?_getD,List.getD_eq_getElem?_getD,List.getElem?_take,if_pos (by omega)]
  rw [qay.l1,if_pos (by omega),if_pos (by omega),if_pos (by omega),Int.toNat_natCast,Int.toNat_natCast,qae hlen 0,hg,qah (by omega) (by omega),show (j : Int) + 1 = ((j + 1 : Nat) : Int) by omega,qd4 l sp i hi hs x19 x20 d (j + 1) n (by omega) (by omega)]
  by_cases c1 : sp.getD j 0 = sp.getD i 0
  ·by_cases c2 : 0 ≤ sp.getD i 0
   ·rw [if_pos c1,if_pos c2,if_pos ⟨c2,by rw [c1]; simp⟩]
   ·rw [if_pos c1,if_neg c2,if_neg (fun h => c2 h.1),if_neg (fun h => c2 h.1)]
  ·rw [if_neg c1]
   simp only [List.mem_cons,Ne.symm c1,false_or]
theorem qd5 (l sp : LI) (hs : sp.length ≤ 4611686018427387904) (K : Nat) : ∀ (d i n : Nat),sp.length = i + d → sp.length + sp.length + 2 ≤ n + i →
    qay.l0 K n l sp sp.length i = some (if okGo l.length (sp.take i) (sp.drop i) = true then .inl () else .inr false)
  | 0,i,n,hi,hn => by
    obtain ⟨n,rfl⟩ : ∃ m,n = m + 1 := ⟨n - 1,by omega⟩
    rw [qay.l0,if_neg (by omega),List.drop_eq_nil_of_le (by omega)]; rfl
  | d + 1,i,n,hi,hn => by
    obtain ⟨n,rfl⟩ : ∃ m,n = m + 1 := ⟨n - 1,by omega⟩
    have ih := qd5 l sp hs K d (i + 1) n (by omega) (by omega)
    have hin := qd4 l sp i (by omega) hs sp.length i i 0 n (by omega) (by omega)
    rw [qcP (show i < sp.length by omega)] at ih
    rw [qay.l0,if_pos (by omega),if_pos (by omega),Int.toNat_natCast,qae (show i < sp.length by omega) 0,qah (by omega) (by omega),show (i : Int) + 1 = ((i + 1 : Nat) : Int) by omega]
    rw [n0,drop0] at hin
    rw [hin]
    generalize sp.getD i 0 = x at ih ⊢
    by_cases c1 : x < -1
    · rw [if_pos c1,if_neg (by simp [okGo]; omega)]
    by_cases c2 : (l.length : Int) ≤ x
    · rw [if_neg c1,if_pos c2,if_neg (by simp [okGo]; omega)]
    have h1 : -1 ≤ x := by omega
    have h2 : x < (l.length : Int) := by omega
    rw [if_neg c1,if_neg c2,obs]
    by_cases c3 : 0 ≤ x ∧ x ∈ sp.take i
    · have c4 : ¬ x = -1 := by omega
      rw [if_pos c3,if_neg (by simp [okGo,c4,c3.2])]; rfl
    · rw [if_neg c3]
      simp only [Sum.elim_inl]
      rw [ih]
      have c5 : x = -1 ∨ x ∉ sp.take i := by
        by_cases h : x ∈ sp.take i
        · exact .inl (by have : ¬ 0 ≤ x := fun h' => c3 ⟨h',h⟩
                         omega)
        · exact .inr h
      have e : okGo l.length (sp.take i) (x :: sp.drop (i + 1)) = okGo l.length (sp.take i ++ [x]) (sp.drop (i + 1)) := by
        rcases c5 with h | h <;> simp [okGo,h,h1,h2]
        omega
      rw [e]
theorem qeW (l sp : LI) (r : Int) (hs : sp.length ≤ 4611686018427387904) (k : Nat) (hk : sp.length + sp.length + 10 ≤ k) : qay.f k l sp r = some (mSp l sp r) := by
 unfold qay.f mSp
 rw [qbY l k (by omega),obs]
 by_cases h : mR l = true
 ·by_cases hr : (sp.length : Int) = r
  ·have := qd5 l sp hs k sp.length 0 k (by omega) (by omega)
   rw [if_pos h,if_pos hr,show (0 : Int) = ((0 : Nat) : Int) from rfl,this,obs,drop0,List.take_zero,h]
   cases okGo (l.length : Int) [] sp <;> simp [hr]
  ·rw [if_pos h,if_neg hr]; simp [hr]
 ·rw [if_neg h]; simp at h; simp [h]
theorem qgD {m : Int} : ∀ {r pre : LI},okGo m pre r = true → ∀ x ∈ r,-1 ≤ x ∧ x < m
 | [],_,_,x,hx => by cases hx
 | k :: r,pre,h,x,hx => by
  simp only [okGo,Bool.and_eq_true,decide_eq_true_eq] at h
  rcases List.mem_cons.1 hx with rfl | hx
  ·exact ⟨h.1.1.1,h.1.1.2⟩
  ·exact qgD h.2 x hx
theorem qbM {l sp : LI} {r : Int} (h : mSp l sp r = true) : mR l = true ∧ (sp.length : Int) = r ∧ okGo l.length [] sp = true := by
 unfold mSp at h
 simp only [Bool.and_eq_true,decide_eq_true_eq] at h
 exact ⟨h.1.1,h.1.2,h.2⟩
theorem qeu (l : LI) : 0 ≤ mD l ∧ mD l ≤ 8 := by
 unfold mD
 split
 ·rename_i h; have := qcn h; omega
 ·omega
def msk (sp : LI) : Nat → LI → LI
 | _,[] => []
 | i,a :: r => (if (i : Int) ∈ sp then a else 0) :: msk sp (i + 1) r
theorem qhH (sp : LI) : ∀ (l : LI) (i : Nat),(msk sp i l).length = l.length
 | [],_ => rfl
 | _ :: r,i => by show (msk sp (i + 1) r).length + 1 = _; rw [qhH sp r]; rfl
theorem qh7 (sp : LI) (a : Int) : ∀ (l : LI) (i : Nat),msk sp i (l ++ [a]) = msk sp i l ++ [if ((i + l.length : Nat) : Int) ∈ sp then a else 0]
 | [],i => rfl
 | b :: r,i => by
  show _ :: msk sp (i + 1) (r ++ [a]) = _ :: _
  rw [qh7 sp a r (i + 1)]
  show _ = _ :: (msk sp (i + 1) r ++ _)
  congr 3
  rw [show i + 1 + r.length = i + (b :: r).length by simp; omega]
def mF (l sp : LI) (d : Int) : Int := if mSp l sp sp.length = true ∧ 0 ≤ d ∧ d < mD l then mO l (msk sp 0 (atM l d)) else -1
theorem qiO (a b : LI) (y x : Int) : (a ++ y :: b).set a.length x = (a ++ [x]) ++ b := by
 rw [List.set_append,if_neg (by omega),Nat.sub_self,List.append_assoc]; rfl
theorem qfL (sp A : LI) {i : Nat} (hi : i < A.length) :
  msk sp 0 (A.take i) ++ A.drop i = msk sp 0 (A.take i) ++ A.getD i 0 :: A.drop (i + 1) ∧ (msk sp 0 (A.take i)).length = i ∧
  msk sp 0 (A.take (i + 1)) = msk sp 0 (A.take i) ++ [if (i : Int) ∈ sp then A.getD i 0 else 0] := by
 refine ⟨by rw [qae hi 0],by rw [qhH]; simp; omega,?_⟩
 rw [qcP hi,qh7]
 have : 0 + (A.take i).length = i := by simp; omega
 rw [this]
theorem qdN (l sp : LI) (A : LI) (hA : A.length ≤ 8) (hs : sp.length ≤ 17592186044415) (K : Nat) (hK : sp.length < K) : ∀ (d i n : Nat),A.length = i + d → d < n →
  qaU.l0 K n l sp A.length i (msk sp 0 (A.take i) ++ A.drop i) = some (msk sp 0 A)
 | 0,i,n,hi,hn => by
  obtain ⟨n,rfl⟩ : ∃ m,n = m + 1 := ⟨n - 1,by omega⟩
  rw [qaU.l0,if_neg (by omega),List.take_of_length_le (by omega),List.drop_eq_nil_of_le (by omega),List.append_nil]
 | d + 1,i,n,hi,hn => by
  obtain ⟨n,rfl⟩ : ∃ m,n = m + 1 := ⟨n - 1,by omega⟩
  obtain ⟨h1,h2,h3⟩ := qfL sp A (show i < A.length by omega)
  have ih := qdN l sp A hA hs K hK d (i + 1) n (by omega) (by omega)
  rw [h3] at ih
  have hset := fun x => qiO (msk sp 0 (A.take i)) (A.drop (i + 1)) (A.getD i 0) x
  rw [h2] at hset
  rw [h1,qaU.l0,if_pos (by omega),qcu sp _ (by omega) K hK,obs,qah (by omega) (by omega),show (i : Int) + 1 = ((i + 1 : Nat) : Int) by omega]
  by_cases c : (i : Int) ∈ sp
  ·rw [if_pos (by simpa using c)]
   rw [if_pos c,List.append_assoc] at ih
   exact ih
  ·rw [if_neg (by simpa using c),if_pos (by simp [h2]; omega),Int.toNat_natCast,if_pos (by simp [h2]),hset]
   rw [if_neg c] at ih
   exact ih
theorem qcm (l sp : LI) (x : Int) (a b : Int) (y : LI) (hs : sp.length ≤ 17592186044415) : ∀ (d j : Nat) (c : Bool) (n : Nat),sp.length = j + d → d < n →
  qan.l1 n l sp x c a b sp.length j y = some (c || decide (x ∈ sp.drop j))
 | 0,j,c,n,hj,hn => by
  obtain ⟨n,rfl⟩ : ∃ m,n = m + 1 := ⟨n - 1,by omega⟩
  rw [qan.l1,if_neg (by omega),List.drop_eq_nil_of_le (by omega)]; simp
 | d + 1,j,c,n,hj,hn => by
  obtain ⟨n,rfl⟩ : ∃ m,n = m + 1 := ⟨n - 1,by omega⟩
  rw [qan.l1,if_pos (by omega),qah (by omega) (by omega),show (j : Int) + 1 = ((j + 1 : Nat) : Int) by omega,qae (show j < sp.length by omega) 0]
  cases c with
  | true => rw [if_pos rfl,qcm l sp x a b y hs d (j + 1) true n (by omega) (by omega)]; simp
  | false =>
   rw [if_neg (by simp),if_pos (by omega),Int.toNat_natCast,qcm l sp x a b y hs d (j + 1) _ n (by omega) (by omega)]
   generalize sp.getD j 0 = z
   by_cases h : z = x
   ·subst h; simp
   ·have h' : x ≠ z := Ne.symm h
    simp [h,h']
theorem qdh (l sp : LI) (A : LI) (hA : A.length ≤ 8) (hs : sp.length ≤ 17592186044415) (K : Nat) : ∀ (d i n : Nat),A.length = i + d → d + sp.length + 2 < n →
  qan.l0 K n l sp A.length i (msk sp 0 (A.take i) ++ A.drop i) = some (msk sp 0 A)
 | 0,i,n,hi,hn => by
  obtain ⟨n,rfl⟩ : ∃ m,n = m + 1 := ⟨n - 1,by omega⟩
  rw [qan.l0,if_neg (by omega),List.take_of_length_le (by omega),List.drop_eq_nil_of_le (by omega),List.append_nil]
 | d + 1,i,n,hi,hn => by
  obtain ⟨n,rfl⟩ : ∃ m,n = m + 1 := ⟨n - 1,by omega⟩
  obtain ⟨h1,h2,h3⟩ := qfL sp A (show i < A.length by omega)
  have ih := qdh l sp A hA hs K d (i + 1) n (by omega) (by omega)
  rw [h3] at ih
  have hset := fun x => qiO (msk sp 0 (A.take i)) (A.drop (i + 1)) (A.getD i 0) x
  rw [h2] at hset
  have hin := qcm l sp i A.length i (msk sp 0 (A.take i) ++ A.getD i 0 :: A.drop (i + 1)) hs sp.length 0 false n (by omega) (by omega)
  rw [n0,drop0] at hin
  rw [h1,qan.l0,if_pos (by omega),hin,obs,qah (by omega) (by omega),show (i : Int) + 1 = ((i + 1 : Nat) : Int) by omega]
  by_cases c : (i : Int) ∈ sp
  ·rw [if_pos (by simpa using c)]
   rw [if_pos c,List.append_assoc] at ih
   exact ih
  ·rw [if_neg (by simpa using c),if_pos (by simp [h2]; omega),Int.toNat_natCast,if_pos (by simp [h2]),hset]
   rw [if_neg c] at ih
   exact ih
theorem qg1 (l sp : LI) (d : Int) (hs : sp.length ≤ 17592186044415) (k : Nat) (hk : sp.length + 10 ≤ k) : qaU.f k l sp d = some (mF l sp d) := by
 unfold qaU.f mF
 rw [qce l sp _ (by omega) k hk,obs]
 by_cases h : mSp l sp sp.length = true
 ·rw [if_pos h,qbn l k (by omega)]
  by_cases c1 : d < 0
  ·rw [if_pos c1,if_neg (by omega)]
  by_cases c2 : mD l ≤ d
  ·rw [if_neg c1,obs,if_pos c2,if_neg (by omega)]
  have hl := qgF (show 0 ≤ d by omega) (show d < mD l by omega)
  have := qdN l sp (atM l d) (by rw [qco]; omega) hs k (by omega) (atM l d).length 0 k (by omega) (by rw [qco]; omega)
  rw [n0,drop0] at this
  rw [if_neg c1,obs,if_neg c2,qhe l d k (by omega),obs,qib (by omega) (by omega),show qaU.l0 k k l sp (atM l d).length 0 (atM l d) = _ from this,obs,qi2 _ _ k (by omega),if_pos ⟨h,by omega,by omega⟩]
  rfl
 ·rw [if_neg h,if_neg (fun c => h c.1)]
theorem qgy (l sp : LI) (d : Int) (hs : sp.length ≤ 17592186044415) (k : Nat) (hk : sp.length + sp.length + 20 ≤ k) : qan.f k l sp d = some (mF l sp d) := by
 unfold qan.f mF
 by_cases c1 : d < 0
 ·rw [if_pos c1,if_neg (by omega)]
 rw [if_neg c1,qa8 l k (by omega),obs]
 by_cases c2 : mD l ≤ d
 ·rw [if_pos c2,if_neg (by omega)]
 rw [if_neg c2,qeW l sp _ (by omega) k (by omega),obs]
 by_cases h : mSp l sp sp.length = true
 ·have hl := qgF (show 0 ≤ d by omega) (show d < mD l by omega)
  have := qdh l sp (atM l d) (by rw [qco]; omega) hs k (atM l d).length 0 k (by omega) (by rw [qco]; omega)
  rw [n0,drop0] at this
  rw [if_pos h,qf5 l d k (by omega),obs,qib (by omega) (by omega),show qan.l0 k k l sp (atM l d).length 0 (atM l d) = _ from this,obs,qiv _ _ k (by omega),if_pos ⟨h,by omega,by omega⟩]
  rfl
 ·rw [if_neg h,if_neg (fun c => h c.1)]
theorem qbQ (n : Int) (L : LI) (hL : L.length ≤ 17592186044415) (hw : ∀ x ∈ L,-9223372036854775808 ≤ x ∧ x < 9223372036854775808) (p : Int) (h0 : 0 ≤ p) (hp : p ≤ 17592186044415) (hn : 1 ≤ n) : ∃ r q,qaC.f n L p = some (r,q) ∧ 0 ≤ r ∧ r < n ∧ 0 ≤ q ∧ q ≤ 17592186044415 ∧ p ≤ q ∧ q ≤ p + 1 := by
 unfold qaC.f
 by_cases c : (L.length : Int) ≤ p
 ·rw [if_pos c]; exact ⟨_,_,rfl,by omega,by omega,h0,hp,by omega,by omega⟩
 rw [if_neg c,if_neg (by omega),qah (n := p + 1) (by omega) (by omega),show p + 1 - 1 = p by omega,qah (n := p) (by omega) (by omega),if_pos ⟨h0,by omega⟩]
 have hx := hw _ (qas (show p.toNat < L.length by omega) 0)
 generalize L.getD p.toNat 0 = x at hx
 have key : ∃ r,qcd.f x 0 1073741824 = some r ∧ 0 ≤ r := by
  unfold qcd.f
  rw [qah (n := 1073741824 - 0) (by omega) (by omega),qah (n := 1073741824 - 0 + 1) (by omega) (by omega)]
  have t2 := Int.lt_tmod_of_pos x (show (0 : Int) < 1073741824 - 0 + 1 by omega)
  have t3 := Int.tmod_lt_of_pos x (show (0 : Int) < 1073741824 - 0 + 1 by omega)
  have k2 : ∃ r,(if (1073741824 - 0 + 1 : Int) ≠ 0 then if x.tmod (1073741824 - 0 + 1) < 0 then some (IntKind.i64.wrap (0 + (IntKind.i64.wrap ((IntKind.i64.wrap ((IntKind.i64.wrap ((x.tmod (1073741824 - 0 + 1)) + 1073741824)) - 0)) + 1)))) else some (IntKind.i64.wrap (0 + (x.tmod (1073741824 - 0 + 1)))) else none) = some r ∧ 0 ≤ r := by
   rw [if_pos (by omega)]
   split
   ·rw [qah (n := x.tmod (1073741824 - 0 + 1) + 1073741824) (by omega) (by omega),qah (n := x.tmod (1073741824 - 0 + 1) + 1073741824 - 0) (by omega) (by omega),qah (n := x.tmod (1073741824 - 0 + 1) + 1073741824 - 0 + 1) (by omega) (by omega),qah (by omega) (by omega)]
    exact ⟨_,rfl,by omega⟩
   ·rw [qah (by omega) (by omega)]
    exact ⟨_,rfl,by omega⟩
  split
  ·split
   ·exact ⟨_,rfl,by omega⟩
   ·exact k2
  ·exact k2
 obtain ⟨r,hr,hr0⟩ := key
 rw [hr,obs,if_pos (by omega)]
 refine ⟨_,_,rfl,?_,?_,by omega,by omega,by omega,by omega⟩
 ·rw [Int.tmod_eq_emod_of_nonneg hr0]; exact Int.emod_nonneg _ (by omega)
 ·rw [Int.tmod_eq_emod_of_nonneg hr0]; exact Int.emod_lt_of_pos _ (by omega)
theorem qfy {m : Int} (x : Int) : ∀ (r pre : LI),okGo m pre (r ++ [x]) = (okGo m pre r && (decide (-1 ≤ x) && decide (x < m) && (decide (x = -1) || !decide (x ∈ pre ++ r))))
 | [],pre => by simp [okGo]
 | k :: r,pre => by
  show (decide (-1 ≤ k) && decide (k < m) && (decide (k = -1) || !decide (k ∈ pre)) && okGo m (pre ++ [k]) (r ++ [x])) = (decide (-1 ≤ k) && decide (k < m) && (decide (k = -1) || !decide (k ∈ pre)) && okGo m (pre ++ [k]) r && _)
  rw [qfy x r (pre ++ [k]),List.append_assoc]
  simp only [List.singleton_append,Bool.and_assoc]
theorem qgZ (m : LI) (hm : m.length ≤ 3) (L : LI) (hL : L.length ≤ 17592186044415) (hw : ∀ x ∈ L,-9223372036854775808 ≤ x ∧ x < 9223372036854775808) (N : Nat) (hN : N ≤ 5) : ∀ (d i : Nat) (p : Int) (y1 : LI) (y2 : List Bool) (n : Nat),N = i + d → 0 ≤ p → p ≤ 17592186000000 - 2 * d → y1.length = N → y2.length = m.length → okGo m.length [] (y1.take i) = true → (∀ j : Nat,j < m.length → (y2.getD j false = true ↔ (j : Int) ∈ y1.take i)) → d < n →
    ∃ q s,qao.l0 n m N i L p y1 y2 = some (q,s) ∧ s.length = N ∧ okGo m.length [] s = true ∧ 0 ≤ q ∧ q ≤ p + 2 * d := by
  intro d
  induction d with
  | zero =>
    intro i p y1 y2 n hi h0 hp h1 h2 hok hu hn
    obtain ⟨n,rfl⟩ : ∃ m,n = m + 1 := ⟨n - 1,by omega⟩
    rw [qao.l0,if_neg (by omega)]
    rw [List.take_of_length_le (by omega)] at hok
    exact ⟨_,_,rfl,h1,hok,h0,by omega⟩
  | succ d IH =>
    intro i p y1 y2 n hi h0 hp h1 h2 hok hu hn
    obtain ⟨n,rfl⟩ : ∃ m,n = m + 1 := ⟨n - 1,by omega⟩
    have htake : ∀ x : Int,(y1.set i x).take (i + 1) = y1.take i ++ [x] := fun x => by
      rw [List.take_set,List.take_add_one,List.getElem?_eq_getElem (by omega)]
      have : (y1.take i).length = i := by simp; omega
      rw [List.set_append,if_neg (by omega),this,Nat.sub_self]; rfl
    have hidx : (i : Int) + 1 = ((i + 1 : Nat) : Int) := by omega
    rw [qao.l0,if_pos (by omega),if_pos (by omega),Int.toNat_natCast,if_pos (by omega),qah (n := (i : Int) + 1) (by omega) (by omega),hidx]
    -- without an axis
    have stay : ∀ q,0 ≤ q → q ≤ p + 2 → ∃ q' s,qao.l0 n m N ((i + 1 : Nat) : Int) L q (y1.set i (-1)) y2 = some (q',s) ∧ s.length = N ∧ okGo m.length [] s = true ∧ 0 ≤ q' ∧ q' ≤ q + 2 * d := fun q hq hq2 => by
      refine IH (i + 1) q (y1.set i (-1)) y2 n (by omega) hq (by omega) (by simpa using h1) h2 ?_ (fun j hj => ?_) (by omega)
      · rw [htake,qfy,hok]; simp; omega
      · rw [htake,List.mem_append,hu j hj]; simp
    by_cases c0 : 0 < (m.length : Int)
    · rw [if_pos c0]
      obtain ⟨r,q,e1,r0,r1,q0,q1,q2,q3⟩ := qbQ 2 L hL hw p h0 (by omega) (by omega)
      rw [e1,obs]
      dsimp only
      by_cases c1 : r = 0
      · rw [if_pos c1]
        obtain ⟨r',q',e1',r0',r1',q0',q1',q2',q3'⟩ := qbQ m.length L hL hw q q0 (by omega) (by omega)
        rw [e1',obs]
        dsimp only
        rw [if_pos ⟨r0',by omega⟩,if_pos (by omega)]
        by_cases c2 : y2.getD r'.toNat false = true
        · rw [if_pos c2]
          obtain ⟨q'',s,g1,g2,g3,g4,g5⟩ := stay q' q0' (by omega)
          exact ⟨q'',s,g1,g2,g3,g4,by omega⟩
        · rw [if_neg c2,if_pos (by simp; omega),if_pos (by simp; omega),List.set_set]
          have hnot : r' ∉ y1.take i := fun h => c2 ((hu r'.toNat (by omega)).2 (by rw [show ((r'.toNat : Nat) : Int) = r' by omega]; exact h))
          obtain ⟨q'',s,g1,g2,g3,g4,g5⟩ := IH (i + 1) q' (y1.set i r') (y2.set r'.toNat true) n (by omega) q0' (by omega) (by simpa using h1) (by simpa using h2) (by
            rw [htake,qfy,hok]; simp [hnot]; omega) (fun j hj => by
            rw [htake,List.mem_append,← hu j hj,List.getD_eq_getElem?_getD,List.getD_eq_getElem?_getD,List.getElem?_set]
            by_cases hjr : r'.toNat = j
            · subst hjr
              rw [if_pos rfl,if_pos (by omega)]
              simp; omega
            · rw [if_neg hjr]
              simp
              omega) (by omega)
          exact ⟨q'',s,g1,g2,g3,g4,by omega⟩
      · rw [if_neg c1]
        obtain ⟨q'',s,g1,g2,g3,g4,g5⟩ := stay q q0 (by omega)
        exact ⟨q'',s,g1,g2,g3,g4,by omega⟩
    · rw [if_neg c0]
      obtain ⟨q'',s,g1,g2,g3,g4,g5⟩ := stay p h0 (by omega)
      exact ⟨q'',s,g1,g2,g3,g4,by omega⟩
theorem qiM (m : LI) (hm : m.length ≤ 3) (L : LI) (hL : L.length ≤ 17592186044415) (hw : ∀ x ∈ L,-9223372036854775808 ≤ x ∧ x < 9223372036854775808) (N : Int) (hN0 : 0 ≤ N) (hN : N ≤ 5) (p : Int) (h0 : 0 ≤ p) (hp : p ≤ 17592185999000) (k : Nat) (hk : 10 ≤ k) :
  ∃ q s,qao.f k m N L p = some (q,s) ∧ (s.length : Int) = N ∧ okGo m.length [] s = true ∧ 0 ≤ q ∧ q ≤ p + 10 := by
 unfold qao.f
 obtain ⟨q,s,g1,g2,g3,g4,g5⟩ := qgZ m hm L hL hw N.toNat (by omega) N.toNat 0 p (List.replicate N.toNat 0) (List.replicate m.length false) k (by omega) h0 (by omega) (by simp) (by simp) rfl (fun j hj => by
  rw [List.getD_eq_getElem?_getD,List.getElem?_replicate]; simp [hj]) (by omega)
 rw [n0] at g1
 rw [if_pos (by omega),if_pos (by omega),Int.toNat_natCast,List.length_replicate,g1,obs]
 exact ⟨q,s,rfl,by omega,g3,g4,by omega⟩
theorem qkl {m s : LI} (h : mR m = true) (hok : okGo m.length [] s = true) (r : Int) (hr : (s.length : Int) = r) : mSp m s r = true := by simp [mSp,h,hok,hr]
end Go.Pf

namespace Go.Pf
open Go Go.Vm
def mWd (n k : Int) : Int := if n < 1 ∨ k < 1 then 0 else (n - 1) / k + 1
theorem qgX (n k : Int) (hn : -9223372036854775808 ≤ n ∧ n < 9223372036854775808) : qcr.f n k = some (mWd n k) := by
 unfold qcr.f mWd
 by_cases c1 : n < 0
 ·rw [if_pos c1,if_pos (by omega)]
 by_cases c2 : k < 1
 ·rw [if_neg c1,if_pos c2,if_pos (by omega)]
 by_cases c3 : n = 0
 ·rw [if_neg c1,if_neg c2,if_pos c3,if_pos (by omega)]
 have h1 : 0 ≤ (n - 1) / k := Int.ediv_nonneg (by omega) (by omega)
 have h2 : (n - 1) / k ≤ n - 1 := Int.ediv_le_self _ (by omega)
 rw [if_neg c1,if_neg c2,if_neg c3,if_pos (by omega),if_neg (by omega),qah (n := n - 1) (by omega) (by omega),Int.tdiv_eq_ediv_of_nonneg (by omega),qah (n := (n - 1) / k) (by omega) (by omega),qah (by omega) (by omega)]
theorem qia {n k : Int} (hn : 1 ≤ n) (hk : 1 ≤ k) : 1 ≤ mWd n k ∧ mWd n k ≤ n ∧ n ≤ mWd n k * k := by
 unfold mWd
 rw [if_neg (by omega)]
 have h1 : 0 ≤ (n - 1) / k := Int.ediv_nonneg (by omega) (by omega)
 have h2 : (n - 1) / k ≤ n - 1 := Int.ediv_le_self _ (by omega)
 refine ⟨by omega,by omega,?_⟩
 have h3 := Int.emod_add_mul_ediv (n - 1) k
 have h4 := Int.emod_lt_of_pos (n - 1) (show 0 < k by omega)
 rw [Int.add_mul,Int.one_mul,Int.mul_comm]
 omega
theorem qeI {w i n : Int} (hw : 1 ≤ w) (hi : 0 ≤ i) (hn : 0 ≤ n) (hn2 : n < 9223372036854775808) (hw2 : w ≤ n) : qb1.f w i n = some (min (w * i) n) := by
 unfold qb1.f
 have h0 : 0 ≤ n / w := Int.ediv_nonneg hn (by omega)
 have h1 : n / w ≤ n := Int.ediv_le_self _ hn
 rw [if_pos (by omega),if_pos (by omega),Int.tdiv_eq_ediv_of_nonneg hn,qah (by omega) (by omega)]
 have h2 := Int.emod_add_mul_ediv n w
 have h3 := Int.emod_lt_of_pos n (show 0 < w by omega)
 have h5 := Int.emod_nonneg n (show w ≠ 0 by omega)
 by_cases c : n / w < i
 ·rw [if_pos c]
  have h4 : w * (n / w + 1) ≤ w * i := Int.mul_le_mul_of_nonneg_left (by omega) (by omega)
  rw [Int.mul_add,Int.mul_one] at h4
  congr 1; omega
 ·have h4 : w * i ≤ w * (n / w) := Int.mul_le_mul_of_nonneg_left (by omega) (by omega)
  have h6 : 0 ≤ w * i := Int.mul_nonneg (by omega) hi
  rw [if_neg c,qah (n := w * i) (by omega) (by omega)]
  congr 1
  split <;> omega
def mCut (n k i : Int) : Int × Int := if n < 1 ∨ i < 0 ∨ k ≤ i then (0,0) else (min (mWd n k * i) n,min (mWd n k * (i + 1)) n)
theorem qir (n k i : Int) (hn : 0 ≤ n ∧ n < 9223372036854775808) (hk : 1 ≤ k) (hk2 : k < 9223372036854775808) : qdE.f n k i = some (mCut n k i) := by
 unfold qdE.f mCut
 rw [qgX n k (by omega),obs]
 by_cases c0 : n < 1
 ·rw [if_pos (by rw [mWd,if_pos (by omega)]),if_pos (.inl c0)]
 obtain ⟨h1,h2,h3⟩ := qia (show 1 ≤ n by omega) hk
 rw [if_neg (by omega)]
 by_cases c1 : i < 0
 ·rw [if_pos c1,if_pos (by omega)]
 by_cases c2 : k ≤ i
 ·rw [if_neg c1,if_pos c2,if_pos (by omega)]
 rw [if_neg c1,if_neg c2,qeI h1 (by omega) hn.1 hn.2 h2,obs,qah (n := i + 1) (by omega) (by omega),qeI h1 (by omega) hn.1 hn.2 h2,obs,if_neg (by omega)]
def pr : LI → Int
 | [] => 1
 | x :: r => x * pr r
def okS (x : Int) : Bool := decide (0 ≤ x) && decide (x ≤ 32)
def mSR (l : LI) : Bool := decide (l.length ≤ 4) && l.all okS && decide (pr l ≤ 4096)
theorem qcH {x : Int} : okS x = true ↔ 0 ≤ x ∧ x ≤ 32 := by simp [okS]
theorem p32 {i : Nat} (h : i ≤ 4) : (1 : Int) ≤ 32 ^ i ∧ (32 : Int) ^ i ≤ 1048576 := by
 rcases (show i = 0 ∨ i = 1 ∨ i = 2 ∨ i = 3 ∨ i = 4 by omega) with e | e | e | e | e <;> subst e <;> decide
theorem qdb (l : LI) (hl : l.length ≤ 4) : ∀ (d i : Nat) (p : Int) (n : Nat),l.length = i + d → 0 ≤ p → p ≤ 32 ^ i → d < n →
  qaD.l0 n p l l.length i = some (if (l.drop i).all okS = true then .inl (p * pr (l.drop i)) else .inr false)
 | 0,i,p,n,hi,h1,h2,hn => by
  obtain ⟨n,rfl⟩ : ∃ m,n = m + 1 := ⟨n - 1,by omega⟩
  rw [qaD.l0,if_neg (by omega),List.drop_eq_nil_of_le (by omega)]
  simp [pr]
 | d + 1,i,p,n,hi,h1,h2,hn => by
  obtain ⟨n,rfl⟩ : ∃ m,n = m + 1 := ⟨n - 1,by omega⟩
  rw [qaD.l0,if_pos (by omega),if_pos (by omega),Int.toNat_natCast,qae (show i < l.length by omega) 0]
  generalize l.getD i 0 = x
  by_cases c1 : x < 0
  ·rw [if_pos c1]; simp [qcH]; omega
  by_cases c2 : 32 < x
  ·rw [if_neg c1,if_pos c2]; simp [qcH]; omega
  have hx : okS x = true := qcH.2 (by omega)
  have h8 := p32 (show i + 1 ≤ 4 by omega)
  have e8 : (32 : Int) ^ (i + 1) = 32 ^ i * 32 := Int.pow_succ ..
  have hm : 0 ≤ p * x ∧ p * x ≤ 32 ^ (i + 1) := ⟨Int.mul_nonneg h1 (by omega),by rw [e8]; exact Int.mul_le_mul h2 (by omega) (by omega) (by omega)⟩
  rw [if_neg c1,if_neg c2,qah (n := p * x) (by omega) (by omega),qah (n := (i : Int) + 1) (by omega) (by omega)]
  have := qdb l hl d (i + 1) (p * x) n (by omega) hm.1 hm.2 (by omega)
  rw [show (i : Int) + 1 = ((i + 1 : Nat) : Int) by omega,this]
  simp [hx,pr,Int.mul_assoc]
theorem qbw (l : LI) (k : Nat) (hk : 10 ≤ k) : qaD.f k l = some (mSR l) := by
 unfold qaD.f
 by_cases h : 4 < (l.length : Int)
 ·rw [if_pos h]; simp [mSR]; omega
 ·have := qdb l (by omega) l.length 0 1 k (by omega) (by omega) (by simp) (by omega)
  rw [if_neg h,show (0 : Int) = ((0 : Nat) : Int) from rfl,this]
  have hl : l.length ≤ 4 := by omega
  by_cases ha : l.all okS = true
  ·simp [ha,mSR,hl]
  ·simp [ha,mSR]
theorem qaj {l : LI} (h : mSR l = true) : l.length ≤ 4 ∧ (∀ x ∈ l,0 ≤ x ∧ x ≤ 32) ∧ pr l ≤ 4096 := by
 unfold mSR at h
 simp only [Bool.and_eq_true,decide_eq_true_eq] at h
 exact ⟨h.1.1,fun x hx => qcH.1 (List.all_eq_true.1 h.1.2 x hx),h.2⟩
def tl1 (m A : LI) (x k : Int) : Int × Int := if 0 ≤ k then mCut x (m.getD k.toNat 0) (A.getD k.toNat 0) else (0,x)
def mTile (sh m sp : LI) (d : Int) : List (Int × Int) := List.zipWith (tl1 m (atM m d)) sh sp
theorem qcq {f : Int → Int → Int × Int} {a b : LI} {i : Nat} (ha : i < a.length) (hb : i < b.length) : List.zipWith f (a.take (i + 1)) (b.take (i + 1)) = List.zipWith f (a.take i) (b.take i) ++ [f (a.getD i 0) (b.getD i 0)] := by
 rw [qcP ha,qcP hb,List.zipWith_append (by simp; omega)]; rfl
theorem qeJ (sh m sp A : LI) (hsh : ∀ x ∈ sh,0 ≤ x ∧ x ≤ 32) (hlen : sp.length = sh.length) (h4 : sh.length ≤ 4) (hA : A.length = m.length) (hm : ∀ x ∈ m,1 ≤ x ∧ x ≤ 8) (hsp : ∀ x ∈ sp,-1 ≤ x ∧ x < (m.length : Int)) : ∀ (d i n : Nat),sp.length = i + d → d < n →
  qa2.l0 n sh m sp sp.length i A (List.zipWith (tl1 m A) (sh.take i) (sp.take i)) = some (List.zipWith (tl1 m A) sh sp)
 | 0,i,n,hi,hn => by
  obtain ⟨n,rfl⟩ : ∃ m,n = m + 1 := ⟨n - 1,by omega⟩
  rw [qa2.l0,if_neg (by omega),List.take_of_length_le (by omega),List.take_of_length_le (by omega)]
 | d + 1,i,n,hi,hn => by
  obtain ⟨n,rfl⟩ : ∃ m,n = m + 1 := ⟨n - 1,by omega⟩
  have ih := qeJ sh m sp A hsh hlen h4 hA hm hsp d (i + 1) n (by omega) (by omega)
  rw [qcq (by omega) (by omega)] at ih
  have hk := hsp _ (qas (show i < sp.length by omega) 0)
  have hx := hsh _ (qas (show i < sh.length by omega) 0)
  have hl : (List.zipWith (tl1 m A) (sh.take i) (sp.take i)).length ≤ 4 := by simp; omega
  rw [qa2.l0,if_pos (by omega),if_pos (by omega),if_pos (by omega),Int.toNat_natCast,qah (n := (i : Int) + 1) (by omega) (by omega),show (i : Int) + 1 = ((i + 1 : Nat) : Int) by omega]
  generalize sp.getD i 0 = k at ih hk ⊢
  generalize sh.getD i 0 = x at ih hx ⊢
  by_cases c : 0 ≤ k
  ·have hmk := hm _ (qas (show k.toNat < m.length by omega) 0)
   rw [if_pos c,if_pos (by omega),if_pos (by omega),if_pos (by omega),qir _ _ _ (by omega) hmk.1 (by omega),obs,if_pos (by simp only [List.length_singleton]; omega)]
   rw [show tl1 m A x k = mCut x (m.getD k.toNat 0) (A.getD k.toNat 0) by rw [tl1,if_pos c]] at ih
   exact ih
  ·rw [if_neg c,if_pos (by simp only [List.length_singleton]; omega)]
   rw [show tl1 m A x k = (0,x) by rw [tl1,if_neg c]] at ih
   exact ih
theorem qgE {m : LI} (h : mR m = true) : ∀ x ∈ m,1 ≤ x ∧ x ≤ 8 := fun x hx => qbx.1 (List.all_eq_true.1 (qcn h).2.1 x hx)
theorem qfh {sh m sp : LI} {d : Int} (h1 : mSR sh = true) (h2 : mSp m sp sh.length = true) (h3 : 0 ≤ d) (h4 : d < mD m) (k : Nat) (hk : 30 ≤ k) : qa2.f k sh m sp d = some (true,mTile sh m sp d) := by
 obtain ⟨s1,s2,s3⟩ := qaj h1
 obtain ⟨p1,p2,p3⟩ := qbM h2
 have := qeJ sh m sp (atM m d) s2 (by omega) s1 (qco m d) (qgE p1) (qgD p3) sp.length 0 k (by omega) (by omega)
 unfold qa2.f
 rw [n0] at this
 rw [qbw sh k (by omega),obs,if_pos h1,qce m sp _ (by omega) k (by omega),obs,if_pos h2,if_neg (by omega),qbn m k (by omega),obs,if_neg (by omega),qhe m d k (by omega),obs,qib h3 h4,
  show qa2.l0 k sh m sp sp.length 0 (atM m d) [] = _ from this,obs]
 rfl
theorem qeK (y : List (Int × Int)) (hy : y.length ≤ 100) (hb : ∀ p ∈ y,0 ≤ p.1 ∧ p.1 ≤ 100 ∧ 0 ≤ p.2 ∧ p.2 ≤ 100) : ∀ (d i n : Nat),y.length = i + d → d < n →
  qa5.l0 n y.length i ((y.take i).map fun p => p.2 - p.1) y = some (y.map fun p => p.2 - p.1)
 | 0,i,n,hi,hn => by
  obtain ⟨n,rfl⟩ : ∃ m,n = m + 1 := ⟨n - 1,by omega⟩
  rw [qa5.l0,if_neg (by omega),List.take_of_length_le (by omega)]
 | d + 1,i,n,hi,hn => by
  obtain ⟨n,rfl⟩ : ∃ m,n = m + 1 := ⟨n - 1,by omega⟩
  have ih := qeK y hy hb d (i + 1) n (by omega) (by omega)
  have hx := hb _ (qas (show i < y.length by omega) (0,0))
  have ht : y.take (i + 1) = y.take i ++ [y.getD i (0,0)] := by
   rw [List.take_add_one,List.getD_eq_getElem?_getD,List.getElem?_eq_getElem (by omega)]; rfl
  rw [ht,List.map_append] at ih
  rw [qa5.l0,if_pos (by omega),if_pos (by omega),Int.toNat_natCast,if_pos (by omega),if_pos (by simp; omega),qah (n := (i : Int) + 1) (by omega) (by omega),show (i : Int) + 1 = ((i + 1 : Nat) : Int) by omega,qah (by omega) (by omega)]
  exact ih
theorem qeL (y : List (Int × Int)) (hy : y.length ≤ 100) : ∀ (d i n : Nat),y.length = i + d → d < n →
  qaY.l0 n y.length i ((y.take i).map fun p => p.1) y = some (y.map fun p => p.1)
 | 0,i,n,hi,hn => by
  obtain ⟨n,rfl⟩ : ∃ m,n = m + 1 := ⟨n - 1,by omega⟩
  rw [qaY.l0,if_neg (by omega),List.take_of_length_le (by omega)]
 | d + 1,i,n,hi,hn => by
  obtain ⟨n,rfl⟩ : ∃ m,n = m + 1 := ⟨n - 1,by omega⟩
  have ih := qeL y hy d (i + 1) n (by omega) (by omega)
  have ht : y.take (i + 1) = y.take i ++ [y.getD i (0,0)] := by
   rw [List.take_add_one,List.getD_eq_getElem?_getD,List.getElem?_eq_getElem (by omega)]; rfl
  rw [ht,List.map_append] at ih
  rw [qaY.l0,if_pos (by omega),if_pos (by omega),Int.toNat_natCast,if_pos (by omega),if_pos (by simp; omega),qah (n := (i : Int) + 1) (by omega) (by omega),show (i : Int) + 1 = ((i + 1 : Nat) : Int) by omega]
  exact ih
theorem qhJ {x k i : Int} (hx : 0 ≤ x) (hk : 1 ≤ k) : 0 ≤ (mCut x k i).1 ∧ (mCut x k i).1 ≤ (mCut x k i).2 ∧ (mCut x k i).2 ≤ x := by
 unfold mCut
 split
 ·simp; omega
 ·rename_i h
  obtain ⟨h1,h2,h3⟩ := qia (show 1 ≤ x by omega) hk
  have hq : 0 ≤ mWd x k * i := Int.mul_nonneg (by omega) (by omega)
  have hp : mWd x k * (i + 1) = mWd x k * i + mWd x k := by rw [Int.mul_add,Int.mul_one]
  dsimp only
  omega
theorem qh8 {f : Int → Int → Int × Int} : ∀ {a b : LI} {p : Int × Int},p ∈ List.zipWith f a b → ∃ x k,x ∈ a ∧ k ∈ b ∧ p = f x k
 | [],_,_,h => by simp at h
 | _ :: _,[],_,h => by simp at h
 | x :: a,k :: b,p,h => by
  rw [List.zipWith_cons_cons] at h
  rcases List.mem_cons.1 h with rfl | h
  ·exact ⟨x,k,by simp,by simp,rfl⟩
  ·obtain ⟨y,l,h1,h2,h3⟩ := qh8 h
   exact ⟨y,l,by simp [h1],by simp [h2],h3⟩
theorem qjw {sh m sp : LI} {d : Int} (hsh : ∀ x ∈ sh,0 ≤ x ∧ x ≤ 32) (hm : ∀ x ∈ m,1 ≤ x ∧ x ≤ 8) (hsp : ∀ x ∈ sp,-1 ≤ x ∧ x < (m.length : Int)) : ∀ p ∈ mTile sh m sp d,0 ≤ p.1 ∧ p.1 ≤ 100 ∧ 0 ≤ p.2 ∧ p.2 ≤ 100 := by
 intro p hp
 unfold mTile at hp
 obtain ⟨x,k,hx,hk,rfl⟩ : ∃ x k,x ∈ sh ∧ k ∈ sp ∧ p = tl1 m (atM m d) x k := by
  exact qh8 hp
 have hx := hsh x hx
 have hk := hsp k hk
 unfold tl1
 split
 ·have hmk := hm _ (qas (show k.toNat < m.length by omega) 0)
  have := qhJ (i := (atM m d).getD k.toNat 0) hx.1 hmk.1
  omega
 ·simp; omega
def mSz (sh m sp : LI) (d : Int) : LI := (mTile sh m sp d).map fun p => p.2 - p.1
theorem qhf {sh m sp : LI} {d : Int} (h : sp.length = sh.length) : (mTile sh m sp d).length = sh.length := by simp [mTile,h]
theorem qfi {sh m sp : LI} {d : Int} (h1 : mSR sh = true) (h2 : mSp m sp sh.length = true) (h3 : 0 ≤ d) (h4 : d < mD m) (k : Nat) (hk : 30 ≤ k) : qa5.f k sh m sp d = some (mSz sh m sp d) := by
 obtain ⟨s1,s2,s3⟩ := qaj h1
 obtain ⟨p1,p2,p3⟩ := qbM h2
 have hl := qhf (sh := sh) (m := m) (sp := sp) (d := d) (by omega)
 have := qeK (mTile sh m sp d) (by omega) (qjw s2 (qgE p1) (qgD p3)) (mTile sh m sp d).length 0 k (by omega) (by omega)
 unfold qa5.f
 rw [qfh h1 h2 h3 h4 k hk,obs]
 rw [n0] at this
 dsimp only
 rw [show qa5.l0 k (mTile sh m sp d).length 0 [] (mTile sh m sp d) = _ from this]; rfl
theorem qfj {sh m sp : LI} {d : Int} (h1 : mSR sh = true) (h2 : mSp m sp sh.length = true) (h3 : 0 ≤ d) (h4 : d < mD m) (k : Nat) (hk : 30 ≤ k) : qaY.f k sh m sp d = some ((mTile sh m sp d).map fun p => p.1) := by
 obtain ⟨s1,s2,s3⟩ := qaj h1
 obtain ⟨p1,p2,p3⟩ := qbM h2
 have hl := qhf (sh := sh) (m := m) (sp := sp) (d := d) (by omega)
 have := qeL (mTile sh m sp d) (by omega) (mTile sh m sp d).length 0 k (by omega) (by omega)
 unfold qaY.f
 rw [qfh h1 h2 h3 h4 k hk,obs]
 rw [n0] at this
 dsimp only
 rw [show qaY.l0 k (mTile sh m sp d).length 0 [] (mTile sh m sp d) = _ from this]; rfl
def T8 : LI := [1,2,3,4,5,0,7,2]
theorem T8_bd : ∀ x ∈ T8,0 ≤ x ∧ x ≤ 7 := by decide
theorem qkj : ∀ (l : LI),(∀ x ∈ l,0 ≤ x ∧ x ≤ 7) → 0 ≤ pr l ∧ pr l ≤ 7 ^ l.length
 | [],_ => by simp [pr]
 | x :: r,h => by
  have hx := h x (by simp)
  obtain ⟨h1,h2⟩ := qkj r fun y hy => h y (by simp [hy])
  show 0 ≤ x * pr r ∧ x * pr r ≤ 7 ^ (r.length + 1)
  refine ⟨Int.mul_nonneg hx.1 h1,?_⟩
  rw [Int.pow_succ,Int.mul_comm]
  exact Int.mul_le_mul h2 hx.2 hx.1 (Int.pow_nonneg (by omega))
theorem qgp (L : LI) (hL : L.length ≤ 17592186044415) (hw : ∀ x ∈ L,-9223372036854775808 ≤ x ∧ x < 9223372036854775808) : ∀ (d : Nat) (p : Int) (y : LI) (n : Nat),0 ≤ p → p ≤ 17592186000000 - d → y.length + d ≤ 3 → (∀ x ∈ y,0 ≤ x ∧ x ≤ 7) → d < n →
  ∃ q s,qaz.l0 n d L p y = some (q,s) ∧ s.length = y.length + d ∧ (∀ x ∈ s,0 ≤ x ∧ x ≤ 7) ∧ 0 ≤ q ∧ q ≤ p + d := by
 intro d
 induction d with
 | zero =>
  intro p y n h0 hp hy hb hn
  obtain ⟨n,rfl⟩ : ∃ m,n = m + 1 := ⟨n - 1,by omega⟩
  rw [qaz.l0,if_neg (by omega)]
  exact ⟨_,_,rfl,rfl,hb,h0,by omega⟩
 | succ d ih =>
  intro p y n h0 hp hy hb hn
  obtain ⟨n,rfl⟩ : ∃ m,n = m + 1 := ⟨n - 1,by omega⟩
  obtain ⟨r,q,e,r0,r1,q0,_,_,q1⟩ := qbQ 8 L hL hw p h0 (by omega) (by omega)
  have hl : T8.length = 8 := rfl
  rw [qaz.l0,if_pos (by omega),e,obs,show ([1,2,3,4,5,0,7,2] : LI) = T8 from rfl]
  dsimp only
  rw [if_pos (by omega),if_pos (by omega),if_pos (by simp only [List.length_singleton]; omega),qah (by omega) (by omega),show (((d + 1 : Nat) : Int) - 1) = (d : Int) by omega]
  have hx := T8_bd _ (qas (show r.toNat < T8.length by omega) 0)
  obtain ⟨q',s,e2,h1,h2,h3,h4⟩ := ih q (y ++ [T8.getD r.toNat 0]) n q0 (by omega) (by simp only [List.length_append,List.length_singleton]; omega) (fun x hx' => by
   rcases List.mem_append.1 hx' with h | h
   ·exact hb x h
   ·rw [List.mem_singleton.1 h]; exact hx) (by omega)
  exact ⟨q',s,e2,by simp only [List.length_append,List.length_singleton] at h1; omega,h2,h3,by omega⟩
theorem qis (L : LI) (hL : L.length ≤ 17592186044415) (hw : ∀ x ∈ L,-9223372036854775808 ≤ x ∧ x < 9223372036854775808) (p : Int) (h0 : 0 ≤ p) (hp : p ≤ 17592185990000) (k : Nat) (hk : 10 ≤ k) :
  ∃ q s,qaz.f k L p = some (q,s) ∧ s.length ≤ 3 ∧ (∀ x ∈ s,0 ≤ x ∧ x ≤ 7) ∧ 0 ≤ q ∧ q ≤ p + 4 := by
 unfold qaz.f
 obtain ⟨r,q,e,r0,r1,q0,_,_,q1⟩ := qbQ 4 L hL hw p h0 (by omega) (by omega)
 rw [e,obs]
 dsimp only
 obtain ⟨q',s,e2,h1,h2,h3,h4⟩ := qgp L hL hw r.toNat q [] k q0 (by omega) (by simp only [List.length_nil]; omega) (fun x hx => by cases hx) (by omega)
 rw [show ((r.toNat : Nat) : Int) = r by omega] at e2
 rw [e2,obs]
 exact ⟨q',s,rfl,by simp only [List.length_nil] at h1; omega,h2,h3,by omega⟩
end Go.Pf

namespace Go.Pf
open Go Go.Vm
def zSz (s : LI) : Int := if mSR s = true then pr s else 0
theorem qd0 (l : LI) : ∀ (d i : Nat) (p : Int) (n : Nat),l.length = i + d → i ≤ 4 → 0 ≤ p → p ≤ 32 ^ i → d < n →
  qaE.l0 n l p i = some (if (l.drop i).all okS = true ∧ l.length ≤ 4 then .inl (p * pr (l.drop i)) else .inr false)
 | 0,i,p,n,hi,h4,h1,h2,hn => by
  obtain ⟨n,rfl⟩ : ∃ m,n = m + 1 := ⟨n - 1,by omega⟩
  rw [qaE.l0,if_neg (by omega),List.drop_eq_nil_of_le (by omega)]
  simp [pr]; omega
 | d + 1,i,p,n,hi,h4,h1,h2,hn => by
  obtain ⟨n,rfl⟩ : ∃ m,n = m + 1 := ⟨n - 1,by omega⟩
  rw [qaE.l0,if_pos (by omega),if_pos (by omega),Int.toNat_natCast,qae (show i < l.length by omega) 0]
  generalize l.getD i 0 = x
  by_cases c1 : x < 0
  ·rw [if_pos c1]; simp [qcH]; omega
  by_cases c2 : 32 < x
  ·rw [if_neg c1,if_pos c2]; simp [qcH]; omega
  have hx : okS x = true := qcH.2 (by omega)
  rw [if_neg c1,if_neg c2]
  by_cases c3 : 4 ≤ (i : Int)
  ·rw [if_pos c3]; simp; omega
  rw [if_neg c3]
  have h8 := p32 (show i + 1 ≤ 4 by omega)
  have e8 : (32 : Int) ^ (i + 1) = 32 ^ i * 32 := Int.pow_succ ..
  have hm : 0 ≤ p * x ∧ p * x ≤ 32 ^ (i + 1) := ⟨Int.mul_nonneg h1 (by omega),by rw [e8]; exact Int.mul_le_mul h2 (by omega) (by omega) (by omega)⟩
  rw [qah (n := p * x) (by omega) (by omega),qah (n := (i : Int) + 1) (by omega) (by omega)]
  have := qd0 l d (i + 1) (p * x) n (by omega) (by omega) hm.1 hm.2 (by omega)
  rw [show (i : Int) + 1 = ((i + 1 : Nat) : Int) by omega,this]
  simp [hx,pr,Int.mul_assoc]
theorem qcM (l : LI) : ∀ (d i : Nat) (p : Int) (n : Nat),4 = i + d → 4 < l.length → 0 ≤ p → p ≤ 32 ^ i → d < n →
  qaE.l0 n l p i = some (.inr false)
 | 0,i,p,n,hi,h4,h1,h2,hn => by
  obtain ⟨n,rfl⟩ : ∃ m,n = m + 1 := ⟨n - 1,by omega⟩
  rw [qaE.l0,if_pos (by omega),if_pos (by omega)]
  repeat' split
  all_goals first | rfl | omega
 | d + 1,i,p,n,hi,h4,h1,h2,hn => by
  obtain ⟨n,rfl⟩ : ∃ m,n = m + 1 := ⟨n - 1,by omega⟩
  rw [qaE.l0,if_pos (by omega),if_pos (by omega),Int.toNat_natCast]
  generalize l.getD i 0 = x
  by_cases c1 : x < 0
  ·rw [if_pos c1]
  by_cases c2 : 32 < x
  ·rw [if_neg c1,if_pos c2]
  rw [if_neg c1,if_neg c2,if_neg (by omega)]
  have h8 := p32 (show i + 1 ≤ 4 by omega)
  have e8 : (32 : Int) ^ (i + 1) = 32 ^ i * 32 := Int.pow_succ ..
  have hm : 0 ≤ p * x ∧ p * x ≤ 32 ^ (i + 1) := ⟨Int.mul_nonneg h1 (by omega),by rw [e8]; exact Int.mul_le_mul h2 (by omega) (by omega) (by omega)⟩
  rw [qah (n := p * x) (by omega) (by omega),qah (n := (i : Int) + 1) (by omega) (by omega)]
  have := qcM l d (i + 1) (p * x) n (by omega) (by omega) hm.1 hm.2 (by omega)
  rw [show (i : Int) + 1 = ((i + 1 : Nat) : Int) by omega,this]
theorem qch (l : LI) (k : Nat) (hk : 10 ≤ k) : qaE.f k l = some (mSR l) := by
 unfold qaE.f
 by_cases h4 : l.length ≤ 4
 ·have := qd0 l l.length 0 1 k (by omega) (by omega) (by omega) (by simp) (by omega)
  rw [show (0 : Int) = ((0 : Nat) : Int) from rfl,this]
  by_cases ha : l.all okS = true
  ·simp [ha,mSR,h4]
  ·simp [ha,mSR]
 ·have := qcM l 4 0 1 k (by omega) (by omega) (by omega) (by simp) (by omega)
  rw [show (0 : Int) = ((0 : Nat) : Int) from rfl,this]
  simp [mSR]; omega
theorem qb8 : ∀ {l : LI},(∀ x ∈ l,0 ≤ x) → 0 ≤ pr l
 | [],_ => by decide
 | x :: r,h => Int.mul_nonneg (h x (List.mem_cons_self ..)) (qb8 fun y hy => h y (List.mem_cons_of_mem _ hy))
theorem qdQ (l : LI) (h : ∀ x ∈ l,0 ≤ x ∧ x ≤ 32) (hl : l.length ≤ 4) : ∀ (d i : Nat) (p : Int) (n : Nat),l.length = i + d → 0 ≤ p → p ≤ 32 ^ i → d < n →
  qaR.l0 n p l l.length i = some (p * pr (l.drop i))
 | 0,i,p,n,hi,h1,h2,hn => by
  obtain ⟨n,rfl⟩ : ∃ m,n = m + 1 := ⟨n - 1,by omega⟩
  rw [qaR.l0,if_neg (by omega),List.drop_eq_nil_of_le (by omega)]
  simp [pr]
 | d + 1,i,p,n,hi,h1,h2,hn => by
  obtain ⟨n,rfl⟩ : ∃ m,n = m + 1 := ⟨n - 1,by omega⟩
  have hx := h _ (qas (show i < l.length by omega) 0)
  rw [qaR.l0,if_pos (by omega),if_pos (by omega),Int.toNat_natCast,qae (show i < l.length by omega) 0]
  generalize l.getD i 0 = x at hx ⊢
  have h8 := p32 (show i + 1 ≤ 4 by omega)
  have e8 : (32 : Int) ^ (i + 1) = 32 ^ i * 32 := Int.pow_succ ..
  have hm : 0 ≤ p * x ∧ p * x ≤ 32 ^ (i + 1) := ⟨Int.mul_nonneg h1 (by omega),by rw [e8]; exact Int.mul_le_mul h2 (by omega) (by omega) (by omega)⟩
  rw [qah (n := p * x) (by omega) (by omega),qah (n := (i : Int) + 1) (by omega) (by omega)]
  have := qdQ l h hl d (i + 1) (p * x) n (by omega) hm.1 hm.2 (by omega)
  rw [show (i : Int) + 1 = ((i + 1 : Nat) : Int) by omega,this]
  simp [pr,Int.mul_assoc]
theorem qcg (l : LI) (k : Nat) (hk : 10 ≤ k) : qaR.f k l = some (zSz l) := by
 unfold qaR.f zSz
 rw [qbw l k hk,obs]
 by_cases h : mSR l = true
 ·obtain ⟨h1,h2,_⟩ := qaj h
  have := qdQ l h2 h1 l.length 0 1 k (by omega) (by omega) (by simp) (by omega)
  rw [if_pos h,if_pos h,show (0 : Int) = ((0 : Nat) : Int) from rfl,this]
  simp
 ·rw [if_neg h,if_neg h]
theorem qeQ (l : LI) (h : ∀ x ∈ l,0 ≤ x ∧ x ≤ 32) (hl : l.length ≤ 4) : ∀ (d i : Nat) (p : Int) (n : Nat),l.length = i + d → 0 ≤ p → p ≤ 32 ^ i → d < n →
  qa6.l0 n l p i = some (p * pr (l.drop i))
 | 0,i,p,n,hi,h1,h2,hn => by
  obtain ⟨n,rfl⟩ : ∃ m,n = m + 1 := ⟨n - 1,by omega⟩
  rw [qa6.l0,if_neg (by omega),List.drop_eq_nil_of_le (by omega)]
  simp [pr]
 | d + 1,i,p,n,hi,h1,h2,hn => by
  obtain ⟨n,rfl⟩ : ∃ m,n = m + 1 := ⟨n - 1,by omega⟩
  have hx := h _ (qas (show i < l.length by omega) 0)
  rw [qa6.l0,if_pos (by omega),if_pos (by omega),Int.toNat_natCast,qae (show i < l.length by omega) 0]
  generalize l.getD i 0 = x at hx ⊢
  have h8 := p32 (show i + 1 ≤ 4 by omega)
  have e8 : (32 : Int) ^ (i + 1) = 32 ^ i * 32 := Int.pow_succ ..
  have hm : 0 ≤ p * x ∧ p * x ≤ 32 ^ (i + 1) := ⟨Int.mul_nonneg h1 (by omega),by rw [e8]; exact Int.mul_le_mul h2 (by omega) (by omega) (by omega)⟩
  rw [qah (n := p * x) (by omega) (by omega),qah (n := (i : Int) + 1) (by omega) (by omega)]
  have := qeQ l h hl d (i + 1) (p * x) n (by omega) hm.1 hm.2 (by omega)
  rw [show (i : Int) + 1 = ((i + 1 : Nat) : Int) by omega,this]
  simp [pr,Int.mul_assoc]
theorem qcF (l : LI) (k : Nat) (hk : 10 ≤ k) : qa6.f k l = some (zSz l) := by
 unfold qa6.f zSz
 rw [qch l k hk,obs]
 by_cases h : mSR l = true
 ·obtain ⟨h1,h2,_⟩ := qaj h
  have := qeQ l h2 h1 l.length 0 1 k (by omega) (by omega) (by simp) (by omega)
  rw [if_pos h,if_pos h,show (0 : Int) = ((0 : Nat) : Int) from rfl,this]
  simp
 ·rw [if_neg h,if_neg h]
def zT (s d : LI) : Bool := mSR s && decide ((d.length : Int) = pr s)
theorem qbL (s d : LI) (k : Nat) (hk : 10 ≤ k) : qbg.f k s d = some (zT s d) := by
 unfold qbg.f zT
 rw [qbw s k hk,obs,qcg s k hk,obs]
 by_cases h : mSR s = true
 ·simp [h,zSz]
 ·simp [h]
theorem qbX (s d : LI) (k : Nat) (hk : 10 ≤ k) : qbt.f k s d = some (zT s d) := by
 unfold qbt.f zT
 rw [qch s k hk,obs,qcF s k hk,obs]
 by_cases h : mSR s = true
 ·simp [h,zSz]
 ·simp [h]
theorem qaO {s d : LI} (h : zT s d = true) : mSR s = true ∧ (d.length : Int) = pr s := by
 unfold zT at h
 simpa using h
def pl : LI → Int → LI
 | [],_ => []
 | a :: r,x => (x / pr r) % a :: pl r x
theorem qfx : ∀ (s : LI) (x : Int),(pl s x).length = s.length
 | [],_ => rfl
 | _ :: r,x => by simp [pl,qfx r x]
def ix : LI → LI → Int
 | a :: s,b :: p => b * pr s + ix s p
 | _,_ => 0
def mIn : LI → LI → Bool
 | [],[] => true
 | a :: s,b :: p => decide (0 ≤ b) && decide (b < a) && mIn s p
 | _,_ => false
theorem qhI : ∀ {s p : LI},mIn s p = true → p.length = s.length
 | [],[],_ => rfl
 | _ :: s,_ :: p,h => by
  simp only [mIn,Bool.and_eq_true] at h
  simp [qhI h.2]
 | [],_ :: _,h => by simp [mIn] at h
 | _ :: _,[],h => by simp [mIn] at h
theorem qi8 : ∀ {s p : LI},mIn s p = true → 0 ≤ ix s p ∧ ix s p < pr s
 | [],[],_ => by decide
 | a :: s,b :: p,h => by
  simp only [mIn,Bool.and_eq_true,decide_eq_true_eq] at h
  obtain ⟨h1,h2⟩ := qi8 h.2
  have h3 : b * pr s + pr s ≤ a * pr s := by
   have := Int.mul_le_mul_of_nonneg_right (show b + 1 ≤ a by omega) (show 0 ≤ pr s by omega)
   rw [Int.add_mul,Int.one_mul] at this; exact this
  have h4 : 0 ≤ b * pr s := Int.mul_nonneg h.1.1 (by omega)
  exact ⟨by show 0 ≤ b * pr s + ix s p; omega,by show b * pr s + ix s p < a * pr s; omega⟩
 | [],_ :: _,h => by simp [mIn] at h
 | _ :: _,[],h => by simp [mIn] at h
theorem qiY : ∀ {s : LI},(∀ a ∈ s,0 < a) → ∀ (x : Int),mIn s (pl s x) = true
 | [],_,_ => rfl
 | a :: s,h,x => by
  have ha := h a (List.mem_cons_self ..)
  have := qiY (s := s) (fun b hb => h b (List.mem_cons_of_mem _ hb)) x
  simp only [pl,mIn,Bool.and_eq_true,decide_eq_true_eq]
  exact ⟨⟨Int.emod_nonneg _ (by omega),Int.emod_lt_of_pos _ ha⟩,this⟩
theorem qiX : ∀ {l : LI},(∀ x ∈ l,0 < x) → 0 < pr l
 | [],_ => by decide
 | x :: r,h => Int.mul_pos (h x (List.mem_cons_self ..)) (qiX fun y hy => h y (List.mem_cons_of_mem _ hy))
theorem qhc : ∀ {l : LI},(∀ x ∈ l,0 ≤ x) → 0 < pr l → ∀ x ∈ l,0 < x
 | [],_,_,_,h => by cases h
 | y :: r,h0,hp,x,hx => by
  have h1 := h0 y (List.mem_cons_self ..)
  have hr := qb8 (l := r) fun z hz => h0 z (List.mem_cons_of_mem _ hz)
  have hp : 0 < y * pr r := hp
  have hy : y ≠ 0 := fun e => by rw [e,Int.zero_mul] at hp; omega
  have hr' : pr r ≠ 0 := fun e => by rw [e,Int.mul_zero] at hp; omega
  rcases List.mem_cons.1 hx with e | hx
  ·omega
  ·exact qhc (fun z hz => h0 z (List.mem_cons_of_mem _ hz)) (by omega) x hx
end Go.Pf

namespace Go.Pf
open Go Go.Vm
theorem qiS {i : Nat} {x : Int} {r : LI} : (List.replicate (i + 1) (0 : Int) ++ r).set i x = List.replicate i 0 ++ x :: r := by
 rw [List.set_append,if_pos (by simp)]
 have : List.replicate (i + 1) (0 : Int) = List.replicate i 0 ++ [0] := List.replicate_succ'
 rw [this,List.set_append,if_neg (by simp)]
 simp
theorem qdc (s : LI) (hs : ∀ a ∈ s,0 < a ∧ a ≤ 32) (hl : s.length ≤ 4) (x : Int) (hx : 0 ≤ x) (hx2 : x ≤ 1048576) : ∀ (i n : Nat),i ≤ s.length → i < n →
  qaH.l0 n s (x / pr (s.drop i)) ((i : Int) - 1) (List.replicate i 0 ++ pl (s.drop i) x) = some (pl s x)
 | 0,n,hi,hn => by
  obtain ⟨n,rfl⟩ : ∃ m,n = m + 1 := ⟨n - 1,by omega⟩
  rw [qaH.l0,if_neg (by omega)]; simp
 | i + 1,n,hi,hn => by
  obtain ⟨n,rfl⟩ : ∃ m,n = m + 1 := ⟨n - 1,by omega⟩
  have ha := hs _ (qas (show i < s.length by omega) 0)
  have hd := qae (show i < s.length by omega) (0 : Int)
  have hp : 0 < pr (s.drop (i + 1)) := qiX fun b hb => (hs b (List.mem_of_mem_drop hb)).1
  have ih := qdc s hs hl x hx hx2 i n (by omega) (by omega)
  rw [hd] at ih
  have hlen : (List.replicate (i + 1) (0 : Int) ++ pl (s.drop (i + 1)) x).length = s.length := by
   rw [List.length_append,qfx,List.length_replicate,List.length_drop]; omega
  have hq : 0 ≤ x / pr (s.drop (i + 1)) := Int.ediv_nonneg hx (by omega)
  have hq2 : x / pr (s.drop (i + 1)) ≤ x := Int.ediv_le_self _ hx
  rw [qaH.l0,show ((i + 1 : Nat) : Int) - 1 = (i : Int) by omega,if_pos (by omega),if_pos (by omega),Int.toNat_natCast,if_pos (by omega),if_pos (by rw [hlen]; omega),if_pos (by rw [hlen]; omega),qah (n := (i : Int) - 1) (by omega) (by omega),qiS]
  generalize s.getD i 0 = a at ha ih ⊢
  rw [Int.tdiv_eq_ediv_of_nonneg hq,Int.tmod_eq_emod_of_nonneg hq]
  have hq3 : 0 ≤ x / pr (s.drop (i + 1)) / a := Int.ediv_nonneg hq (by omega)
  have hq4 : x / pr (s.drop (i + 1)) / a ≤ x / pr (s.drop (i + 1)) := Int.ediv_le_self _ hq
  rw [qah (by omega) (by omega),Int.ediv_ediv_of_nonneg (by omega)]
  rw [show pr (a :: s.drop (i + 1)) = a * pr (s.drop (i + 1)) from rfl,Int.mul_comm] at ih
  exact ih
theorem qd1 (s : LI) (hs : ∀ a ∈ s,0 < a ∧ a ≤ 32) (hl : s.length ≤ 4) (x : Int) (hx : 0 ≤ x) (hx2 : x ≤ 1048576) : ∀ (i n : Nat),i ≤ s.length → i < n →
  qaW.l0 n s (x / pr (s.drop i)) ((i : Int) - 1) (List.replicate i 0 ++ pl (s.drop i) x) = some (pl s x)
 | 0,n,hi,hn => by
  obtain ⟨n,rfl⟩ : ∃ m,n = m + 1 := ⟨n - 1,by omega⟩
  rw [qaW.l0,if_neg (by omega)]; simp
 | i + 1,n,hi,hn => by
  obtain ⟨n,rfl⟩ : ∃ m,n = m + 1 := ⟨n - 1,by omega⟩
  have ha := hs _ (qas (show i < s.length by omega) 0)
  have hd := qae (show i < s.length by omega) (0 : Int)
  have hp : 0 < pr (s.drop (i + 1)) := qiX fun b hb => (hs b (List.mem_of_mem_drop hb)).1
  have ih := qd1 s hs hl x hx hx2 i n (by omega) (by omega)
  rw [hd] at ih
  have hlen : (List.replicate (i + 1) (0 : Int) ++ pl (s.drop (i + 1)) x).length = s.length := by
   rw [List.length_append,qfx,List.length_replicate,List.length_drop]; omega
  have hq : 0 ≤ x / pr (s.drop (i + 1)) := Int.ediv_nonneg hx (by omega)
  have hq2 : x / pr (s.drop (i + 1)) ≤ x := Int.ediv_le_self _ hx
  rw [qaW.l0,show ((i + 1 : Nat) : Int) - 1 = (i : Int) by omega,if_pos (by omega),if_pos (by omega),Int.toNat_natCast,if_pos (by omega),if_pos (by rw [hlen]; omega),if_pos (by rw [hlen]; omega),qah (n := (i : Int) - 1) (by omega) (by omega),qiS]
  generalize s.getD i 0 = a at ha ih ⊢
  rw [Int.tdiv_eq_ediv_of_nonneg hq,Int.tmod_eq_emod_of_nonneg hq]
  have hq3 : 0 ≤ x / pr (s.drop (i + 1)) / a := Int.ediv_nonneg hq (by omega)
  have hq4 : x / pr (s.drop (i + 1)) / a ≤ x / pr (s.drop (i + 1)) := Int.ediv_le_self _ hq
  rw [qah (by omega) (by omega),Int.ediv_ediv_of_nonneg (by omega)]
  rw [show pr (a :: s.drop (i + 1)) = a * pr (s.drop (i + 1)) from rfl,Int.mul_comm] at ih
  exact ih
theorem qdt {s : LI} (h : mSR s = true) (hp : 0 < pr s) : ∀ a ∈ s,0 < a ∧ a ≤ 32 := fun a ha =>
 ⟨qhc (fun b hb => ((qaj h).2.1 b hb).1) hp a ha,((qaj h).2.1 a ha).2⟩
theorem qcB {s : LI} (h : mSR s = true) {x : Int} (h0 : 0 ≤ x) (h1 : x < pr s) (k : Nat) (hk : 20 ≤ k) : qaH.f k s x = some (pl s x) := by
 obtain ⟨hl,_,hb⟩ := qaj h
 have := qdc s (qdt h (by omega)) hl x h0 (by omega) s.length k (Nat.le_refl _) (by omega)
 rw [List.drop_length] at this
 unfold qaH.f
 rw [if_neg (by omega),qcg s k (by omega),obs,zSz,if_pos h,if_neg (by omega),if_pos (by omega),qah (n := (s.length : Int) - 1) (by omega) (by omega),Int.toNat_natCast]
 rw [show x / pr ([] : LI) = x from Int.ediv_one x,show pl ([] : LI) x = [] from rfl,List.append_nil] at this
 rw [this,obs]
theorem qeS {s : LI} (h : mSR s = true) {x : Int} (h0 : 0 ≤ x) (h1 : x < pr s) (k : Nat) (hk : 20 ≤ k) : qaW.f k s x = some (pl s x) := by
 obtain ⟨hl,_,hb⟩ := qaj h
 have := qd1 s (qdt h (by omega)) hl x h0 (by omega) s.length k (Nat.le_refl _) (by omega)
 rw [List.drop_length] at this
 unfold qaW.f
 rw [if_neg (by omega),qcF s k (by omega),obs,zSz,if_pos h,if_neg (by omega),if_pos (by omega),qah (n := (s.length : Int) - 1) (by omega) (by omega),Int.toNat_natCast]
 rw [show x / pr ([] : LI) = x from Int.ediv_one x,show pl ([] : LI) x = [] from rfl,List.append_nil] at this
 rw [this,obs]
def zIx (s p : LI) : Int := if mSR s = true ∧ mIn s p = true then ix s p else -1
theorem qbq {a b : Int} {s p : LI} : mIn (a :: s) (b :: p) = true ↔ (0 ≤ b ∧ b < a) ∧ mIn s p = true := by
 simp only [mIn,Bool.and_eq_true,decide_eq_true_eq]
theorem qdd (s p : LI) (hs : ∀ a ∈ s,0 ≤ a ∧ a ≤ 32) (hl : s.length ≤ 4) (hp : p.length = s.length) : ∀ (d i : Nat) (q : Int) (n : Nat),s.length = i + d → 0 ≤ q → q < 32 ^ i → d < n →
  qaP.l0 n s q p p.length i = some (if mIn (s.drop i) (p.drop i) = true then .inl (q * pr (s.drop i) + ix (s.drop i) (p.drop i)) else .inr (-1))
 | 0,i,q,n,hi,h0,h1,hn => by
  obtain ⟨n,rfl⟩ : ∃ m,n = m + 1 := ⟨n - 1,by omega⟩
  rw [qaP.l0,if_neg (by omega),List.drop_eq_nil_of_le (by omega),List.drop_eq_nil_of_le (by omega)]
  simp [mIn,pr,ix]
 | d + 1,i,q,n,hi,h0,h1,hn => by
  obtain ⟨n,rfl⟩ : ∃ m,n = m + 1 := ⟨n - 1,by omega⟩
  have ha := hs _ (qas (show i < s.length by omega) 0)
  rw [qaP.l0,if_pos (by omega),if_pos (by omega),Int.toNat_natCast,qae (show i < s.length by omega) (0 : Int),qae (show i < p.length by omega) (0 : Int)]
  generalize s.getD i 0 = a at ha ⊢
  generalize p.getD i 0 = b
  by_cases c1 : b < 0
  ·rw [if_pos c1,if_neg (by rw [qbq]; omega)]
  rw [if_neg c1,if_pos (by omega)]
  by_cases c2 : a ≤ b
  ·rw [if_pos c2,if_neg (by rw [qbq]; omega)]
  rw [if_neg c2]
  have h8 := p32 (show i + 1 ≤ 4 by omega)
  have e8 : (32 : Int) ^ (i + 1) = 32 ^ i * 32 := Int.pow_succ ..
  have hm0 : 0 ≤ q * a := Int.mul_nonneg h0 (by omega)
  have hm1 : q * a + a ≤ 32 ^ (i + 1) := by
   have := Int.mul_le_mul_of_nonneg_right (show q + 1 ≤ 32 ^ i by omega) (show 0 ≤ a by omega)
   rw [Int.add_mul,Int.one_mul] at this
   have h3 : (32 : Int) ^ i * a ≤ 32 ^ i * 32 := Int.mul_le_mul_of_nonneg_left (by omega) (by omega)
   omega
  rw [qah (n := q * a) (by omega) (by omega),qah (n := q * a + b) (by omega) (by omega),qah (n := (i : Int) + 1) (by omega) (by omega)]
  have := qdd s p hs hl hp d (i + 1) (q * a + b) n (by omega) (by omega) (by omega) (by omega)
  rw [show (i : Int) + 1 = ((i + 1 : Nat) : Int) by omega,this]
  by_cases c : mIn (s.drop (i + 1)) (p.drop (i + 1)) = true
  ·rw [if_pos c,if_pos (qbq.2 ⟨by omega,c⟩)]
   show some (Sum.inl ((q * a + b) * pr (s.drop (i + 1)) + ix (s.drop (i + 1)) (p.drop (i + 1)))) = some (Sum.inl (q * (a * pr (s.drop (i + 1))) + (b * pr (s.drop (i + 1)) + ix (s.drop (i + 1)) (p.drop (i + 1)))))
   rw [Int.add_mul,Int.mul_assoc,Int.add_assoc]
  ·rw [if_neg c,if_neg (by rw [qbq]; exact fun h => c h.2)]
theorem qd2 (s p : LI) (hs : ∀ a ∈ s,0 ≤ a ∧ a ≤ 32) (hl : s.length ≤ 4) (hp : p.length = s.length) : ∀ (d i : Nat) (q : Int) (n : Nat),s.length = i + d → 0 ≤ q → q < 32 ^ i → d < n →
  qaZ.l0 n s p q i = some (if mIn (s.drop i) (p.drop i) = true then .inl (q * pr (s.drop i) + ix (s.drop i) (p.drop i)) else .inr (-1))
 | 0,i,q,n,hi,h0,h1,hn => by
  obtain ⟨n,rfl⟩ : ∃ m,n = m + 1 := ⟨n - 1,by omega⟩
  rw [qaZ.l0,if_neg (by omega),List.drop_eq_nil_of_le (by omega),List.drop_eq_nil_of_le (by omega)]
  simp [mIn,pr,ix]
 | d + 1,i,q,n,hi,h0,h1,hn => by
  obtain ⟨n,rfl⟩ : ∃ m,n = m + 1 := ⟨n - 1,by omega⟩
  have ha := hs _ (qas (show i < s.length by omega) 0)
  rw [qaZ.l0,if_pos (by omega),if_pos (by omega),Int.toNat_natCast,qae (show i < s.length by omega) (0 : Int),qae (show i < p.length by omega) (0 : Int)]
  generalize s.getD i 0 = a at ha ⊢
  generalize p.getD i 0 = b
  by_cases c1 : b < 0
  ·rw [if_pos c1,if_neg (by rw [qbq]; omega)]
  rw [if_neg c1,if_pos (by omega)]
  by_cases c2 : a ≤ b
  ·rw [if_pos c2,if_neg (by rw [qbq]; omega)]
  rw [if_neg c2]
  have h8 := p32 (show i + 1 ≤ 4 by omega)
  have e8 : (32 : Int) ^ (i + 1) = 32 ^ i * 32 := Int.pow_succ ..
  have hm0 : 0 ≤ q * a := Int.mul_nonneg h0 (by omega)
  have hm1 : q * a + a ≤ 32 ^ (i + 1) := by
   have := Int.mul_le_mul_of_nonneg_right (show q + 1 ≤ 32 ^ i by omega) (show 0 ≤ a by omega)
   rw [Int.add_mul,Int.one_mul] at this
   have h3 : (32 : Int) ^ i * a ≤ 32 ^ i * 32 := Int.mul_le_mul_of_nonneg_left (by omega) (by omega)
   omega
  rw [qah (n := q * a) (by omega) (by omega),qah (n := q * a + b) (by omega) (by omega),qah (n := (i : Int) + 1) (by omega) (by omega)]
  have := qd2 s p hs hl hp d (i + 1) (q * a + b) n (by omega) (by omega) (by omega) (by omega)
  rw [show (i : Int) + 1 = ((i + 1 : Nat) : Int) by omega,this]
  by_cases c : mIn (s.drop (i + 1)) (p.drop (i + 1)) = true
  ·rw [if_pos c,if_pos (qbq.2 ⟨by omega,c⟩)]
   show some (Sum.inl ((q * a + b) * pr (s.drop (i + 1)) + ix (s.drop (i + 1)) (p.drop (i + 1)))) = some (Sum.inl (q * (a * pr (s.drop (i + 1))) + (b * pr (s.drop (i + 1)) + ix (s.drop (i + 1)) (p.drop (i + 1)))))
   rw [Int.add_mul,Int.mul_assoc,Int.add_assoc]
  ·rw [if_neg c,if_neg (by rw [qbq]; exact fun h => c h.2)]
theorem qdR (s p : LI) (k : Nat) (hk : 20 ≤ k) : qaP.f k s p = some (zIx s p) := by
 unfold qaP.f zIx
 rw [qbw s k (by omega),obs]
 by_cases h : mSR s = true
 ·obtain ⟨hl,h2,_⟩ := qaj h
  rw [if_pos h]
  by_cases hp : p.length = s.length
  ·have := qdd s p h2 hl hp s.length 0 0 k (by omega) (by omega) (by simp) (by omega)
   rw [n0,List.drop_zero,List.drop_zero] at this
   rw [if_pos (by omega),this]
   by_cases c : mIn s p = true
   ·rw [if_pos c,if_pos ⟨h,c⟩]; simp
   ·rw [if_neg c,if_neg (fun hh => c hh.2)]; simp
  ·rw [if_neg (by omega),if_neg (fun hh => hp (qhI hh.2))]
 ·rw [if_neg h,if_neg (fun hh => h hh.1)]
theorem qeU (s p : LI) (k : Nat) (hk : 20 ≤ k) : qaZ.f k s p = some (zIx s p) := by
 unfold qaZ.f zIx
 rw [qch s k (by omega),obs]
 by_cases h : mSR s = true
 ·obtain ⟨hl,h2,_⟩ := qaj h
  rw [if_pos h]
  by_cases hp : p.length = s.length
  ·have := qd2 s p h2 hl hp s.length 0 0 k (by omega) (by omega) (by simp) (by omega)
   rw [n0,List.drop_zero,List.drop_zero] at this
   rw [if_pos (by omega),this]
   by_cases c : mIn s p = true
   ·rw [if_pos c,if_pos ⟨h,c⟩]; simp
   ·rw [if_neg c,if_neg (fun hh => c hh.2)]; simp
  ·rw [if_neg (by omega),if_neg (fun hh => hp (qhI hh.2))]
 ·rw [if_neg h,if_neg (fun hh => h hh.1)]
theorem qfX (s d p : LI) (k : Nat) (hk : 20 ≤ k) : qbP.f k s d p = some (if zT s d = true then zIx s p else -1) := by
 unfold qbP.f
 rw [qbL s d k (by omega),obs]
 by_cases h : zT s d = true
 ·rw [if_pos h,if_pos h,qdR s p k hk]; rfl
 ·rw [if_neg h,if_neg h]
theorem qgY {s d : LI} (h : zT s d = true) (p : LI) (k : Nat) (hk : 20 ≤ k) : qcs.f k s d p = some (if mIn s p = true then (d.getD (ix s p).toNat 0,true) else (0,false)) := by
 obtain ⟨h1,h2⟩ := qaO h
 unfold qcs.f
 rw [qfX s d p k hk,obs,if_pos h]
 by_cases c : mIn s p = true
 ·have hb := qi8 c
  have hz : zIx s p = ix s p := if_pos ⟨h1,c⟩
  rw [hz,if_neg (by omega),if_pos (by omega),if_pos c]
 ·have hz : zIx s p = -1 := if_neg (fun hh => c hh.2)
  rw [hz,if_pos (by omega),if_neg c]
theorem qjl {s d : LI} (h : zT s d = true) (p : LI) (k : Nat) (hk : 20 ≤ k) : qfU.f k s d p = some (if mIn s p = true then d.getD (ix s p).toNat 0 else 0) := by
 unfold qfU.f
 rw [qgY h p k hk,obs]
 by_cases c : mIn s p = true
 ·rw [if_pos c,if_pos c]
 ·rw [if_neg c,if_neg c]
theorem qgx {s d p : LI} (h : zT s d = true) (c : mIn s p = true) (k : Nat) (hk : 20 ≤ k) : qbI.f k s d p = some (d.getD (ix s p).toNat 0) := by
 obtain ⟨h1,h2⟩ := qaO h
 have hb := qi8 c
 unfold qbI.f
 have hz : zIx s p = ix s p := if_pos ⟨h1,c⟩
 rw [qeU s p k hk,obs,hz,if_pos (by omega)]
end Go.Pf

namespace Go.Pf
open Go Go.Vm
theorem setL {α : Type} (L r : List α) (x v : α) : (L ++ x :: r).set L.length v = (L ++ [v]) ++ r := by
 rw [List.set_append,if_neg (by omega),Nat.sub_self]; simp
theorem getL {α : Type} (L r : List α) (x d : α) : (L ++ x :: r).getD L.length d = x := by
 simp [List.getD_eq_getElem?_getD]
theorem qgM (g : Nat → Int) (i d : Nat) (c : Int) : ((List.range i).map g ++ List.replicate (d + 1) c).set i (g i) = (List.range (i + 1)).map g ++ List.replicate d c := by
 have := setL ((List.range i).map g) (List.replicate d c) c (g i)
 rw [List.length_map,List.length_range] at this
 rw [List.replicate_succ,this,List.range_succ,List.map_append]; rfl
theorem qeV (s : LI) (c : Int) (k : Nat) (hk : 10 ≤ k) (hz : zSz s ≤ 4096) : ∀ (d i n : Nat),(zSz s).toNat = i + d → d < n →
  qa7.l0 k n s c i ([] ++ s) (List.replicate i c) = some (List.replicate (i + d) c)
 | 0,i,n,hi,hn => by
  obtain ⟨n,rfl⟩ : ∃ m,n = m + 1 := ⟨n - 1,by omega⟩
  rw [qa7.l0,qcF s k hk,obs,if_neg (by omega)]; rfl
 | d + 1,i,n,hi,hn => by
  obtain ⟨n,rfl⟩ : ∃ m,n = m + 1 := ⟨n - 1,by omega⟩
  rw [qa7.l0,qcF s k hk,obs,if_pos (by omega),if_pos (by simp only [List.length_replicate,List.length_singleton]; omega),qah (n := (i : Int) + 1) (by omega) (by omega)]
  have := qeV s c k hk hz d (i + 1) n (by omega) (by omega)
  rw [show (i : Int) + 1 = ((i + 1 : Nat) : Int) by omega,show List.replicate i c ++ [c] = List.replicate (i + 1) c from List.replicate_succ'.symm,this]
  congr 2; omega
theorem qjM (s : LI) : 0 ≤ zSz s ∧ zSz s ≤ 4096 := by
 unfold zSz
 by_cases h : mSR s = true
 ·rw [if_pos h]; exact ⟨qb8 fun x hx => ((qaj h).2.1 x hx).1,(qaj h).2.2⟩
 ·rw [if_neg h]; omega
theorem qdq (s : LI) (c : Int) (h : s.length ≤ 1000) (k : Nat) (hk : 5000 ≤ k) : qa7.f k s c = some (s,List.replicate (zSz s).toNat c) := by
 have hz := qjM s
 have := qeV s c k (by omega) hz.2 (zSz s).toNat 0 k (by omega) (by omega)
 unfold qa7.f
 rw [n0,Nat.zero_add] at this
 rw [if_pos (by omega),show ([] : LI) = List.replicate 0 c from rfl,show (List.replicate 0 c ++ s) = [] ++ s from rfl,this,obs]
 rfl
theorem qcf (s : LI) (h : s.length ≤ 1000000) : qa0.f s = some s := by
 unfold qa0.f
 rw [if_pos (by omega)]; rfl
def made (s : LI) (f : LI → Int) : LI := (List.range (pr s).toNat).map fun (i : Nat) => f (pl s i)
theorem qjv {s : LI} (h : 0 ≤ pr s) (f : LI → Int) : ((made s f).length : Int) = pr s := by
 unfold made; rw [List.length_map,List.length_range]; omega
theorem qkk {s : LI} (h : mSR s = true) (f : LI → Int) : zT s (made s f) = true := by
 have := qb8 fun x hx => ((qaj h).2.1 x hx).1
 unfold zT; rw [qjv this]; simp [h]
def zAdd : LI → LI → LI := List.zipWith (· + ·)
def zSl : LI → LI → LI → Bool
 | [],[],[] => true
 | a :: s,f :: fr,z :: sz => decide (0 ≤ f ∧ f ≤ a ∧ 0 ≤ z ∧ z ≤ a - f) && zSl s fr sz
 | _,_,_ => false
theorem qbd {a f z : Int} {s fr sz : LI} : zSl (a :: s) (f :: fr) (z :: sz) = true ↔ (0 ≤ f ∧ f ≤ a ∧ 0 ≤ z ∧ z ≤ a - f) ∧ zSl s fr sz = true := by
 simp only [zSl,Bool.and_eq_true,decide_eq_true_eq]
theorem qck : ∀ {s f z : LI},zSl s f z = true → f.length = s.length ∧ z.length = s.length
 | [],[],[],_ => ⟨rfl,rfl⟩
 | _ :: s,_ :: f,_ :: z,h => by
  have := qck (qbd.1 h).2
  simp [this.1,this.2]
 | [],_ :: _,_,h => by simp [zSl] at h
 | [],[],_ :: _,h => by simp [zSl] at h
 | _ :: _,[],_,h => by simp [zSl] at h
 | _ :: _,_ :: _,[],h => by simp [zSl] at h
theorem qdk (s f z : LI) (hs : ∀ a ∈ s,0 ≤ a ∧ a ≤ 32) (hl : s.length ≤ 4) (hf : f.length = s.length) (hz : z.length = s.length) : ∀ (d i n : Nat),s.length = i + d → d < n →
  qaX.l0 n f z s s.length i = some (if zSl (s.drop i) (f.drop i) (z.drop i) = true then .inl () else .inr 1)
 | 0,i,n,hi,hn => by
  obtain ⟨n,rfl⟩ : ∃ m,n = m + 1 := ⟨n - 1,by omega⟩
  rw [qaX.l0,if_neg (by omega),List.drop_eq_nil_of_le (by omega),List.drop_eq_nil_of_le (by omega),List.drop_eq_nil_of_le (by omega)]; rfl
 | d + 1,i,n,hi,hn => by
  obtain ⟨n,rfl⟩ : ∃ m,n = m + 1 := ⟨n - 1,by omega⟩
  have ha := hs _ (qas (show i < s.length by omega) 0)
  have ih := qdk s f z hs hl hf hz d (i + 1) n (by omega) (by omega)
  rw [qaX.l0,if_pos (by omega),if_pos (by omega),if_pos (by omega),if_pos (show 0 ≤ (i : Int) ∧ (i : Int) < (z.length : Int) by omega),Int.toNat_natCast,qae (show i < s.length by omega) (0 : Int),qae (show i < f.length by omega) (0 : Int),qae (show i < z.length by omega) (0 : Int)]
  generalize s.getD i 0 = a at ha ⊢
  generalize f.getD i 0 = b
  generalize z.getD i 0 = c
  by_cases c1 : b < 0
  ·rw [if_pos c1,if_neg (by rw [qbd]; omega)]
  by_cases c2 : a < b
  ·rw [if_neg c1,if_pos c2,if_neg (by rw [qbd]; omega)]
  by_cases c3 : c < 0
  ·rw [if_neg c1,if_neg c2,if_pos c3,if_neg (by rw [qbd]; omega)]
  rw [if_neg c1,if_neg c2,if_neg c3,qah (n := a - b) (by omega) (by omega)]
  by_cases c4 : a - b < c
  ·rw [if_pos c4,if_neg (by rw [qbd]; omega)]
  rw [if_neg c4,qah (n := (i : Int) + 1) (by omega) (by omega),show (i : Int) + 1 = ((i + 1 : Nat) : Int) by omega,ih]
  by_cases c : zSl (s.drop (i + 1)) (f.drop (i + 1)) (z.drop (i + 1)) = true
  ·rw [if_pos c,if_pos (qbd.2 ⟨by omega,c⟩)]
  ·rw [if_neg c,if_neg (fun hh => c (qbd.1 hh).2)]
theorem qgP {s : LI} (h : mSR s = true) (f z : LI) (k : Nat) (hk : 10 ≤ k) : qaX.f k s f z = some (if zSl s f z = true then 0 else 1) := by
 obtain ⟨hl,hs,_⟩ := qaj h
 unfold qaX.f
 by_cases hf : f.length = s.length
 ·by_cases hz : z.length = s.length
  ·have := qdk s f z hs hl hf hz s.length 0 k (by omega) (by omega)
   rw [n0,List.drop_zero,List.drop_zero,List.drop_zero] at this
   rw [if_pos (by omega),if_pos (by omega),this]
   by_cases c : zSl s f z = true
   ·rw [if_pos c,if_pos c]; rfl
   ·rw [if_neg c,if_neg c]; rfl
  ·rw [if_pos (by omega),if_neg (by omega),if_neg (fun hh => hz (qck hh).2)]
 ·rw [if_neg (by omega),if_neg (fun hh => hf (qck hh).1)]
theorem qc4 (f : LI) (p : LI) (hf : ∀ a ∈ f,0 ≤ a ∧ a ≤ 32) (hp : ∀ a ∈ p,0 ≤ a ∧ a ≤ 32) (hl : f.length ≤ 4) (hlen : p.length = f.length) (y1 y2 y3 : LI) : ∀ (d : Nat) (L : LI) (n : Nat),f.length = L.length + d → d < n →
  qaN.l0 n f f.length L.length (L ++ p.drop L.length) y1 y2 y3 = some (L ++ zAdd (p.drop L.length) (f.drop L.length))
 | 0,L,n,hi,hn => by
  obtain ⟨n,rfl⟩ : ∃ m,n = m + 1 := ⟨n - 1,by omega⟩
  rw [qaN.l0,if_neg (by omega),List.drop_eq_nil_of_le (by omega)]; rfl
 | d + 1,L,n,hi,hn => by
  obtain ⟨n,rfl⟩ : ∃ m,n = m + 1 := ⟨n - 1,by omega⟩
  have ha := hf _ (qas (show L.length < f.length by omega) 0)
  have hb := hp _ (qas (show L.length < p.length by omega) 0)
  have ih := qc4 f p hf hp hl hlen y1 y2 y3 d (L ++ [p.getD L.length 0 + f.getD L.length 0]) n (by simp; omega) (by omega)
  have hL : (L ++ p.drop L.length).length = f.length := by rw [List.length_append,List.length_drop]; omega
  rw [qaN.l0,if_pos (by omega),if_pos (by omega),if_pos (by rw [hL]; omega),if_pos (by rw [hL]; omega),Int.toNat_natCast,qae (show L.length < p.length by omega) (0 : Int),qae (show L.length < f.length by omega) (0 : Int),getL,setL,qah (n := p.getD L.length 0 + f.getD L.length 0) (by omega) (by omega),qah (n := (L.length : Int) + 1) (by omega) (by omega)]
  rw [List.length_append,List.length_singleton] at ih
  rw [show (L.length : Int) + 1 = ((L.length + 1 : Nat) : Int) by omega,ih]
  simp [zAdd]
theorem qdX (f : LI) (p : LI) (hf : ∀ a ∈ f,0 ≤ a ∧ a ≤ 32) (hp : ∀ a ∈ p,0 ≤ a ∧ a ≤ 32) (hl : f.length ≤ 4) (hlen : p.length = f.length) (x2 : LI) (x10 x84 x85 : Int) (y1 y2 y4 y5 : LI) : ∀ (d : Nat) (L : LI) (n : Nat),f.length = L.length + d → d < n →
  qam.l2 n f x2 x10 x84 x85 p.length L.length y1 y2 (L ++ p.drop L.length) y4 y5 = some (L ++ zAdd (p.drop L.length) (f.drop L.length))
 | 0,L,n,hi,hn => by
  obtain ⟨n,rfl⟩ : ∃ m,n = m + 1 := ⟨n - 1,by omega⟩
  rw [qam.l2,if_neg (by omega),List.drop_eq_nil_of_le (by omega)]; rfl
 | d + 1,L,n,hi,hn => by
  obtain ⟨n,rfl⟩ : ∃ m,n = m + 1 := ⟨n - 1,by omega⟩
  have ha := hf _ (qas (show L.length < f.length by omega) 0)
  have hb := hp _ (qas (show L.length < p.length by omega) 0)
  have ih := qdX f p hf hp hl hlen x2 x10 x84 x85 y1 y2 y4 y5 d (L ++ [p.getD L.length 0 + f.getD L.length 0]) n (by simp; omega) (by omega)
  have hL : (L ++ p.drop L.length).length = f.length := by rw [List.length_append,List.length_drop]; omega
  rw [qam.l2,if_pos (by omega),if_pos (by rw [hL]; omega),if_pos (by rw [hL]; omega),if_pos (by omega),Int.toNat_natCast,qae (show L.length < p.length by omega) (0 : Int),qae (show L.length < f.length by omega) (0 : Int),getL,setL,qah (n := p.getD L.length 0 + f.getD L.length 0) (by omega) (by omega),qah (n := (L.length : Int) + 1) (by omega) (by omega)]
  rw [List.length_append,List.length_singleton] at ih
  rw [show (L.length : Int) + 1 = ((L.length + 1 : Nat) : Int) by omega,ih]
  simp [zAdd]
theorem qjt {s : LI} (h : mSR s = true) (hp : 0 < pr s) (x : Int) : ∀ a ∈ pl s x,0 ≤ a ∧ a ≤ 32 := by
 have hs := qdt h hp
 clear h hp
 induction s with
 | nil => intro a ha; cases ha
 | cons b s ih =>
  have hb := hs b (List.mem_cons_self ..)
  intro a ha
  rcases List.mem_cons.1 ha with e | ha
  ·have h1 := Int.emod_nonneg (x / pr s) (show b ≠ 0 by omega)
   have h2 := Int.emod_lt_of_pos (x / pr s) hb.1
   omega
  ·exact ih (fun c hc => hs c (List.mem_cons_of_mem _ hc)) a ha
theorem qeH : ∀ {s f z : LI},(∀ a ∈ s,0 ≤ a ∧ a ≤ 32) → zSl s f z = true → (∀ a ∈ f,0 ≤ a ∧ a ≤ 32) ∧ (∀ a ∈ z,0 ≤ a ∧ a ≤ 32) ∧ 0 ≤ pr z ∧ pr z ≤ pr s
 | [],[],[],_,_ => ⟨(by intro a ha; cases ha),(by intro a ha; cases ha),by decide,by decide⟩
 | a :: s,f :: fr,z :: sz,hs,h => by
  obtain ⟨h1,h2⟩ := qbd.1 h
  have ha := hs a (List.mem_cons_self ..)
  obtain ⟨i1,i2,i3,i4⟩ := qeH (fun b hb => hs b (List.mem_cons_of_mem _ hb)) h2
  refine ⟨fun b hb => ?_,fun b hb => ?_,Int.mul_nonneg (by omega) i3,?_⟩
  ·rcases List.mem_cons.1 hb with e | hb
   ·omega
   ·exact i1 b hb
  ·rcases List.mem_cons.1 hb with e | hb
   ·omega
   ·exact i2 b hb
  ·show z * pr sz ≤ a * pr s
   exact Int.mul_le_mul (by omega) i4 i3 (by omega)
 | [],_ :: _,_,_,h => by simp [zSl] at h
 | [],[],_ :: _,_,h => by simp [zSl] at h
 | _ :: _,[],_,_,h => by simp [zSl] at h
 | _ :: _,_ :: _,[],_,h => by simp [zSl] at h
theorem qiq {s f z : LI} (h : mSR s = true) (hc : zSl s f z = true) : mSR z = true := by
 obtain ⟨h1,h2,h3⟩ := qaj h
 obtain ⟨_,i2,_,i4⟩ := qeH h2 hc
 have hl := (qck hc).2
 unfold mSR
 simp only [Bool.and_eq_true,decide_eq_true_eq,List.all_eq_true]
 exact ⟨⟨by omega,fun x hx => qcH.2 (i2 x hx)⟩,by omega⟩
theorem qgT : ∀ {s f z p : LI},zSl s f z = true → mIn z p = true → mIn s (zAdd p f) = true
 | [],[],[],[],_,_ => rfl
 | a :: s,f :: fr,z :: sz,b :: p,h,hp => by
  obtain ⟨h1,h2⟩ := qbd.1 h
  obtain ⟨h3,h4⟩ := qbq.1 hp
  exact qbq.2 ⟨by show 0 ≤ b + f ∧ b + f < a; omega,qgT h2 h4⟩
 | [],_ :: _,_,_,h,_ => by simp [zSl] at h
 | [],[],_ :: _,_,h,_ => by simp [zSl] at h
 | _ :: _,[],_,_,h,_ => by simp [zSl] at h
 | _ :: _,_ :: _,[],_,h,_ => by simp [zSl] at h
 | [],[],[],_ :: _,_,h => by simp [mIn] at h
 | _ :: _,_ :: _,_ :: _,[],_,h => by simp [mIn] at h
def zCut (s d f z : LI) : LI := made z fun p => d.getD (ix s (zAdd p f)).toNat 0
theorem qfZ {s d f z : LI} (h : zT s d = true) (hc : zSl s f z = true) (x : Int) (h0 : 0 ≤ x) (h1 : x < pr z) (k : Nat) (hk : 20 ≤ k) :
  qaN.f k (pl z x) f s d = some (d.getD (ix s (zAdd (pl z x) f)).toNat 0,zAdd (pl z x) f) := by
 obtain ⟨hr,_⟩ := qaO h
 obtain ⟨g1,g2,g3⟩ := qaj hr
 have hz := qiq hr hc
 have hl := qck hc
 have := qc4 f (pl z x) (qeH g2 hc).1 (qjt hz (by omega) x) (by omega) (by rw [qfx]; omega) f s d f.length [] k (by simp) (by omega)
 unfold qaN.f
 rw [List.length_nil,n0,List.drop_zero,List.drop_zero,List.nil_append,List.nil_append] at this
 rw [this,obs,qjl h _ k hk,if_pos (qgT hc (qiY (fun a ha => (qdt hz (by omega) a ha).1) x)),obs]
theorem qbV {s d f z : LI} (h : zT s d = true) (hc : zSl s f z = true) (k : Nat) (hk : 20 ≤ k) (y4 : LI) : ∀ (e i n : Nat),(pr z).toNat = i + e → e < n →
  qaf.l0 k n z (pr z) i f s d y4 ((List.range i).map (fun (i : Nat) => d.getD (ix s (zAdd (pl z i) f)).toNat 0) ++ List.replicate e 0) = some (zCut s d f z)
 | 0,i,n,hi,hn => by
  obtain ⟨n,rfl⟩ : ∃ m,n = m + 1 := ⟨n - 1,by omega⟩
  have hz := (qeH (qaj (qaO h).1).2.1 hc).2.2.1
  rw [qaf.l0,if_neg (by omega)]
  unfold zCut made
  rw [hi]; simp
 | e + 1,i,n,hi,hn => by
  obtain ⟨n,rfl⟩ : ∃ m,n = m + 1 := ⟨n - 1,by omega⟩
  have hr := qiq (qaO h).1 hc
  have hb := (qaj hr).2.2
  have ih := qbV h hc k hk y4 e (i + 1) n (by omega) (by omega)
  rw [qaf.l0,if_pos (by omega),qcB hr (by omega) (by omega) k hk,obs,qfZ h hc i (by omega) (by omega) k hk,obs,
   if_pos (by simp; omega),if_pos (by simp),Int.toNat_natCast,qgM (fun (i : Nat) => d.getD (ix s (zAdd (pl z i) f)).toNat 0),qah (n := (i : Int) + 1) (by omega) (by omega),show (i : Int) + 1 = ((i + 1 : Nat) : Int) by omega]
  exact ih
theorem qhu (s d f z : LI) (k : Nat) (hk : 5000 ≤ k) : qcz.f k s d f z = some (if zT s d = true then (if zSl s f z = true then (0,z,zCut s d f z) else (1,[],[])) else (13,[],[])) := by
 unfold qcz.f
 rw [qbL s d k (by omega),obs]
 by_cases h : zT s d = true
 ·obtain ⟨hr,_⟩ := qaO h
  rw [if_pos h,if_pos h,qgP hr f z k (by omega),obs]
  by_cases hc : zSl s f z = true
  ·have hz := qiq hr hc
   have hb := qaj hz
   have h0 := qb8 fun x hx => (hb.2.1 x hx).1
   have := qbV h hc k (by omega) z (pr z).toNat 0 k (by omega) (by omega)
   rw [if_pos hc,if_pos hc,if_pos rfl]
   unfold qaf.f
   rw [qcf z (by omega),obs,qcg z k (by omega),obs,zSz,if_pos hz,if_pos (by omega),List.length_replicate,show (((pr z).toNat : Nat) : Int) = pr z by omega]
   rw [n0] at this
   rw [show List.replicate (pr z).toNat (0 : Int) = (List.range 0).map (fun (i : Nat) => d.getD (ix s (zAdd (pl z i) f)).toNat 0) ++ List.replicate (pr z).toNat 0 from rfl,this]
   rfl
  ·rw [if_neg hc,if_neg hc,if_neg (by decide)]
 ·rw [if_neg h,if_neg h]
end Go.Pf

namespace Go.Pf
open Go Go.Vm
theorem qdZ (s d f z : LI) (hs : ∀ a ∈ s,0 ≤ a ∧ a ≤ 32) (hl : s.length ≤ 4) (hf : f.length = s.length) (hz : z.length = s.length) : ∀ (e i n : Nat),s.length = i + e → e < n →
  qam.l0 n f z f.length i s d = some (if zSl (s.drop i) (f.drop i) (z.drop i) = true then .inl () else .inr 1)
 | 0,i,n,hi,hn => by
  obtain ⟨n,rfl⟩ : ∃ m,n = m + 1 := ⟨n - 1,by omega⟩
  rw [qam.l0,if_neg (by omega),List.drop_eq_nil_of_le (by omega),List.drop_eq_nil_of_le (by omega),List.drop_eq_nil_of_le (by omega)]; rfl
 | e + 1,i,n,hi,hn => by
  obtain ⟨n,rfl⟩ : ∃ m,n = m + 1 := ⟨n - 1,by omega⟩
  have ha := hs _ (qas (show i < s.length by omega) 0)
  have ih := qdZ s d f z hs hl hf hz e (i + 1) n (by omega) (by omega)
  rw [qam.l0,if_pos (by omega),if_pos (by omega),if_pos (show 0 ≤ (i : Int) ∧ (i : Int) < (z.length : Int) by omega),if_pos (show 0 ≤ (i : Int) ∧ (i : Int) < (s.length : Int) by omega),Int.toNat_natCast,qae (show i < s.length by omega) (0 : Int),qae (show i < f.length by omega) (0 : Int),qae (show i < z.length by omega) (0 : Int)]
  generalize s.getD i 0 = a at ha ⊢
  generalize f.getD i 0 = b
  generalize z.getD i 0 = c
  by_cases c1 : b < 0
  ·rw [if_pos c1,if_neg (by rw [qbd]; omega)]
  by_cases c3 : c < 0
  ·rw [if_neg c1,if_pos c3,if_neg (by rw [qbd]; omega)]
  by_cases c2 : a < b
  ·rw [if_neg c1,if_neg c3,if_pos c2,if_neg (by rw [qbd]; omega)]
  rw [if_neg c1,if_neg c3,if_neg c2,qah (n := a - b) (by omega) (by omega)]
  by_cases c4 : a - b < c
  ·rw [if_pos c4,if_neg (by rw [qbd]; omega)]
  rw [if_neg c4,qah (n := (i : Int) + 1) (by omega) (by omega),show (i : Int) + 1 = ((i + 1 : Nat) : Int) by omega,ih]
  by_cases c : zSl (s.drop (i + 1)) (f.drop (i + 1)) (z.drop (i + 1)) = true
  ·rw [if_pos c,if_pos (qbd.2 ⟨by omega,c⟩)]
  ·rw [if_neg c,if_neg (fun hh => c (qbd.1 hh).2)]
theorem qdY {s d f z : LI} (h : zT s d = true) (hc : zSl s f z = true) (k : Nat) (hk : 20 ≤ k) (y3 : LI) : ∀ (e i n : Nat),(pr z).toNat = i + e → e + 10 < n →
  qam.l1 k n f z (pr z) i s d y3 ((List.range i).map (fun (i : Nat) => d.getD (ix s (zAdd (pl z i) f)).toNat 0) ++ List.replicate e 0) = some (zCut s d f z)
 | 0,i,n,hi,hn => by
  obtain ⟨n,rfl⟩ : ∃ m,n = m + 1 := ⟨n - 1,by omega⟩
  have hz := (qeH (qaj (qaO h).1).2.1 hc).2.2.1
  rw [qam.l1,if_neg (by omega)]
  unfold zCut made
  rw [hi]; simp
 | e + 1,i,n,hi,hn => by
  obtain ⟨n,rfl⟩ : ∃ m,n = m + 1 := ⟨n - 1,by omega⟩
  have hr := qiq (qaO h).1 hc
  have hb := (qaj hr).2.2
  have hl := qck hc
  have h4 := (qaj (qaO h).1).1
  have ih := qdY h hc k hk y3 e (i + 1) n (by omega) (by omega)
  have l2 := qdX f (pl z i) (qeH (qaj (qaO h).1).2.1 hc).1 (qjt hr (by omega) i) (by omega) (by rw [qfx]; omega) z i (pr z) i s d y3 ((List.range i).map (fun (i : Nat) => d.getD (ix s (zAdd (pl z i) f)).toNat 0) ++ List.replicate (e + 1) 0) f.length [] n (by simp) (by omega)
  rw [List.length_nil,n0,List.drop_zero,List.drop_zero,List.nil_append,List.nil_append] at l2
  rw [qam.l1,if_pos (by omega),qeS hr (by omega) (by omega) k hk,obs,l2,obs,qgx h (qgT hc (qiY (fun a ha => (qdt hr (by omega) a ha).1) i)) k hk,obs,
   if_pos (by simp; omega),if_pos (by simp),Int.toNat_natCast,qgM (fun (i : Nat) => d.getD (ix s (zAdd (pl z i) f)).toNat 0),qah (n := (i : Int) + 1) (by omega) (by omega),show (i : Int) + 1 = ((i + 1 : Nat) : Int) by omega]
  exact ih
theorem qg9 (s d f z : LI) (k : Nat) (hk : 5000 ≤ k) : qam.f k s d f z = some (if zT s d = true then (if zSl s f z = true then (0,z,zCut s d f z) else (1,[],[])) else (13,[],[])) := by
 unfold qam.f
 rw [qbX s d k (by omega),obs]
 by_cases h : zT s d = true
 ·obtain ⟨hr,_⟩ := qaO h
  obtain ⟨hl,hs,_⟩ := qaj hr
  rw [if_pos h,if_pos h]
  by_cases hf : f.length = s.length
  ·by_cases hz : z.length = s.length
   ·have l0 := qdZ s d f z hs hl hf hz s.length 0 k (by omega) (by omega)
    rw [n0,List.drop_zero,List.drop_zero,List.drop_zero] at l0
    rw [if_pos (by omega),if_pos (by omega),l0,obs]
    by_cases hc : zSl s f z = true
    ·have hz := qiq hr hc
     have hb := qaj hz
     have h0 := qb8 fun x hx => (hb.2.1 x hx).1
     have := qdY h hc k (by omega) z (pr z).toNat 0 k (by omega) (by omega)
     rw [if_pos hc,if_pos hc,Sum.elim_inl,qdq z 0 (by omega) k hk,obs,zSz,if_pos hz,List.length_replicate,show (((pr z).toNat : Nat) : Int) = pr z by omega]
     rw [n0] at this
     rw [show List.replicate (pr z).toNat (0 : Int) = (List.range 0).map (fun (i : Nat) => d.getD (ix s (zAdd (pl z i) f)).toNat 0) ++ List.replicate (pr z).toNat 0 from rfl,this]
     rfl
    ·rw [if_neg hc,if_neg hc]; rfl
   ·rw [if_pos (by omega),if_neg (by omega),if_neg (fun hh => hz (qck hh).2)]
  ·rw [if_neg (by omega),if_neg (fun hh => hf (qck hh).1)]
 ·rw [if_neg h,if_neg h]
theorem qeT (a : LI) (ha : a.length ≤ 17592186043904) : ∀ (d i n : Nat),a.length = i + d → d < n → qaT.l0 n a a i = some (.inl ())
 | 0,i,n,hi,hn => by
  obtain ⟨n,rfl⟩ : ∃ m,n = m + 1 := ⟨n - 1,by omega⟩
  rw [qaT.l0,if_neg (by omega)]
 | d + 1,i,n,hi,hn => by
  obtain ⟨n,rfl⟩ : ∃ m,n = m + 1 := ⟨n - 1,by omega⟩
  rw [qaT.l0,if_pos (by omega),if_pos (by omega),if_pos (by omega),if_pos rfl,qah (n := (i : Int) + 1) (by omega) (by omega),show (i : Int) + 1 = ((i + 1 : Nat) : Int) by omega]
  exact qeT a ha d (i + 1) n (by omega) (by omega)
theorem qeR (s a : LI) (ha : a.length ≤ 17592186043904) : ∀ (d i n : Nat),a.length = i + d → d < n → qaG.l0 n i s a s a = some (.inl ())
 | 0,i,n,hi,hn => by
  obtain ⟨n,rfl⟩ : ∃ m,n = m + 1 := ⟨n - 1,by omega⟩
  rw [qaG.l0,if_neg (by omega)]
 | d + 1,i,n,hi,hn => by
  obtain ⟨n,rfl⟩ : ∃ m,n = m + 1 := ⟨n - 1,by omega⟩
  rw [qaG.l0,if_pos (by omega),if_pos (by omega),if_pos (by omega),if_pos rfl,qah (n := (i : Int) + 1) (by omega) (by omega),show (i : Int) + 1 = ((i + 1 : Nat) : Int) by omega]
  exact qeR s a ha d (i + 1) n (by omega) (by omega)
theorem qcl (s d : LI) (k : Nat) (h1 : s.length < k) (h2 : d.length < k) (h3 : s.length ≤ 17592186043904) (h4 : d.length ≤ 17592186043904) : qaG.f k s d s d = some true := by
 have e1 := qeT s h3 s.length 0 k (by omega) (by omega)
 have e2 := qeR s d h4 d.length 0 k (by omega) (by omega)
 unfold qaG.f qaT.f
 rw [n0] at e1 e2
 rw [if_pos rfl,e1]
 show (if (d.length : Int) = d.length then _ else _) = _
 rw [if_pos rfl,e2]; rfl
end Go.Pf

namespace Go.Pf
open Go Go.Vm
abbrev Tn := LI × LI
end Go.Pf

namespace Go.Pf
open Go Go.Vm
theorem qj1 {l : LI} {i : Nat} {x : Int} : (l.set i x).length = l.length := List.length_set
end Go.Pf

namespace Go.Pf
open Go Go.Vm
structure Small (x : Int × LI × LI) : Prop where
 s : x.2.1.length ≤ 4
 d : x.2.2.length ≤ 4096
theorem qhz (L : LI) (hL : L.length ≤ 17592186044415) (hw : ∀ x ∈ L,-9223372036854775808 ≤ x ∧ x < 9223372036854775808) (p : Int) (h0 : 0 ≤ p) (hp : p ≤ 17592186000000) :
  ∃ r q,qbk.f L p = some (r,q) ∧ 0 ≤ q ∧ q ≤ p + 2 := by
 unfold qbk.f
 obtain ⟨r,q,e,r0,r1,q0,_,_,q1⟩ := qbQ 9 L hL hw p h0 (by omega) (by omega)
 rw [e,obs]
 dsimp only
 by_cases c : r = 0
 ·obtain ⟨r',q',e',r0',r1',q0',_,_,q1'⟩ := qbQ 6 L hL hw q q0 (by omega) (by omega)
  rw [if_pos c,e',obs]
  dsimp only
  rw [if_pos ⟨r0',by show r' < 6; omega⟩,if_pos (by show r'.toNat < 6; omega)]
  exact ⟨_,_,rfl,q0',by omega⟩
 ·rw [if_neg c]
  by_cases c1 : r = 1
  ·rw [if_pos c1]; exact ⟨_,_,rfl,q0,by omega⟩
  ·obtain ⟨r',q',e',r0',r1',q0',_,_,q1'⟩ := qbQ 19 L hL hw q q0 (by omega) (by omega)
   rw [if_neg c1,e',obs]
   exact ⟨_,_,rfl,q0',by omega⟩
theorem qda (L : LI) (hL : L.length ≤ 17592186044415) (hw : ∀ x ∈ L,-9223372036854775808 ≤ x ∧ x < 9223372036854775808) (m : Nat) (hm : m ≤ 4096) (y3 : LI) (M : Int) (hM : M ≤ 17592185000000) : ∀ (e i : Nat) (p : Int) (y : LI) (n : Nat),m = i + e → e < n → 0 ≤ p → p ≤ M - 2 * e → y.length = m →
  ∃ q y',qav.l0 n m i L p y3 y = some (q,y') ∧ y'.length = m ∧ 0 ≤ q ∧ q ≤ p + 2 * e
 | 0,i,p,y,n,hi,hn,h0,hp,hy => by
  obtain ⟨n,rfl⟩ : ∃ m,n = m + 1 := ⟨n - 1,by omega⟩
  exact ⟨p,y,by rw [qav.l0,if_neg (by omega)],hy,h0,by omega⟩
 | e + 1,i,p,y,n,hi,hn,h0,hp,hy => by
  obtain ⟨n,rfl⟩ : ∃ m,n = m + 1 := ⟨n - 1,by omega⟩
  obtain ⟨r,q,e1,q0,q1⟩ := qhz L hL hw p h0 (by omega)
  obtain ⟨q',y',e2,h1,h2,h3⟩ := qda L hL hw m hm y3 M hM e (i + 1) q (y.set i r) n (by omega) (by omega) q0 (by omega) (by rw [qj1]; exact hy)
  refine ⟨q',y',?_,h1,h2,by omega⟩
  rw [qav.l0,if_pos (by omega),e1,obs]
  dsimp only
  rw [if_pos (by omega),if_pos (by omega),Int.toNat_natCast,qah (n := (i : Int) + 1) (by omega) (by omega),show (i : Int) + 1 = ((i + 1 : Nat) : Int) by omega]
  exact e2
theorem qhy (L : LI) (hL : L.length ≤ 17592186044415) (hw : ∀ x ∈ L,-9223372036854775808 ≤ x ∧ x < 9223372036854775808) (s : LI) (hs : s.length ≤ 1000) (p : Int) (h0 : 0 ≤ p) (hp : p ≤ 17592184000000) (k : Nat) (hk : 5000 ≤ k) :
  ∃ q d,qav.f k s L p = some (q,s,d) ∧ (d.length : Int) = zSz s ∧ 0 ≤ q ∧ q ≤ p + 8192 := by
 have hz := qjM s
 obtain ⟨q,d,e,h1,h2,h3⟩ := qda L hL hw (zSz s).toNat (by omega) s 17592185000000 (by omega) (zSz s).toNat 0 p (List.replicate (zSz s).toNat 0) k (by omega) (by omega) h0 (by omega) (by simp)
 unfold qav.f
 rw [n0] at e
 rw [qdq s 0 hs k hk,obs]
 dsimp only
 rw [List.length_replicate,e]
 exact ⟨q,d,rfl,by omega,h2,by omega⟩
end Go.Pf

namespace Go.Pf
open Go
def zMay17 (s d m sp : LI) : Int := if zT s d = true then (if mSp m sp s.length = true then 0 else 1) else 13
theorem qc5 {s d m sp : LI} : zMay17 s d m sp = 0 ↔ zT s d = true ∧ mSp m sp s.length = true := by
 unfold zMay17
 by_cases h : zT s d = true <;> by_cases g : mSp m sp s.length = true <;> simp [h,g]
theorem qfk (s d m sp : LI) (hs : sp.length ≤ 17592186044415) (k : Nat) (hk : sp.length + 10 ≤ k) : qct.f k s d m sp = some (zMay17 s d m sp) := by
 rw [qct.f,qbL s d k (by omega)]
 unfold zMay17
 by_cases h : zT s d = true
 ·by_cases hm : mR m = true
  ·simp only [h,hm,obs,if_true,qbA m k (by omega),qce m sp _ (by omega) k hk]
   by_cases g : mSp m sp s.length = true <;> simp [g]
  ·have g : ¬ mSp m sp s.length = true := fun g => hm (by unfold mSp at g; simp only [Bool.and_eq_true] at g; exact g.1.1)
   simp only [h,obs,if_true,qbA m k (by omega)]
   rw [if_neg hm,if_neg g]
 ·simp [h]
def mFr (s m sp : LI) (e : Int) : LI := (mTile s m sp e).map fun p => p.1
theorem qiL {m A : LI} (hm : ∀ x ∈ m,1 ≤ x ∧ x ≤ 8) : ∀ {sh sp : LI},sp.length = sh.length → (∀ x ∈ sh,0 ≤ x) → (∀ x ∈ sp,-1 ≤ x ∧ x < (m.length : Int)) → zSl sh ((List.zipWith (tl1 m A) sh sp).map fun p => p.1) ((List.zipWith (tl1 m A) sh sp).map fun p => p.2 - p.1) = true
 | [],[],_,_,_ => rfl
 | [],_ :: _,h,_,_ => by simp at h
 | _ :: _,[],h,_,_ => by simp at h
 | x :: sh,q :: sp,h,hx,hq => by
  simp only [List.zipWith_cons_cons,List.map_cons]
  refine qbd.2 ⟨?_,qiL hm (by simpa using h) (fun y hy => hx y (List.mem_cons_of_mem _ hy)) fun y hy => hq y (List.mem_cons_of_mem _ hy)⟩
  have h0 := hx x (List.mem_cons_self ..)
  have hq0 := hq q (List.mem_cons_self ..)
  unfold tl1
  split
  ·rename_i hq1
   have h1 : 1 ≤ m.getD q.toNat 0 := by
    have hlt : q.toNat < m.length := by omega
    rw [show m.getD q.toNat 0 = m[q.toNat] by simp [List.getD,hlt]]; exact (hm _ (List.getElem_mem hlt)).1
   have := qhJ (x := x) (k := m.getD q.toNat 0) (i := A.getD q.toNat 0) h0 h1
   omega
  ·simp only; omega
theorem qhF {m : Int} : ∀ {sp pre : LI},okGo m pre sp = true → ∀ x ∈ sp,-1 ≤ x ∧ x < m
 | [],_,_,x,hx => by cases hx
 | a :: r,pre,h,x,hx => by
  simp only [okGo,Bool.and_eq_true,decide_eq_true_eq] at h
  rcases List.mem_cons.1 hx with rfl | hx
  ·exact ⟨by omega,by omega⟩
  ·exact qhF h.2 x hx
theorem qdD {s m sp : LI} (h1 : mSR s = true) (h2 : mSp m sp s.length = true) (e : Int) : zSl s (mFr s m sp e) (mSz s m sp e) = true := by
 have hsp := qbM h2
 exact qiL (qgE hsp.1) (by omega) (fun x hx => ((qaj h1).2.1 x hx).1) (qhF hsp.2.2)
def zPrt (s d m sp : LI) (e : Int) : LI × LI := (mSz s m sp e,zCut s d (mFr s m sp e) (mSz s m sp e))
def zPart (s d m sp : LI) (e : Int) : Int × LI × LI := if zMay17 s d m sp = 0 then (if 0 ≤ e ∧ e < mD m then (0,zPrt s d m sp e) else (23,[],[])) else (zMay17 s d m sp,[],[])
theorem qeM (s d m sp : LI) (e : Int) (hs : sp.length ≤ 17592186044415) (k : Nat) (hk : sp.length + 5010 ≤ k) : qb2.f k s d m sp e = some (zPart s d m sp e) := by
  rw [qb2.f,qfk s d m sp hs k (by omega)]
  simp only [obs]
  unfold zPart
  by_cases h : zMay17 s d m sp = 0
  · rw [if_pos h,if_pos h]
    obtain ⟨hT,h2⟩ := qc5.1 h
    have h1 := (qaO hT).1
    by_cases c1 : e < 0
    · rw [if_pos c1,if_neg (by omega)]
    · rw [if_neg c1,qbn m k (by omega)]
      simp only [obs]
      by_cases c2 : mD m ≤ e
      · rw [if_pos c2,if_neg (by omega)]
      · have hf : qaY.f k s m sp e = some (mFr s m sp e) := qfj h1 h2 (by omega) (by omega) k (by omega)
        rw [if_neg c2,if_pos (by omega),hf,qfi h1 h2 (by omega) (by omega) k (by omega)]
        simp only [obs]
        rw [qhu s d _ _ k (by omega),if_pos hT,if_pos (qdD h1 h2 e)]
        rfl
  · rw [if_neg h,if_neg h]
def zAll17 (s d m sp : LI) : List (LI × LI) := (List.range (mD m).toNat).map fun i : Nat => zPrt s d m sp i
theorem qf0 (s d m sp : LI) : ((zAll17 s d m sp).length : Int) = mD m := by
 have := qeu m
 simp [zAll17]; omega
theorem qeO (s d m sp : LI) (hs : sp.length ≤ 17592186044415) (h : zMay17 s d m sp = 0) (k : Nat) (hk : sp.length + 5010 ≤ k) : ∀ (e i n : Nat),mD m = ((i + e : Nat) : Int) → e < n →
  qa9.l0 k n m sp (mD m) i s d ((List.range i).map fun i : Nat => zPrt s d m sp i) = some (.inl (zAll17 s d m sp))
 | 0,i,n,h1,h2 => by
  obtain ⟨n,rfl⟩ : ∃ n',n = n' + 1 := ⟨n - 1,by omega⟩
  rw [qa9.l0,if_neg (by omega)]
  have : i = (mD m).toNat := by omega
  rw [this]; rfl
 | e + 1,i,n,h1,h2 => by
  obtain ⟨n,rfl⟩ : ∃ n',n = n' + 1 := ⟨n - 1,by omega⟩
  have hb := qeu m
  rw [qa9.l0,if_pos (by omega),qeM s d m sp i hs k hk]
  have hp : zPart s d m sp i = (0,zPrt s d m sp i) := by unfold zPart; rw [if_pos h,if_pos (by omega)]
  rw [hp]
  simp only [obs,if_true]
  rw [if_pos (by simp; omega)]
  have hw : IntKind.i64.wrap ((i : Int) + 1) = ((i + 1 : Nat) : Int) := by rw [IntKind.wrap_i64]; omega
  rw [hw]
  have := qeO s d m sp hs h k hk e (i + 1) n (by omega) (by omega)
  rw [List.range_succ,List.map_append] at this
  exact this
theorem qfl (s d m sp : LI) (hs : sp.length ≤ 17592186044415) (k : Nat) (hk : sp.length + 5010 ≤ k) : qa9.f k s d m sp = some (if zMay17 s d m sp = 0 then (0,zAll17 s d m sp) else (zMay17 s d m sp,[])) := by
 rw [qa9.f,qfk s d m sp hs k (by omega)]
 simp only [obs]
 by_cases h : zMay17 s d m sp = 0
 ·rw [if_pos h,if_pos h,qbn m k (by omega)]
  have hb := qeu m
  simp only [obs]
  have := qeO s d m sp hs h k hk (mD m).toNat 0 k (by omega) (by omega)
  simp only [List.range_zero,List.map_nil] at this
  rw [show (0 : Int) = ((0 : Nat) : Int) from rfl,this]
  rfl
 ·rw [if_neg h,if_neg h]
end Go.Pf

namespace Go.Pf
open Go Go.Vm
theorem iterX {S R : Type} {L : Nat → Int → S → Option R} {st : Nat → S} (res : Nat → R) {m : Nat} (N : Nat)
  (hend : ∀ n,N ≤ n → L (n + 1) (m : Int) (st m) = some (res m))
  (hstep : ∀ i n,i < m → N ≤ n → L n ((i + 1 : Nat) : Int) (st (i + 1)) = some (res (i + 1)) → L (n + 1) (i : Int) (st i) = some (res i)) :
  ∀ (e i n : Nat),m = i + e → e + N < n → L n (i : Int) (st i) = some (res i)
 | 0,i,n,hi,hn => by
  obtain ⟨n,rfl⟩ : ∃ q,n = q + 1 := ⟨n - 1,by omega⟩
  obtain rfl : m = i := by omega
  exact hend n (by omega)
 | e + 1,i,n,hi,hn => by
  obtain ⟨n,rfl⟩ : ∃ q,n = q + 1 := ⟨n - 1,by omega⟩
  exact hstep i n (by omega) (by omega) (iterX res N hend hstep e (i + 1) n (by omega) (by omega))
theorem iter0 {S R : Type} {L : Nat → Int → S → Option R} {st : Nat → S} (res : Nat → R) {m : Nat} (N : Nat)
  (hend : ∀ n,N ≤ n → L (n + 1) (m : Int) (st m) = some (res m))
  (hstep : ∀ i n,i < m → N ≤ n → L n ((i + 1 : Nat) : Int) (st (i + 1)) = some (res (i + 1)) → L (n + 1) (i : Int) (st i) = some (res i)) (n : Nat) (hn : m + N < n) : L n 0 (st 0) = some (res 0) :=
 iterX res N hend hstep m 0 n (by omega) hn
theorem qbi {i m : Nat} (h : i < m) (hm : m ≤ 1152921504606846976) : IntKind.i64.wrap ((i : Int) + 1) = ((i + 1 : Nat) : Int) := by
 rw [qah (by omega) (by omega)]; omega
theorem qft (a b : LI) (ha : a.length ≤ 17592186043904) (k : Nat) (hk : a.length < k) : qaT.f k a b = some (decide (a = b)) := by
 unfold qaT.f
 by_cases hl : a.length = b.length
 ·have := iter0 (L := fun n i (_ : Unit) => qaT.l0 n a b i) (st := fun _=>()) (fun i => if a.drop i = b.drop i then .inl () else .inr false) (m := a.length) 0
   (fun n _ => by rw [qaT.l0,if_neg (by omega),List.drop_eq_nil_of_le (Nat.le_refl _),List.drop_eq_nil_of_le (by omega),if_pos rfl])
   (fun i n hi _ ih => by
    rw [qaT.l0,if_pos (by omega),if_pos (by omega),if_pos (by omega),Int.toNat_natCast,qbi hi (by omega),ih,qae hi (0 : Int),qae (show i < b.length by omega) (0 : Int)]
    by_cases c : a.getD i 0 = b.getD i 0
    ·rw [if_pos c,c]
     by_cases c2 : a.drop (i + 1) = b.drop (i + 1)
     ·rw [if_pos c2,c2,if_pos rfl]
     ·rw [if_neg c2,if_neg (fun h => c2 (List.cons.inj h).2)]
    ·rw [if_neg c,if_neg (fun h => c (List.cons.inj h).1)]) k (by omega)
  rw [if_pos (by omega),this,List.drop_zero,List.drop_zero]
  by_cases c : a = b
  ·rw [if_pos c,decide_eq_true c]; rfl
  ·rw [if_neg c,decide_eq_false c]; rfl
 ·rw [if_neg (by omega),decide_eq_false (fun h => hl (by rw [h]))]
theorem qdO (a b : LI) (ha : a.length ≤ 17592186043904) (k : Nat) (hk : a.length < k) : qau.f k a b = some (decide (a = b)) := by
 unfold qau.f
 by_cases hl : a.length = b.length
 ·have := iter0 (L := fun n i (_ : Unit) => qau.l0 n a b a.length i) (st := fun _=>()) (fun i => if a.drop i = b.drop i then .inl () else .inr false) (m := a.length) 0
   (fun n _ => by rw [qau.l0,if_neg (by omega),List.drop_eq_nil_of_le (Nat.le_refl _),List.drop_eq_nil_of_le (by omega),if_pos rfl])
   (fun i n hi _ ih => by
    rw [qau.l0,if_pos (by omega),if_pos (by omega),if_pos (by omega),Int.toNat_natCast,qbi hi (by omega),ih,qae hi (0 : Int),qae (show i < b.length by omega) (0 : Int)]
    by_cases c : a.getD i 0 = b.getD i 0
    ·rw [if_pos c,c]
     by_cases c2 : a.drop (i + 1) = b.drop (i + 1)
     ·rw [if_pos c2,c2,if_pos rfl]
     ·rw [if_neg c2,if_neg (fun h => c2 (List.cons.inj h).2)]
    ·rw [if_neg c,if_neg (fun h => c (List.cons.inj h).1)]) k (by omega)
  rw [if_pos (by omega),this,List.drop_zero,List.drop_zero]
  by_cases c : a = b
  ·rw [if_pos c,decide_eq_true c]; rfl
  ·rw [if_neg c,decide_eq_false c]; rfl
 ·rw [if_neg (by omega),decide_eq_false (fun h => hl (by rw [h]))]
theorem qjb (g : Nat → Int) {m i : Nat} (h : i < m) (c : Int) : ((List.range i).map g ++ List.replicate (m - i) c).set i (g i) = (List.range (i + 1)).map g ++ List.replicate (m - (i + 1)) c := by
 have := qgM g i (m - (i + 1)) c
 rwa [show m - (i + 1) + 1 = m - i by omega] at this
end Go.Pf

namespace Go.Pf
open Go Go.Vm
theorem qeP (a b : LI) (ha : a.length ≤ 17592186043904) (k : Nat) (hk : a.length < k) : qb3.f k a b = some (decide (a = b)) := by
 unfold qb3.f
 rw [qdO a b ha k hk,obs]
end Go.Pf

namespace Go.Pf
open Go Go.Vm
theorem qi3 {s : LI} {L : Nat → Int → LI → Option LI} (f : LI → Int) {M : Nat} (hM : M = (pr s).toNat) (N : Nat)
  (hend : ∀ n y,N ≤ n → L (n + 1) (M : Int) y = some y)
  (hstep : ∀ (i n : Nat) (y : LI),i < M → N ≤ n → y.length = M → L (n + 1) (i : Int) y = L n ((i + 1 : Nat) : Int) (y.set i (f (pl s i)))) (c : Int) (n : Nat) (hn : M + N < n) : L n 0 (List.replicate M c) = some (made s f) := by
 have := iter0 (L := L) (st := fun (i : Nat) => (List.range i).map (fun (i : Nat) => f (pl s i)) ++ List.replicate (M - i) c) (fun _=>made s f) (m := M) N
  (fun n hn => by rw [hend n _ hn,Nat.sub_self,List.replicate_zero,List.append_nil,hM]; rfl)
  (fun i n hi hn ih => by
   rw [hstep i n _ hi hn (by simp; omega),qjb (fun (i : Nat) => f (pl s i)) hi,ih]) n (by omega)
 rw [Nat.sub_zero,List.range_zero,List.map_nil,List.nil_append] at this
 exact this
theorem qfb {s : LI} (hs : mSR s = true) : 0 ≤ pr s ∧ pr s ≤ 4096 ∧ zSz s = pr s := by
 have hb := qaj hs
 exact ⟨qb8 fun x hx => (hb.2.1 x hx).1,hb.2.2,by rw [zSz,if_pos hs]⟩
theorem qgo (s : LI) (n : Int) (k : Nat) (hk : 10000 ≤ k) : qbH.f k s n = some (if mSR s = true then (0,s,List.replicate (zSz s).toNat n) else (13,[],[])) := by
  unfold qbH.f
  rw [qbw _ k (by omega),obs]
  by_cases hs : mSR s = true
  rotate_left
  · rw [if_neg hs,if_neg hs]
  have hb := qaj hs
  obtain ⟨h0,h1,h2⟩ := qfb hs
  have e : ∀ M : Nat,M = (pr s).toNat → List.replicate M n = made s fun _=>n := fun M hM => by
    rw [made,← hM]
    refine List.ext_getElem (by simp) fun i h1 h2 => ?_
    simp
  rw [if_pos hs,if_pos hs]
  unfold qad.f
  rw [qcf _ (by omega),obs,qcg _ k (by omega),obs,h2,if_pos (by omega),List.length_replicate,
    qi3 (s := s) (L := fun m i y => qad.l0 k m s ((pr s).toNat : Int) i n s y) (fun _=>n) rfl 0 (fun m y _ => by rw [qad.l0,if_neg (by omega)]) (fun i m y hi _ hy => by
      rw [qad.l0,if_pos (by omega),qcB hs (by omega) (by omega) k (by omega),obs,qbW.f,obs,if_pos (by omega),if_pos (by omega),Int.toNat_natCast,qbi hi (by omega)]) 0 k (by omega),obs,obs,e _ rfl]
end Go.Pf

namespace Go.Pf
open Go
theorem qi0 : ∀ (l p : LI) (acc : Int),l.all okD = true → mIn l p = true → 0 ≤ acc → 0 ≤ ofGo l p acc ∧ ofGo l p acc < (acc + 1) * pd l
 | [],[],acc,_,_,h0 => by simp [ofGo,pd]; omega
 | [],_ :: _,_,_,h,_ => by simp [mIn] at h
 | _ :: _,[],_,_,h,_ => by simp [mIn] at h
 | x :: r,p :: s,acc,ha,h,h0 => by
  obtain ⟨⟨h1,h2⟩,h3⟩ := qbq.1 h
  have hr : r.all okD = true := by simp only [List.all_cons,Bool.and_eq_true] at ha; exact ha.2
  have hp := (qju r hr).1
  have hx : 0 ≤ acc * x := Int.mul_nonneg h0 (by omega)
  obtain ⟨g1,g2⟩ := qi0 r s (acc * x + p) hr h3 (by omega)
  rw [ofGo,if_neg (by omega)]
  refine ⟨g1,Int.lt_of_lt_of_le g2 ?_⟩
  show _ ≤ (acc + 1) * (x * pd r)
  rw [← Int.mul_assoc]
  refine Int.mul_le_mul_of_nonneg_right ?_ (by omega)
  rw [Int.add_mul]; omega
theorem qjX : ∀ {l : LI} (d : Int),l.all okD = true → mIn l (atM l d) = true
 | [],_,_ => rfl
 | x :: r,d,h => by
  simp only [List.all_cons,Bool.and_eq_true] at h
  have hx := qbx.1 h.1
  exact qbq.2 ⟨⟨Int.emod_nonneg _ (by omega),Int.emod_lt_of_pos _ (by omega)⟩,qjX d h.2⟩
theorem qjQ (sp : LI) : ∀ {l A : LI} (i : Nat),mIn l A = true → mIn l (msk sp i A) = true
 | [],[],_,_ => rfl
 | [],_ :: _,_,h => by simp [mIn] at h
 | _ :: _,[],_,h => by simp [mIn] at h
 | x :: r,a :: s,i,h => by
  obtain ⟨h1,h3⟩ := qbq.1 h
  refine qbq.2 ⟨?_,qjQ sp (i + 1) h3⟩
  split <;> omega
theorem qkm {m sp : LI} {r : Int} (h : mSp m sp r = true) {e : Int} (h0 : 0 ≤ e) (h1 : e < mD m) : 0 ≤ mF m sp e ∧ mF m sp e < mD m := by
 have hs := qbM h
 have hR := qcn hs.1
 have h2 : mSp m sp sp.length = true := by unfold mSp at h ⊢; simp only [Bool.and_eq_true,decide_eq_true_eq] at h ⊢; exact ⟨⟨h.1.1,trivial⟩,h.2⟩
 have hd : mD m = pd m := by rw [mD,if_pos hs.1]
 rw [mF,if_pos ⟨h2,h0,h1⟩,mO,if_pos ⟨hs.1,by rw [qhH,qco]⟩,hd]
 have := qi0 m (msk sp 0 (atM m e)) 0 hR.2.1 (qjQ sp 0 (qjX e hR.2.1)) (Int.le_refl _)
 rw [Int.zero_add,Int.one_mul] at this
 exact this
abbrev tz : LI × LI := ([],[])
def zOkP (s m sp : LI) (l : List (LI × LI)) (j : Nat) : Bool := zT (l.getD j tz).1 (l.getD j tz).2 && decide ((l.getD j tz).1 = mSz s m sp j)
theorem qdK {s m sp : LI} (h1 : mSR s = true) (h2 : mSp m sp s.length = true) {l : List (LI × LI)} (hl : (l.length : Int) = mD m) (k : Nat) (hk : 100 ≤ k) : ∀ (e i n : Nat),l.length = i + e → e < n →
  qac.l0 k n l s m sp l l.length i = some (if (List.range' i e).all (zOkP s m sp l) = true then .inl () else .inr 13)
 | 0,i,n,hi,hn => by
  obtain ⟨n,rfl⟩ : ∃ m,n = m + 1 := ⟨n - 1,by omega⟩
  rw [qac.l0,if_neg (by omega)]; rfl
 | e + 1,i,n,hi,hn => by
  obtain ⟨n,rfl⟩ : ∃ m,n = m + 1 := ⟨n - 1,by omega⟩
  have hb := qeu m
  rw [qac.l0,if_pos (by omega),if_pos (by omega),Int.toNat_natCast,qbL _ _ k (by omega),obs,List.range'_succ,List.all_cons]
  unfold zOkP
  by_cases c : zT (l.getD i ([],[])).1 (l.getD i ([],[])).2 = true
  ·have hz := (qaj (qaO c).1).1
   rw [if_pos c,qfi h1 h2 (by omega) (by omega) k (by omega),obs,qeP _ _ (by omega) k (by omega),obs,qbi (m := l.length) (by omega) (by omega)]
   by_cases c2 : (l.getD i ([],[])).1 = mSz s m sp i
   ·have ih := qdK h1 h2 hl k hk e (i + 1) n (by omega) (by omega)
    rw [decide_eq_true c2,if_pos rfl,ih,c]; rfl
   ·rw [decide_eq_false c2,if_neg (by decide),if_neg (by simp)]
  ·have c' := Bool.eq_false_iff.2 c
   rw [c']; rfl
theorem qgl (a b : LI) (hl : a.length = b.length) (hb : a.length ≤ 1152921504606846976) : ∀ (d i n : Nat),a.length = i + d → d < n →
  qal.l0 n a b a.length i = some (if a.drop i = b.drop i then .inl () else .inr false)
 | 0,i,n,hi,hn => by
  obtain ⟨n,rfl⟩ : ∃ m,n = m + 1 := ⟨n - 1,by omega⟩
  rw [qal.l0,if_neg (by omega),List.drop_eq_nil_of_le (by omega),List.drop_eq_nil_of_le (by omega),if_pos rfl]
 | d + 1,i,n,hi,hn => by
  obtain ⟨n,rfl⟩ : ∃ m,n = m + 1 := ⟨n - 1,by omega⟩
  rw [qal.l0,if_pos (by omega),if_pos (by omega),if_pos (by omega),Int.toNat_natCast,qae (show i < a.length by omega) 0,qae (show i < b.length by omega) 0,qbi (m := a.length) (by omega) (by omega),qgl a b hl hb d (i + 1) n (by omega) (by omega)]
  by_cases c : a.getD i 0 = b.getD i 0
  ·rw [if_pos c,c]; simp
  ·rw [if_neg c,if_neg (by simp at c ⊢; exact fun h => absurd h c)]
theorem qjo (a b : LI) (hb : a.length ≤ 1152921504606846976) (k : Nat) (hk : a.length < k) : qal.f k a b = some (decide (a = b)) := by
 unfold qal.f
 by_cases h : a.length = b.length
 ·have := qgl a b h hb a.length 0 k (by omega) hk
  rw [n0,List.drop_zero,List.drop_zero] at this
  rw [if_pos (by omega),this,obs]
  by_cases c : a = b
  ·rw [if_pos c,decide_eq_true c]; rfl
  ·rw [if_neg c,decide_eq_false c]; rfl
 ·rw [if_neg (by omega),decide_eq_false (fun c => h (by rw [c]))]
theorem qgn (s d s' d' : LI) (h : zT s d = true) (k : Nat) (hk : 5000 ≤ k) : qb7.f k s d s' d' = some (decide ((s,d) = (s',d'))) := by
 obtain ⟨g1,g2⟩ := qaO h
 have g3 := qaj g1
 unfold qb7.f
 rw [qeP _ _ (by omega) k (by omega),obs]
 by_cases c : s = s'
 ·rw [decide_eq_true c,if_pos rfl,qjo _ _ (by omega) k (by omega),obs]
  simp [c]
 ·rw [decide_eq_false c,if_neg (by decide)]
  simp [c]
def zSmP (m sp : LI) (l : List (LI × LI)) (j : Nat) : Bool := decide (l.getD j tz = l.getD (mF m sp j).toNat tz)
theorem qdJ {s m sp : LI} (h2 : mSp m sp s.length = true) (hsp : sp.length ≤ 1000) {l : List (LI × LI)} (hl : (l.length : Int) = mD m) (hT : ∀ j,j < l.length → zT (l.getD j tz).1 (l.getD j tz).2 = true) (k : Nat) (hk : 5000 ≤ k) : ∀ (e i n : Nat),l.length = i + e → e < n →
  qac.l1 k n l s m sp l l.length i = some (if (List.range' i e).all (zSmP m sp l) = true then .inl () else .inr 25)
 | 0,i,n,hi,hn => by
  obtain ⟨n,rfl⟩ : ∃ m,n = m + 1 := ⟨n - 1,by omega⟩
  rw [qac.l1,if_neg (by omega)]; rfl
 | e + 1,i,n,hi,hn => by
  obtain ⟨n,rfl⟩ : ∃ m,n = m + 1 := ⟨n - 1,by omega⟩
  have hb := qeu m
  have hF := qkm h2 (show (0 : Int) ≤ (i : Nat) by omega) (by omega)
  rw [qac.l1,if_pos (by omega),if_pos (by omega),Int.toNat_natCast,qg1 m sp _ (by omega) k (by omega),obs,if_pos (by omega),qgn _ _ _ _ (hT i (by omega)) k hk,obs,List.range'_succ,List.all_cons,qbi (m := l.length) (by omega) (by omega),
   qdJ h2 hsp hl hT k hk e (i + 1) n (by omega) (by omega)]
  unfold zSmP
  by_cases c : l.getD i tz = l.getD (mF m sp i).toNat tz
  ·have c' : ((l.getD i ([],[])).1,(l.getD i ([],[])).2) = ((l.getD (mF m sp i).toNat ([],[])).1,(l.getD (mF m sp i).toNat ([],[])).2) := c
   rw [decide_eq_true c',if_pos rfl]; simp only [c,decide_true,Bool.true_and]
  ·have c' : ¬ ((l.getD i ([],[])).1,(l.getD i ([],[])).2) = ((l.getD (mF m sp i).toNat ([],[])).1,(l.getD (mF m sp i).toNat ([],[])).2) := c
   rw [decide_eq_false c',if_neg (by decide)]; simp only [c,decide_false,Bool.false_and]; rfl
theorem qdG (f : LI) (p : LI) (hf : ∀ a ∈ f,0 ≤ a ∧ a ≤ 32) (hp : ∀ a ∈ p,0 ≤ a ∧ a ≤ 32) (hl : f.length ≤ 4) (hlen : p.length = f.length) (s m sp : LI) (a b : Int) (l : List (LI × LI)) (c e : Int) (x : LI) (g h : Int) (y z w v : LI) : ∀ (d : Nat) (L : LI) (n : Nat),f.length = L.length + d → d < n →
  qac.l4 n s m sp a b l c e x g h p.length L.length y z f (L ++ p.drop L.length) w v = some (L ++ zAdd (p.drop L.length) (f.drop L.length))
 | 0,L,n,hi,hn => by
  obtain ⟨n,rfl⟩ : ∃ m,n = m + 1 := ⟨n - 1,by omega⟩
  rw [qac.l4,if_neg (by omega),List.drop_eq_nil_of_le (by omega)]; rfl
 | d + 1,L,n,hi,hn => by
  obtain ⟨n,rfl⟩ : ∃ m,n = m + 1 := ⟨n - 1,by omega⟩
  have ha := hf _ (qas (show L.length < f.length by omega) 0)
  have hb := hp _ (qas (show L.length < p.length by omega) 0)
  have ih := qdG f p hf hp hl hlen s m sp a b l c e x g h y z w v d (L ++ [p.getD L.length 0 + f.getD L.length 0]) n (by simp; omega) (by omega)
  have hL : (L ++ p.drop L.length).length = f.length := by rw [List.length_append,List.length_drop]; omega
  rw [qac.l4,if_pos (by omega),if_pos (by rw [hL]; omega),if_pos (by rw [hL]; omega),if_pos (by omega),if_pos (by omega),Int.toNat_natCast,qae (show L.length < p.length by omega) (0 : Int),qae (show L.length < f.length by omega) (0 : Int),getL,setL,qah (n := p.getD L.length 0 + f.getD L.length 0) (by omega) (by omega),qah (n := (L.length : Int) + 1) (by omega) (by omega)]
  rw [List.length_append,List.length_singleton] at ih
  rw [show (L.length : Int) + 1 = ((L.length + 1 : Nat) : Int) by omega,ih]
  simp [zAdd]
def putS (s z f x : LI) (o : LI) (i : Nat) : LI := o.set (ix s (zAdd (pl z i) f)).toNat (x.getD i 0)
theorem qgB (s z f x o : LI) (i : Nat) : (putS s z f x o i).length = o.length := by simp [putS]
theorem qfK {α : Type} {g : LI → α → LI} (hg : ∀ o a,(g o a).length = o.length) : ∀ (l : List α) (o : LI),(l.foldl g o).length = o.length
 | [],_ => rfl
 | a :: r,o => by rw [List.foldl_cons,qfK hg r,hg]
theorem qdH {s z f x : LI} (h1 : mSR s = true) (hc : zSl s f z = true) (hx : zT z x = true) (m sp : LI) (a : Int) (l : List (LI × LI)) (c e : Int) (y4 : LI) (k : Nat) (hk : 5000 ≤ k) : ∀ (d i n : Nat) (o : LI),x.length = i + d → d + 10 < n → (o.length : Int) = pr s →
  qac.l3 k n s m sp a l c e x x.length i z x f y4 o = some ((List.range' i d).foldl (putS s z f x) o)
 | 0,i,n,o,hi,hn,ho => by
  obtain ⟨n,rfl⟩ : ∃ m,n = m + 1 := ⟨n - 1,by omega⟩
  rw [qac.l3,if_neg (by omega)]; rfl
 | d + 1,i,n,o,hi,hn,ho => by
  obtain ⟨n,rfl⟩ : ∃ m,n = m + 1 := ⟨n - 1,by omega⟩
  obtain ⟨g1,g2⟩ := qaO hx
  have g3 := qaj g1
  have gs := qaj h1
  have hlz := qck hc
  have hbz := qeH gs.2.1 hc
  have hin : mIn s (zAdd (pl z i) f) = true := qgT hc (qiY (fun a ha => (qdt g1 (by omega) a ha).1) i)
  have hib := qi8 hin
  have h4' := fun n (hn : f.length < n) => qdG f (pl z i) hbz.1 (qjt g1 (by omega) i) (by omega) (by rw [qfx]; omega) s m sp a (x.getD i 0) l c e x x.length i z x y4 o f.length [] n (by simp) hn
  have ih := qdH h1 hc hx m sp a l c e y4 k hk d (i + 1) n (putS s z f x o i) (by omega) (by omega) (by rw [qgB]; exact ho)
  have hzi : zIx s (zAdd (pl z i) f) = ix s (zAdd (pl z i) f) := by rw [zIx,if_pos ⟨h1,hin⟩]
  have h5 := h4' n (by omega)
  rw [List.length_nil,n0,List.drop_zero,List.drop_zero,List.nil_append,List.nil_append] at h5
  rw [qac.l3,if_pos (by omega),if_pos (by omega),qcB g1 (by omega) (by omega) k (by omega),obs,Int.toNat_natCast,h5,obs,qdR _ _ k (by omega),obs,hzi,if_pos (by omega),if_pos (by omega),qbi (m := x.length) (by omega) (by omega),List.range'_succ,List.foldl_cons]
  exact ih
def putP (s m sp : LI) (l : List (LI × LI)) (o : LI) (e : Nat) : LI := (List.range' 0 (l.getD e tz).2.length).foldl (putS s (mSz s m sp e) (mFr s m sp e) (l.getD e tz).2) o
theorem qgC (s m sp : LI) (l : List (LI × LI)) (o : LI) (e : Nat) : (putP s m sp l o e).length = o.length := qfK (fun _ _ => qgB _ _ _ _ _ _) _ _
theorem qdI {s m sp : LI} (h1 : mSR s = true) (h2 : mSp m sp s.length = true) {l : List (LI × LI)} (hl : (l.length : Int) = mD m) (hT : ∀ j,j < l.length → zOkP s m sp l j = true) (a : Int) (y2 : LI) (k : Nat) (hk : 5000 ≤ k) : ∀ (d i n : Nat) (o : LI),l.length = i + d → d + 5000 < n → (o.length : Int) = pr s →
  qac.l2 k n s m sp a l l.length i y2 o = some ((List.range' i d).foldl (putP s m sp l) o)
 | 0,i,n,o,hi,hn,ho => by
  obtain ⟨n,rfl⟩ : ∃ m,n = m + 1 := ⟨n - 1,by omega⟩
  rw [qac.l2,if_neg (by omega)]; rfl
 | d + 1,i,n,o,hi,hn,ho => by
  obtain ⟨n,rfl⟩ : ∃ m,n = m + 1 := ⟨n - 1,by omega⟩
  have hb := qeu m
  have hc := hT i (by omega)
  unfold zOkP at hc
  simp only [Bool.and_eq_true,decide_eq_true_eq] at hc
  obtain ⟨c1,c2⟩ := hc
  have hp := (qaj (qaO c1).1).2.2
  have hle := (qaO c1).2
  have hf : qaY.f k s m sp i = some (mFr s m sp i) := qfj h1 h2 (by omega) (by omega) k (by omega)
  have h3 := qdH h1 (show zSl s (mFr s m sp i) (l.getD i tz).1 = true by rw [c2]; exact qdD h1 h2 i) c1 m sp a l l.length i y2 k hk (l.getD i tz).2.length 0 n o (by omega) (by omega) ho
  have ih := qdI h1 h2 hl hT a y2 k hk d (i + 1) n (putP s m sp l o i) (by omega) (by omega) (by rw [qgC]; exact ho)
  rw [qac.l2,if_pos (by omega),if_pos (by omega),hf,obs,Int.toNat_natCast]
  rw [show (0 : Int) = ((0 : Nat) : Int) from rfl]
  rw [h3,obs,qbi (m := l.length) (by omega) (by omega),List.range'_succ,List.foldl_cons]
  rw [c2]
  exact ih
def zJn (s m sp : LI) (l : List (LI × LI)) : LI := (List.range' 0 l.length).foldl (putP s m sp l) (List.replicate (pr s).toNat 0)
def zJoin17 (s m sp : LI) (l : List (LI × LI)) : Int × LI × LI :=
 if mSR s = true ∧ mSp m sp s.length = true then (if (l.length : Int) = mD m then (if (List.range' 0 l.length).all (zOkP s m sp l) = true then (if (List.range' 0 l.length).all (zSmP m sp l) = true then (0,s,zJn s m sp l) else (25,[],[])) else (13,[],[])) else (13,[],[])) else (1,[],[])
theorem qeN (l : List (LI × LI)) (s m sp : LI) (hsp : sp.length ≤ 17592186044415) (k : Nat) (hk : sp.length + 10000 ≤ k) : qac.f k l s m sp = some (zJoin17 s m sp l) := by
 unfold qac.f zJoin17
 rw [qbA m k (by omega),obs]
 by_cases r1 : mR m = true
 rotate_left
 ·rw [if_neg r1,if_neg (fun h => r1 (qbM h.2).1)]
 rw [if_pos r1,qbw s k (by omega),obs]
 by_cases r2 : mSR s = true
 rotate_left
 ·rw [if_neg r2,if_neg (fun h => r2 h.1)]
 rw [if_pos r2,qce m sp _ (by omega) k (by omega),obs]
 by_cases r3 : mSp m sp s.length = true
 rotate_left
 ·rw [if_neg r3,if_neg (fun h => r3 h.2)]
 have hb := qeu m
 have gs := qaj r2
 have hsl := (qbM r3).2.1
 rw [if_pos r3,if_pos ⟨r2,r3⟩,qbn m k (by omega),obs]
 by_cases r4 : (l.length : Int) = mD m
 rotate_left
 ·rw [if_neg r4,if_neg r4]
 have e0 := qdK r2 r3 r4 k (by omega) l.length 0 k (by omega) (by omega)
 rw [if_pos r4,if_pos r4,show (0 : Int) = ((0 : Nat) : Int) from rfl,e0,obs]
 by_cases r5 : (List.range' 0 l.length).all (zOkP s m sp l) = true
 rotate_left
 ·rw [if_neg r5,if_neg r5]; rfl
 have hT : ∀ j,j < l.length → zOkP s m sp l j = true := fun j hj => List.all_eq_true.1 r5 j (by simp [List.mem_range']; omega)
 have e1 := qdJ r3 (by omega) r4 (fun j hj => by
  have := hT j hj
  unfold zOkP at this
  simp only [Bool.and_eq_true] at this
  exact this.1) k (by omega) l.length 0 k (by omega) (by omega)
 rw [if_pos r5,if_pos r5]
 show ((qac.l1 k k l s m sp l l.length ((0 : Nat) : Int)).bind _) = _
 rw [e1,obs]
 by_cases r6 : (List.range' 0 l.length).all (zSmP m sp l) = true
 rotate_left
 ·rw [if_neg r6,if_neg r6]; rfl
 rw [if_pos r6,if_pos r6]
 show ((qbH.f k s ((0 : Nat) : Int)).bind _) = _
 have hp0 := qfb r2
 rw [qgo s _ k (by omega),if_pos r2,obs,hp0.2.2]
 have e2 := qdI r2 r3 r4 hT 0 s k (by omega) l.length 0 k (List.replicate (pr s).toNat 0) (by omega) (by omega) (by simp; omega)
 rw [show ((0 : Nat) : Int) = 0 from rfl] at e2 ⊢
 rw [e2,obs]
 rfl
end Go.Pf

namespace Go.Pf
open Go
def M7 : List LI := [[2],[2,4],[3,2],[2,2,2],[],[5],[2,2]]
theorem all17m : (M7.all fun m => mR m && decide (1 ≤ mD m ∧ mD m ≤ 8 ∧ m.length ≤ 3)) = true := by decide +kernel
theorem got17m {m : LI} (hm : m ∈ M7) : mR m = true ∧ 1 ≤ mD m ∧ mD m ≤ 8 ∧ m.length ≤ 3 := by
 have := List.all_eq_true.1 all17m m hm
 simp only [Bool.and_eq_true,decide_eq_true_eq] at this
 exact this
theorem qjN {s d m sp : LI} (h1 : mSR s = true) (h2 : mSp m sp s.length = true) (e : Int) : zT (zPrt s d m sp e).1 (zPrt s d m sp e).2 = true := by
 show zT (mSz s m sp e) (zCut s d (mFr s m sp e) (mSz s m sp e)) = true
 unfold zCut
 exact qkk (qiq h1 (qdD h1 h2 e)) _
end Go.Pf

namespace Go.Pf
open Go Go.Vm
theorem which17 {L : LI} (hL : Fit (.sl (.int .i64)) L) : ∃ r q,qaC.f 7 L 0 = some (r,q) ∧ 0 ≤ r ∧ r < (M7.length : Int) ∧ r.toNat < M7.length ∧ M7.getD r.toNat [] ∈ M7 ∧ 0 ≤ q ∧ q ≤ 1 := by
 obtain ⟨h1,h2⟩ := qhO hL
 obtain ⟨r,q,e,r0,r1,q0,q1,q2,q3⟩ := qbQ 7 L (by omega) h2 0 (by omega) (by omega) (by omega)
 have hl : M7.length = 7 := rfl
 exact ⟨r,q,e,r0,by omega,by omega,qas (by omega) _,q0,by omega⟩
theorem made17 {L : LI} (hL : Fit (.sl (.int .i64)) L) (k : Nat) (hk : 5000 ≤ k) : ∃ m s d sp,qb5.f k L = some (m,s,d,sp) ∧ m ∈ M7 ∧ zT s d = true ∧ mSp m sp s.length = true ∧ sp.length < 4 ∧ s.length < 4 ∧ pr s ≤ 343 := by
 obtain ⟨r,q,e,r0,r1,r2,hm,q0,q1⟩ := which17 hL
 obtain ⟨f1,f2⟩ := qhO hL
 unfold qb5.f
 rw [e,obs]
 rw [show ([([2] : LI),([2,4] : LI),([3,2] : LI),([2,2,2] : LI),[],([5] : LI),([2,2] : LI)] : List LI) = M7 from rfl,if_pos ⟨r0,r1⟩,if_pos r2]
 generalize M7.getD r.toNat [] = m at hm ⊢
 obtain ⟨hR,d1,d8,l3⟩ := got17m hm
 obtain ⟨p,sh,e2,hl,hb,p0,p1⟩ := qis L (by omega) f2 q q0 (by omega) k (by omega)
 obtain ⟨p2,d,e3,hd,p20,p21⟩ := qhy L (by omega) f2 sh (by omega) p p0 (by omega) k (by omega)
 obtain ⟨p',s,e4,hs,hok,p0',_⟩ := qiM m l3 L (by omega) f2 (sh.length : Int) (by omega) (by omega) p2 p20 (by omega) k (by omega)
 have hsp : mSp m s sh.length = true := qkl hR hok _ hs
 have hpr := qkj sh hb
 have h343 : (7 : Int) ^ sh.length ≤ 343 := by
  rcases (show sh.length = 0 ∨ sh.length = 1 ∨ sh.length = 2 ∨ sh.length = 3 by omega) with e | e | e | e <;> rw [e] <;> decide
 have hSR : mSR sh = true := by
  simp only [mSR,Bool.and_eq_true,decide_eq_true_eq,List.all_eq_true]
  exact ⟨⟨by omega,fun x hx => qcH.2 (by have := hb x hx; omega)⟩,by omega⟩
 have hT : zT sh d = true := by
  simp only [zT,Bool.and_eq_true,decide_eq_true_eq]
  exact ⟨hSR,by rw [hd,zSz,if_pos hSR]⟩
 rw [e2,obs]
 dsimp only
 rw [e3,obs]
 dsimp only
 rw [e4,obs]
 exact ⟨m,sh,d,s,rfl,hm,hT,hsp,by omega,by omega,by omega⟩
theorem known17 (k : Nat) (hk : 20000 ≤ k) : qbc.f k = some true := by
 unfold qbc.f
 rw [qfl _ _ _ _ (by decide) k (by simp; omega),obs,qeN _ _ _ _ (by decide) k (by simp; omega),obs]
 decide +kernel
end Go.Pf

namespace Go.Pf
open Go Go.Vm
theorem qcG (s m sp : LI) (hs : sp.length ≤ 17592186044415) (k : Nat) (hk : sp.length + sp.length + 10 ≤ k) : qbR.f k s m sp = some (mSR s && mSp m sp s.length) := by
 unfold qbR.f
 rw [qch s k (by omega),obs]
 by_cases h : mSR s = true
 rotate_left
 ·rw [if_neg h,Bool.eq_false_iff.2 h]; rfl
 rw [if_pos h,qbY m k (by omega),obs]
 by_cases g : mR m = true
 rotate_left
 ·have : ¬ mSp m sp s.length = true := fun c => g (qbM c).1
  rw [if_neg g,Bool.eq_false_iff.2 this,Bool.and_false]
 rw [if_pos g,qeW m sp _ (by omega) k (by omega),obs,h,Bool.true_and]
theorem qgz : ((List.range 33).all fun x => (List.range 9).all fun p => (List.range 9).all fun c => decide (1 ≤ p → qcV.f (x : Nat) (p : Nat) (c : Nat) = some (mCut (x : Nat) (p : Nat) (c : Nat)))) = true := by decide +kernel
theorem qhD {x p c : Int} (hx : 0 ≤ x ∧ x ≤ 32) (hp : 1 ≤ p ∧ p ≤ 8) (hc : 0 ≤ c ∧ c ≤ 8) : qcV.f x p c = some (mCut x p c) := by
 have := List.all_eq_true.1 (List.all_eq_true.1 (List.all_eq_true.1 qgz x.toNat (List.mem_range.2 (by omega))) p.toNat (List.mem_range.2 (by omega))) c.toNat (List.mem_range.2 (by omega))
 have := of_decide_eq_true this (by omega)
 rwa [show ((x.toNat : Nat) : Int) = x by omega,show ((p.toNat : Nat) : Int) = p by omega,show ((c.toNat : Nat) : Int) = c by omega] at this
theorem qd3 (sh m sp A : LI) (hsh : ∀ x ∈ sh,0 ≤ x ∧ x ≤ 32) (hlen : sp.length = sh.length) (h4 : sh.length ≤ 4) (hA : A.length = m.length) (hm : ∀ x ∈ m,1 ≤ x ∧ x ≤ 8) (hA8 : ∀ x ∈ A,0 ≤ x ∧ x ≤ 8) (hsp : ∀ x ∈ sp,-1 ≤ x ∧ x < (m.length : Int)) : ∀ (d i n : Nat),sh.length = i + d → d < n →
  qaS.l0 n sh m sp sh.length i A ((List.zipWith (tl1 m A) (sh.take i) (sp.take i)).map (·.1)) ((List.zipWith (tl1 m A) (sh.take i) (sp.take i)).map fun p => p.2 - p.1) =
   some ((List.zipWith (tl1 m A) sh sp).map (·.1),(List.zipWith (tl1 m A) sh sp).map fun p => p.2 - p.1)
 | 0,i,n,hi,hn => by
  obtain ⟨n,rfl⟩ : ∃ m,n = m + 1 := ⟨n - 1,by omega⟩
  rw [qaS.l0,if_neg (by omega),List.take_of_length_le (by omega),List.take_of_length_le (by omega)]
 | d + 1,i,n,hi,hn => by
  obtain ⟨n,rfl⟩ : ∃ m,n = m + 1 := ⟨n - 1,by omega⟩
  have hx := hsh _ (qas (show i < sh.length by omega) 0)
  have hk := hsp _ (qas (show i < sp.length by omega) 0)
  have ih := qd3 sh m sp A hsh hlen h4 hA hm hA8 hsp d (i + 1) n (by omega) (by omega)
  have hz := qcq (f := tl1 m A) (show i < sh.length by omega) (show i < sp.length by omega)
  rw [hz,List.map_append,List.map_append] at ih
  simp only [List.map_cons,List.map_nil] at ih
  have hl1 : ((List.zipWith (tl1 m A) (sh.take i) (sp.take i)).map (·.1)).length ≤ 4 := by
   simp only [List.length_map,List.length_zipWith,List.length_take]; omega
  have hl2 : ((List.zipWith (tl1 m A) (sh.take i) (sp.take i)).map fun p => p.2 - p.1).length ≤ 4 := by
   simp only [List.length_map,List.length_zipWith,List.length_take]; omega
  generalize hq : sp.getD i 0 = q at *
  rw [qaS.l0,if_pos (by omega),if_pos (by omega),if_pos (by omega),Int.toNat_natCast,hq]
  by_cases c : 0 ≤ q
  ·have hqm : q.toNat < m.length := by omega
   have hp := hm _ (qas hqm 0)
   have ha := hA8 _ (qas (show q.toNat < A.length by omega) 0)
   have ht : tl1 m A (sh.getD i 0) q = mCut (sh.getD i 0) (m.getD q.toNat 0) (A.getD q.toNat 0) := by unfold tl1; rw [if_pos c]
   have hcb := qhJ (x := sh.getD i 0) (k := m.getD q.toNat 0) (i := A.getD q.toNat 0) hx.1 hp.1
   rw [if_pos c,if_pos (by omega),if_pos (by omega),if_pos (by omega),qhD hx hp ha,obs,← ht]
   rw [ht] at ih ⊢
   rw [if_pos (by rw [List.length_singleton]; omega),if_pos (by rw [List.length_singleton]; omega),qah (n := (mCut (sh.getD i 0) (m.getD q.toNat 0) (A.getD q.toNat 0)).2 - (mCut (sh.getD i 0) (m.getD q.toNat 0) (A.getD q.toNat 0)).1) (by omega) (by omega),qbi (m := sh.length) (by omega) (by omega)]
   exact ih
  ·have ht : tl1 m A (sh.getD i 0) q = (0,sh.getD i 0) := by unfold tl1; rw [if_neg c]
   rw [ht] at ih
   rw [if_neg c,if_pos (by rw [List.length_singleton]; omega),if_pos (by rw [List.length_singleton]; omega),qah (n := sh.getD i 0 - 0) (by omega) (by omega),qbi (m := sh.length) (by omega) (by omega)]
   exact ih
theorem atM_8 {m : LI} (h : ∀ x ∈ m,1 ≤ x ∧ x ≤ 8) (e : Int) : ∀ x ∈ atM m e,0 ≤ x ∧ x ≤ 8 := by
 induction m with
 | nil => intro x hx; cases hx
 | cons a r ih =>
  intro x hx
  have ha := h a (List.mem_cons_self ..)
  rcases List.mem_cons.1 hx with rfl | hx
  ·have h1 := Int.emod_nonneg (e / pd r) (show a ≠ 0 by omega)
   have h2 := Int.emod_lt_of_pos (e / pd r) (show 0 < a by omega)
   omega
  ·exact ih (fun y hy => h y (List.mem_cons_of_mem _ hy)) x hx
theorem qcU {s m sp : LI} {e : Int} (h1 : mSR s = true) (h2 : mSp m sp s.length = true) (h3 : 0 ≤ e) (h4 : e < mD m) (k : Nat) (hk : 100 ≤ k) : qaS.f k s m sp e = some (mFr s m sp e,mSz s m sp e) := by
 have hs := qaj h1
 have hsp := qbM h2
 have hR := qgE hsp.1
 unfold qaS.f
 have := qd3 s m sp (atM m e) hs.2.1 (by omega) hs.1 (qco m e) hR (atM_8 hR e) (qhF hsp.2.2) s.length 0 k (by omega) (by omega)
 simp only [List.take_zero,List.zipWith_nil_left,List.map_nil] at this
 rw [n0] at this
 rw [qcG s m sp (by omega) k (by omega),obs,h1,h2,if_pos (by rfl),if_neg (by omega),qa8 m k (by omega),obs,if_neg (by omega),qf5 m e k (by omega),obs,qib h3 h4,this,obs]
 rfl
theorem qeX (s d m sp : LI) (e : Int) (hs : sp.length ≤ 17592186044415) (k : Nat) (hk : sp.length + sp.length + 5010 ≤ k) : qb4.f k s d m sp e = some (zPart s d m sp e) := by
 unfold qb4.f zPart
 rw [qbX s d k (by omega),obs]
 by_cases hT : zT s d = true
 rotate_left
 ·have : zMay17 s d m sp = 13 := by unfold zMay17; rw [if_neg hT]
  rw [if_neg hT,this,if_neg (by decide)]
 have h1 := (qaO hT).1
 rw [if_pos hT,qcG s m sp hs k (by omega),obs,h1,Bool.true_and]
 by_cases h2 : mSp m sp s.length = true
 rotate_left
 ·have : zMay17 s d m sp = 1 := by unfold zMay17; rw [if_pos hT,if_neg h2]
  rw [if_neg h2,this,if_neg (by decide)]
 rw [if_pos h2,if_pos (qc5.2 ⟨hT,h2⟩)]
 by_cases c1 : e < 0
 ·rw [if_pos c1,if_neg (by omega)]
 rw [if_neg c1,qa8 m k (by omega),obs]
 by_cases c2 : mD m ≤ e
 ·rw [if_pos c2,if_neg (by omega)]
 rw [if_neg c2,if_pos (by omega),qcU h1 h2 (by omega) (by omega) k (by omega),obs]
 dsimp only
 rw [qg9 s d _ _ k (by omega),if_pos hT,if_pos (qdD h1 h2 e)]
 rfl
theorem qeY (s d m sp : LI) (hs : sp.length ≤ 17592186044415) (h : zMay17 s d m sp = 0) (k : Nat) (hk : sp.length + sp.length + 5010 ≤ k) : ∀ (e i n : Nat),mD m = ((i + e : Nat) : Int) → e < n →
  qa3.l0 k n m sp i s d ((List.range i).map fun i : Nat => zPrt s d m sp i) = some (zAll17 s d m sp)
 | 0,i,n,h1,h2 => by
  obtain ⟨n,rfl⟩ : ∃ n',n = n' + 1 := ⟨n - 1,by omega⟩
  rw [qa3.l0,qa8 m k (by omega),obs,if_neg (by omega)]
  have : i = (mD m).toNat := by omega
  rw [this]; rfl
 | e + 1,i,n,h1,h2 => by
  obtain ⟨n,rfl⟩ : ∃ n',n = n' + 1 := ⟨n - 1,by omega⟩
  have hb := qeu m
  have hp : zPart s d m sp i = (0,zPrt s d m sp i) := by unfold zPart; rw [if_pos h,if_pos (by omega)]
  rw [qa3.l0,qa8 m k (by omega),obs,if_pos (by omega),qeX s d m sp i hs k hk,hp]
  simp only [obs]
  rw [if_pos (by simp; omega)]
  have hw : IntKind.i64.wrap ((i : Int) + 1) = ((i + 1 : Nat) : Int) := by rw [IntKind.wrap_i64]; omega
  rw [hw]
  have := qeY s d m sp hs h k hk e (i + 1) n (by omega) (by omega)
  rw [List.range_succ,List.map_append] at this
  exact this
theorem qfw (s d m sp : LI) (hs : sp.length ≤ 17592186044415) (k : Nat) (hk : sp.length + sp.length + 5010 ≤ k) : qa3.f k s d m sp = some (if zMay17 s d m sp = 0 then (0,zAll17 s d m sp) else (zMay17 s d m sp,[])) := by
 unfold qa3.f
 rw [qbX s d k (by omega),obs]
 by_cases hT : zT s d = true
 rotate_left
 ·have : zMay17 s d m sp = 13 := by unfold zMay17; rw [if_neg hT]
  rw [if_neg hT,this,if_neg (by decide)]
 have h1 := (qaO hT).1
 rw [if_pos hT,qcG s m sp hs k (by omega),obs,h1,Bool.true_and]
 by_cases h2 : mSp m sp s.length = true
 rotate_left
 ·have : zMay17 s d m sp = 1 := by unfold zMay17; rw [if_pos hT,if_neg h2]
  rw [if_neg h2,this,if_neg (by decide)]
 have hm := qc5.2 ⟨hT,h2⟩
 have hb := qeu m
 have := qeY s d m sp hs hm k hk (mD m).toNat 0 k (by omega) (by omega)
 simp only [List.range_zero,List.map_nil] at this
 rw [if_pos h2,if_pos hm,show (0 : Int) = ((0 : Nat) : Int) from rfl,this]
 rfl
end Go.Pf

namespace Go.Pf
open Go Go.Vm
abbrev tn0 : Tn := ([],[])
end Go.Pf

namespace Go.Pf
open Go Go.Vm
def smT (l : List Tn) : Prop := l.length ≤ 100000 ∧ ∀ t ∈ l,t.1.length ≤ 100000 ∧ t.2.length ≤ 100000
theorem qcw (l : List Tn) (h : smT l) (k : Nat) (hk : 200000 ≤ k) : qaL.f k l l = some true := by
 obtain ⟨h1,h2⟩ := h
 unfold qaL.f
 have := iter0 (L := fun n i (_ : Unit) => qaL.l0 k n l l i) (st := fun _=>()) (fun _=>.inl ()) (m := l.length) 0
  (fun n _ => by rw [qaL.l0,if_neg (by omega)])
  (fun i n hi _ ih => by
   obtain ⟨a1,a2⟩ := h2 _ (qas hi tn0)
   rw [qaL.l0,if_pos (by omega),if_pos (by omega),if_pos (by omega),Int.toNat_natCast,qcl (l.getD i tn0).1 (l.getD i tn0).2 k (by omega) (by omega) (by omega) (by omega),obs,if_pos rfl,qbi hi (by omega),ih]) k (by omega)
 rw [if_pos rfl,this,obs]; rfl
end Go.Pf

namespace Go.Pf
open Go Go.Vm
theorem qdf (s s' a b : LI) (hl : a.length = b.length) (ha : a.length ≤ 17592186043904) : ∀ (d i n : Nat),a.length = i + d → d < n →
  qaG.l0 n i s a s' b = some (if a.drop i = b.drop i then .inl () else .inr false)
 | 0,i,n,hi,hn => by
  obtain ⟨n,rfl⟩ : ∃ m,n = m + 1 := ⟨n - 1,by omega⟩
  rw [qaG.l0,if_neg (by omega),List.drop_eq_nil_of_le (by omega),List.drop_eq_nil_of_le (by omega),if_pos rfl]
 | d + 1,i,n,hi,hn => by
  obtain ⟨n,rfl⟩ : ∃ m,n = m + 1 := ⟨n - 1,by omega⟩
  rw [qaG.l0,if_pos (by omega),if_pos (by omega),if_pos (by omega),Int.toNat_natCast,qae (show i < a.length by omega) 0,qae (show i < b.length by omega) 0,qbi (m := a.length) (by omega) (by omega),qdf s s' a b hl ha d (i + 1) n (by omega) (by omega)]
  by_cases c : a.getD i 0 = b.getD i 0
  ·rw [if_pos c,c]; simp
  ·rw [if_neg c,if_neg (by simp at c ⊢; exact fun h => absurd h c)]
theorem qhC (s d s' d' : LI) (h : zT s d = true) (k : Nat) (hk : 5000 ≤ k) : qaG.f k s d s' d' = some (decide ((s,d) = (s',d'))) := by
 obtain ⟨g1,g2⟩ := qaO h
 have g3 := qaj g1
 unfold qaG.f
 rw [qft _ _ (by omega) k (by omega),obs]
 by_cases c : s = s'
 rotate_left
 ·rw [decide_eq_false c,if_neg (by decide)]; simp [c]
 rw [decide_eq_true c,if_pos rfl]
 by_cases hl : d.length = d'.length
 ·have := qdf s s' d d' hl (by omega) d.length 0 k (by omega) (by omega)
  rw [n0,List.drop_zero,List.drop_zero] at this
  rw [if_pos (by omega),this,obs]
  by_cases e : d = d'
  ·rw [if_pos e,c,e]; simp
  ·rw [if_neg e]; simp [e]
 ·rw [if_neg (by omega)]
  have : ¬ d = d' := fun e => hl (by rw [e])
  simp [this]
theorem qd9 {s m sp : LI} (h1 : mSR s = true) (h2 : mSp m sp s.length = true) {l : List (LI × LI)} (hl : (l.length : Int) = mD m) (y2 y3 : LI) (k : Nat) (hk : 100 ≤ k) : ∀ (e i n : Nat),l.length = i + e → e < n →
  qag.l0 k n l s m sp l.length i y2 y3 = some (if (List.range' i e).all (zOkP s m sp l) = true then .inl () else .inr 13)
 | 0,i,n,hi,hn => by
  obtain ⟨n,rfl⟩ : ∃ m,n = m + 1 := ⟨n - 1,by omega⟩
  rw [qag.l0,if_neg (by omega)]; rfl
 | e + 1,i,n,hi,hn => by
  obtain ⟨n,rfl⟩ : ∃ m,n = m + 1 := ⟨n - 1,by omega⟩
  have hb := qeu m
  rw [qag.l0,if_pos (by omega),qcU h1 h2 (by omega) (by omega) k (by omega),obs,if_pos (by omega),Int.toNat_natCast,qbX _ _ k (by omega),obs,List.range'_succ,List.all_cons]
  unfold zOkP
  by_cases c : zT (l.getD i ([],[])).1 (l.getD i ([],[])).2 = true
  ·have hz := (qaj (qaO c).1).1
   rw [if_pos c,qft _ _ (by omega) k (by omega),obs,qbi (m := l.length) (by omega) (by omega)]
   by_cases c2 : (l.getD i ([],[])).1 = mSz s m sp i
   ·have ih := qd9 h1 h2 hl y2 y3 k hk e (i + 1) n (by omega) (by omega)
    rw [decide_eq_true c2,if_pos rfl,ih,c]; rfl
   ·rw [decide_eq_false c2,if_neg (by decide),if_neg (by simp)]
  ·have c' := Bool.eq_false_iff.2 c
   rw [c']; rfl
theorem qd6 (f : LI) (p : LI) (hf : ∀ a ∈ f,0 ≤ a ∧ a ≤ 32) (hp : ∀ a ∈ p,0 ≤ a ∧ a ≤ 32) (hl : f.length ≤ 4) (hlen : p.length = f.length) (l : List (LI × LI)) (s m sp : LI) (a b c e g h : Int) (z w : LI) : ∀ (d : Nat) (L : LI) (n : Nat),f.length = L.length + d → d < n →
  qag.l3 n l s m sp a b c e g h p.length L.length f (L ++ p.drop L.length) z w = some (L ++ zAdd (p.drop L.length) (f.drop L.length))
 | 0,L,n,hi,hn => by
  obtain ⟨n,rfl⟩ : ∃ m,n = m + 1 := ⟨n - 1,by omega⟩
  rw [qag.l3,if_neg (by omega),List.drop_eq_nil_of_le (by omega)]; rfl
 | d + 1,L,n,hi,hn => by
  obtain ⟨n,rfl⟩ : ∃ m,n = m + 1 := ⟨n - 1,by omega⟩
  have ha := hf _ (qas (show L.length < f.length by omega) 0)
  have hb := hp _ (qas (show L.length < p.length by omega) 0)
  have ih := qd6 f p hf hp hl hlen l s m sp a b c e g h z w d (L ++ [p.getD L.length 0 + f.getD L.length 0]) n (by simp; omega) (by omega)
  have hL : (L ++ p.drop L.length).length = f.length := by rw [List.length_append,List.length_drop]; omega
  rw [qag.l3,if_pos (by omega),if_pos (by rw [hL]; omega),if_pos (by rw [hL]; omega),if_pos (by omega),if_pos (by omega),Int.toNat_natCast,qae (show L.length < p.length by omega) (0 : Int),qae (show L.length < f.length by omega) (0 : Int),getL,setL,qah (n := p.getD L.length 0 + f.getD L.length 0) (by omega) (by omega),qah (n := (L.length : Int) + 1) (by omega) (by omega)]
  rw [List.length_append,List.length_singleton] at ih
  rw [show (L.length : Int) + 1 = ((L.length + 1 : Nat) : Int) by omega,ih]
  simp [zAdd]
theorem qd7 {s f : LI} {l : List (LI × LI)} {e0 : Nat} (h1 : mSR s = true) (hc : zSl s f (l.getD e0 tz).1 = true) (hx : zT (l.getD e0 tz).1 (l.getD e0 tz).2 = true) (he : e0 < l.length) (hl8 : l.length ≤ 8) (m sp : LI) (c e : Int) (y3 : LI) (k : Nat) (hk : 5000 ≤ k) : ∀ (d i n : Nat) (o : LI),(l.getD e0 tz).2.length = i + d → d + 10 < n → (o.length : Int) = pr s →
  qag.l2 k n l s m sp e0 c e (l.getD e0 tz).2.length i f y3 o = some ((List.range' i d).foldl (putS s (l.getD e0 tz).1 f (l.getD e0 tz).2) o)
 | 0,i,n,o,hi,hn,ho => by
  obtain ⟨n,rfl⟩ : ∃ m,n = m + 1 := ⟨n - 1,by omega⟩
  rw [qag.l2,if_neg (by omega)]; rfl
 | d + 1,i,n,o,hi,hn,ho => by
  obtain ⟨n,rfl⟩ : ∃ m,n = m + 1 := ⟨n - 1,by omega⟩
  have ih := qd7 h1 hc hx he hl8 m sp c e y3 k hk d (i + 1) n (putS s (l.getD e0 tz).1 f (l.getD e0 tz).2 o i) (by omega) (by omega) (by rw [qgB]; exact ho)
  generalize hz : (l.getD e0 tz).1 = z at *
  generalize hxx : (l.getD e0 tz).2 = x at *
  obtain ⟨g1,g2⟩ := qaO hx
  have g3 := qaj g1
  have gs := qaj h1
  have hlz := qck hc
  have hbz := qeH gs.2.1 hc
  have hin : mIn s (zAdd (pl z i) f) = true := qgT hc (qiY (fun a ha => (qdt g1 (by omega) a ha).1) i)
  have hib := qi8 hin
  have h5 := qd6 f (pl z i) hbz.1 (qjt g1 (by omega) i) (by omega) (by rw [qfx]; omega) l s m sp e0 i c e x.length i y3 o f.length [] n (by simp) (by omega)
  rw [List.length_nil,n0,List.drop_zero,List.drop_zero,List.nil_append,List.nil_append] at h5
  have hzi : zIx s (zAdd (pl z i) f) = ix s (zAdd (pl z i) f) := by rw [zIx,if_pos ⟨h1,hin⟩]
  rw [qag.l2,if_pos (by omega),if_pos (by omega),Int.toNat_natCast,hz,hxx,qeS g1 (by omega) (by omega) k (by omega),obs,h5,obs,qeU _ _ k (by omega),obs,hzi,if_pos (by omega),if_pos (by omega),if_pos (by omega),Int.toNat_natCast,qbi (m := x.length) (by omega) (by omega),List.range'_succ,List.foldl_cons]
  exact ih
theorem qd8 {s m sp : LI} (h1 : mSR s = true) (h2 : mSp m sp s.length = true) (hsp : sp.length ≤ 1000) {l : List (LI × LI)} (hl : (l.length : Int) = mD m) (hT : ∀ j,j < l.length → zOkP s m sp l j = true) (y2 : LI) (k : Nat) (hk : 5000 ≤ k) : ∀ (d i n : Nat) (o : LI),l.length = i + d → d + 5000 < n → (o.length : Int) = pr s →
  qag.l1 k n l s m sp l.length i y2 o = some (if (List.range' i d).all (zSmP m sp l) = true then .inl ((List.range' i d).foldl (putP s m sp l) o) else .inr 25)
 | 0,i,n,o,hi,hn,ho => by
  obtain ⟨n,rfl⟩ : ∃ m,n = m + 1 := ⟨n - 1,by omega⟩
  rw [qag.l1,if_neg (by omega)]; rfl
 | d + 1,i,n,o,hi,hn,ho => by
  obtain ⟨n,rfl⟩ : ∃ m,n = m + 1 := ⟨n - 1,by omega⟩
  have hb := qeu m
  have hF := qkm h2 (show (0 : Int) ≤ (i : Nat) by omega) (by omega)
  have hc := hT i (by omega)
  unfold zOkP at hc
  simp only [Bool.and_eq_true,decide_eq_true_eq] at hc
  obtain ⟨c1,c2⟩ := hc
  have hp := (qaj (qaO c1).1).2.2
  have hle := (qaO c1).2
  have hsl : zSl s (mFr s m sp i) (l.getD i tz).1 = true := by rw [c2]; exact qdD h1 h2 i
  have h3 := qd7 h1 hsl c1 (by omega) (by omega) m sp l.length i y2 k hk (l.getD i tz).2.length 0 n o (by omega) (by omega) ho
  have ih := qd8 h1 h2 hsp hl hT y2 k hk d (i + 1) n (putP s m sp l o i) (by omega) (by omega) (by rw [qgC]; exact ho)
  rw [qag.l1,if_pos (by omega),if_pos (by omega),Int.toNat_natCast,qgy m sp _ (by omega) k (by omega),obs,if_pos (by omega),qhC _ _ _ _ c1 k hk,obs,List.range'_succ,List.all_cons,List.foldl_cons]
  unfold zSmP
  by_cases c : l.getD i tz = l.getD (mF m sp i).toNat tz
  ·have c' : ((l.getD i ([],[])).1,(l.getD i ([],[])).2) = ((l.getD (mF m sp i).toNat ([],[])).1,(l.getD (mF m sp i).toNat ([],[])).2) := c
   rw [decide_eq_true c',if_pos rfl,qcU h1 h2 (by omega) (by omega) k (by omega),obs,Bool.true_and]
   rw [show (0 : Int) = ((0 : Nat) : Int) from rfl]
   have hz0 : zSmP m sp l = fun j => decide (l.getD j tz = l.getD (mF m sp j).toNat tz) := rfl
   rw [hz0] at ih
   rw [show qag.l2 k n l s m sp (i : Int) l.length i (l.getD i ([],[])).2.length ((0 : Nat) : Int) (mFr s m sp i,mSz s m sp i).1 y2 o = _ from h3,obs,qbi (m := l.length) (by omega) (by omega),c2]
   exact ih
  ·have c' : ¬ ((l.getD i ([],[])).1,(l.getD i ([],[])).2) = ((l.getD (mF m sp i).toNat ([],[])).1,(l.getD (mF m sp i).toNat ([],[])).2) := c
   rw [decide_eq_false c',if_neg (by decide)]; simp only [c,decide_false,Bool.false_and]; rfl
theorem qha (l : List (LI × LI)) (s m sp : LI) (hsp : sp.length ≤ 17592186044415) (k : Nat) (hk : sp.length + sp.length + 10000 ≤ k) : qag.f k l s m sp = some (zJoin17 s m sp l) := by
 unfold qag.f zJoin17
 rw [qcG s m sp hsp k (by omega),obs]
 by_cases r : mSR s = true ∧ mSp m sp s.length = true
 rotate_left
 ·rw [if_neg (by simpa using r),if_neg r]
 obtain ⟨r2,r3⟩ := r
 have hb := qeu m
 have gs := qaj r2
 have hsl := (qbM r3).2.1
 rw [if_pos (by simp [r2,r3]),if_pos ⟨r2,r3⟩,qa8 m k (by omega),obs]
 by_cases r4 : (l.length : Int) = mD m
 rotate_left
 ·rw [if_neg r4,if_neg r4]
 have hp0 := qfb r2
 rw [if_pos r4,if_pos r4,qdq s 0 (by omega) k (by omega),obs,hp0.2.2]
 dsimp only
 have e0 := qd9 r2 r3 r4 s (List.replicate (pr s).toNat 0) k (by omega) l.length 0 k (by omega) (by omega)
 rw [show (0 : Int) = ((0 : Nat) : Int) from rfl] at *
 rw [e0,obs]
 by_cases r5 : (List.range' 0 l.length).all (zOkP s m sp l) = true
 rotate_left
 ·rw [if_neg r5,if_neg r5]; rfl
 have hT : ∀ j,j < l.length → zOkP s m sp l j = true := fun j hj => List.all_eq_true.1 r5 j (by simp [List.mem_range']; omega)
 have e1 := qd8 r2 r3 (by omega) r4 hT s k (by omega) l.length 0 k (List.replicate (pr s).toNat 0) (by omega) (by omega) (by simp; omega)
 rw [if_pos r5,if_pos r5]
 show ((qag.l1 k k l s m sp l.length ((0 : Nat) : Int) s (List.replicate (pr s).toNat ((0 : Nat) : Int))).bind _) = _
 rw [show (((0 : Nat) : Int)) = (0 : Int) from rfl] at e1 ⊢
 rw [e1,obs]
 by_cases r6 : (List.range' 0 l.length).all (zSmP m sp l) = true
 ·rw [if_pos r6,if_pos r6]; rfl
 ·rw [if_neg r6,if_neg r6]; rfl
end Go.Pf

namespace Go.Pf
open Go Go.Vm
theorem qjp (s d m sp : LI) (e : Int) : (zPart s d m sp e).2.1.length ≤ 4096 ∧ (zPart s d m sp e).2.2.length ≤ 4096 := by
 unfold zPart
 by_cases h : zMay17 s d m sp = 0
 ·rw [if_pos h]
  split
  ·obtain ⟨hT,h2⟩ := qc5.1 h
   have h3 := qaO (qjN (d := d) (qaO hT).1 h2 e)
   have h4 := qaj h3.1
   show (zPrt s d m sp e).1.length ≤ 4096 ∧ (zPrt s d m sp e).2.length ≤ 4096
   exact ⟨by omega,by omega⟩
  ·exact ⟨Nat.zero_le _,Nat.zero_le _⟩
 ·rw [if_neg h]; exact ⟨Nat.zero_le _,Nat.zero_le _⟩
theorem qgU {s d m sp : LI} (h : zMay17 s d m sp = 0) : smT (zAll17 s d m sp) ∧ ∀ p ∈ zAll17 s d m sp,zT p.1 p.2 = true := by
 obtain ⟨hT,h2⟩ := qc5.1 h
 have hl := qf0 s d m sp
 have hb := qeu m
 have hz : ∀ p ∈ zAll17 s d m sp,zT p.1 p.2 = true := fun p hp => by
  obtain ⟨e,_,rfl⟩ := List.mem_map.1 hp
  exact qjN (qaO hT).1 h2 e
 refine ⟨⟨by omega,fun p hp => ?_⟩,hz⟩
 have h3 := qaO (hz p hp)
 have h4 := qaj h3.1
 exact ⟨by omega,by omega⟩
theorem qcZ (s d m sp : LI) (e : Int) (hs : sp.length ≤ 17592186044415) (k : Nat) (hk : sp.length + sp.length + 200000 ≤ k) : qaB.f k s d m sp e = some true := by
 unfold qaB.f
 have hp := qjp s d m sp e
 rw [qeM s d m sp e hs k (by omega),obs,qeX s d m sp e hs k (by omega),obs,qfl s d m sp hs k (by omega),obs,qfw s d m sp hs k (by omega),obs,if_pos rfl,qcl _ _ k (by omega) (by omega) (by omega) (by omega),obs,if_pos rfl,if_pos rfl]
 by_cases h : zMay17 s d m sp = 0
 ·rw [if_pos h,qcw _ (qgU h).1 k (by omega),obs]
 ·rw [if_neg h,qcw _ ⟨Nat.zero_le _,fun t ht => by cases ht⟩ k (by omega),obs]
theorem qjq (s m sp : LI) (l : List (LI × LI)) : (zJoin17 s m sp l).2.1.length ≤ 4096 ∧ (zJoin17 s m sp l).2.2.length ≤ 4096 := by
 unfold zJoin17
 split
 ·rename_i h
  have h1 := qaj h.1
  have hp := qfb h.1
  split
  ·split
   ·split
    ·refine ⟨by show s.length ≤ 4096; omega,?_⟩
     show (zJn s m sp l).length ≤ 4096
     unfold zJn
     rw [qfK (fun o e => qgC s m sp _ o e),List.length_replicate]
     omega
    ·exact ⟨Nat.zero_le _,Nat.zero_le _⟩
   ·exact ⟨Nat.zero_le _,Nat.zero_le _⟩
  ·exact ⟨Nat.zero_le _,Nat.zero_le _⟩
 ·exact ⟨Nat.zero_le _,Nat.zero_le _⟩
theorem qee (l : List (LI × LI)) (s m sp : LI) (hsp : sp.length ≤ 17592186044415) (k : Nat) (hk : sp.length + sp.length + 200000 ≤ k) : qat.f k l s m sp = some true := by
 unfold qat.f
 have hp := qjq s m sp l
 rw [qeN l s m sp hsp k (by omega),obs,qha l s m sp hsp k (by omega),obs,if_pos rfl,qcl _ _ k (by omega) (by omega) (by omega) (by omega),obs]
theorem pickOf {a : Int} {n : Nat} (h0 : 0 < n) (h8 : n ≤ 8) (ha : -9223372036854775808 ≤ a ∧ a < 9223372036854775808) : 0 ≤ (IntKind.i64.wrap (a.tmod (n : Int) + (n : Int))).tmod (n : Int) ∧ (IntKind.i64.wrap (a.tmod (n : Int) + (n : Int))).tmod (n : Int) < (n : Int) := by
 have t2 := Int.lt_tmod_of_pos a (show (0 : Int) < n by omega)
 have t3 := Int.tmod_lt_of_pos a (show (0 : Int) < n by omega)
 rw [qah (by omega) (by omega)]
 have t4 := Int.tmod_lt_of_pos (a.tmod n + n) (show (0 : Int) < n by omega)
 have t5 := Int.tmod_nonneg (n : Int) (show 0 ≤ a.tmod n + n by omega)
 exact ⟨t5,t4⟩
theorem qgR (a0 : LI) (a1_0 a1_1 a2 a3 a4 : LI) (a5 : List (LI × LI)) (a6 a7 a8 : Int) (w0 : Fit (.sl (.int .i64)) a0) (_ : Fit (.pair (.sl (.int .i64)) (.sl (.int .i64))) (a1_0,a1_1)) (_ : Fit (.sl (.int .i64)) a2) (w3 : Fit (.sl (.int .i64)) a3) (_ : Fit (.sl (.int .i64)) a4) (_ : Fit (.sl (.pair (.sl (.int .i64)) (.sl (.int .i64)))) a5) (_ : (Lit.int .i64 a6).wf = true) (w7 : (Lit.int .i64 a7).wf = true) (_ : (Lit.int .i64 a8).wf = true) : ∃ k,qbj.f k a0 a1_0 a1_1 a2 a3 a4 a5 a6 a7 a8 = some true := by
 refine ⟨300000 + a3.length + a3.length,?_⟩
 generalize hk' : 300000 + a3.length + a3.length = k
 have hk : a3.length + a3.length + 300000 ≤ k := by omega
 clear hk'
 have h3 := (qhO w3).1
 obtain ⟨m,s,d,sp,e,hm,hT,h2,hs4,hl4,h343⟩ := made17 w0 k (by omega)
 obtain ⟨_,d1,d8,_⟩ := got17m hm
 have hmay : zMay17 s d m sp = 0 := qc5.2 ⟨hT,h2⟩
 have hal := qf0 s d m sp
 obtain ⟨_,hz⟩ := qgU hmay
 have j1 := fun e => qcZ s d m sp e (by omega) k (by omega)
 have j2 := qcZ a1_0 a1_1 a2 a3 a6 (by omega) k (by omega)
 have j3 := qcZ s d m a3 a6 (by omega) k (by omega)
 have j4 := fun l s' => qee l s' m sp (by omega) k (by omega)
 have j5 := fun l => qee l a4 a2 a3 (by omega) k (by omega)
 have hkn := known17 k (by omega)
 have hall : qa3.f k s d m sp = some (0,zAll17 s d m sp) := by rw [qfw s d m sp (by omega) k (by omega),if_pos hmay]
 generalize zAll17 s d m sp = W at *
 have hq := pickOf (a := a7) (n := W.length) (by omega) (by omega) (qjT w7)
 generalize hqq : (IntKind.i64.wrap (a7.tmod (W.length : Int) + (W.length : Int))).tmod (W.length : Int) = q at *
 have hx := (qaO (hz _ (qas (show q.toNat < W.length by omega) ([],[])))).2
 have hx1 := (qaj (qaO (hz _ (qas (show q.toNat < W.length by omega) ([],[])))).1).2.2
 unfold qbj.f
 rw [e,obs]
 dsimp only
 simp only [hall,obs,List.nil_append,Nat.zero_add,hqq,j1,j2,j3,j4,j5,hkn,if_true]
 have g1 : W.length ≤ 281474976710656 ∧ W.length * 48 ≤ 140737488355328 := by omega
 have g2 : (0 : Int) < (W.length : Int) := by omega
 have g3 : (W.length : Int) ≠ 0 := by omega
 have g4 : q.toNat < W.length := by omega
 have g5 : (W.getD q.toNat ([],[])).2.length ≤ 281474976710656 ∧ (W.getD q.toNat ([],[])).2.length * 8 ≤ 140737488355328 := by omega
 by_cases c9 : 9 < (a5.length : Int)
 ·rw [if_pos c9,if_pos (by omega),if_pos g1,if_pos g2,if_pos g3,if_pos hq,if_pos g4,if_pos g5]
  split
  ·rename_i c
   rw [if_pos ⟨by decide,c⟩,if_pos (by omega)]
  ·rfl
 ·rw [if_neg c9,if_pos g1,if_pos g2,if_pos g3,if_pos hq,if_pos g4,if_pos g5]
  split
  ·rename_i c
   rw [if_pos ⟨by decide,c⟩,if_pos (by omega)]
  ·rfl
end Go.Pf
