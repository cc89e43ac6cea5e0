/- Own texts put together: PfBase, P14, P16 .. -/
import Derived.Test.YtkdadlgokelcjaaVm1
set_option linter.unusedVariables false
set_option linter.unusedSimpArgs false
/- Base of the plain functions. -/

/- What functions of the program tell, as plain functions (printed by prt.py). -/
namespace Go.Pf
open Go

def law14_meshes.f : Option ((List (List Int))) := some [[], ([1] : List Int), ([2] : List Int), ([8] : List Int), ([2, 4] : List Int), ([4, 2] : List Int), ([2, 2, 2] : List Int), ([1, 3] : List Int), ([3, 2] : List Int), ([1, 1, 1] : List Int), ([2, 1, 3] : List Int)]

def ref14_Right.l0 : Nat → (List Int) → Int → Int → Int → Option (Int ⊕ Bool)
  | 0, _, _, _, _ => none
  | n + 1, x0, x3, x6, x7 => if x7 < x6 then (if 3 ≤ x7 then (some (.inr false)) else if 0 ≤ x7 ∧ x7 < (x0.length : Int) then if x0.getD x7.toNat 0 < 1 then (some (.inr false)) else if 8 < x0.getD x7.toNat 0 then (some (.inr false)) else ref14_Right.l0 n x0 (IntKind.i64.wrap (x3 * (x0.getD x7.toNat 0))) x6 (IntKind.i64.wrap (x7 + 1)) else none) else some (.inl x3)
def ref14_Right.f (k : Nat) (a0 : List Int) : Option (Bool) := (ref14_Right.l0 k a0 1 (a0.length : Int) 0).bind fun t1 => Sum.elim (fun t1 => some (decide (t1 ≤ 8))) (fun t1 => some t1) t1

def ref14_Devices.l0 : Nat → (List Int) → Int → Int → Int → Option (Int)
  | 0, _, _, _, _ => none
  | n + 1, x0, x3, x9, x10 => if x10 < x9 then (if 0 ≤ x10 ∧ x10 < (x0.length : Int) then ref14_Devices.l0 n x0 (IntKind.i64.wrap (x3 * (x0.getD x10.toNat 0))) x9 (IntKind.i64.wrap (x10 + 1)) else none) else some x3
def ref14_Devices.f (k : Nat) (a0 : List Int) : Option (Int) := (ref14_Right.f k a0).bind fun t1 => if t1 = true then ((ref14_Devices.l0 k a0 1 (a0.length : Int) 0).bind fun t2 => some t2) else some 0

def ref14_At.l0 : Nat → (List Int) → Int → Int → (List Int) → Option ((List Int))
  | 0, _, _, _, _ => none
  | n + 1, x0, x1, x6, y0 => if 0 ≤ x6 then (if 0 ≤ x6 ∧ x6 < (x0.length : Int) then if x0.getD x6.toNat 0 ≠ 0 then if 0 ≤ x6 ∧ x6 < (y0.length : Int) then if x6.toNat < y0.length then ref14_At.l0 n x0 (IntKind.i64.wrap (x1.tdiv (x0.getD x6.toNat 0))) (IntKind.i64.wrap (x6 - 1)) (y0.set x6.toNat (x1.tmod (x0.getD x6.toNat 0))) else none else none else none else none) else some y0
def ref14_At.f (k : Nat) (a0 : List Int) (a1 : Int) : Option ((List Int)) := if a1 < 0 then (some []) else (ref14_Devices.f k a0).bind fun t1 => if t1 ≤ a1 then (some []) else if 0 ≤ (a0.length : Int) ∧ (a0.length : Int) ≤ 281474976710656 ∧ ((8 : Nat) : Int) * (a0.length : Int) ≤ 140737488355328 then (ref14_At.l0 k a0 a1 (IntKind.i64.wrap ((a0.length : Int) - 1)) (List.replicate (a0.length : Int).toNat (0 : Int))).bind fun t2 => some t2 else none

def mesh_Right.l0 : Nat → Int → (List Int) → Int → Int → Option (Int ⊕ Bool)
  | 0, _, _, _, _ => none
  | n + 1, x3, x9, x10, x11 => if x11 < x10 then (if 0 ≤ x11 ∧ x11 < (x9.length : Int) then if x9.getD x11.toNat 0 < 1 then (some (.inr false)) else if 8 < x9.getD x11.toNat 0 then (some (.inr false)) else mesh_Right.l0 n (IntKind.i64.wrap (x3 * (x9.getD x11.toNat 0))) x9 x10 (IntKind.i64.wrap (x11 + 1)) else none) else some (.inl x3)
def mesh_Right.f (k : Nat) (a0 : List Int) : Option (Bool) := if 3 < (a0.length : Int) then (some false) else (mesh_Right.l0 k 1 a0 (a0.length : Int) 0).bind fun t1 => Sum.elim (fun t1 => some (decide (t1 ≤ 8))) (fun t1 => some t1) t1

def mesh_Devices.l0 : Nat → Int → (List Int) → Int → Int → Option (Int)
  | 0, _, _, _, _ => none
  | n + 1, x3, x9, x10, x11 => if x11 < x10 then (if 0 ≤ x11 ∧ x11 < (x9.length : Int) then mesh_Devices.l0 n (IntKind.i64.wrap (x3 * (x9.getD x11.toNat 0))) x9 x10 (IntKind.i64.wrap (x11 + 1)) else none) else some x3
def mesh_Devices.f (k : Nat) (a0 : List Int) : Option (Int) := (mesh_Right.f k a0).bind fun t1 => if t1 = true then ((mesh_Devices.l0 k 1 a0 (a0.length : Int) 0).bind fun t2 => some t2) else some 0

def mesh_At.l0 : Nat → (List Int) → Int → Int → (List Int) → Option ((List Int))
  | 0, _, _, _, _ => none
  | n + 1, x0, x1, x6, y0 => if 0 ≤ x6 then (if 0 ≤ x6 ∧ x6 < (x0.length : Int) then if x0.getD x6.toNat 0 ≠ 0 then if 0 ≤ x6 ∧ x6 < (y0.length : Int) then if x6.toNat < y0.length then mesh_At.l0 n x0 (IntKind.i64.wrap (x1.tdiv (x0.getD x6.toNat 0))) (IntKind.i64.wrap (x6 - 1)) (y0.set x6.toNat (x1.tmod (x0.getD x6.toNat 0))) else none else none else none else none) else some y0
def mesh_At.f (k : Nat) (a0 : List Int) (a1 : Int) : Option ((List Int)) := if a1 < 0 then (some []) else (mesh_Devices.f k a0).bind fun t1 => if t1 ≤ a1 then (some []) else if 0 ≤ (a0.length : Int) ∧ (a0.length : Int) ≤ 281474976710656 ∧ ((8 : Nat) : Int) * (a0.length : Int) ≤ 140737488355328 then (mesh_At.l0 k a0 a1 (IntKind.i64.wrap ((a0.length : Int) - 1)) (List.replicate (a0.length : Int).toNat (0 : Int))).bind fun t2 => some t2 else none

def book_Same_int.l0 : Nat → (List Int) → (List Int) → Int → Option (Unit ⊕ Bool)
  | 0, _, _, _ => none
  | n + 1, x0, x1, x5 => if x5 < (x0.length : Int) then (if 0 ≤ x5 ∧ x5 < (x0.length : Int) then if 0 ≤ x5 ∧ x5 < (x1.length : Int) then if x0.getD x5.toNat 0 = x1.getD x5.toNat 0 then (book_Same_int.l0 n x0 x1 (IntKind.i64.wrap (x5 + 1))) else some (.inr false) else none else none) else some (.inl ())
def book_Same_int.f (k : Nat) (a0 : List Int) (a1 : List Int) : Option (Bool) := if (a0.length : Int) = (a1.length : Int) then ((book_Same_int.l0 k a0 a1 0).bind fun t1 => Sum.elim (fun t1 => some true) (fun t1 => some t1) t1) else some false

def mesh_Of.l0 : Nat → (List Int) → Int → (List Int) → Int → Int → Option (Int ⊕ Int)
  | 0, _, _, _, _, _ => none
  | n + 1, x0, x5, x18, x19, x20 => if x20 < x19 then (if 0 ≤ x20 ∧ x20 < (x18.length : Int) then if x18.getD x20.toNat 0 < 0 then (some (.inr (-1))) else if 0 ≤ x20 ∧ x20 < (x0.length : Int) then if x0.getD x20.toNat 0 ≤ x18.getD x20.toNat 0 then (some (.inr (-1))) else mesh_Of.l0 n x0 (IntKind.i64.wrap ((IntKind.i64.wrap (x5 * (x0.getD x20.toNat 0))) + (x18.getD x20.toNat 0))) x18 x19 (IntKind.i64.wrap (x20 + 1)) else none else none) else some (.inl x5)
def mesh_Of.f (k : Nat) (a0 : List Int) (a1 : List Int) : Option (Int) := (mesh_Right.f k a0).bind fun t1 => if t1 = true then (if (a1.length : Int) = (a0.length : Int) then ((mesh_Of.l0 k a0 0 a1 (a1.length : Int) 0).bind fun t2 => Sum.elim (fun t2 => some t2) (fun t2 => some t2) t2) else some (-1)) else some (-1)

def ref14_Of.l0 : Nat → (List Int) → (List Int) → Int → Int → Int → Option (Int ⊕ Int)
  | 0, _, _, _, _, _ => none
  | n + 1, x0, x1, x5, x18, x19 => if x19 < x18 then (if 0 ≤ x19 ∧ x19 < (x1.length : Int) then if x1.getD x19.toNat 0 < 0 then (some (.inr (-1))) else if 0 ≤ x19 ∧ x19 < (x0.length : Int) then if x0.getD x19.toNat 0 ≤ x1.getD x19.toNat 0 then (some (.inr (-1))) else ref14_Of.l0 n x0 x1 (IntKind.i64.wrap ((IntKind.i64.wrap (x5 * (x0.getD x19.toNat 0))) + (x1.getD x19.toNat 0))) x18 (IntKind.i64.wrap (x19 + 1)) else none else none) else some (.inl x5)
def ref14_Of.f (k : Nat) (a0 : List Int) (a1 : List Int) : Option (Int) := (ref14_Right.f k a0).bind fun t1 => if t1 = true then (if (a1.length : Int) = (a0.length : Int) then ((ref14_Of.l0 k a0 a1 0 (a0.length : Int) 0).bind fun t2 => Sum.elim (fun t2 => some t2) (fun t2 => some t2) t2) else some (-1)) else some (-1)

def mesh_there.f (k : Nat) (a0 : List Int) (a1 : Int) (a2 : Int) : Option (Bool) := if 0 ≤ a1 then ((mesh_Devices.f k a0).bind fun t1 => if a1 < t1 then (if 0 ≤ a2 then (some (decide (a2 < (a0.length : Int)))) else some false) else some false) else some false

def mesh_Group.l0 (k : Nat) : Nat → (List Int) → Int → (List Int) → (List Int) → Option ((List Int))
  | 0, _, _, _, _ => none
  | n + 1, x0, x2, y0, y1 => if 0 ≤ x2 ∧ x2 < (y0.length : Int) then if x2.toNat < y0.length then if 0 ≤ x2 ∧ x2 < (x0.length : Int) then if y0.getD x2.toNat 0 < x0.getD x2.toNat 0 then ((mesh_Of.f k x0 y0).bind fun t3 => if y1.length + [t3].length ≤ 281474976710656 ∧ (y1.length + [t3].length) * 8 ≤ 140737488355328 then mesh_Group.l0 k n x0 x2 (y0.set x2.toNat (IntKind.i64.wrap ((y0.getD x2.toNat 0) + 1))) (y1 ++ [t3]) else none) else some y1 else none else none else none
def mesh_Group.f (k : Nat) (a0 : List Int) (a1 : Int) (a2 : Int) : Option ((List Int)) := (mesh_there.f k a0 a1 a2).bind fun t1 => if t1 = true then ((mesh_At.f k a0 a1).bind fun t2 => if 0 ≤ a2 ∧ a2 < (t2.length : Int) then if a2.toNat < t2.length then (mesh_Group.l0 k k a0 a2 (t2.set a2.toNat 0) []).bind fun t4 => some t4 else none else none) else some []

def ref14_Group.l0 (k : Nat) : Nat → (List Int) → Int → Int → (List Int) → (List Int) → Option ((List Int))
  | 0, _, _, _, _, _ => none
  | n + 1, x0, x2, x9, y0, y1 => if 0 ≤ x2 ∧ x2 < (x0.length : Int) then if x9 < x0.getD x2.toNat 0 then (if 0 ≤ x2 ∧ x2 < (y0.length : Int) then if x2.toNat < y0.length then (ref14_Of.f k x0 (y0.set x2.toNat x9)).bind fun t3 => if y1.length + [t3].length ≤ 281474976710656 ∧ (y1.length + [t3].length) * 8 ≤ 140737488355328 then ref14_Group.l0 k n x0 x2 (IntKind.i64.wrap (x9 + 1)) (y0.set x2.toNat x9) (y1 ++ [t3]) else none else none else none) else some y1 else none
def ref14_Group.f (k : Nat) (a0 : List Int) (a1 : Int) (a2 : Int) : Option ((List Int)) := if a1 < 0 then (some []) else (ref14_Devices.f k a0).bind fun t1 => if t1 ≤ a1 then (some []) else if a2 < 0 then (some []) else if (a0.length : Int) ≤ a2 then (some []) else (ref14_At.f k a0 a1).bind fun t2 => (ref14_Group.l0 k k a0 a2 0 t2 []).bind fun t4 => some t4

def mesh_Step.f (k : Nat) (a0 : List Int) (a1 : Int) (a2 : Int) (a3 : Int) : Option (Int) := (mesh_there.f k a0 a1 a2).bind fun t1 => if t1 = true then ((mesh_At.f k a0 a1).bind fun t2 => if 0 ≤ a2 ∧ a2 < (a0.length : Int) then if 0 ≤ a2 ∧ a2 < (t2.length : Int) then if a2.toNat < t2.length then if a0.getD a2.toNat 0 ≠ 0 then (mesh_Of.f k a0 (t2.set a2.toNat ((IntKind.i64.wrap ((IntKind.i64.wrap ((t2.getD a2.toNat 0) + (a3.tmod (a0.getD a2.toNat 0)))) + (a0.getD a2.toNat 0))).tmod (a0.getD a2.toNat 0)))).bind fun t3 => some t3 else none else none else none else none) else some (-1)

def ref14_Step.f (k : Nat) (a0 : List Int) (a1 : Int) (a2 : Int) (a3 : Int) : Option (Int) := (ref14_Group.f k a0 a1 a2).bind fun t1 => if (t1.length : Int) = 0 then (some (-1)) else (ref14_At.f k a0 a1).bind fun t2 => if 0 ≤ a2 ∧ a2 < (t2.length : Int) then if a2.toNat < t2.length then if (t1.length : Int) ≠ 0 then if 0 ≤ (IntKind.i64.wrap (((IntKind.i64.wrap ((t2.getD a2.toNat 0) + (a3.tmod (t1.length : Int)))).tmod (t1.length : Int)) + (t1.length : Int))).tmod (t1.length : Int) ∧ (IntKind.i64.wrap (((IntKind.i64.wrap ((t2.getD a2.toNat 0) + (a3.tmod (t1.length : Int)))).tmod (t1.length : Int)) + (t1.length : Int))).tmod (t1.length : Int) < (t1.length : Int) then if ((IntKind.i64.wrap (((IntKind.i64.wrap ((t2.getD a2.toNat 0) + (a3.tmod (t1.length : Int)))).tmod (t1.length : Int)) + (t1.length : Int))).tmod (t1.length : Int)).toNat < t1.length then some (t1.getD ((IntKind.i64.wrap (((IntKind.i64.wrap ((t2.getD a2.toNat 0) + (a3.tmod (t1.length : Int)))).tmod (t1.length : Int)) + (t1.length : Int))).tmod (t1.length : Int)).toNat 0) else none else none else none else none else none

def law14_same.f (k : Nat) (a0 : List Int) (a1 : List Int) (a2 : Int) (a3 : Int) (a4 : Int) : Option (Bool) := (mesh_Right.f k a0).bind fun t1 => (ref14_Right.f k a0).bind fun t2 => if (t1 == t2) = true then ((mesh_Devices.f k a0).bind fun t3 => (ref14_Devices.f k a0).bind fun t4 => if t3 = t4 then ((mesh_At.f k a0 a2).bind fun t5 => (ref14_At.f k a0 a2).bind fun t6 => (book_Same_int.f k t5 t6).bind fun t7 => if t7 = true then ((mesh_Of.f k a0 a1).bind fun t8 => (ref14_Of.f k a0 a1).bind fun t9 => if t8 = t9 then ((mesh_Group.f k a0 a2 a3).bind fun t10 => (ref14_Group.f k a0 a2 a3).bind fun t11 => (book_Same_int.f k t10 t11).bind fun t12 => if t12 = true then ((mesh_Step.f k a0 a2 a3 a4).bind fun t13 => (ref14_Step.f k a0 a2 a3 a4).bind fun t14 => some (decide (t13 = t14))) else some false) else some false) else some false) else some false) else some false

def law14_known.f (k : Nat) : Option (Bool) := (mesh_At.f k ([2, 4] : List Int) 5).bind fun t1 => (book_Same_int.f k t1 ([1, 1] : List Int)).bind fun t2 => if t2 = true then ((mesh_Devices.f k []).bind fun t3 => if t3 = 1 then ((mesh_Step.f k ([3] : List Int) 0 0 (-1)).bind fun t4 => if t4 = 2 then ((mesh_Of.f k ([2, 4] : List Int) ([1, 1] : List Int)).bind fun t5 => if t5 = 5 then ((mesh_Group.f k ([2, 2] : List Int) 1 0).bind fun t6 => (book_Same_int.f k t6 ([1, 3] : List Int)).bind fun t7 => if t7 = true then ((mesh_Right.f k ([9] : List Int)).bind fun t8 => some (!t8)) else some false) else some false) else some false) else some false) else some false

def law14_MeshNumbers.l3 (k : Nat) : Nat → (List Int) → Int → Int → Int → Int → Int → (List (List Int)) → Option (Unit ⊕ Bool)
  | 0, _, _, _, _, _, _, _ => none
  | n + 1, x2, x3, x4, x5, x15, x16, y0 => if x5 < 10 then ((ref14_At.f k x2 x3).bind fun t2 => (law14_same.f k x2 t2 x3 x4 x5).bind fun t3 => if t3 = true then (if 0 ≤ ((0 : Nat) : Int) ∧ ((0 : Nat) : Int) ≤ bits .and .i64 (x2.length : Int) 3 ∧ bits .and .i64 (x2.length : Int) 3 ≤ ([x3, x4, x5].length : Int) then (law14_same.f k x2 (([x3, x4, x5].take (bits .and .i64 (x2.length : Int) 3).toNat).drop 0) x3 x4 (IntKind.i64.wrap (4611686018427387904 + x5))).bind fun t4 => if t4 = true then (law14_MeshNumbers.l3 k n x2 x3 x4 (IntKind.i64.wrap (x5 + 1)) x15 x16 y0) else some (.inr false) else none) else some (.inr false)) else some (.inl ())
def law14_MeshNumbers.l2 (k : Nat) : Nat → (List Int) → Int → Int → Int → Int → (List (List Int)) → Option (Unit ⊕ Bool)
  | 0, _, _, _, _, _, _ => none
  | n + 1, x2, x3, x4, x15, x16, y0 => if x4 < 4 then ((law14_MeshNumbers.l3 k n x2 x3 x4 (-9) x15 x16 y0).bind fun t5 => Sum.elim (fun t5 => law14_MeshNumbers.l2 k n x2 x3 (IntKind.i64.wrap (x4 + 1)) x15 x16 y0) (fun t5 => some (.inr t5)) t5) else some (.inl ())
def law14_MeshNumbers.l1 (k : Nat) : Nat → (List Int) → Int → Int → Int → (List (List Int)) → Option (Unit ⊕ Bool)
  | 0, _, _, _, _, _ => none
  | n + 1, x2, x3, x15, x16, y0 => if x3 < 9 then ((law14_MeshNumbers.l2 k n x2 x3 (-1) x15 x16 y0).bind fun t6 => Sum.elim (fun t6 => law14_MeshNumbers.l1 k n x2 (IntKind.i64.wrap (x3 + 1)) x15 x16 y0) (fun t6 => some (.inr t6)) t6) else some (.inl ())
def law14_MeshNumbers.l0 (k : Nat) : Nat → Int → Int → (List (List Int)) → Option (Unit ⊕ Bool)
  | 0, _, _, _ => none
  | n + 1, x15, x16, y0 => if x16 < x15 then (if 0 ≤ x16 ∧ x16 < (y0.length : Int) then if x16.toNat < y0.length then (law14_MeshNumbers.l1 k n (y0.getD x16.toNat []) (-1) x15 x16 y0).bind fun t7 => Sum.elim (fun t7 => law14_MeshNumbers.l0 k n x15 (IntKind.i64.wrap (x16 + 1)) y0) (fun t7 => some (.inr t7)) t7 else none else none) else some (.inl ())
def law14_MeshNumbers.f (k : Nat) : Option (Bool) := (law14_meshes.f).bind fun t1 => if t1.length + [([0] : List Int), ([9] : List Int), ([3, 3] : List Int), ([-1, -8] : List Int), ([1, 1, 1, 1] : List Int), ([2, 2, 3] : List Int)].length ≤ 281474976710656 ∧ (t1.length + [([0] : List Int), ([9] : List Int), ([3, 3] : List Int), ([-1, -8] : List Int), ([1, 1, 1, 1] : List Int), ([2, 2, 3] : List Int)].length) * 24 ≤ 140737488355328 then (law14_MeshNumbers.l0 k k ((t1 ++ [([0] : List Int), ([9] : List Int), ([3, 3] : List Int), ([-1, -8] : List Int), ([1, 1, 1, 1] : List Int), ([2, 2, 3] : List Int)]).length : Int) 0 (t1 ++ [([0] : List Int), ([9] : List Int), ([3, 3] : List Int), ([-1, -8] : List Int), ([1, 1, 1, 1] : List Int), ([2, 2, 3] : List Int)])).bind fun t8 => Sum.elim (fun t8 => (law14_same.f k ([5] : List Int) [] 2 0 (-9223372036854775808)).bind fun t9 => if t9 = true then ((law14_known.f k).bind fun t10 => some t10) else some false) (fun t8 => some t8) t8 else none

def book_Within.f (a0 : Int) (a1 : Int) (a2 : Int) : Option (Int) := if a1 ≤ a0 then (if a0 ≤ a2 then (some a0) else if IntKind.i64.wrap ((IntKind.i64.wrap (a2 - a1)) + 1) ≠ 0 then if a0.tmod (IntKind.i64.wrap ((IntKind.i64.wrap (a2 - a1)) + 1)) < 0 then (some (IntKind.i64.wrap (a1 + (IntKind.i64.wrap ((IntKind.i64.wrap ((IntKind.i64.wrap ((a0.tmod (IntKind.i64.wrap ((IntKind.i64.wrap (a2 - a1)) + 1))) + a2)) - a1)) + 1))))) else some (IntKind.i64.wrap (a1 + (a0.tmod (IntKind.i64.wrap ((IntKind.i64.wrap (a2 - a1)) + 1))))) else none) else if IntKind.i64.wrap ((IntKind.i64.wrap (a2 - a1)) + 1) ≠ 0 then if a0.tmod (IntKind.i64.wrap ((IntKind.i64.wrap (a2 - a1)) + 1)) < 0 then (some (IntKind.i64.wrap (a1 + (IntKind.i64.wrap ((IntKind.i64.wrap ((IntKind.i64.wrap ((a0.tmod (IntKind.i64.wrap ((IntKind.i64.wrap (a2 - a1)) + 1))) + a2)) - a1)) + 1))))) else some (IntKind.i64.wrap (a1 + (a0.tmod (IntKind.i64.wrap ((IntKind.i64.wrap (a2 - a1)) + 1))))) else none

def law14_MeshTells.f (k : Nat) (a0 : Int) (a1 : List Int) (a2 : List Int) (a3 : Int) (a4 : Int) (a5 : Int) : Option (Bool) := (law14_meshes.f).bind fun t1 => (book_Within.f a0 0 (IntKind.i64.wrap ((t1.length : Int) - 1))).bind fun t2 => if 0 ≤ t2 ∧ t2 < (t1.length : Int) then if t2.toNat < t1.length then (law14_same.f k (t1.getD t2.toNat []) a2 (bits .and .i64 a3 7) (bits .and .i64 a4 3) a5).bind fun t3 => if t3 = true then ((law14_same.f k (t1.getD t2.toNat []) a2 a3 a4 a5).bind fun t4 => if t4 = true then ((law14_same.f k a1 a2 a3 a4 a5).bind fun t5 => if t5 = true then ((law14_known.f k).bind fun t6 => some t6) else some false) else some false) else some false else none else none

def law14_MeshSteps.l0 (k : Nat) : Nat → (List Int) → Int → Int → Int → Int → Int → Int → Int → (List Int) → Option (Int ⊕ Bool)
  | 0, _, _, _, _, _, _, _, _, _ => none
  | n + 1, x10, x12, x13, x14, x15, x17, x73, x74, y0 => if x74 < x73 then (if 0 ≤ x74 ∧ x74 < (y0.length : Int) then if x74.toNat < y0.length then if y0.getD x74.toNat 0 = x12 then ((mesh_Group.f k x10 (y0.getD x74.toNat 0) x13).bind fun t13 => (book_Same_int.f k t13 y0).bind fun t14 => if t14 = true then (law14_MeshSteps.l0 k n x10 x12 x13 x14 x15 (IntKind.i64.wrap (x17 + 1)) x73 (IntKind.i64.wrap (x74 + 1)) y0) else some (.inr false)) else (mesh_Group.f k x10 (y0.getD x74.toNat 0) x13).bind fun t15 => (book_Same_int.f k t15 y0).bind fun t16 => if t16 = true then (law14_MeshSteps.l0 k n x10 x12 x13 x14 x15 x17 x73 (IntKind.i64.wrap (x74 + 1)) y0) else some (.inr false) else none else none) else some (.inl x17)
def law14_MeshSteps.f (k : Nat) (a0 : Int) (a1 : Int) (a2 : Int) (a3 : Int) : Option (Bool) := (law14_meshes.f).bind fun t1 => (book_Within.f a0 0 (IntKind.i64.wrap ((t1.length : Int) - 1))).bind fun t2 => if 0 ≤ t2 ∧ t2 < (t1.length : Int) then if t2.toNat < t1.length then (mesh_Devices.f k (t1.getD t2.toNat [])).bind fun t3 => if t3 < 1 then (some false) else (book_Within.f a1 0 (IntKind.i64.wrap (t3 - 1))).bind fun t4 => (mesh_At.f k (t1.getD t2.toNat []) t4).bind fun t5 => (mesh_Of.f k (t1.getD t2.toNat []) t5).bind fun t6 => if t6 = t4 then (if ((t1.getD t2.toNat []).length : Int) = 0 then ((mesh_Group.f k (t1.getD t2.toNat []) t4 a2).bind fun t7 => if (t7.length : Int) = 0 then ((law14_known.f k).bind fun t8 => some t8) else some false) else (book_Within.f a2 0 (IntKind.i64.wrap (((t1.getD t2.toNat []).length : Int) - 1))).bind fun t9 => (book_Within.f a3 (-99) 99).bind fun t10 => (mesh_Step.f k (t1.getD t2.toNat []) t4 t9 t10).bind fun t11 => (mesh_Group.f k (t1.getD t2.toNat []) t4 t9).bind fun t12 => (law14_MeshSteps.l0 k k (t1.getD t2.toNat []) t4 t9 t10 t11 0 (t12.length : Int) 0 t12).bind fun t17 => Sum.elim (fun t17 => (mesh_Step.f k (t1.getD t2.toNat []) t11 t9 (IntKind.i64.wrap (0 - t10))).bind fun t18 => if t18 = t4 then (if 0 ≤ t9 ∧ t9 < ((t1.getD t2.toNat []).length : Int) then (mesh_Step.f k (t1.getD t2.toNat []) t4 t9 (IntKind.i64.wrap (t10 + ((t1.getD t2.toNat []).getD t9.toNat 0)))).bind fun t19 => if t19 = t11 then (if t17 = 1 then (if (t12.length : Int) = (t1.getD t2.toNat []).getD t9.toNat 0 then ((law14_known.f k).bind fun t20 => some t20) else some false) else some false) else some false else none) else some false) (fun t17 => some t17) t17) else some false else none else none

def law14_MeshPlaces.l1 (k : Nat) : Nat → (List Int) → Int → Int → Int → Option (Unit ⊕ Bool)
  | 0, _, _, _, _ => none
  | n + 1, x4, x5, x6, x7 => if x7 < x6 then ((mesh_At.f k x4 x6).bind fun t4 => (mesh_At.f k x4 x7).bind fun t5 => (book_Same_int.f k t4 t5).bind fun t6 => if t6 = true then (some (.inr false)) else law14_MeshPlaces.l1 k n x4 x5 x6 (IntKind.i64.wrap (x7 + 1))) else some (.inl ())
def law14_MeshPlaces.l0 (k : Nat) : Nat → (List Int) → Int → Int → Option (Unit ⊕ Bool)
  | 0, _, _, _ => none
  | n + 1, x4, x5, x6 => if x6 < x5 then ((law14_MeshPlaces.l1 k n x4 x5 x6 0).bind fun t7 => Sum.elim (fun t7 => if (x4.length : Int) < 3 then (if ([1] : List Int).length + x4.length ≤ 281474976710656 ∧ (([1] : List Int).length + x4.length) * 8 ≤ 140737488355328 then (mesh_At.f k (([1] : List Int) ++ x4) x6).bind fun t8 => (mesh_At.f k x4 x6).bind fun t9 => if ([0] : List Int).length + t9.length ≤ 281474976710656 ∧ (([0] : List Int).length + t9.length) * 8 ≤ 140737488355328 then (book_Same_int.f k t8 (([0] : List Int) ++ t9)).bind fun t10 => if t10 = true then (law14_MeshPlaces.l0 k n x4 x5 (IntKind.i64.wrap (x6 + 1))) else some (.inr false) else none else none) else law14_MeshPlaces.l0 k n x4 x5 (IntKind.i64.wrap (x6 + 1))) (fun t7 => some (.inr t7)) t7) else some (.inl ())
def law14_MeshPlaces.f (k : Nat) (a0 : Int) : Option (Bool) := (law14_meshes.f).bind fun t1 => (book_Within.f a0 0 (IntKind.i64.wrap ((t1.length : Int) - 1))).bind fun t2 => if 0 ≤ t2 ∧ t2 < (t1.length : Int) then if t2.toNat < t1.length then (mesh_Devices.f k (t1.getD t2.toNat [])).bind fun t3 => (law14_MeshPlaces.l0 k k (t1.getD t2.toNat []) t3 0).bind fun t11 => Sum.elim (fun t11 => if 0 < t3 then ((mesh_At.f k (t1.getD t2.toNat []) t3).bind fun t12 => if (t12.length : Int) = 0 then (if ((t1.getD t2.toNat []).length : Int) = 3 then ((law14_known.f k).bind fun t13 => some t13) else if ([1] : List Int).length + (t1.getD t2.toNat []).length ≤ 281474976710656 ∧ (([1] : List Int).length + (t1.getD t2.toNat []).length) * 8 ≤ 140737488355328 then (mesh_Devices.f k (([1] : List Int) ++ (t1.getD t2.toNat []))).bind fun t14 => if t14 = t3 then ((law14_known.f k).bind fun t15 => some t15) else some false else none) else some false) else some false) (fun t11 => some t11) t11 else none else none

end Go.Pf

/- What functions of the program tell, as plain functions (printed by prt.py). -/
namespace Go.Pf
open Go

def tile_Width.f (a0 : Int) (a1 : Int) : Option (Int) := if a0 < 0 then (some 0) else if a1 < 1 then (some 0) else if a0 = 0 then (some 0) else if a1 ≠ 0 then some (IntKind.i64.wrap ((IntKind.i64.wrap ((IntKind.i64.wrap (a0 - 1)).tdiv a1)) + 1)) else none

def tile_times.f (a0 : Int) (a1 : Int) (a2 : Int) : Option (Int) := if 0 < a0 then (if a0 ≠ 0 then if IntKind.i64.wrap (a2.tdiv a0) < a1 then (some a2) else some (if a2 < IntKind.i64.wrap (a0 * a1) then a2 else IntKind.i64.wrap (a0 * a1)) else none) else some (if a2 < IntKind.i64.wrap (a0 * a1) then a2 else IntKind.i64.wrap (a0 * a1))

def tile_Cut.f (a0 : Int) (a1 : Int) (a2 : Int) : Option (Int × Int) := (tile_Width.f a0 a1).bind fun t1 => if t1 = 0 then (some (0, 0)) else if a2 < 0 then (some (0, 0)) else if a1 ≤ a2 then (some (0, 0)) else (tile_times.f t1 a2 a0).bind fun t2 => (tile_times.f t1 (IntKind.i64.wrap (a2 + 1)) a0).bind fun t3 => some (t2, t3)

def shape_Right.l0 : Nat → Int → (List Int) → Int → Int → Option (Int ⊕ Bool)
  | 0, _, _, _, _ => none
  | n + 1, x3, x9, x10, x11 => if x11 < x10 then (if 0 ≤ x11 ∧ x11 < (x9.length : Int) then if x9.getD x11.toNat 0 < 0 then (some (.inr false)) else if 32 < x9.getD x11.toNat 0 then (some (.inr false)) else shape_Right.l0 n (IntKind.i64.wrap (x3 * (x9.getD x11.toNat 0))) x9 x10 (IntKind.i64.wrap (x11 + 1)) else none) else some (.inl x3)
def shape_Right.f (k : Nat) (a0 : List Int) : Option (Bool) := if 4 < (a0.length : Int) then (some false) else (shape_Right.l0 k 1 a0 (a0.length : Int) 0).bind fun t1 => Sum.elim (fun t1 => some (decide (t1 ≤ 4096))) (fun t1 => some t1) t1

def slices_Index_int.l0 : Nat → (List Int) → Int → Int → Int → Option (Unit ⊕ Int)
  | 0, _, _, _, _ => none
  | n + 1, x0, x1, x7, x8 => if x8 < x7 then (if 0 ≤ x8 ∧ x8 < (x0.length : Int) then if x1 = x0.getD x8.toNat 0 then (some (.inr x8)) else slices_Index_int.l0 n x0 x1 x7 (IntKind.i64.wrap (x8 + 1)) else none) else some (.inl ())
def slices_Index_int.f (k : Nat) (a0 : List Int) (a1 : Int) : Option (Int) := (slices_Index_int.l0 k a0 a1 (a0.length : Int) 0).bind fun t1 => Sum.elim (fun t1 => some (-1)) (fun t1 => some t1) t1

def slices_Contains_int.f (k : Nat) (a0 : List Int) (a1 : Int) : Option (Bool) := (slices_Index_int.f k a0 a1).bind fun t1 => some (decide (0 ≤ t1))

def spec_Right.l0 (k : Nat) : Nat → (List Int) → (List Int) → (List Int) → Int → Int → Option (Unit ⊕ Bool)
  | 0, _, _, _, _, _ => none
  | n + 1, x0, x1, x18, x19, x20 => if x20 < x19 then (if 0 ≤ x20 ∧ x20 < (x18.length : Int) then if x18.getD x20.toNat 0 < -1 then (some (.inr false)) else if (x0.length : Int) ≤ x18.getD x20.toNat 0 then (some (.inr false)) else if x18.getD x20.toNat 0 = -1 then (spec_Right.l0 k n x0 x1 x18 x19 (IntKind.i64.wrap (x20 + 1))) else if 0 ≤ ((0 : Nat) : Int) ∧ ((0 : Nat) : Int) ≤ x20 ∧ x20 ≤ (x1.length : Int) then (slices_Contains_int.f k ((x1.take x20.toNat).drop 0) (x18.getD x20.toNat 0)).bind fun t2 => if t2 = true then (some (.inr false)) else spec_Right.l0 k n x0 x1 x18 x19 (IntKind.i64.wrap (x20 + 1)) else none else none) else some (.inl ())
def spec_Right.f (k : Nat) (a0 : List Int) (a1 : List Int) (a2 : Int) : Option (Bool) := (mesh_Right.f k a0).bind fun t1 => if t1 = true then (if (a1.length : Int) = a2 then ((spec_Right.l0 k k a0 a1 a1 (a1.length : Int) 0).bind fun t3 => Sum.elim (fun t3 => some true) (fun t3 => some t3) t3) else some false) else some false

def tile_cuts.l0 : Nat → (List Int) → (List Int) → (List Int) → Int → Int → (List Int) → (List (Int × Int)) → Option ((List (Int × Int)))
  | 0, _, _, _, _, _, _, _ => none
  | n + 1, x0, x1, x39, x40, x41, y0, y1 => if x41 < x40 then (if 0 ≤ x41 ∧ x41 < (x39.length : Int) then if 0 ≤ x41 ∧ x41 < (x0.length : Int) then if 0 ≤ x39.getD x41.toNat 0 then (if 0 ≤ x39.getD x41.toNat 0 ∧ x39.getD x41.toNat 0 < (x1.length : Int) then if 0 ≤ x39.getD x41.toNat 0 ∧ x39.getD x41.toNat 0 < (y0.length : Int) then if (x39.getD x41.toNat 0).toNat < y0.length then (tile_Cut.f (x0.getD x41.toNat 0) (x1.getD (x39.getD x41.toNat 0).toNat 0) (y0.getD (x39.getD x41.toNat 0).toNat 0)).bind fun t5 => if y1.length + [(t5.1, t5.2)].length ≤ 281474976710656 ∧ (y1.length + [(t5.1, t5.2)].length) * 16 ≤ 140737488355328 then tile_cuts.l0 n x0 x1 x39 x40 (IntKind.i64.wrap (x41 + 1)) y0 (y1 ++ [(t5.1, t5.2)]) else none else none else none else none) else if y1.length + [(0, x0.getD x41.toNat 0)].length ≤ 281474976710656 ∧ (y1.length + [(0, x0.getD x41.toNat 0)].length) * 16 ≤ 140737488355328 then tile_cuts.l0 n x0 x1 x39 x40 (IntKind.i64.wrap (x41 + 1)) y0 (y1 ++ [(0, x0.getD x41.toNat 0)]) else none else none else none) else some y1
def tile_cuts.f (k : Nat) (a0 : List Int) (a1 : List Int) (a2 : List Int) (a3 : Int) : Option (Bool × (List (Int × Int))) := (shape_Right.f k a0).bind fun t1 => if t1 = true then ((spec_Right.f k a1 a2 (a0.length : Int)).bind fun t2 => if t2 = true then (if a3 < 0 then (some (false, [])) else (mesh_Devices.f k a1).bind fun t3 => if t3 ≤ a3 then (some (false, [])) else (mesh_At.f k a1 a3).bind fun t4 => (tile_cuts.l0 k a0 a1 a2 (a2.length : Int) 0 t4 []).bind fun t6 => some (true, t6)) else some (false, [])) else some (false, [])

def tile_Size.l0 : Nat → Int → Int → (List Int) → (List (Int × Int)) → Option ((List Int))
  | 0, _, _, _, _ => none
  | n + 1, x23, x24, y0, y1 => if x24 < x23 then (if 0 ≤ x24 ∧ x24 < (y1.length : Int) then if x24.toNat < y1.length then if y0.length + [IntKind.i64.wrap ((y1.getD x24.toNat (0, 0)).2 - (y1.getD x24.toNat (0, 0)).1)].length ≤ 281474976710656 ∧ (y0.length + [IntKind.i64.wrap ((y1.getD x24.toNat (0, 0)).2 - (y1.getD x24.toNat (0, 0)).1)].length) * 8 ≤ 140737488355328 then tile_Size.l0 n x23 (IntKind.i64.wrap (x24 + 1)) (y0 ++ [IntKind.i64.wrap ((y1.getD x24.toNat (0, 0)).2 - (y1.getD x24.toNat (0, 0)).1)]) y1 else none else none else none) else some y0
def tile_Size.f (k : Nat) (a0 : List Int) (a1 : List Int) (a2 : List Int) (a3 : Int) : Option ((List Int)) := (tile_cuts.f k a0 a1 a2 a3).bind fun t1 => (tile_Size.l0 k (t1.2.length : Int) 0 [] t1.2).bind fun t2 => some t2

def tile_From.l0 : Nat → Int → Int → (List Int) → (List (Int × Int)) → Option ((List Int))
  | 0, _, _, _, _ => none
  | n + 1, x23, x24, y0, y1 => if x24 < x23 then (if 0 ≤ x24 ∧ x24 < (y1.length : Int) then if x24.toNat < y1.length then if y0.length + [(y1.getD x24.toNat (0, 0)).1].length ≤ 281474976710656 ∧ (y0.length + [(y1.getD x24.toNat (0, 0)).1].length) * 8 ≤ 140737488355328 then tile_From.l0 n x23 (IntKind.i64.wrap (x24 + 1)) (y0 ++ [(y1.getD x24.toNat (0, 0)).1]) y1 else none else none else none) else some y0
def tile_From.f (k : Nat) (a0 : List Int) (a1 : List Int) (a2 : List Int) (a3 : Int) : Option ((List Int)) := (tile_cuts.f k a0 a1 a2 a3).bind fun t1 => (tile_From.l0 k (t1.2.length : Int) 0 [] t1.2).bind fun t2 => some t2

def tile_Most.f (k : Nat) (a0 : List Int) (a1 : List Int) (a2 : List Int) : Option ((List Int)) := (tile_Size.f k a0 a1 a2 0).bind fun t1 => some t1

def law16_known.f (k : Nat) : Option (Bool) := (tile_Cut.f 5 2 1).bind fun t1 => (tile_Cut.f 2 4 3).bind fun t2 => if t1.1 = 3 then (if t1.2 = 5 then (if t2.1 = 2 then (if t2.2 = 2 then ((tile_Width.f 5 2).bind fun t3 => if t3 = 3 then ((tile_Size.f k ([5] : List Int) ([2] : List Int) ([0] : List Int) 1).bind fun t4 => (book_Same_int.f k t4 ([2] : List Int)).bind fun t5 => if t5 = true then ((tile_From.f k ([5] : List Int) ([2] : List Int) ([0] : List Int) 1).bind fun t6 => (book_Same_int.f k t6 ([3] : List Int)).bind fun t7 => if t7 = true then ((tile_Most.f k ([5] : List Int) ([2] : List Int) ([0] : List Int)).bind fun t8 => (book_Same_int.f k t8 ([3] : List Int)).bind fun t9 => some t9) else some false) else some false) else some false) else some false) else some false) else some false) else some false

def law16_TileCovers.l0 : Nat → Int → Int → Int → Int → Option (Int ⊕ Bool)
  | 0, _, _, _, _ => none
  | n + 1, x5, x6, x7, x8 => if x8 < x6 then ((tile_Cut.f x5 x6 x8).bind fun t3 => if t3.1 = x7 then (if t3.2 < t3.1 then (some (.inr false)) else (tile_Width.f x5 x6).bind fun t4 => if t4 < IntKind.i64.wrap (t3.2 - t3.1) then (some (.inr false)) else if x8 = 0 then ((tile_Width.f x5 x6).bind fun t5 => if IntKind.i64.wrap (t3.2 - t3.1) = t5 then (law16_TileCovers.l0 n x5 x6 t3.2 (IntKind.i64.wrap (x8 + 1))) else some (.inr false)) else law16_TileCovers.l0 n x5 x6 t3.2 (IntKind.i64.wrap (x8 + 1))) else some (.inr false)) else some (.inl x7)
def law16_TileCovers.f (k : Nat) (a0 : Int) (a1 : Int) : Option (Bool) := (book_Within.f a0 0 200).bind fun t1 => (book_Within.f a1 1 40).bind fun t2 => (law16_TileCovers.l0 k t1 t2 0 0).bind fun t6 => Sum.elim (fun t6 => if t6 = t1 then ((law16_known.f k).bind fun t7 => some t7) else some false) (fun t6 => some t6) t6

def keep_Tape_Next.f (a1 : Int) (o0_0 : List Int) (o0_1 : Int) : Option (Int × Int) := if (o0_0.length : Int) ≤ o0_1 then (some (0, o0_1)) else if a1 < 1 then (some (0, o0_1)) else if 0 ≤ IntKind.i64.wrap ((IntKind.i64.wrap (o0_1 + 1)) - 1) ∧ IntKind.i64.wrap ((IntKind.i64.wrap (o0_1 + 1)) - 1) < (o0_0.length : Int) then (book_Within.f (o0_0.getD (IntKind.i64.wrap ((IntKind.i64.wrap (o0_1 + 1)) - 1)).toNat 0) 0 1073741824).bind fun t1 => if a1 ≠ 0 then some (t1.tmod a1, IntKind.i64.wrap (o0_1 + 1)) else none else none

def keep_Tape_Shape.l0 : Nat → Int → (List Int) → Int → (List Int) → Option (Int × (List Int))
  | 0, _, _, _, _ => none
  | n + 1, x4, y0_0, y0_1, y1 => if 0 < x4 then ((keep_Tape_Next.f 8 y0_0 y0_1).bind fun t2 => if 0 ≤ t2.1 ∧ t2.1 < (([1, 2, 3, 4, 5, 0, 7, 2] : List Int).length : Int) then if t2.1.toNat < ([1, 2, 3, 4, 5, 0, 7, 2] : List Int).length then if y1.length + [([1, 2, 3, 4, 5, 0, 7, 2] : List Int).getD t2.1.toNat 0].length ≤ 281474976710656 ∧ (y1.length + [([1, 2, 3, 4, 5, 0, 7, 2] : List Int).getD t2.1.toNat 0].length) * 8 ≤ 140737488355328 then keep_Tape_Shape.l0 n (IntKind.i64.wrap (x4 - 1)) y0_0 t2.2 (y1 ++ [([1, 2, 3, 4, 5, 0, 7, 2] : List Int).getD t2.1.toNat 0]) else none else none else none) else some (y0_1, y1)
def keep_Tape_Shape.f (k : Nat) (o0_0 : List Int) (o0_1 : Int) : Option (Int × (List Int)) := (keep_Tape_Next.f 4 o0_0 o0_1).bind fun t1 => (keep_Tape_Shape.l0 k t1.1 o0_0 t1.2 []).bind fun t3 => some (t3.1, t3.2)

def keep_Tape_Spec.l0 : Nat → (List Int) → Int → Int → (List Int) → Int → (List Int) → (List Bool) → Option (Int × (List Int))
  | 0, _, _, _, _, _, _, _ => none
  | n + 1, x1, x17, x18, y0_0, y0_1, y1, y2 => if x18 < x17 then (if 0 ≤ x18 ∧ x18 < (y1.length : Int) then if x18.toNat < y1.length then if 0 < (x1.length : Int) then ((keep_Tape_Next.f 2 y0_0 y0_1).bind fun t1 => if t1.1 = 0 then ((keep_Tape_Next.f (x1.length : Int) y0_0 t1.2).bind fun t2 => if 0 ≤ t2.1 ∧ t2.1 < (y2.length : Int) then if t2.1.toNat < y2.length then if (y2.getD t2.1.toNat false) = true then (keep_Tape_Spec.l0 n x1 x17 (IntKind.i64.wrap (x18 + 1)) y0_0 t2.2 (y1.set x18.toNat (-1)) y2) else if 0 ≤ x18 ∧ x18 < ((y1.set x18.toNat (-1)).length : Int) then if x18.toNat < (y1.set x18.toNat (-1)).length then keep_Tape_Spec.l0 n x1 x17 (IntKind.i64.wrap (x18 + 1)) y0_0 t2.2 ((y1.set x18.toNat (-1)).set x18.toNat t2.1) (y2.set t2.1.toNat true) else none else none else none else none) else keep_Tape_Spec.l0 n x1 x17 (IntKind.i64.wrap (x18 + 1)) y0_0 t1.2 (y1.set x18.toNat (-1)) y2) else keep_Tape_Spec.l0 n x1 x17 (IntKind.i64.wrap (x18 + 1)) y0_0 y0_1 (y1.set x18.toNat (-1)) y2 else none else none) else some (y0_1, y1)
def keep_Tape_Spec.f (k : Nat) (a1 : List Int) (a2 : Int) (o0_0 : List Int) (o0_1 : Int) : Option (Int × (List Int)) := if 0 ≤ a2 ∧ a2 ≤ 281474976710656 ∧ ((8 : Nat) : Int) * a2 ≤ 140737488355328 then if 0 ≤ (a1.length : Int) ∧ (a1.length : Int) ≤ 281474976710656 ∧ ((1 : Nat) : Int) * (a1.length : Int) ≤ 140737488355328 then (keep_Tape_Spec.l0 k a1 ((List.replicate a2.toNat (0 : Int)).length : Int) 0 o0_0 o0_1 (List.replicate a2.toNat (0 : Int)) (List.replicate (a1.length : Int).toNat (false : Bool))).bind fun t3 => some (t3.1, t3.2) else none else none

def ref14_Spec.l1 : Nat → (List Int) → (List Int) → Int → Int → Int → Int → Option (Unit ⊕ Bool)
  | 0, _, _, _, _, _, _ => none
  | n + 1, x0, x1, x7, x8, x19, x20 => if x8 < x7 then (if 0 ≤ x8 ∧ x8 < (x1.length : Int) then if 0 ≤ x7 ∧ x7 < (x1.length : Int) then if x1.getD x8.toNat 0 = x1.getD x7.toNat 0 then (if 0 ≤ x1.getD x7.toNat 0 then (some (.inr false)) else ref14_Spec.l1 n x0 x1 x7 (IntKind.i64.wrap (x8 + 1)) x19 x20) else ref14_Spec.l1 n x0 x1 x7 (IntKind.i64.wrap (x8 + 1)) x19 x20 else none else none) else some (.inl ())
def ref14_Spec.l0 (k : Nat) : Nat → (List Int) → (List Int) → Int → Int → Option (Unit ⊕ Bool)
  | 0, _, _, _, _ => none
  | n + 1, x0, x1, x19, x20 => if x20 < x19 then (if 0 ≤ x20 ∧ x20 < (x1.length : Int) then if x1.getD x20.toNat 0 < -1 then (some (.inr false)) else if (x0.length : Int) ≤ x1.getD x20.toNat 0 then (some (.inr false)) else (ref14_Spec.l1 n x0 x1 x20 0 x19 x20).bind fun t2 => Sum.elim (fun t2 => ref14_Spec.l0 k n x0 x1 x19 (IntKind.i64.wrap (x20 + 1))) (fun t2 => some (.inr t2)) t2 else none) else some (.inl ())
def ref14_Spec.f (k : Nat) (a0 : List Int) (a1 : List Int) (a2 : Int) : Option (Bool) := (ref14_Right.f k a0).bind fun t1 => if t1 = true then (if (a1.length : Int) = a2 then ((ref14_Spec.l0 k k a0 a1 (a1.length : Int) 0).bind fun t3 => Sum.elim (fun t3 => some true) (fun t3 => some t3) t3) else some false) else some false

def ref14_Parts.l0 : Nat → (List Int) → (List Int) → Int → Int → (List Int) → Option ((List Int))
  | 0, _, _, _, _, _ => none
  | n + 1, x0, x1, x20, x21, y0 => if x21 < x20 then (if 0 ≤ x21 ∧ x21 < (x1.length : Int) then if 0 ≤ x1.getD x21.toNat 0 then (if 0 ≤ x1.getD x21.toNat 0 ∧ x1.getD x21.toNat 0 < (x0.length : Int) then if y0.length + [x0.getD (x1.getD x21.toNat 0).toNat 0].length ≤ 281474976710656 ∧ (y0.length + [x0.getD (x1.getD x21.toNat 0).toNat 0].length) * 8 ≤ 140737488355328 then ref14_Parts.l0 n x0 x1 x20 (IntKind.i64.wrap (x21 + 1)) (y0 ++ [x0.getD (x1.getD x21.toNat 0).toNat 0]) else none else none) else if y0.length + ([1] : List Int).length ≤ 281474976710656 ∧ (y0.length + ([1] : List Int).length) * 8 ≤ 140737488355328 then ref14_Parts.l0 n x0 x1 x20 (IntKind.i64.wrap (x21 + 1)) (y0 ++ ([1] : List Int)) else none else none) else some y0
def ref14_Parts.f (k : Nat) (a0 : List Int) (a1 : List Int) : Option ((List Int)) := (ref14_Right.f k a0).bind fun t1 => if t1 = true then ((ref14_Spec.f k a0 a1 (a1.length : Int)).bind fun t2 => if t2 = true then ((ref14_Parts.l0 k a0 a1 (a1.length : Int) 0 []).bind fun t3 => some t3) else some []) else some []

def ref14_Copies.l0 : Nat → Int → Int → Int → (List Int) → Option (Int)
  | 0, _, _, _, _ => none
  | n + 1, x5, x24, x25, y0 => if x25 < x24 then (if 0 ≤ x25 ∧ x25 < (y0.length : Int) then if x25.toNat < y0.length then if y0.getD x25.toNat 0 ≠ 0 then ref14_Copies.l0 n (IntKind.i64.wrap (x5.tdiv (y0.getD x25.toNat 0))) x24 (IntKind.i64.wrap (x25 + 1)) y0 else none else none else none) else some x5
def ref14_Copies.f (k : Nat) (a0 : List Int) (a1 : List Int) : Option (Int) := (ref14_Right.f k a0).bind fun t1 => if t1 = true then ((ref14_Spec.f k a0 a1 (a1.length : Int)).bind fun t2 => if t2 = true then ((ref14_Devices.f k a0).bind fun t3 => (ref14_Parts.f k a0 a1).bind fun t4 => (ref14_Copies.l0 k t3 (t4.length : Int) 0 t4).bind fun t5 => some t5) else some 0) else some 0

def law16_TileShares.l0 : Nat → (List Int) → Int → Int → Int → Int → (List Int) → (List Int) → Option (Int)
  | 0, _, _, _, _, _, _, _ => none
  | n + 1, x4, x7, x8, x38, x39, y0, y1 => if x39 < x38 then (if 0 ≤ x39 ∧ x39 < (y0.length : Int) then if x39.toNat < y0.length then law16_TileShares.l0 n x4 x7 (IntKind.i64.wrap (x8 * (y0.getD x39.toNat 0))) x38 (IntKind.i64.wrap (x39 + 1)) y0 y1 else none else none) else some x8
def law16_TileShares.l2 : Nat → (List Int) → Int → Int → Int → Int → Int → Int → (List Int) → (List Int) → (List Int) → (List Int) → Option (Int ⊕ Bool)
  | 0, _, _, _, _, _, _, _, _, _, _, _ => none
  | n + 1, x4, x7, x8, x12, x14, x86, x87, y0, y1, y2, y3 => if x87 < x86 then (if 0 ≤ x87 ∧ x87 < (y3.length : Int) then if x87.toNat < y3.length then if 0 ≤ x87 ∧ x87 < (y2.length : Int) then if x87.toNat < y2.length then if y2.getD x87.toNat 0 < y3.getD x87.toNat 0 then (some (.inr false)) else law16_TileShares.l2 n x4 x7 x8 x12 (IntKind.i64.wrap (x14 * (y3.getD x87.toNat 0))) x86 (IntKind.i64.wrap (x87 + 1)) y0 y1 y2 y3 else none else none else none else none) else some (.inl x14)
def law16_TileShares.l1 (k : Nat) : Nat → (List Int) → Int → Int → Int → (List Int) → (List Int) → (List Int) → Option (Int ⊕ Bool)
  | 0, _, _, _, _, _, _, _ => none
  | n + 1, x4, x7, x8, x12, y0, y1, y2 => (ref14_Devices.f k x4).bind fun t6 => if x12 < t6 then ((tile_Size.f k y0 x4 y1 x12).bind fun t7 => if (t7.length : Int) = (y0.length : Int) then (if (y2.length : Int) = (y0.length : Int) then ((tile_From.f k y0 x4 y1 x12).bind fun t8 => if (t8.length : Int) = (y0.length : Int) then ((law16_TileShares.l2 n x4 x7 x8 x12 1 (t7.length : Int) 0 y0 y1 y2 t7).bind fun t9 => Sum.elim (fun t9 => law16_TileShares.l1 k n x4 (IntKind.i64.wrap (x7 + t9)) x8 (IntKind.i64.wrap (x12 + 1)) y0 y1 y2) (fun t9 => some (.inr t9)) t9) else some (.inr false)) else some (.inr false)) else some (.inr false)) else some (.inl x7)
def law16_TileShares.f (k : Nat) (a0 : List Int) : Option (Bool) := (keep_Tape_Next.f 6 a0 0).bind fun t1 => if 0 ≤ t1.1 ∧ t1.1 < ([([2] : List Int), ([2, 4] : List Int), ([3, 2] : List Int), ([2, 2, 2] : List Int), [], ([5] : List Int)].length : Int) then if t1.1.toNat < [([2] : List Int), ([2, 4] : List Int), ([3, 2] : List Int), ([2, 2, 2] : List Int), [], ([5] : List Int)].length then (keep_Tape_Shape.f k a0 t1.2).bind fun t2 => (keep_Tape_Spec.f k ([([2] : List Int), ([2, 4] : List Int), ([3, 2] : List Int), ([2, 2, 2] : List Int), [], ([5] : List Int)].getD t1.1.toNat []) (t2.2.length : Int) a0 t2.1).bind fun t3 => (law16_TileShares.l0 k ([([2] : List Int), ([2, 4] : List Int), ([3, 2] : List Int), ([2, 2, 2] : List Int), [], ([5] : List Int)].getD t1.1.toNat []) 0 1 (t2.2.length : Int) 0 t2.2 t3.2).bind fun t4 => (tile_Most.f k t2.2 ([([2] : List Int), ([2, 4] : List Int), ([3, 2] : List Int), ([2, 2, 2] : List Int), [], ([5] : List Int)].getD t1.1.toNat []) t3.2).bind fun t5 => (law16_TileShares.l1 k k ([([2] : List Int), ([2, 4] : List Int), ([3, 2] : List Int), ([2, 2, 2] : List Int), [], ([5] : List Int)].getD t1.1.toNat []) 0 t4 0 t2.2 t3.2 t5).bind fun t10 => Sum.elim (fun t10 => (ref14_Copies.f k ([([2] : List Int), ([2, 4] : List Int), ([3, 2] : List Int), ([2, 2, 2] : List Int), [], ([5] : List Int)].getD t1.1.toNat []) t3.2).bind fun t11 => if t10 = IntKind.i64.wrap (t4 * t11) then ((law16_known.f k).bind fun t12 => some t12) else some false) (fun t10 => some t10) t10 else none else none

end Go.Pf

/- What functions of the program tell, as plain functions (printed by prt.py). -/
namespace Go.Pf
open Go

def ref1_Right.l0 : Nat → (List Int) → Int → Int → Option (Int ⊕ Bool)
  | 0, _, _, _ => none
  | n + 1, x0, x3, x4 => if x4 < (x0.length : Int) then (if 0 ≤ x4 ∧ x4 < (x0.length : Int) then if x0.getD x4.toNat 0 < 0 then (some (.inr false)) else if 32 < x0.getD x4.toNat 0 then (some (.inr false)) else if 4 ≤ x4 then (some (.inr false)) else ref1_Right.l0 n x0 (IntKind.i64.wrap (x3 * (x0.getD x4.toNat 0))) (IntKind.i64.wrap (x4 + 1)) else none) else some (.inl x3)
def ref1_Right.f (k : Nat) (a0 : List Int) : Option (Bool) := (ref1_Right.l0 k a0 1 0).bind fun t1 => Sum.elim (fun t1 => some (decide (t1 ≤ 4096))) (fun t1 => some t1) t1

def ref1_Size.l0 : Nat → (List Int) → Int → Int → Option (Int)
  | 0, _, _, _ => none
  | n + 1, x0, x3, x4 => if x4 < (x0.length : Int) then (if 0 ≤ x4 ∧ x4 < (x0.length : Int) then ref1_Size.l0 n x0 (IntKind.i64.wrap (x3 * (x0.getD x4.toNat 0))) (IntKind.i64.wrap (x4 + 1)) else none) else some x3
def ref1_Size.f (k : Nat) (a0 : List Int) : Option (Int) := (ref1_Right.f k a0).bind fun t1 => if t1 = true then ((ref1_Size.l0 k a0 1 0).bind fun t2 => some t2) else some 0

def ref1_Fill.l0 (k : Nat) : Nat → (List Int) → Int → Int → (List Int) → (List Int) → Option ((List Int))
  | 0, _, _, _, _, _ => none
  | n + 1, x0, x1, x6, y2, y3 => (ref1_Size.f k x0).bind fun t1 => if x6 < t1 then (if y3.length + [x1].length ≤ 281474976710656 ∧ (y3.length + [x1].length) * 8 ≤ 140737488355328 then ref1_Fill.l0 k n x0 x1 (IntKind.i64.wrap (x6 + 1)) y2 (y3 ++ [x1]) else none) else some y3
def ref1_Fill.f (k : Nat) (a0 : List Int) (a1 : Int) : Option ((List Int) × (List Int)) := if 0 + a0.length ≤ 281474976710656 ∧ (0 + a0.length) * 8 ≤ 140737488355328 then (ref1_Fill.l0 k k a0 a1 0 ([] ++ a0) []).bind fun t2 => some ([] ++ a0, t2) else none

def keep_Tape_Number.f (o0_0 : List Int) (o0_1 : Int) : Option (Int × Int) := (keep_Tape_Next.f 9 o0_0 o0_1).bind fun t1 => if t1.1 = 0 then ((keep_Tape_Next.f 6 o0_0 t1.2).bind fun t2 => if 0 ≤ t2.1 ∧ t2.1 < (([9223372036854775807, -9223372036854775808, 4611686018427387904, -1099511627776, 8589934592, 3037000500] : List Int).length : Int) then if t2.1.toNat < ([9223372036854775807, -9223372036854775808, 4611686018427387904, -1099511627776, 8589934592, 3037000500] : List Int).length then some (([9223372036854775807, -9223372036854775808, 4611686018427387904, -1099511627776, 8589934592, 3037000500] : List Int).getD t2.1.toNat 0, t2.2) else none else none) else if t1.1 = 1 then (some (0, t1.2)) else (keep_Tape_Next.f 19 o0_0 t1.2).bind fun t3 => some (IntKind.i64.wrap (t3.1 - 9), t3.2)

def keep_Tape_Tensor.l0 : Nat → Int → Int → (List Int) → Int → (List Int) → (List Int) → Option (Int × (List Int))
  | 0, _, _, _, _, _, _ => none
  | n + 1, x11, x12, y0_0, y0_1, y3, y4 => if x12 < x11 then ((keep_Tape_Number.f y0_0 y0_1).bind fun t2 => if 0 ≤ x12 ∧ x12 < (y4.length : Int) then if x12.toNat < y4.length then keep_Tape_Tensor.l0 n x11 (IntKind.i64.wrap (x12 + 1)) y0_0 t2.2 y3 (y4.set x12.toNat t2.1) else none else none) else some (y0_1, y4)
def keep_Tape_Tensor.f (k : Nat) (a1 : List Int) (o0_0 : List Int) (o0_1 : Int) : Option (Int × (List Int) × (List Int)) := (ref1_Fill.f k a1 0).bind fun t1 => (keep_Tape_Tensor.l0 k (t1.2.length : Int) 0 o0_0 o0_1 t1.1 t1.2).bind fun t3 => some (t3.1, t1.1, t3.2)

def shape_Size.l0 : Nat → Int → (List Int) → Int → Int → Option (Int)
  | 0, _, _, _, _ => none
  | n + 1, x3, x9, x10, x11 => if x11 < x10 then (if 0 ≤ x11 ∧ x11 < (x9.length : Int) then shape_Size.l0 n (IntKind.i64.wrap (x3 * (x9.getD x11.toNat 0))) x9 x10 (IntKind.i64.wrap (x11 + 1)) else none) else some x3
def shape_Size.f (k : Nat) (a0 : List Int) : Option (Int) := (shape_Right.f k a0).bind fun t1 => if t1 = true then ((shape_Size.l0 k 1 a0 (a0.length : Int) 0).bind fun t2 => some t2) else some 0

def tensor_Right.f (k : Nat) (a0_0 : List Int) (a0_1 : List Int) : Option (Bool) := (shape_Right.f k a0_0).bind fun t1 => if t1 = true then ((shape_Size.f k a0_0).bind fun t2 => some (decide ((a0_1.length : Int) = t2))) else some false

def slices_Clone_int.f (a0 : List Int) : Option ((List Int)) := if 0 + a0.length ≤ 281474976710656 ∧ (0 + a0.length) * 8 ≤ 140737488355328 then some ([] ++ a0) else none

def axes_Joined.l1 : Nat → Int → (List Int) → (List (List Int)) → Int → Int → (List Int) → Int → Int → (List Int) → Option (Unit ⊕ Int)
  | 0, _, _, _, _, _, _, _, _, _ => none
  | n + 1, x0, x8, x33, x34, x35, x44, x45, x46, y0 => if x46 < x45 then (if 0 ≤ x46 ∧ x46 < (x44.length : Int) then if x46 = x0 then (axes_Joined.l1 n x0 x8 x33 x34 x35 x44 x45 (IntKind.i64.wrap (x46 + 1)) y0) else if 0 ≤ x46 ∧ x46 < (y0.length : Int) then if x46.toNat < y0.length then if x44.getD x46.toNat 0 = y0.getD x46.toNat 0 then (axes_Joined.l1 n x0 x8 x33 x34 x35 x44 x45 (IntKind.i64.wrap (x46 + 1)) y0) else some (.inr 13) else none else none else none) else some (.inl ())
def axes_Joined.l0 (k : Nat) : Nat → Int → (List (List Int)) → Int → Int → (List Int) → Option ((List Int) ⊕ Int)
  | 0, _, _, _, _, _ => none
  | n + 1, x0, x33, x34, x35, y0 => if x35 < x34 then (if 0 ≤ x35 ∧ x35 < (x33.length : Int) then if ((x33.getD x35.toNat []).length : Int) = (y0.length : Int) then ((axes_Joined.l1 n x0 (x33.getD x35.toNat []) x33 x34 x35 (x33.getD x35.toNat []) ((x33.getD x35.toNat []).length : Int) 0 y0).bind fun t2 => Sum.elim (fun t2 => if 0 ≤ x0 ∧ x0 < (y0.length : Int) then if x0.toNat < y0.length then if 0 ≤ x0 ∧ x0 < ((x33.getD x35.toNat []).length : Int) then if 0 ≤ x0 ∧ x0 < ((y0.set x0.toNat (IntKind.i64.wrap ((y0.getD x0.toNat 0) + ((x33.getD x35.toNat []).getD x0.toNat 0)))).length : Int) then if x0.toNat < (y0.set x0.toNat (IntKind.i64.wrap ((y0.getD x0.toNat 0) + ((x33.getD x35.toNat []).getD x0.toNat 0)))).length then if 32 < (y0.set x0.toNat (IntKind.i64.wrap ((y0.getD x0.toNat 0) + ((x33.getD x35.toNat []).getD x0.toNat 0)))).getD x0.toNat 0 then (some (.inr 13)) else axes_Joined.l0 k n x0 x33 x34 (IntKind.i64.wrap (x35 + 1)) (y0.set x0.toNat (IntKind.i64.wrap ((y0.getD x0.toNat 0) + ((x33.getD x35.toNat []).getD x0.toNat 0)))) else none else none else none else none else none) (fun t2 => some (.inr t2)) t2) else some (.inr 13) else none) else some (.inl y0)
def axes_Joined.f (k : Nat) (a0 : Int) (a1 : List (List Int)) : Option (Int × (List Int)) := if (a1.length : Int) = 0 then (some (1, [])) else if a0 < 0 then (some (1, [])) else if (0 : Int) ≤ 0 ∧ 0 < (a1.length : Int) then if ((a1.getD 0 []).length : Int) ≤ a0 then (some (1, [])) else (slices_Clone_int.f (a1.getD 0 [])).bind fun t1 => if 0 ≤ a0 ∧ a0 < (t1.length : Int) then if a0.toNat < t1.length then (axes_Joined.l0 k k a0 a1 (a1.length : Int) 0 (t1.set a0.toNat 0)).bind fun t3 => Sum.elim (fun t3 => (shape_Right.f k t3).bind fun t4 => if t4 = true then (some (0, t3)) else some (13, [])) (fun t3 => some (t3, [])) t3 else none else none else none

def shape_Place.l0 : Nat → (List Int) → Int → Int → (List Int) → Option ((List Int))
  | 0, _, _, _, _ => none
  | n + 1, x0, x1, x6, y0 => if 0 ≤ x6 then (if 0 ≤ x6 ∧ x6 < (x0.length : Int) then if x0.getD x6.toNat 0 ≠ 0 then if 0 ≤ x6 ∧ x6 < (y0.length : Int) then if x6.toNat < y0.length then shape_Place.l0 n x0 (IntKind.i64.wrap (x1.tdiv (x0.getD x6.toNat 0))) (IntKind.i64.wrap (x6 - 1)) (y0.set x6.toNat (x1.tmod (x0.getD x6.toNat 0))) else none else none else none else none) else some y0
def shape_Place.f (k : Nat) (a0 : List Int) (a1 : Int) : Option ((List Int)) := if a1 < 0 then (some []) else (shape_Size.f k a0).bind fun t1 => if t1 ≤ a1 then (some []) else if 0 ≤ (a0.length : Int) ∧ (a0.length : Int) ≤ 281474976710656 ∧ ((8 : Nat) : Int) * (a0.length : Int) ≤ 140737488355328 then (shape_Place.l0 k a0 a1 (IntKind.i64.wrap ((a0.length : Int) - 1)) (List.replicate (a0.length : Int).toNat (0 : Int))).bind fun t2 => some t2 else none

def shape_Index.l0 : Nat → (List Int) → Int → (List Int) → Int → Int → Option (Int ⊕ Int)
  | 0, _, _, _, _, _ => none
  | n + 1, x0, x5, x18, x19, x20 => if x20 < x19 then (if 0 ≤ x20 ∧ x20 < (x18.length : Int) then if x18.getD x20.toNat 0 < 0 then (some (.inr (-1))) else if 0 ≤ x20 ∧ x20 < (x0.length : Int) then if x0.getD x20.toNat 0 ≤ x18.getD x20.toNat 0 then (some (.inr (-1))) else shape_Index.l0 n x0 (IntKind.i64.wrap ((IntKind.i64.wrap (x5 * (x0.getD x20.toNat 0))) + (x18.getD x20.toNat 0))) x18 x19 (IntKind.i64.wrap (x20 + 1)) else none else none) else some (.inl x5)
def shape_Index.f (k : Nat) (a0 : List Int) (a1 : List Int) : Option (Int) := (shape_Right.f k a0).bind fun t1 => if t1 = true then (if (a1.length : Int) = (a0.length : Int) then ((shape_Index.l0 k a0 0 a1 (a1.length : Int) 0).bind fun t2 => Sum.elim (fun t2 => some t2) (fun t2 => some t2) t2) else some (-1)) else some (-1)

def tensor_place.f (k : Nat) (a0_0 : List Int) (a0_1 : List Int) (a1 : List Int) : Option (Int) := (tensor_Right.f k a0_0 a0_1).bind fun t1 => if t1 = true then ((shape_Index.f k a0_0 a1).bind fun t2 => some t2) else some (-1)

def tensor_Get.f (k : Nat) (a0_0 : List Int) (a0_1 : List Int) (a1 : List Int) : Option (Int × Bool) := (tensor_place.f k a0_0 a0_1 a1).bind fun t1 => if t1 < 0 then (some (0, false)) else if 0 ≤ t1 ∧ t1 < (a0_1.length : Int) then some (a0_1.getD t1.toNat 0, true) else none

def axes_at.f (k : Nat) (a0_0 : List Int) (a0_1 : List Int) (a1 : List Int) : Option (Int) := (tensor_Get.f k a0_0 a0_1 a1).bind fun t1 => some t1.1

def axes_Join_1.l0 (k : Nat) : Nat → (List ((List Int) × (List Int))) → Int → Int → (List Int) → (List ((List Int) × (List Int))) → Int → Option ((List Int) ⊕ (Int × (List Int)))
  | 0, _, _, _, _, _, _ => none
  | n + 1, x7, x8, x9, y0, y1, y2 => if x9 < x8 then (if 0 ≤ x9 ∧ x9 < (x7.length : Int) then if 0 ≤ y2 ∧ y2 < (y0.length : Int) then if y2.toNat < y0.length then if 0 ≤ y2 ∧ y2 < ((x7.getD x9.toNat ([], [])).1.length : Int) then if y0.getD y2.toNat 0 < (x7.getD x9.toNat ([], [])).1.getD y2.toNat 0 then ((axes_at.f k (x7.getD x9.toNat ([], [])).1 (x7.getD x9.toNat ([], [])).2 y0).bind fun t1 => some (.inr (t1, y0))) else axes_Join_1.l0 k n x7 x8 (IntKind.i64.wrap (x9 + 1)) (y0.set y2.toNat (IntKind.i64.wrap ((y0.getD y2.toNat 0) - ((x7.getD x9.toNat ([], [])).1.getD y2.toNat 0)))) y1 y2 else none else none else none else none) else some (.inl y0)
def axes_Join_1.f (k : Nat) (o0 : List Int) (o1 : List ((List Int) × (List Int))) (o2 : Int) : Option (Int × (List Int)) := (axes_Join_1.l0 k k o1 (o1.length : Int) 0 o0 o1 o2).bind fun t2 => Sum.elim (fun t2 => some (0, t2)) (fun t2 => some (t2.1, t2.2)) t2

def tensor_Made__axes_Join_1.l0 (k : Nat) : Nat → Int → Int → (List Int) → (List ((List Int) × (List Int))) → Int → (List Int) → (List Int) → Option ((List Int))
  | 0, _, _, _, _, _, _, _ => none
  | n + 1, x15, x16, y0, y1, y2, y5, y6 => if x16 < x15 then ((shape_Place.f k y0 x16).bind fun t3 => (axes_Join_1.f k t3 y1 y2).bind fun t4 => if 0 ≤ x16 ∧ x16 < (y6.length : Int) then if x16.toNat < y6.length then tensor_Made__axes_Join_1.l0 k n x15 (IntKind.i64.wrap (x16 + 1)) y0 y1 y2 y5 (y6.set x16.toNat t4.1) else none else none) else some y6
def tensor_Made__axes_Join_1.f (k : Nat) (o0 : List Int) (o1 : List ((List Int) × (List Int))) (o2 : Int) : Option ((List Int) × (List Int)) := (slices_Clone_int.f o0).bind fun t1 => (shape_Size.f k o0).bind fun t2 => if 0 ≤ t2 ∧ t2 ≤ 281474976710656 ∧ ((8 : Nat) : Int) * t2 ≤ 140737488355328 then (tensor_Made__axes_Join_1.l0 k k ((List.replicate t2.toNat (0 : Int)).length : Int) 0 o0 o1 o2 t1 (List.replicate t2.toNat (0 : Int))).bind fun t5 => some (t1, t5) else none

def axes_Join.l0 (k : Nat) : Nat → (List ((List Int) × (List Int))) → Int → Int → Int → (List ((List Int) × (List Int))) → (List (List Int)) → Option ((List (List Int)) ⊕ Int)
  | 0, _, _, _, _, _, _ => none
  | n + 1, x11, x12, x13, y0, y1, y3 => if x13 < x12 then (if 0 ≤ x13 ∧ x13 < (x11.length : Int) then (tensor_Right.f k (x11.getD x13.toNat ([], [])).1 (x11.getD x13.toNat ([], [])).2).bind fun t1 => if t1 = true then (if y3.length + [(x11.getD x13.toNat ([], [])).1].length ≤ 281474976710656 ∧ (y3.length + [(x11.getD x13.toNat ([], [])).1].length) * 24 ≤ 140737488355328 then axes_Join.l0 k n x11 x12 (IntKind.i64.wrap (x13 + 1)) y0 y1 (y3 ++ [(x11.getD x13.toNat ([], [])).1]) else none) else some (.inr 13) else none) else some (.inl y3)
def axes_Join.f (k : Nat) (a0 : Int) (a1 : List ((List Int) × (List Int))) : Option (Int × (List Int) × (List Int)) := (axes_Join.l0 k k a1 (a1.length : Int) 0 a0 a1 []).bind fun t2 => Sum.elim (fun t2 => (axes_Joined.f k a0 t2).bind fun t3 => if t3.1 = 0 then ((tensor_Made__axes_Join_1.f k t3.2 a1 a0).bind fun t4 => some (0, t4.1, t4.2)) else some (t3.1, [], [])) (fun t2 => some (t2, [], [])) t2

def axes_Turned.l0 : Nat → (List Int) → (List Int) → Int → Int → (List Int) → (List Bool) → Option ((List Int) ⊕ Int)
  | 0, _, _, _, _, _, _ => none
  | n + 1, x0, x21, x22, x23, y0, y1 => if x23 < x22 then (if 0 ≤ x23 ∧ x23 < (x21.length : Int) then if x21.getD x23.toNat 0 < 0 then (some (.inr 1)) else if (x0.length : Int) ≤ x21.getD x23.toNat 0 then (some (.inr 1)) else if 0 ≤ x21.getD x23.toNat 0 ∧ x21.getD x23.toNat 0 < (y1.length : Int) then if (x21.getD x23.toNat 0).toNat < y1.length then if (y1.getD (x21.getD x23.toNat 0).toNat false) = true then (some (.inr 1)) else if 0 ≤ x21.getD x23.toNat 0 ∧ x21.getD x23.toNat 0 < (x0.length : Int) then if 0 ≤ x23 ∧ x23 < (y0.length : Int) then if x23.toNat < y0.length then axes_Turned.l0 n x0 x21 x22 (IntKind.i64.wrap (x23 + 1)) (y0.set x23.toNat (x0.getD (x21.getD x23.toNat 0).toNat 0)) (y1.set (x21.getD x23.toNat 0).toNat true) else none else none else none else none else none else none) else some (.inl y0)
def axes_Turned.f (k : Nat) (a0 : List Int) (a1 : List Int) : Option (Int × (List Int)) := if (a1.length : Int) = (a0.length : Int) then (if 0 ≤ (a0.length : Int) ∧ (a0.length : Int) ≤ 281474976710656 ∧ ((8 : Nat) : Int) * (a0.length : Int) ≤ 140737488355328 then if 0 ≤ (a0.length : Int) ∧ (a0.length : Int) ≤ 281474976710656 ∧ ((1 : Nat) : Int) * (a0.length : Int) ≤ 140737488355328 then (axes_Turned.l0 k a0 a1 (a1.length : Int) 0 (List.replicate (a0.length : Int).toNat (0 : Int)) (List.replicate (a0.length : Int).toNat (false : Bool))).bind fun t1 => Sum.elim (fun t1 => some (0, t1)) (fun t1 => some (t1, [])) t1 else none else none) else some (1, [])

def axes_Turn_1.l0 : Nat → (List Int) → Int → Int → (List Int) → (List Int) → (List Int) → (List Int) → (List Int) → Option ((List Int))
  | 0, _, _, _, _, _, _, _, _ => none
  | n + 1, x8, x9, x10, y0, y1, y3_0, y3_1, y4 => if x10 < x9 then (if 0 ≤ x10 ∧ x10 < (x8.length : Int) then if 0 ≤ x10 ∧ x10 < (y0.length : Int) then if x10.toNat < y0.length then if 0 ≤ x8.getD x10.toNat 0 ∧ x8.getD x10.toNat 0 < (y4.length : Int) then if (x8.getD x10.toNat 0).toNat < y4.length then axes_Turn_1.l0 n x8 x9 (IntKind.i64.wrap (x10 + 1)) y0 y1 y3_0 y3_1 (y4.set (x8.getD x10.toNat 0).toNat (y0.getD x10.toNat 0)) else none else none else none else none else none) else some y4
def axes_Turn_1.f (k : Nat) (o0 : List Int) (o1 : List Int) (o3_0 : List Int) (o3_1 : List Int) (o4 : List Int) : Option (Int × (List Int)) := (axes_Turn_1.l0 k o1 (o1.length : Int) 0 o0 o1 o3_0 o3_1 o4).bind fun t1 => (axes_at.f k o3_0 o3_1 t1).bind fun t2 => some (t2, t1)

def tensor_Made__axes_Turn_1.l0 (k : Nat) : Nat → Int → Int → (List Int) → (List Int) → (List Int) → (List Int) → (List Int) → (List Int) → (List Int) → Option ((List Int) × (List Int))
  | 0, _, _, _, _, _, _, _, _, _ => none
  | n + 1, x15, x16, y0, y1, y3_0, y3_1, y4, y7, y8 => if x16 < x15 then ((shape_Place.f k y0 x16).bind fun t3 => (axes_Turn_1.f k t3 y1 y3_0 y3_1 y4).bind fun t4 => if 0 ≤ x16 ∧ x16 < (y8.length : Int) then if x16.toNat < y8.length then tensor_Made__axes_Turn_1.l0 k n x15 (IntKind.i64.wrap (x16 + 1)) y0 y1 y3_0 y3_1 t4.2 y7 (y8.set x16.toNat t4.1) else none else none) else some (y4, y8)
def tensor_Made__axes_Turn_1.f (k : Nat) (o0 : List Int) (o1 : List Int) (o3_0 : List Int) (o3_1 : List Int) (o4 : List Int) : Option ((List Int) × (List Int) × (List Int)) := (slices_Clone_int.f o0).bind fun t1 => (shape_Size.f k o0).bind fun t2 => if 0 ≤ t2 ∧ t2 ≤ 281474976710656 ∧ ((8 : Nat) : Int) * t2 ≤ 140737488355328 then (tensor_Made__axes_Turn_1.l0 k k ((List.replicate t2.toNat (0 : Int)).length : Int) 0 o0 o1 o3_0 o3_1 o4 t1 (List.replicate t2.toNat (0 : Int))).bind fun t5 => some (t5.1, t1, t5.2) else none

def axes_Turn.f (k : Nat) (a0_0 : List Int) (a0_1 : List Int) (a1 : List Int) : Option (Int × (List Int) × (List Int)) := (tensor_Right.f k a0_0 a0_1).bind fun t1 => if t1 = true then ((axes_Turned.f k a0_0 a1).bind fun t2 => if t2.1 = 0 then (if 0 ≤ (t2.2.length : Int) ∧ (t2.2.length : Int) ≤ 281474976710656 ∧ ((8 : Nat) : Int) * (t2.2.length : Int) ≤ 140737488355328 then (tensor_Made__axes_Turn_1.f k t2.2 a1 a0_0 a0_1 (List.replicate (t2.2.length : Int).toNat (0 : Int))).bind fun t3 => some (0, t3.2.1, t3.2.2) else none) else some (t2.1, [], [])) else some (13, [], [])

def law5_known.f (k : Nat) : Option (Bool) := (axes_Turn.f k ([2, 3] : List Int) ([1, 2, 3, 4, 5, 6] : List Int) ([1, 0] : List Int)).bind fun t1 => (axes_Join.f k 0 [(([2, 3] : List Int), ([1, 2, 3, 4, 5, 6] : List Int)), (([2, 3] : List Int), ([1, 2, 3, 4, 5, 6] : List Int))]).bind fun t2 => (axes_Join.f k 2 [(([2, 3] : List Int), ([1, 2, 3, 4, 5, 6] : List Int))]).bind fun t3 => if t1.1 = 0 then (if (t1.2.2.length : Int) = 6 then (if (0 : Int) ≤ 1 ∧ 1 < (t1.2.2.length : Int) then if 1 < t1.2.2.length then if t1.2.2.getD 1 0 = 4 then (if t2.1 = 0 then (if (t2.2.2.length : Int) = 12 then (some (decide (t3.1 = 1))) else some false) else some false) else some false else none else none) else some false) else some false

def axes_Sliced.l0 : Nat → (List Int) → (List Int) → (List Int) → Int → Int → Option (Unit ⊕ Int)
  | 0, _, _, _, _, _ => none
  | n + 1, x1, x2, x21, x22, x23 => if x23 < x22 then (if 0 ≤ x23 ∧ x23 < (x21.length : Int) then if 0 ≤ x23 ∧ x23 < (x1.length : Int) then if x1.getD x23.toNat 0 < 0 then (some (.inr 1)) else if x21.getD x23.toNat 0 < x1.getD x23.toNat 0 then (some (.inr 1)) else if 0 ≤ x23 ∧ x23 < (x2.length : Int) then if x2.getD x23.toNat 0 < 0 then (some (.inr 1)) else if IntKind.i64.wrap ((x21.getD x23.toNat 0) - (x1.getD x23.toNat 0)) < x2.getD x23.toNat 0 then (some (.inr 1)) else axes_Sliced.l0 n x1 x2 x21 x22 (IntKind.i64.wrap (x23 + 1)) else none else none else none) else some (.inl ())
def axes_Sliced.f (k : Nat) (a0 : List Int) (a1 : List Int) (a2 : List Int) : Option (Int) := if (a1.length : Int) = (a0.length : Int) then (if (a2.length : Int) = (a0.length : Int) then ((axes_Sliced.l0 k a1 a2 a0 (a0.length : Int) 0).bind fun t1 => Sum.elim (fun t1 => some 0) (fun t1 => some t1) t1) else some 1) else some 1

def axes_Slice_1.l0 : Nat → (List Int) → Int → Int → (List Int) → (List Int) → (List Int) → (List Int) → Option ((List Int))
  | 0, _, _, _, _, _, _, _ => none
  | n + 1, x7, x8, x9, y0, y1, y2_0, y2_1 => if x9 < x8 then (if 0 ≤ x9 ∧ x9 < (x7.length : Int) then if 0 ≤ x9 ∧ x9 < (y0.length : Int) then if x9.toNat < y0.length then axes_Slice_1.l0 n x7 x8 (IntKind.i64.wrap (x9 + 1)) (y0.set x9.toNat (IntKind.i64.wrap ((y0.getD x9.toNat 0) + (x7.getD x9.toNat 0)))) y1 y2_0 y2_1 else none else none else none) else some y0
def axes_Slice_1.f (k : Nat) (o0 : List Int) (o1 : List Int) (o2_0 : List Int) (o2_1 : List Int) : Option (Int × (List Int)) := (axes_Slice_1.l0 k o1 (o1.length : Int) 0 o0 o1 o2_0 o2_1).bind fun t1 => (axes_at.f k o2_0 o2_1 t1).bind fun t2 => some (t2, t1)

def tensor_Made__axes_Slice_1.l0 (k : Nat) : Nat → (List Int) → Int → Int → (List Int) → (List Int) → (List Int) → (List Int) → (List Int) → Option ((List Int))
  | 0, _, _, _, _, _, _, _, _ => none
  | n + 1, x0, x15, x16, y0, y1_0, y1_1, y4, y5 => if x16 < x15 then ((shape_Place.f k x0 x16).bind fun t3 => (axes_Slice_1.f k t3 y0 y1_0 y1_1).bind fun t4 => if 0 ≤ x16 ∧ x16 < (y5.length : Int) then if x16.toNat < y5.length then tensor_Made__axes_Slice_1.l0 k n x0 x15 (IntKind.i64.wrap (x16 + 1)) y0 y1_0 y1_1 y4 (y5.set x16.toNat t4.1) else none else none) else some y5
def tensor_Made__axes_Slice_1.f (k : Nat) (a0 : List Int) (o0 : List Int) (o1_0 : List Int) (o1_1 : List Int) : Option ((List Int) × (List Int)) := (slices_Clone_int.f a0).bind fun t1 => (shape_Size.f k a0).bind fun t2 => if 0 ≤ t2 ∧ t2 ≤ 281474976710656 ∧ ((8 : Nat) : Int) * t2 ≤ 140737488355328 then (tensor_Made__axes_Slice_1.l0 k k a0 ((List.replicate t2.toNat (0 : Int)).length : Int) 0 o0 o1_0 o1_1 t1 (List.replicate t2.toNat (0 : Int))).bind fun t5 => some (t1, t5) else none

def axes_Slice.f (k : Nat) (a0_0 : List Int) (a0_1 : List Int) (a1 : List Int) (a2 : List Int) : Option (Int × (List Int) × (List Int)) := (tensor_Right.f k a0_0 a0_1).bind fun t1 => if t1 = true then ((axes_Sliced.f k a0_0 a1 a2).bind fun t2 => if t2 = 0 then ((tensor_Made__axes_Slice_1.f k a2 a1 a0_0 a0_1).bind fun t3 => some (0, t3.1, t3.2)) else some (t2, [], [])) else some (13, [], [])

def ref1_Ints.l0 : Nat → (List Int) → (List Int) → Int → Option (Unit ⊕ Bool)
  | 0, _, _, _ => none
  | n + 1, x0, x1, x5 => if x5 < (x0.length : Int) then (if 0 ≤ x5 ∧ x5 < (x0.length : Int) then if 0 ≤ x5 ∧ x5 < (x1.length : Int) then if x0.getD x5.toNat 0 = x1.getD x5.toNat 0 then (ref1_Ints.l0 n x0 x1 (IntKind.i64.wrap (x5 + 1))) else some (.inr false) else none else none) else some (.inl ())
def ref1_Ints.f (k : Nat) (a0 : List Int) (a1 : List Int) : Option (Bool) := if (a0.length : Int) = (a1.length : Int) then ((ref1_Ints.l0 k a0 a1 0).bind fun t1 => Sum.elim (fun t1 => some true) (fun t1 => some t1) t1) else some false

def ref1_Same.l0 : Nat → Int → (List Int) → (List Int) → (List Int) → (List Int) → Option (Unit ⊕ Bool)
  | 0, _, _, _, _, _ => none
  | n + 1, x5, y0_0, y0_1, y1_0, y1_1 => if x5 < (y0_1.length : Int) then (if 0 ≤ x5 ∧ x5 < (y0_1.length : Int) then if 0 ≤ x5 ∧ x5 < (y1_1.length : Int) then if y0_1.getD x5.toNat 0 = y1_1.getD x5.toNat 0 then (ref1_Same.l0 n (IntKind.i64.wrap (x5 + 1)) y0_0 y0_1 y1_0 y1_1) else some (.inr false) else none else none) else some (.inl ())
def ref1_Same.f (k : Nat) (a0_0 : List Int) (a0_1 : List Int) (a1_0 : List Int) (a1_1 : List Int) : Option (Bool) := (ref1_Ints.f k a0_0 a1_0).bind fun t1 => if t1 = true then (if (a0_1.length : Int) = (a1_1.length : Int) then ((ref1_Same.l0 k 0 a0_0 a0_1 a1_0 a1_1).bind fun t2 => Sum.elim (fun t2 => some true) (fun t2 => some t2) t2) else some false) else some false

def law5_AxesJoins.l0 (k : Nat) : Nat → Nat → Nat → Int → Int → (List Int) → Int → (List Int) → (List ((List Int) × (List Int))) → Option ((List ((List Int) × (List Int))))
  | 0, _, _, _, _, _, _, _, _ => none
  | n + 1, x6_0, x6_1, x7, x9, y0_0, y0_1, y1, y2 => if 0 < x9 then (if 0 + ((y1.take x6_1).drop x6_0).length ≤ 281474976710656 ∧ (0 + ((y1.take x6_1).drop x6_0).length) * 8 ≤ 140737488355328 then (keep_Tape_Next.f 4 y0_0 y0_1).bind fun t4 => if 0 ≤ x7 ∧ x7 < (([] ++ ((y1.take x6_1).drop x6_0)).length : Int) then if x7.toNat < ([] ++ ((y1.take x6_1).drop x6_0)).length then (keep_Tape_Tensor.f k (([] ++ ((y1.take x6_1).drop x6_0)).set x7.toNat t4.1) y0_0 t4.2).bind fun t5 => if y2.length + [(t5.2.1, t5.2.2)].length ≤ 281474976710656 ∧ (y2.length + [(t5.2.1, t5.2.2)].length) * 48 ≤ 140737488355328 then law5_AxesJoins.l0 k n x6_0 x6_1 x7 (IntKind.i64.wrap (x9 - 1)) y0_0 t5.1 y1 (y2 ++ [(t5.2.1, t5.2.2)]) else none else none else none else none) else some y2
def law5_AxesJoins.l1 (k : Nat) : Nat → Nat → Nat → Int → Int → Int → Int → (List Int) → (List ((List Int) × (List Int))) → (List Int) → (List Int) → Option (Int ⊕ Bool)
  | 0, _, _, _, _, _, _, _, _, _, _ => none
  | n + 1, x6_0, x6_1, x7, x13, x77, x78, y0, y1, y3, y4 => if x78 < x77 then (if 0 ≤ ((x6_1 - x6_0 : Nat) : Int) ∧ ((x6_1 - x6_0 : Nat) : Int) ≤ 281474976710656 ∧ ((8 : Nat) : Int) * ((x6_1 - x6_0 : Nat) : Int) ≤ 140737488355328 then if 0 ≤ x7 ∧ x7 < ((List.replicate ((x6_1 - x6_0 : Nat) : Int).toNat (0 : Int)).length : Int) then if x7.toNat < (List.replicate ((x6_1 - x6_0 : Nat) : Int).toNat (0 : Int)).length then if 0 ≤ x78 ∧ x78 < (y1.length : Int) then (axes_Slice.f k y3 y4 ((List.replicate ((x6_1 - x6_0 : Nat) : Int).toNat (0 : Int)).set x7.toNat x13) (y1.getD x78.toNat ([], [])).1).bind fun t9 => if t9.1 = 0 then ((ref1_Same.f k t9.2.1 t9.2.2 (y1.getD x78.toNat ([], [])).1 (y1.getD x78.toNat ([], [])).2).bind fun t10 => if t10 = true then (if 0 ≤ x7 ∧ x7 < ((y1.getD x78.toNat ([], [])).1.length : Int) then law5_AxesJoins.l1 k n x6_0 x6_1 x7 (IntKind.i64.wrap (x13 + ((y1.getD x78.toNat ([], [])).1.getD x7.toNat 0))) x77 (IntKind.i64.wrap (x78 + 1)) y0 y1 y3 y4 else none) else some (.inr false)) else some (.inr false) else none else none else none else none) else some (.inl x13)
def law5_AxesJoins.f (k : Nat) (a0 : List Int) (a1 : Int) : Option (Bool) := (keep_Tape_Next.f 4 a0 0).bind fun t1 => (keep_Tape_Shape.f k a0 t1.2).bind fun t2 => if [t1.1].length + t2.2.length ≤ 281474976710656 ∧ ([t1.1].length + t2.2.length) * 8 ≤ 140737488355328 then if 3 < (([t1.1] ++ t2.2).length : Int) then (if 0 ≤ ((0 : Nat) : Int) ∧ ((0 : Nat) : Int) ≤ 3 ∧ 3 ≤ (([t1.1] ++ t2.2).length : Int) then if ((3 - 0 : Nat) : Int) ≠ 0 then (keep_Tape_Next.f 4 a0 t2.1).bind fun t3 => (law5_AxesJoins.l0 k k 0 3 ((IntKind.i64.wrap ((a1.tmod ((3 - 0 : Nat) : Int)) + ((3 - 0 : Nat) : Int))).tmod ((3 - 0 : Nat) : Int)) (IntKind.i64.wrap (1 + t3.1)) a0 t3.2 ([t1.1] ++ t2.2) []).bind fun t6 => (axes_Join.f k ((IntKind.i64.wrap ((a1.tmod ((3 - 0 : Nat) : Int)) + ((3 - 0 : Nat) : Int))).tmod ((3 - 0 : Nat) : Int)) t6).bind fun t7 => if t7.1 = 0 then ((law5_AxesJoins.l1 k k 0 3 ((IntKind.i64.wrap ((a1.tmod ((3 - 0 : Nat) : Int)) + ((3 - 0 : Nat) : Int))).tmod ((3 - 0 : Nat) : Int)) 0 (t6.length : Int) 0 ([t1.1] ++ t2.2) t6 t7.2.1 t7.2.2).bind fun t11 => Sum.elim (fun t11 => if (t7.2.1.length : Int) = ((3 - 0 : Nat) : Int) then (if 0 ≤ (IntKind.i64.wrap ((a1.tmod ((3 - 0 : Nat) : Int)) + ((3 - 0 : Nat) : Int))).tmod ((3 - 0 : Nat) : Int) ∧ (IntKind.i64.wrap ((a1.tmod ((3 - 0 : Nat) : Int)) + ((3 - 0 : Nat) : Int))).tmod ((3 - 0 : Nat) : Int) < (t7.2.1.length : Int) then if ((IntKind.i64.wrap ((a1.tmod ((3 - 0 : Nat) : Int)) + ((3 - 0 : Nat) : Int))).tmod ((3 - 0 : Nat) : Int)).toNat < t7.2.1.length then if t7.2.1.getD ((IntKind.i64.wrap ((a1.tmod ((3 - 0 : Nat) : Int)) + ((3 - 0 : Nat) : Int))).tmod ((3 - 0 : Nat) : Int)).toNat 0 = t11 then ((law5_known.f k).bind fun t12 => some t12) else some false else none else none) else some false) (fun t11 => some t11) t11) else if t7.1 = 13 then ((law5_known.f k).bind fun t8 => some t8) else some false else none else none) else if (([t1.1] ++ t2.2).length : Int) ≠ 0 then (keep_Tape_Next.f 4 a0 t2.1).bind fun t13 => (law5_AxesJoins.l0 k k 0 ([t1.1] ++ t2.2).length ((IntKind.i64.wrap ((a1.tmod (([t1.1] ++ t2.2).length : Int)) + (([t1.1] ++ t2.2).length : Int))).tmod (([t1.1] ++ t2.2).length : Int)) (IntKind.i64.wrap (1 + t13.1)) a0 t13.2 ([t1.1] ++ t2.2) []).bind fun t14 => (axes_Join.f k ((IntKind.i64.wrap ((a1.tmod (([t1.1] ++ t2.2).length : Int)) + (([t1.1] ++ t2.2).length : Int))).tmod (([t1.1] ++ t2.2).length : Int)) t14).bind fun t15 => if t15.1 = 0 then ((law5_AxesJoins.l1 k k 0 ([t1.1] ++ t2.2).length ((IntKind.i64.wrap ((a1.tmod (([t1.1] ++ t2.2).length : Int)) + (([t1.1] ++ t2.2).length : Int))).tmod (([t1.1] ++ t2.2).length : Int)) 0 (t14.length : Int) 0 ([t1.1] ++ t2.2) t14 t15.2.1 t15.2.2).bind fun t17 => Sum.elim (fun t17 => if (t15.2.1.length : Int) = ((([t1.1] ++ t2.2).length - 0 : Nat) : Int) then (if 0 ≤ (IntKind.i64.wrap ((a1.tmod (([t1.1] ++ t2.2).length : Int)) + (([t1.1] ++ t2.2).length : Int))).tmod (([t1.1] ++ t2.2).length : Int) ∧ (IntKind.i64.wrap ((a1.tmod (([t1.1] ++ t2.2).length : Int)) + (([t1.1] ++ t2.2).length : Int))).tmod (([t1.1] ++ t2.2).length : Int) < (t15.2.1.length : Int) then if ((IntKind.i64.wrap ((a1.tmod (([t1.1] ++ t2.2).length : Int)) + (([t1.1] ++ t2.2).length : Int))).tmod (([t1.1] ++ t2.2).length : Int)).toNat < t15.2.1.length then if t15.2.1.getD ((IntKind.i64.wrap ((a1.tmod (([t1.1] ++ t2.2).length : Int)) + (([t1.1] ++ t2.2).length : Int))).tmod (([t1.1] ++ t2.2).length : Int)).toNat 0 = t17 then ((law5_known.f k).bind fun t18 => some t18) else some false else none else none) else some false) (fun t17 => some t17) t17) else if t15.1 = 13 then ((law5_known.f k).bind fun t16 => some t16) else some false else none else none

def axes_Padded_1.f (a0 : Int) : Option (Bool) := if 0 ≤ a0 then (some (decide (a0 ≤ 32))) else some false

def axes_Padded.l0 : Nat → (List Int) → (List Int) → (List Int) → Int → Int → (List Int) → Option ((List Int) ⊕ Int)
  | 0, _, _, _, _, _, _ => none
  | n + 1, x1, x2, x27, x28, x29, y0 => if x29 < x28 then (if 0 ≤ x29 ∧ x29 < (x27.length : Int) then if 0 ≤ x29 ∧ x29 < (x1.length : Int) then (axes_Padded_1.f (x1.getD x29.toNat 0)).bind fun t1 => if t1 = true then (if 0 ≤ x29 ∧ x29 < (x2.length : Int) then (axes_Padded_1.f (x2.getD x29.toNat 0)).bind fun t2 => if t2 = true then (if 0 ≤ x29 ∧ x29 < (y0.length : Int) then if x29.toNat < y0.length then axes_Padded.l0 n x1 x2 x27 x28 (IntKind.i64.wrap (x29 + 1)) (y0.set x29.toNat (IntKind.i64.wrap ((IntKind.i64.wrap ((x1.getD x29.toNat 0) + (x27.getD x29.toNat 0))) + (x2.getD x29.toNat 0)))) else none else none) else some (.inr 1) else none) else some (.inr 1) else none else none) else some (.inl y0)
def axes_Padded.f (k : Nat) (a0 : List Int) (a1 : List Int) (a2 : List Int) : Option (Int × (List Int)) := if (a1.length : Int) = (a0.length : Int) then (if (a2.length : Int) = (a0.length : Int) then (if 0 ≤ (a0.length : Int) ∧ (a0.length : Int) ≤ 281474976710656 ∧ ((8 : Nat) : Int) * (a0.length : Int) ≤ 140737488355328 then (axes_Padded.l0 k a1 a2 a0 (a0.length : Int) 0 (List.replicate (a0.length : Int).toNat (0 : Int))).bind fun t3 => Sum.elim (fun t3 => (shape_Right.f k t3).bind fun t4 => if t4 = true then (some (0, t3)) else some (13, [])) (fun t3 => some (t3, [])) t3 else none) else some (1, [])) else some (1, [])

def axes_Pad_1.l0 : Nat → (List Int) → Int → Int → (List Int) → (List Int) → (List Int) → (List Int) → Int → Option ((List Int))
  | 0, _, _, _, _, _, _, _, _ => none
  | n + 1, x10, x11, x12, y0, y1, y2_0, y2_1, y3 => if x12 < x11 then (if 0 ≤ x12 ∧ x12 < (x10.length : Int) then if 0 ≤ x12 ∧ x12 < (y0.length : Int) then if x12.toNat < y0.length then axes_Pad_1.l0 n x10 x11 (IntKind.i64.wrap (x12 + 1)) (y0.set x12.toNat (IntKind.i64.wrap ((y0.getD x12.toNat 0) - (x10.getD x12.toNat 0)))) y1 y2_0 y2_1 y3 else none else none else none) else some y0
def axes_Pad_1.f (k : Nat) (o0 : List Int) (o1 : List Int) (o2_0 : List Int) (o2_1 : List Int) (o3 : Int) : Option (Int × (List Int)) := (axes_Pad_1.l0 k o1 (o1.length : Int) 0 o0 o1 o2_0 o2_1 o3).bind fun t1 => (tensor_Get.f k o2_0 o2_1 t1).bind fun t2 => if t2.2 = true then (some (t2.1, t1)) else some (o3, t1)

def tensor_Made__axes_Pad_1.l0 (k : Nat) : Nat → Int → Int → (List Int) → (List Int) → (List Int) → (List Int) → Int → (List Int) → (List Int) → Option ((List Int))
  | 0, _, _, _, _, _, _, _, _, _ => none
  | n + 1, x15, x16, y0, y1, y2_0, y2_1, y3, y6, y7 => if x16 < x15 then ((shape_Place.f k y0 x16).bind fun t3 => (axes_Pad_1.f k t3 y1 y2_0 y2_1 y3).bind fun t4 => if 0 ≤ x16 ∧ x16 < (y7.length : Int) then if x16.toNat < y7.length then tensor_Made__axes_Pad_1.l0 k n x15 (IntKind.i64.wrap (x16 + 1)) y0 y1 y2_0 y2_1 y3 y6 (y7.set x16.toNat t4.1) else none else none) else some y7
def tensor_Made__axes_Pad_1.f (k : Nat) (o0 : List Int) (o1 : List Int) (o2_0 : List Int) (o2_1 : List Int) (o3 : Int) : Option ((List Int) × (List Int)) := (slices_Clone_int.f o0).bind fun t1 => (shape_Size.f k o0).bind fun t2 => if 0 ≤ t2 ∧ t2 ≤ 281474976710656 ∧ ((8 : Nat) : Int) * t2 ≤ 140737488355328 then (tensor_Made__axes_Pad_1.l0 k k ((List.replicate t2.toNat (0 : Int)).length : Int) 0 o0 o1 o2_0 o2_1 o3 t1 (List.replicate t2.toNat (0 : Int))).bind fun t5 => some (t1, t5) else none

def axes_Pad.f (k : Nat) (a0_0 : List Int) (a0_1 : List Int) (a1 : List Int) (a2 : List Int) (a3 : Int) : Option (Int × (List Int) × (List Int)) := (tensor_Right.f k a0_0 a0_1).bind fun t1 => if t1 = true then ((axes_Padded.f k a0_0 a1 a2).bind fun t2 => if t2.1 = 0 then ((tensor_Made__axes_Pad_1.f k t2.2 a1 a0_0 a0_1 a3).bind fun t3 => some (0, t3.1, t3.2)) else some (t2.1, [], [])) else some (13, [], [])

def law5_AxesBack.l0 : Nat → Int → Int → Int → (List Int) → Int → (List Int) → (List Int) → (List Int) → (List Int) → (List Int) → (List Int) → (List Int) → (List Int) → Option (Int × (List Int) × (List Int) × (List Int) × (List Int) × (List Int))
  | 0, _, _, _, _, _, _, _, _, _, _, _, _, _ => none
  | n + 1, x1, x44, x45, y0_0, y0_1, y1, y3, y4, y5, y6, y7, y8, y9 => if x45 < x44 then ((keep_Tape_Next.f (IntKind.i64.wrap (x45 + 1)) y0_0 y0_1).bind fun t3 => if 0 ≤ ((0 : Nat) : Int) ∧ ((0 : Nat) : Int) ≤ t3.1 ∧ t3.1 ≤ (y3.length : Int) then if 0 + ((y3.take t3.1.toNat).drop 0).length ≤ 281474976710656 ∧ (0 + ((y3.take t3.1.toNat).drop 0).length) * 8 ≤ 140737488355328 then if ([] ++ ((y3.take t3.1.toNat).drop 0)).length + [x45].length ≤ 281474976710656 ∧ (([] ++ ((y3.take t3.1.toNat).drop 0)).length + [x45].length) * 8 ≤ 140737488355328 then if 0 ≤ t3.1 ∧ t3.1 ≤ (y3.length : Int) ∧ (y3.length : Int) ≤ (y3.length : Int) then if (([] ++ ((y3.take t3.1.toNat).drop 0)) ++ [x45]).length + ((y3.take y3.length).drop t3.1.toNat).length ≤ 281474976710656 ∧ ((([] ++ ((y3.take t3.1.toNat).drop 0)) ++ [x45]).length + ((y3.take y3.length).drop t3.1.toNat).length) * 8 ≤ 140737488355328 then (keep_Tape_Next.f 3 y0_0 t3.2).bind fun t4 => if y5.length + [t4.1].length ≤ 281474976710656 ∧ (y5.length + [t4.1].length) * 8 ≤ 140737488355328 then (keep_Tape_Next.f 3 y0_0 t4.2).bind fun t5 => if y6.length + [t5.1].length ≤ 281474976710656 ∧ (y6.length + [t5.1].length) * 8 ≤ 140737488355328 then if y7.length + ([0] : List Int).length ≤ 281474976710656 ∧ (y7.length + ([0] : List Int).length) * 8 ≤ 140737488355328 then if y4.length + ([0] : List Int).length ≤ 281474976710656 ∧ (y4.length + ([0] : List Int).length) * 8 ≤ 140737488355328 then law5_AxesBack.l0 n x1 x44 (IntKind.i64.wrap (x45 + 1)) y0_0 t5.2 y1 ((([] ++ ((y3.take t3.1.toNat).drop 0)) ++ [x45]) ++ ((y3.take y3.length).drop t3.1.toNat)) (y4 ++ ([0] : List Int)) (y5 ++ [t4.1]) (y6 ++ [t5.1]) (y7 ++ ([0] : List Int)) y8 y9 else none else none else none else none else none else none else none else none else none) else some (y0_1, y3, y4, y5, y6, y7)
def law5_AxesBack.l1 : Nat → Int → Int → Int → (List Int) → Int → (List Int) → (List Int) → (List Int) → (List Int) → (List Int) → (List Int) → (List Int) → (List Int) → Option ((List Int))
  | 0, _, _, _, _, _, _, _, _, _, _, _, _, _ => none
  | n + 1, x1, x82, x83, y0_0, y0_1, y1, y3, y4, y5, y6, y7, y8, y9 => if x83 < x82 then (if 0 ≤ x83 ∧ x83 < (y3.length : Int) then if x83.toNat < y3.length then if 0 ≤ y3.getD x83.toNat 0 ∧ y3.getD x83.toNat 0 < (y4.length : Int) then if (y3.getD x83.toNat 0).toNat < y4.length then law5_AxesBack.l1 n x1 x82 (IntKind.i64.wrap (x83 + 1)) y0_0 y0_1 y1 y3 (y4.set (y3.getD x83.toNat 0).toNat x83) y5 y6 y7 y8 y9 else none else none else none else none) else some y4
def law5_AxesBack.l2 (k : Nat) : Nat → Int → Int → (List Int) → Int → (List Int) → (List Int) → (List Int) → (List Int) → Option (Unit ⊕ Bool)
  | 0, _, _, _, _, _, _, _, _ => none
  | n + 1, x144, x145, y0_0, y0_1, y1, y3, y4, y5 => if x145 < x144 then (if 0 ≤ x145 ∧ x145 < (y1.length : Int) then if x145.toNat < y1.length then (keep_Tape_Next.f (IntKind.i64.wrap ((y1.getD x145.toNat 0) + 1)) y0_0 y0_1).bind fun t14 => if 0 + y1.length ≤ 281474976710656 ∧ (0 + y1.length) * 8 ≤ 140737488355328 then if 0 + y3.length ≤ 281474976710656 ∧ (0 + y3.length) * 8 ≤ 140737488355328 then if 0 ≤ x145 ∧ x145 < (([] ++ y1).length : Int) then if x145.toNat < ([] ++ y1).length then if 0 ≤ x145 ∧ x145 < (([] ++ y3).length : Int) then if x145.toNat < ([] ++ y3).length then (axes_Slice.f k y4 y5 y3 (([] ++ y1).set x145.toNat t14.1)).bind fun t15 => (axes_Slice.f k y4 y5 (([] ++ y3).set x145.toNat t14.1) (([] ++ y1).set x145.toNat (IntKind.i64.wrap ((y1.getD x145.toNat 0) - t14.1)))).bind fun t16 => (axes_Join.f k x145 [(t15.2.1, t15.2.2), (t16.2.1, t16.2.2)]).bind fun t17 => if t17.1 = 0 then ((ref1_Same.f k t17.2.1 t17.2.2 y4 y5).bind fun t18 => if t18 = true then (law5_AxesBack.l2 k n x144 (IntKind.i64.wrap (x145 + 1)) y0_0 t14.2 y1 y3 y4 y5) else some (.inr false)) else some (.inr false) else none else none else none else none else none else none else none else none) else some (.inl ())
def law5_AxesBack.f (k : Nat) (a0 : List Int) (a1 : Int) : Option (Bool) := (keep_Tape_Shape.f k a0 0).bind fun t1 => (keep_Tape_Tensor.f k t1.2 a0 t1.1).bind fun t2 => (law5_AxesBack.l0 k a1 (t1.2.length : Int) 0 a0 t2.1 t1.2 [] [] [] [] [] t2.2.1 t2.2.2).bind fun t6 => (law5_AxesBack.l1 k a1 (t6.2.1.length : Int) 0 a0 t6.1 t1.2 t6.2.1 t6.2.2.1 t6.2.2.2.1 t6.2.2.2.2.1 t6.2.2.2.2.2 t2.2.1 t2.2.2).bind fun t7 => (axes_Turn.f k t2.2.1 t2.2.2 t6.2.1).bind fun t8 => (axes_Turn.f k t8.2.1 t8.2.2 t7).bind fun t9 => if t8.1 = 0 then (if t9.1 = 0 then ((ref1_Same.f k t9.2.1 t9.2.2 t2.2.1 t2.2.2).bind fun t10 => if t10 = true then ((axes_Pad.f k t2.2.1 t2.2.2 t6.2.2.2.1 t6.2.2.2.2.1 a1).bind fun t11 => if t11.1 = 0 then ((axes_Slice.f k t11.2.1 t11.2.2 t6.2.2.2.1 t1.2).bind fun t12 => if t12.1 = 0 then ((ref1_Same.f k t12.2.1 t12.2.2 t2.2.1 t2.2.2).bind fun t13 => if t13 = true then ((law5_AxesBack.l2 k k (t1.2.length : Int) 0 a0 t6.1 t1.2 t6.2.2.2.2.2 t2.2.1 t2.2.2).bind fun t19 => Sum.elim (fun t19 => (law5_known.f k).bind fun t20 => some t20) (fun t19 => some t19) t19) else some false) else some false) else (law5_AxesBack.l2 k k (t1.2.length : Int) 0 a0 t6.1 t1.2 t6.2.2.2.2.2 t2.2.1 t2.2.2).bind fun t21 => Sum.elim (fun t21 => (law5_known.f k).bind fun t22 => some t22) (fun t21 => some t21) t21) else some false) else some false) else some false

def axes_Rising.l0 : Nat → Int → Int → (List Int) → Int → Int → Option (Unit ⊕ Bool)
  | 0, _, _, _, _, _ => none
  | n + 1, x1, x5, x8, x9, x10 => if x10 < x9 then (if 0 ≤ x10 ∧ x10 < (x8.length : Int) then if x8.getD x10.toNat 0 ≤ x5 then (some (.inr false)) else if x1 ≤ x8.getD x10.toNat 0 then (some (.inr false)) else axes_Rising.l0 n x1 (x8.getD x10.toNat 0) x8 x9 (IntKind.i64.wrap (x10 + 1)) else none) else some (.inl ())
def axes_Rising.f (k : Nat) (a0 : List Int) (a1 : Int) : Option (Bool) := (axes_Rising.l0 k a1 (-1) a0 (a0.length : Int) 0).bind fun t1 => Sum.elim (fun t1 => some true) (fun t1 => some t1) t1

def axes_Wider.l0 : Nat → (List Int) → (List Int) → (List Int) → Int → Int → Option (Unit ⊕ Int)
  | 0, _, _, _, _, _ => none
  | n + 1, x0, x1, x24, x25, x26 => if x26 < x25 then (if 0 ≤ x26 ∧ x26 < (x24.length : Int) then if 0 ≤ x24.getD x26.toNat 0 ∧ x24.getD x26.toNat 0 < (x1.length : Int) then if 0 ≤ x26 ∧ x26 < (x0.length : Int) then if x1.getD (x24.getD x26.toNat 0).toNat 0 = x0.getD x26.toNat 0 then (axes_Wider.l0 n x0 x1 x24 x25 (IntKind.i64.wrap (x26 + 1))) else some (.inr 1) else none else none else none) else some (.inl ())
def axes_Wider.f (k : Nat) (a0 : List Int) (a1 : List Int) (a2 : List Int) : Option (Int) := (shape_Right.f k a1).bind fun t1 => if t1 = true then (if (a2.length : Int) = (a0.length : Int) then ((axes_Rising.f k a2 (a1.length : Int)).bind fun t2 => if t2 = true then ((axes_Wider.l0 k a0 a1 a2 (a2.length : Int) 0).bind fun t3 => Sum.elim (fun t3 => some 0) (fun t3 => some t3) t3) else some 1) else some 1) else some 13

def axes_Spread_1.l0 : Nat → (List Int) → Int → Int → (List Int) → (List Int) → (List Int) → (List Int) → (List Int) → Option ((List Int))
  | 0, _, _, _, _, _, _, _, _ => none
  | n + 1, x8, x9, x10, y0, y1, y3_0, y3_1, y4 => if x10 < x9 then (if 0 ≤ x10 ∧ x10 < (x8.length : Int) then if 0 ≤ x8.getD x10.toNat 0 ∧ x8.getD x10.toNat 0 < (y0.length : Int) then if (x8.getD x10.toNat 0).toNat < y0.length then if 0 ≤ x10 ∧ x10 < (y4.length : Int) then if x10.toNat < y4.length then axes_Spread_1.l0 n x8 x9 (IntKind.i64.wrap (x10 + 1)) y0 y1 y3_0 y3_1 (y4.set x10.toNat (y0.getD (x8.getD x10.toNat 0).toNat 0)) else none else none else none else none else none) else some y4
def axes_Spread_1.f (k : Nat) (o0 : List Int) (o1 : List Int) (o3_0 : List Int) (o3_1 : List Int) (o4 : List Int) : Option (Int × (List Int)) := (axes_Spread_1.l0 k o1 (o1.length : Int) 0 o0 o1 o3_0 o3_1 o4).bind fun t1 => (axes_at.f k o3_0 o3_1 t1).bind fun t2 => some (t2, t1)

def tensor_Made__axes_Spread_1.l0 (k : Nat) : Nat → (List Int) → Int → Int → (List Int) → (List Int) → (List Int) → (List Int) → (List Int) → (List Int) → Option ((List Int) × (List Int))
  | 0, _, _, _, _, _, _, _, _, _ => none
  | n + 1, x0, x15, x16, y0, y2_0, y2_1, y3, y6, y7 => if x16 < x15 then ((shape_Place.f k x0 x16).bind fun t3 => (axes_Spread_1.f k t3 y0 y2_0 y2_1 y3).bind fun t4 => if 0 ≤ x16 ∧ x16 < (y7.length : Int) then if x16.toNat < y7.length then tensor_Made__axes_Spread_1.l0 k n x0 x15 (IntKind.i64.wrap (x16 + 1)) y0 y2_0 y2_1 t4.2 y6 (y7.set x16.toNat t4.1) else none else none) else some (y3, y7)
def tensor_Made__axes_Spread_1.f (k : Nat) (a0 : List Int) (o0 : List Int) (o2_0 : List Int) (o2_1 : List Int) (o3 : List Int) : Option ((List Int) × (List Int) × (List Int)) := (slices_Clone_int.f a0).bind fun t1 => (shape_Size.f k a0).bind fun t2 => if 0 ≤ t2 ∧ t2 ≤ 281474976710656 ∧ ((8 : Nat) : Int) * t2 ≤ 140737488355328 then (tensor_Made__axes_Spread_1.l0 k k a0 ((List.replicate t2.toNat (0 : Int)).length : Int) 0 o0 o2_0 o2_1 o3 t1 (List.replicate t2.toNat (0 : Int))).bind fun t5 => some (t5.1, t1, t5.2) else none

def axes_Spread.f (k : Nat) (a0_0 : List Int) (a0_1 : List Int) (a1 : List Int) (a2 : List Int) : Option (Int × (List Int) × (List Int)) := (tensor_Right.f k a0_0 a0_1).bind fun t1 => if t1 = true then ((axes_Wider.f k a0_0 a1 a2).bind fun t2 => if t2 = 0 then (if 0 ≤ (a2.length : Int) ∧ (a2.length : Int) ≤ 281474976710656 ∧ ((8 : Nat) : Int) * (a2.length : Int) ≤ 140737488355328 then (tensor_Made__axes_Spread_1.f k a1 a2 a0_0 a0_1 (List.replicate (a2.length : Int).toNat (0 : Int))).bind fun t3 => some (0, t3.2.1, t3.2.2) else none) else some (t2, [], [])) else some (13, [], [])

def law5_AxesSpread.l0 : Nat → Int → Int → Int → Int → (List Int) → (List Int) → (List Int) → (List Int) → (List Int) → (List Int) → Option ((List Int) × (List Int) × (List Int))
  | 0, _, _, _, _, _, _, _, _, _, _ => none
  | n + 1, x10, x11, x60, x61, y1, y2, y3, y4, y5, y6 => if x61 < x60 then (if x61 = x10 then (if y3.length + ([0] : List Int).length ≤ 281474976710656 ∧ (y3.length + ([0] : List Int).length) * 8 ≤ 140737488355328 then if 0 ≤ x61 ∧ x61 < (y1.length : Int) then if x61.toNat < y1.length then if y4.length + [y1.getD x61.toNat 0].length ≤ 281474976710656 ∧ (y4.length + [y1.getD x61.toNat 0].length) * 8 ≤ 140737488355328 then law5_AxesSpread.l0 n x10 x11 x60 (IntKind.i64.wrap (x61 + 1)) y1 y2 (y3 ++ ([0] : List Int)) (y4 ++ [y1.getD x61.toNat 0]) y5 y6 else none else none else none else none) else if y2.length + [x61].length ≤ 281474976710656 ∧ (y2.length + [x61].length) * 8 ≤ 140737488355328 then if y3.length + ([0] : List Int).length ≤ 281474976710656 ∧ (y3.length + ([0] : List Int).length) * 8 ≤ 140737488355328 then if 0 ≤ x61 ∧ x61 < (y1.length : Int) then if x61.toNat < y1.length then if y4.length + [y1.getD x61.toNat 0].length ≤ 281474976710656 ∧ (y4.length + [y1.getD x61.toNat 0].length) * 8 ≤ 140737488355328 then law5_AxesSpread.l0 n x10 x11 x60 (IntKind.i64.wrap (x61 + 1)) y1 (y2 ++ [x61]) (y3 ++ ([0] : List Int)) (y4 ++ [y1.getD x61.toNat 0]) y5 y6 else none else none else none else none else none) else some (y2, y3, y4)
def law5_AxesSpread.l2 : Nat → Int → Int → Int → Int → Int → Int → (List Int) → (List Int) → (List Int) → (List Int) → (List Int) → (List Int) → (List Int) → (List Int) → Option (Unit ⊕ Bool)
  | 0, _, _, _, _, _, _, _, _, _, _, _, _, _, _ => none
  | n + 1, x10, x11, x18, x19, x133, x134, y1, y2, y5, y6, y7, y8, y9, y10 => if x134 < x133 then (if 0 ≤ x134 ∧ x134 < (y10.length : Int) then if x134.toNat < y10.length then if 0 ≤ x134 ∧ x134 < (y6.length : Int) then if x134.toNat < y6.length then if y10.getD x134.toNat 0 = y6.getD x134.toNat 0 then (law5_AxesSpread.l2 n x10 x11 x18 x19 x133 (IntKind.i64.wrap (x134 + 1)) y1 y2 y5 y6 y7 y8 y9 y10) else some (.inr false) else none else none else none else none) else some (.inl ())
def law5_AxesSpread.l1 (k : Nat) : Nat → Int → Int → Int → Int → (List Int) → (List Int) → (List Int) → (List Int) → (List Int) → (List Int) → Option (Unit ⊕ Bool)
  | 0, _, _, _, _, _, _, _, _, _, _ => none
  | n + 1, x10, x11, x18, x19, y1, y2, y4, y5, y6, y7 => if x19 < x11 then (if 0 ≤ x10 ∧ x10 < (y1.length : Int) then if x10.toNat < y1.length then (axes_Slice.f k y6 y7 (y1.set x10.toNat x19) y2).bind fun t7 => if x18 = 0 then (if t7.1 = 0 then (if (t7.2.2.length : Int) = (y5.length : Int) then ((law5_AxesSpread.l2 n x10 x11 x18 x19 (t7.2.2.length : Int) 0 (y1.set x10.toNat x19) y2 y4 y5 y6 y7 t7.2.1 t7.2.2).bind fun t8 => Sum.elim (fun t8 => law5_AxesSpread.l1 k n x10 x11 x18 (IntKind.i64.wrap (x19 + 1)) (y1.set x10.toNat x19) y2 y4 y5 y6 y7) (fun t8 => some (.inr t8)) t8) else some (.inr false)) else some (.inr false)) else some (.inr false) else none else none) else some (.inl ())
def law5_AxesSpread.f (k : Nat) (a0 : List Int) (a1 : Int) (a2 : Int) : Option (Bool) := (keep_Tape_Shape.f k a0 0).bind fun t1 => (keep_Tape_Tensor.f k t1.2 a0 t1.1).bind fun t2 => if IntKind.i64.wrap ((t1.2.length : Int) + 1) ≠ 0 then if 0 ≤ ((0 : Nat) : Int) ∧ ((0 : Nat) : Int) ≤ (IntKind.i64.wrap ((IntKind.i64.wrap ((a1.tmod (IntKind.i64.wrap ((t1.2.length : Int) + 1))) + (t1.2.length : Int))) + 1)).tmod (IntKind.i64.wrap ((t1.2.length : Int) + 1)) ∧ (IntKind.i64.wrap ((IntKind.i64.wrap ((a1.tmod (IntKind.i64.wrap ((t1.2.length : Int) + 1))) + (t1.2.length : Int))) + 1)).tmod (IntKind.i64.wrap ((t1.2.length : Int) + 1)) ≤ (t1.2.length : Int) then if 0 + ((t1.2.take ((IntKind.i64.wrap ((IntKind.i64.wrap ((a1.tmod (IntKind.i64.wrap ((t1.2.length : Int) + 1))) + (t1.2.length : Int))) + 1)).tmod (IntKind.i64.wrap ((t1.2.length : Int) + 1))).toNat).drop 0).length ≤ 281474976710656 ∧ (0 + ((t1.2.take ((IntKind.i64.wrap ((IntKind.i64.wrap ((a1.tmod (IntKind.i64.wrap ((t1.2.length : Int) + 1))) + (t1.2.length : Int))) + 1)).tmod (IntKind.i64.wrap ((t1.2.length : Int) + 1))).toNat).drop 0).length) * 8 ≤ 140737488355328 then if ([] ++ ((t1.2.take ((IntKind.i64.wrap ((IntKind.i64.wrap ((a1.tmod (IntKind.i64.wrap ((t1.2.length : Int) + 1))) + (t1.2.length : Int))) + 1)).tmod (IntKind.i64.wrap ((t1.2.length : Int) + 1))).toNat).drop 0)).length + [IntKind.i64.wrap (1 + (bits .and .i64 a2 3))].length ≤ 281474976710656 ∧ (([] ++ ((t1.2.take ((IntKind.i64.wrap ((IntKind.i64.wrap ((a1.tmod (IntKind.i64.wrap ((t1.2.length : Int) + 1))) + (t1.2.length : Int))) + 1)).tmod (IntKind.i64.wrap ((t1.2.length : Int) + 1))).toNat).drop 0)).length + [IntKind.i64.wrap (1 + (bits .and .i64 a2 3))].length) * 8 ≤ 140737488355328 then if 0 ≤ (IntKind.i64.wrap ((IntKind.i64.wrap ((a1.tmod (IntKind.i64.wrap ((t1.2.length : Int) + 1))) + (t1.2.length : Int))) + 1)).tmod (IntKind.i64.wrap ((t1.2.length : Int) + 1)) ∧ (IntKind.i64.wrap ((IntKind.i64.wrap ((a1.tmod (IntKind.i64.wrap ((t1.2.length : Int) + 1))) + (t1.2.length : Int))) + 1)).tmod (IntKind.i64.wrap ((t1.2.length : Int) + 1)) ≤ (t1.2.length : Int) ∧ (t1.2.length : Int) ≤ (t1.2.length : Int) then if (([] ++ ((t1.2.take ((IntKind.i64.wrap ((IntKind.i64.wrap ((a1.tmod (IntKind.i64.wrap ((t1.2.length : Int) + 1))) + (t1.2.length : Int))) + 1)).tmod (IntKind.i64.wrap ((t1.2.length : Int) + 1))).toNat).drop 0)) ++ [IntKind.i64.wrap (1 + (bits .and .i64 a2 3))]).length + ((t1.2.take t1.2.length).drop ((IntKind.i64.wrap ((IntKind.i64.wrap ((a1.tmod (IntKind.i64.wrap ((t1.2.length : Int) + 1))) + (t1.2.length : Int))) + 1)).tmod (IntKind.i64.wrap ((t1.2.length : Int) + 1))).toNat).length ≤ 281474976710656 ∧ ((([] ++ ((t1.2.take ((IntKind.i64.wrap ((IntKind.i64.wrap ((a1.tmod (IntKind.i64.wrap ((t1.2.length : Int) + 1))) + (t1.2.length : Int))) + 1)).tmod (IntKind.i64.wrap ((t1.2.length : Int) + 1))).toNat).drop 0)) ++ [IntKind.i64.wrap (1 + (bits .and .i64 a2 3))]).length + ((t1.2.take t1.2.length).drop ((IntKind.i64.wrap ((IntKind.i64.wrap ((a1.tmod (IntKind.i64.wrap ((t1.2.length : Int) + 1))) + (t1.2.length : Int))) + 1)).tmod (IntKind.i64.wrap ((t1.2.length : Int) + 1))).toNat).length) * 8 ≤ 140737488355328 then (law5_AxesSpread.l0 k ((IntKind.i64.wrap ((IntKind.i64.wrap ((a1.tmod (IntKind.i64.wrap ((t1.2.length : Int) + 1))) + (t1.2.length : Int))) + 1)).tmod (IntKind.i64.wrap ((t1.2.length : Int) + 1))) (IntKind.i64.wrap (1 + (bits .and .i64 a2 3))) (((([] ++ ((t1.2.take ((IntKind.i64.wrap ((IntKind.i64.wrap ((a1.tmod (IntKind.i64.wrap ((t1.2.length : Int) + 1))) + (t1.2.length : Int))) + 1)).tmod (IntKind.i64.wrap ((t1.2.length : Int) + 1))).toNat).drop 0)) ++ [IntKind.i64.wrap (1 + (bits .and .i64 a2 3))]) ++ ((t1.2.take t1.2.length).drop ((IntKind.i64.wrap ((IntKind.i64.wrap ((a1.tmod (IntKind.i64.wrap ((t1.2.length : Int) + 1))) + (t1.2.length : Int))) + 1)).tmod (IntKind.i64.wrap ((t1.2.length : Int) + 1))).toNat)).length : Int) 0 ((([] ++ ((t1.2.take ((IntKind.i64.wrap ((IntKind.i64.wrap ((a1.tmod (IntKind.i64.wrap ((t1.2.length : Int) + 1))) + (t1.2.length : Int))) + 1)).tmod (IntKind.i64.wrap ((t1.2.length : Int) + 1))).toNat).drop 0)) ++ [IntKind.i64.wrap (1 + (bits .and .i64 a2 3))]) ++ ((t1.2.take t1.2.length).drop ((IntKind.i64.wrap ((IntKind.i64.wrap ((a1.tmod (IntKind.i64.wrap ((t1.2.length : Int) + 1))) + (t1.2.length : Int))) + 1)).tmod (IntKind.i64.wrap ((t1.2.length : Int) + 1))).toNat)) [] [] [] t2.2.1 t2.2.2).bind fun t3 => (axes_Spread.f k t2.2.1 t2.2.2 ((([] ++ ((t1.2.take ((IntKind.i64.wrap ((IntKind.i64.wrap ((a1.tmod (IntKind.i64.wrap ((t1.2.length : Int) + 1))) + (t1.2.length : Int))) + 1)).tmod (IntKind.i64.wrap ((t1.2.length : Int) + 1))).toNat).drop 0)) ++ [IntKind.i64.wrap (1 + (bits .and .i64 a2 3))]) ++ ((t1.2.take t1.2.length).drop ((IntKind.i64.wrap ((IntKind.i64.wrap ((a1.tmod (IntKind.i64.wrap ((t1.2.length : Int) + 1))) + (t1.2.length : Int))) + 1)).tmod (IntKind.i64.wrap ((t1.2.length : Int) + 1))).toNat)) t3.1).bind fun t4 => (ref1_Right.f k ((([] ++ ((t1.2.take ((IntKind.i64.wrap ((IntKind.i64.wrap ((a1.tmod (IntKind.i64.wrap ((t1.2.length : Int) + 1))) + (t1.2.length : Int))) + 1)).tmod (IntKind.i64.wrap ((t1.2.length : Int) + 1))).toNat).drop 0)) ++ [IntKind.i64.wrap (1 + (bits .and .i64 a2 3))]) ++ ((t1.2.take t1.2.length).drop ((IntKind.i64.wrap ((IntKind.i64.wrap ((a1.tmod (IntKind.i64.wrap ((t1.2.length : Int) + 1))) + (t1.2.length : Int))) + 1)).tmod (IntKind.i64.wrap ((t1.2.length : Int) + 1))).toNat))).bind fun t5 => if t5 = true then (if 0 ≤ (IntKind.i64.wrap ((IntKind.i64.wrap ((a1.tmod (IntKind.i64.wrap ((t1.2.length : Int) + 1))) + (t1.2.length : Int))) + 1)).tmod (IntKind.i64.wrap ((t1.2.length : Int) + 1)) ∧ (IntKind.i64.wrap ((IntKind.i64.wrap ((a1.tmod (IntKind.i64.wrap ((t1.2.length : Int) + 1))) + (t1.2.length : Int))) + 1)).tmod (IntKind.i64.wrap ((t1.2.length : Int) + 1)) < (t3.2.2.length : Int) then if ((IntKind.i64.wrap ((IntKind.i64.wrap ((a1.tmod (IntKind.i64.wrap ((t1.2.length : Int) + 1))) + (t1.2.length : Int))) + 1)).tmod (IntKind.i64.wrap ((t1.2.length : Int) + 1))).toNat < t3.2.2.length then (law5_AxesSpread.l1 k k ((IntKind.i64.wrap ((IntKind.i64.wrap ((a1.tmod (IntKind.i64.wrap ((t1.2.length : Int) + 1))) + (t1.2.length : Int))) + 1)).tmod (IntKind.i64.wrap ((t1.2.length : Int) + 1))) (IntKind.i64.wrap (1 + (bits .and .i64 a2 3))) t4.1 0 t3.2.1 (t3.2.2.set ((IntKind.i64.wrap ((IntKind.i64.wrap ((a1.tmod (IntKind.i64.wrap ((t1.2.length : Int) + 1))) + (t1.2.length : Int))) + 1)).tmod (IntKind.i64.wrap ((t1.2.length : Int) + 1))).toNat 1) t2.2.1 t2.2.2 t4.2.1 t4.2.2).bind fun t9 => Sum.elim (fun t9 => (law5_known.f k).bind fun t10 => some t10) (fun t9 => some t9) t9 else none else none) else if t4.1 = 13 then ((law5_known.f k).bind fun t6 => some t6) else some false else none else none else none else none else none else none

def ref1_Tensor.f (k : Nat) (a0_0 : List Int) (a0_1 : List Int) : Option (Bool) := (ref1_Right.f k a0_0).bind fun t1 => if t1 = true then ((ref1_Size.f k a0_0).bind fun t2 => some (decide ((a0_1.length : Int) = t2))) else some false

def ref1_Place.l0 : Nat → (List Int) → Int → Int → (List Int) → Option ((List Int))
  | 0, _, _, _, _ => none
  | n + 1, x0, x1, x6, y0 => if 0 ≤ x6 then (if 0 ≤ x6 ∧ x6 < (x0.length : Int) then if x0.getD x6.toNat 0 ≠ 0 then if 0 ≤ x6 ∧ x6 < (y0.length : Int) then if x6.toNat < y0.length then ref1_Place.l0 n x0 (IntKind.i64.wrap (x1.tdiv (x0.getD x6.toNat 0))) (IntKind.i64.wrap (x6 - 1)) (y0.set x6.toNat (x1.tmod (x0.getD x6.toNat 0))) else none else none else none else none) else some y0
def ref1_Place.f (k : Nat) (a0 : List Int) (a1 : Int) : Option ((List Int)) := if a1 < 0 then (some []) else (ref1_Size.f k a0).bind fun t1 => if t1 ≤ a1 then (some []) else if 0 ≤ (a0.length : Int) ∧ (a0.length : Int) ≤ 281474976710656 ∧ ((8 : Nat) : Int) * (a0.length : Int) ≤ 140737488355328 then (ref1_Place.l0 k a0 a1 (IntKind.i64.wrap ((a0.length : Int) - 1)) (List.replicate (a0.length : Int).toNat (0 : Int))).bind fun t2 => some t2 else none

def ref1_Index.l0 : Nat → (List Int) → (List Int) → Int → Int → Option (Int ⊕ Int)
  | 0, _, _, _, _ => none
  | n + 1, x0, x1, x5, x6 => if x6 < (x0.length : Int) then (if 0 ≤ x6 ∧ x6 < (x1.length : Int) then if x1.getD x6.toNat 0 < 0 then (some (.inr (-1))) else if 0 ≤ x6 ∧ x6 < (x0.length : Int) then if x0.getD x6.toNat 0 ≤ x1.getD x6.toNat 0 then (some (.inr (-1))) else ref1_Index.l0 n x0 x1 (IntKind.i64.wrap ((IntKind.i64.wrap (x5 * (x0.getD x6.toNat 0))) + (x1.getD x6.toNat 0))) (IntKind.i64.wrap (x6 + 1)) else none else none) else some (.inl x5)
def ref1_Index.f (k : Nat) (a0 : List Int) (a1 : List Int) : Option (Int) := (ref1_Right.f k a0).bind fun t1 => if t1 = true then (if (a1.length : Int) = (a0.length : Int) then ((ref1_Index.l0 k a0 a1 0 0).bind fun t2 => Sum.elim (fun t2 => some t2) (fun t2 => some t2) t2) else some (-1)) else some (-1)

def ref4_number.f (k : Nat) (a0_0 : List Int) (a0_1 : List Int) (a1 : List Int) : Option (Int) := (ref1_Index.f k a0_0 a1).bind fun t1 => if 0 ≤ t1 ∧ t1 < (a0_1.length : Int) then some (a0_1.getD t1.toNat 0) else none

def ref4_Turn.l0 : Nat → (List Int) → Int → Int → (List Int) → (List Int) → (List Int) → (List Int) → Option ((List Int) ⊕ Int)
  | 0, _, _, _, _, _, _, _ => none
  | n + 1, x1, x29, x30, y0_0, y0_1, y2, y3 => if x30 < x29 then (if 0 ≤ x30 ∧ x30 < (x1.length : Int) then if x1.getD x30.toNat 0 < 0 then (some (.inr 1)) else if (y2.length : Int) ≤ x1.getD x30.toNat 0 then (some (.inr 1)) else if 0 ≤ x1.getD x30.toNat 0 ∧ x1.getD x30.toNat 0 < (y2.length : Int) then if (x1.getD x30.toNat 0).toNat < y2.length then if 0 < y2.getD (x1.getD x30.toNat 0).toNat 0 then (some (.inr 1)) else if 0 ≤ x1.getD x30.toNat 0 ∧ x1.getD x30.toNat 0 < (y0_0.length : Int) then if y3.length + [y0_0.getD (x1.getD x30.toNat 0).toNat 0].length ≤ 281474976710656 ∧ (y3.length + [y0_0.getD (x1.getD x30.toNat 0).toNat 0].length) * 8 ≤ 140737488355328 then ref4_Turn.l0 n x1 x29 (IntKind.i64.wrap (x30 + 1)) y0_0 y0_1 (y2.set (x1.getD x30.toNat 0).toNat (IntKind.i64.wrap ((y2.getD (x1.getD x30.toNat 0).toNat 0) + 1))) (y3 ++ [y0_0.getD (x1.getD x30.toNat 0).toNat 0]) else none else none else none else none else none) else some (.inl y3)
def ref4_Turn.l2 : Nat → (List Int) → Int → Int → Int → Int → Int → (List Int) → (List Int) → (List Int) → (List Int) → (List Int) → (List Int) → (List Int) → Option ((List Int))
  | 0, _, _, _, _, _, _, _, _, _, _, _, _, _ => none
  | n + 1, x1, x10, x83, x84, x94, x95, y0_0, y0_1, y2, y4, y5, y6, y7 => if x95 < x94 then (if 0 ≤ x95 ∧ x95 < (x1.length : Int) then if 0 ≤ x95 ∧ x95 < (y4.length : Int) then if x95.toNat < y4.length then if 0 ≤ x1.getD x95.toNat 0 ∧ x1.getD x95.toNat 0 < (y5.length : Int) then if (x1.getD x95.toNat 0).toNat < y5.length then ref4_Turn.l2 n x1 x10 x83 x84 x94 (IntKind.i64.wrap (x95 + 1)) y0_0 y0_1 y2 y4 (y5.set (x1.getD x95.toNat 0).toNat (y4.getD x95.toNat 0)) y6 y7 else none else none else none else none else none) else some y5
def ref4_Turn.l1 (k : Nat) : Nat → (List Int) → Int → Int → (List Int) → (List Int) → (List Int) → (List Int) → (List Int) → Option ((List Int))
  | 0, _, _, _, _, _, _, _, _ => none
  | n + 1, x1, x83, x84, y0_0, y0_1, y2, y4, y5 => if x84 < x83 then ((ref1_Place.f k y2 x84).bind fun t4 => if 0 ≤ (t4.length : Int) ∧ (t4.length : Int) ≤ 281474976710656 ∧ ((8 : Nat) : Int) * (t4.length : Int) ≤ 140737488355328 then (ref4_Turn.l2 n x1 x84 x83 x84 (t4.length : Int) 0 y0_0 y0_1 y2 t4 (List.replicate (t4.length : Int).toNat (0 : Int)) y4 y5).bind fun t5 => (ref4_number.f k y0_0 y0_1 t5).bind fun t6 => if 0 ≤ x84 ∧ x84 < (y5.length : Int) then if x84.toNat < y5.length then ref4_Turn.l1 k n x1 x83 (IntKind.i64.wrap (x84 + 1)) y0_0 y0_1 y2 y4 (y5.set x84.toNat t6) else none else none else none) else some y5
def ref4_Turn.f (k : Nat) (a0_0 : List Int) (a0_1 : List Int) (a1 : List Int) : Option (Int × (List Int) × (List Int)) := (ref1_Tensor.f k a0_0 a0_1).bind fun t1 => if t1 = true then (if 0 ≤ (a0_0.length : Int) ∧ (a0_0.length : Int) ≤ 281474976710656 ∧ ((8 : Nat) : Int) * (a0_0.length : Int) ≤ 140737488355328 then if (a1.length : Int) = ((List.replicate (a0_0.length : Int).toNat (0 : Int)).length : Int) then ((ref4_Turn.l0 k a1 (a1.length : Int) 0 a0_0 a0_1 (List.replicate (a0_0.length : Int).toNat (0 : Int)) []).bind fun t2 => Sum.elim (fun t2 => (ref1_Fill.f k t2 0).bind fun t3 => (ref4_Turn.l1 k k a1 (t3.2.length : Int) 0 a0_0 a0_1 t2 t3.1 t3.2).bind fun t7 => some (0, t3.1, t7)) (fun t2 => some (t2, [], [])) t2) else some (1, [], []) else none) else some (13, [], [])

def law5_equal.f (k : Nat) (a0_0 : List Int) (a0_1 : List Int) (a1 : Int) (a2_0 : List Int) (a2_1 : List Int) (a3 : Int) : Option (Bool) := if a1 = a3 then ((ref1_Same.f k a0_0 a0_1 a2_0 a2_1).bind fun t1 => some t1) else some false

def ref4_Spread.l0 : Nat → (List Int) → (List Int) → Int → Int → (List Int) → (List Int) → Option (Unit ⊕ Int)
  | 0, _, _, _, _, _, _ => none
  | n + 1, x1, x2, x31, x32, y0_0, y0_1 => if x32 < x31 then (if 0 ≤ x32 ∧ x32 < (x2.length : Int) then if x2.getD x32.toNat 0 < 0 then (some (.inr 1)) else if (x1.length : Int) ≤ x2.getD x32.toNat 0 then (some (.inr 1)) else if 0 < x32 then (if 0 ≤ IntKind.i64.wrap (x32 - 1) ∧ IntKind.i64.wrap (x32 - 1) < (x2.length : Int) then if x2.getD x32.toNat 0 ≤ x2.getD (IntKind.i64.wrap (x32 - 1)).toNat 0 then (some (.inr 1)) else if 0 ≤ x2.getD x32.toNat 0 ∧ x2.getD x32.toNat 0 < (x1.length : Int) then if 0 ≤ x32 ∧ x32 < (y0_0.length : Int) then if x1.getD (x2.getD x32.toNat 0).toNat 0 = y0_0.getD x32.toNat 0 then (ref4_Spread.l0 n x1 x2 x31 (IntKind.i64.wrap (x32 + 1)) y0_0 y0_1) else some (.inr 1) else none else none else none) else if 0 ≤ x2.getD x32.toNat 0 ∧ x2.getD x32.toNat 0 < (x1.length : Int) then if 0 ≤ x32 ∧ x32 < (y0_0.length : Int) then if x1.getD (x2.getD x32.toNat 0).toNat 0 = y0_0.getD x32.toNat 0 then (ref4_Spread.l0 n x1 x2 x31 (IntKind.i64.wrap (x32 + 1)) y0_0 y0_1) else some (.inr 1) else none else none else none) else some (.inl ())
def ref4_Spread.l2 : Nat → (List Int) → (List Int) → Int → Int → Int → Int → Int → (List Int) → (List Int) → (List Int) → (List Int) → (List Int) → (List Int) → Option ((List Int))
  | 0, _, _, _, _, _, _, _, _, _, _, _, _, _ => none
  | n + 1, x1, x2, x10, x86, x87, x94, x95, y0_0, y0_1, y3, y4, y5, y6 => if x95 < x94 then (if 0 ≤ x95 ∧ x95 < (x2.length : Int) then if 0 ≤ x2.getD x95.toNat 0 ∧ x2.getD x95.toNat 0 < (y3.length : Int) then if (x2.getD x95.toNat 0).toNat < y3.length then if y4.length + [y3.getD (x2.getD x95.toNat 0).toNat 0].length ≤ 281474976710656 ∧ (y4.length + [y3.getD (x2.getD x95.toNat 0).toNat 0].length) * 8 ≤ 140737488355328 then ref4_Spread.l2 n x1 x2 x10 x86 x87 x94 (IntKind.i64.wrap (x95 + 1)) y0_0 y0_1 y3 (y4 ++ [y3.getD (x2.getD x95.toNat 0).toNat 0]) y5 y6 else none else none else none else none) else some y4
def ref4_Spread.l1 (k : Nat) : Nat → (List Int) → (List Int) → Int → Int → (List Int) → (List Int) → (List Int) → (List Int) → Option ((List Int))
  | 0, _, _, _, _, _, _, _, _ => none
  | n + 1, x1, x2, x86, x87, y0_0, y0_1, y3, y4 => if x87 < x86 then ((ref1_Place.f k x1 x87).bind fun t5 => (ref4_Spread.l2 n x1 x2 x87 x86 x87 (x2.length : Int) 0 y0_0 y0_1 t5 [] y3 y4).bind fun t6 => (ref4_number.f k y0_0 y0_1 t6).bind fun t7 => if 0 ≤ x87 ∧ x87 < (y4.length : Int) then if x87.toNat < y4.length then ref4_Spread.l1 k n x1 x2 x86 (IntKind.i64.wrap (x87 + 1)) y0_0 y0_1 y3 (y4.set x87.toNat t7) else none else none) else some y4
def ref4_Spread.f (k : Nat) (a0_0 : List Int) (a0_1 : List Int) (a1 : List Int) (a2 : List Int) : Option (Int × (List Int) × (List Int)) := (ref1_Tensor.f k a0_0 a0_1).bind fun t1 => if t1 = true then ((ref1_Right.f k a1).bind fun t2 => if t2 = true then (if (a2.length : Int) = (a0_0.length : Int) then ((ref4_Spread.l0 k a1 a2 (a2.length : Int) 0 a0_0 a0_1).bind fun t3 => Sum.elim (fun t3 => (ref1_Fill.f k a1 0).bind fun t4 => (ref4_Spread.l1 k k a1 a2 (t4.2.length : Int) 0 a0_0 a0_1 t4.1 t4.2).bind fun t8 => some (0, t4.1, t8)) (fun t3 => some (t3, [], [])) t3) else some (1, [], [])) else some (13, [], [])) else some (13, [], [])

def ref4_Slice.l0 : Nat → (List Int) → (List Int) → Int → Int → (List Int) → (List Int) → Option (Unit ⊕ Int)
  | 0, _, _, _, _, _, _ => none
  | n + 1, x1, x2, x33, x34, y0_0, y0_1 => if x34 < x33 then (if 0 ≤ x34 ∧ x34 < (x1.length : Int) then if x1.getD x34.toNat 0 < 0 then (some (.inr 1)) else if 0 ≤ x34 ∧ x34 < (x2.length : Int) then if x2.getD x34.toNat 0 < 0 then (some (.inr 1)) else if 0 ≤ x34 ∧ x34 < (y0_0.length : Int) then if y0_0.getD x34.toNat 0 < x1.getD x34.toNat 0 then (some (.inr 1)) else if IntKind.i64.wrap ((y0_0.getD x34.toNat 0) - (x1.getD x34.toNat 0)) < x2.getD x34.toNat 0 then (some (.inr 1)) else ref4_Slice.l0 n x1 x2 x33 (IntKind.i64.wrap (x34 + 1)) y0_0 y0_1 else none else none else none) else some (.inl ())
def ref4_Slice.l2 : Nat → (List Int) → (List Int) → Int → Int → Int → Int → Int → (List Int) → (List Int) → (List Int) → (List Int) → (List Int) → Option ((List Int))
  | 0, _, _, _, _, _, _, _, _, _, _, _, _ => none
  | n + 1, x1, x2, x10, x84, x85, x92, x93, y0_0, y0_1, y3, y4, y5 => if x93 < x92 then (if 0 ≤ x93 ∧ x93 < (y3.length : Int) then if x93.toNat < y3.length then if 0 ≤ x93 ∧ x93 < (x1.length : Int) then ref4_Slice.l2 n x1 x2 x10 x84 x85 x92 (IntKind.i64.wrap (x93 + 1)) y0_0 y0_1 (y3.set x93.toNat (IntKind.i64.wrap ((y3.getD x93.toNat 0) + (x1.getD x93.toNat 0)))) y4 y5 else none else none else none) else some y3
def ref4_Slice.l1 (k : Nat) : Nat → (List Int) → (List Int) → Int → Int → (List Int) → (List Int) → (List Int) → (List Int) → Option ((List Int))
  | 0, _, _, _, _, _, _, _, _ => none
  | n + 1, x1, x2, x84, x85, y0_0, y0_1, y3, y4 => if x85 < x84 then ((ref1_Place.f k x2 x85).bind fun t4 => (ref4_Slice.l2 n x1 x2 x85 x84 x85 (t4.length : Int) 0 y0_0 y0_1 t4 y3 y4).bind fun t5 => (ref4_number.f k y0_0 y0_1 t5).bind fun t6 => if 0 ≤ x85 ∧ x85 < (y4.length : Int) then if x85.toNat < y4.length then ref4_Slice.l1 k n x1 x2 x84 (IntKind.i64.wrap (x85 + 1)) y0_0 y0_1 y3 (y4.set x85.toNat t6) else none else none) else some y4
def ref4_Slice.f (k : Nat) (a0_0 : List Int) (a0_1 : List Int) (a1 : List Int) (a2 : List Int) : Option (Int × (List Int) × (List Int)) := (ref1_Tensor.f k a0_0 a0_1).bind fun t1 => if t1 = true then (if (a1.length : Int) = (a0_0.length : Int) then (if (a2.length : Int) = (a0_0.length : Int) then ((ref4_Slice.l0 k a1 a2 (a1.length : Int) 0 a0_0 a0_1).bind fun t2 => Sum.elim (fun t2 => (ref1_Fill.f k a2 0).bind fun t3 => (ref4_Slice.l1 k k a1 a2 (t3.2.length : Int) 0 a0_0 a0_1 t3.1 t3.2).bind fun t7 => some (0, t3.1, t7)) (fun t2 => some (t2, [], [])) t2) else some (1, [], [])) else some (1, [], [])) else some (13, [], [])

def ref4_Pad.l0 : Nat → (List Int) → (List Int) → Int → Int → Int → (List Int) → (List Int) → (List Int) → Option ((List Int) ⊕ Int)
  | 0, _, _, _, _, _, _, _, _ => none
  | n + 1, x1, x2, x3, x36, x37, y0_0, y0_1, y2 => if x37 < x36 then (if 0 ≤ x37 ∧ x37 < (x1.length : Int) then if x1.getD x37.toNat 0 < 0 then (some (.inr 1)) else if 0 ≤ x37 ∧ x37 < (x2.length : Int) then if x2.getD x37.toNat 0 < 0 then (some (.inr 1)) else if 32 < x1.getD x37.toNat 0 then (some (.inr 1)) else if 32 < x2.getD x37.toNat 0 then (some (.inr 1)) else if 0 ≤ x37 ∧ x37 < (y0_0.length : Int) then if y2.length + [IntKind.i64.wrap ((IntKind.i64.wrap ((x1.getD x37.toNat 0) + (y0_0.getD x37.toNat 0))) + (x2.getD x37.toNat 0))].length ≤ 281474976710656 ∧ (y2.length + [IntKind.i64.wrap ((IntKind.i64.wrap ((x1.getD x37.toNat 0) + (y0_0.getD x37.toNat 0))) + (x2.getD x37.toNat 0))].length) * 8 ≤ 140737488355328 then ref4_Pad.l0 n x1 x2 x3 x36 (IntKind.i64.wrap (x37 + 1)) y0_0 y0_1 (y2 ++ [IntKind.i64.wrap ((IntKind.i64.wrap ((x1.getD x37.toNat 0) + (y0_0.getD x37.toNat 0))) + (x2.getD x37.toNat 0))]) else none else none else none else none) else some (.inl y2)
def ref4_Pad.l2 : Nat → (List Int) → Int → Int → Int → Int → Int → (List Int) → (List Int) → (List Int) → (List Int) → (List Int) → (List Int) → Option ((List Int))
  | 0, _, _, _, _, _, _, _, _, _, _, _, _ => none
  | n + 1, x1, x13, x95, x96, x104, x105, y0_0, y0_1, y2, y4, y5, y6 => if x105 < x104 then (if 0 ≤ x105 ∧ x105 < (y4.length : Int) then if x105.toNat < y4.length then if 0 ≤ x105 ∧ x105 < (x1.length : Int) then ref4_Pad.l2 n x1 x13 x95 x96 x104 (IntKind.i64.wrap (x105 + 1)) y0_0 y0_1 y2 (y4.set x105.toNat (IntKind.i64.wrap ((y4.getD x105.toNat 0) + (x1.getD x105.toNat 0)))) y5 y6 else none else none else none) else some y4
def ref4_Pad.l1 (k : Nat) : Nat → (List Int) → Int → Int → (List Int) → (List Int) → (List Int) → (List Int) → (List Int) → Option ((List Int))
  | 0, _, _, _, _, _, _, _, _ => none
  | n + 1, x1, x95, x96, y0_0, y0_1, y2, y4, y5 => if x96 < x95 then ((ref1_Place.f k y0_0 x96).bind fun t5 => (ref4_Pad.l2 n x1 x96 x95 x96 (t5.length : Int) 0 y0_0 y0_1 y2 t5 y4 y5).bind fun t6 => (ref1_Index.f k y2 t6).bind fun t7 => if 0 ≤ x96 ∧ x96 < (y0_1.length : Int) then if 0 ≤ t7 ∧ t7 < (y5.length : Int) then if t7.toNat < y5.length then ref4_Pad.l1 k n x1 x95 (IntKind.i64.wrap (x96 + 1)) y0_0 y0_1 y2 y4 (y5.set t7.toNat (y0_1.getD x96.toNat 0)) else none else none else none) else some y5
def ref4_Pad.f (k : Nat) (a0_0 : List Int) (a0_1 : List Int) (a1 : List Int) (a2 : List Int) (a3 : Int) : Option (Int × (List Int) × (List Int)) := (ref1_Tensor.f k a0_0 a0_1).bind fun t1 => if t1 = true then (if (a1.length : Int) = (a0_0.length : Int) then (if (a2.length : Int) = (a0_0.length : Int) then ((ref4_Pad.l0 k a1 a2 a3 (a1.length : Int) 0 a0_0 a0_1 []).bind fun t2 => Sum.elim (fun t2 => (ref1_Right.f k t2).bind fun t3 => if t3 = true then ((ref1_Fill.f k t2 a3).bind fun t4 => (ref4_Pad.l1 k k a1 (a0_1.length : Int) 0 a0_0 a0_1 t2 t4.1 t4.2).bind fun t8 => some (0, t4.1, t8)) else some (13, [], [])) (fun t2 => some (t2, [], [])) t2) else some (1, [], [])) else some (1, [], [])) else some (13, [], [])

def ref4_Join.l0 (k : Nat) : Nat → Int → (List ((List Int) × (List Int))) → Int → Int → Option (Unit ⊕ Int)
  | 0, _, _, _, _ => none
  | n + 1, x0, x1, x16, x17 => if x17 < x16 then (if 0 ≤ x17 ∧ x17 < (x1.length : Int) then (ref1_Tensor.f k (x1.getD x17.toNat ([], [])).1 (x1.getD x17.toNat ([], [])).2).bind fun t1 => if t1 = true then (ref4_Join.l0 k n x0 x1 x16 (IntKind.i64.wrap (x17 + 1))) else some (.inr 13) else none) else some (.inl ())
def ref4_Join.l2 : Nat → Int → (List ((List Int) × (List Int))) → Int → Int → Int → Int → Int → (List Int) → Option (Unit ⊕ Int)
  | 0, _, _, _, _, _, _, _, _ => none
  | n + 1, x0, x1, x8, x55, x56, x70, x71, y1 => if x71 < x70 then (if x71 = x0 then (ref4_Join.l2 n x0 x1 x8 x55 x56 x70 (IntKind.i64.wrap (x71 + 1)) y1) else if 0 ≤ x8 ∧ x8 < (x1.length : Int) then if 0 ≤ x71 ∧ x71 < ((x1.getD x8.toNat ([], [])).1.length : Int) then if 0 ≤ x71 ∧ x71 < (y1.length : Int) then if x71.toNat < y1.length then if (x1.getD x8.toNat ([], [])).1.getD x71.toNat 0 = y1.getD x71.toNat 0 then (ref4_Join.l2 n x0 x1 x8 x55 x56 x70 (IntKind.i64.wrap (x71 + 1)) y1) else some (.inr 13) else none else none else none else none) else some (.inl ())
def ref4_Join.l1 (k : Nat) : Nat → Int → (List ((List Int) × (List Int))) → Int → Int → (List Int) → Option ((List Int) ⊕ Int)
  | 0, _, _, _, _, _ => none
  | n + 1, x0, x1, x55, x56, y1 => if x56 < x55 then (if 0 ≤ x56 ∧ x56 < (x1.length : Int) then if ((x1.getD x56.toNat ([], [])).1.length : Int) = (y1.length : Int) then ((ref4_Join.l2 n x0 x1 x56 x55 x56 (y1.length : Int) 0 y1).bind fun t3 => Sum.elim (fun t3 => if 0 ≤ x0 ∧ x0 < (y1.length : Int) then if x0.toNat < y1.length then if 0 ≤ x0 ∧ x0 < ((x1.getD x56.toNat ([], [])).1.length : Int) then if 0 ≤ x0 ∧ x0 < ((y1.set x0.toNat (IntKind.i64.wrap ((y1.getD x0.toNat 0) + ((x1.getD x56.toNat ([], [])).1.getD x0.toNat 0)))).length : Int) then if x0.toNat < (y1.set x0.toNat (IntKind.i64.wrap ((y1.getD x0.toNat 0) + ((x1.getD x56.toNat ([], [])).1.getD x0.toNat 0)))).length then if 32 < (y1.set x0.toNat (IntKind.i64.wrap ((y1.getD x0.toNat 0) + ((x1.getD x56.toNat ([], [])).1.getD x0.toNat 0)))).getD x0.toNat 0 then (some (.inr 13)) else ref4_Join.l1 k n x0 x1 x55 (IntKind.i64.wrap (x56 + 1)) (y1.set x0.toNat (IntKind.i64.wrap ((y1.getD x0.toNat 0) + ((x1.getD x56.toNat ([], [])).1.getD x0.toNat 0)))) else none else none else none else none else none) (fun t3 => some (.inr t3)) t3) else some (.inr 13) else none) else some (.inl y1)
def ref4_Join.l4 (k : Nat) : Nat → Int → (List ((List Int) × (List Int))) → Int → Int → Int → Int → Int → Int → (List Int) → (List Int) → (List Int) → Option ((List Int))
  | 0, _, _, _, _, _, _, _, _, _, _, _ => none
  | n + 1, x0, x1, x11, x12, x124, x125, x133, x134, y1, y3, y4 => if x134 < x133 then (if 0 ≤ x12 ∧ x12 < (x1.length : Int) then (ref1_Place.f k (x1.getD x12.toNat ([], [])).1 x134).bind fun t7 => if 0 ≤ x0 ∧ x0 < (t7.length : Int) then if x0.toNat < t7.length then (ref1_Index.f k y1 (t7.set x0.toNat (IntKind.i64.wrap ((t7.getD x0.toNat 0) + x11)))).bind fun t8 => if 0 ≤ x134 ∧ x134 < ((x1.getD x12.toNat ([], [])).2.length : Int) then if 0 ≤ t8 ∧ t8 < (y4.length : Int) then if t8.toNat < y4.length then ref4_Join.l4 k n x0 x1 x11 x12 x124 x125 x133 (IntKind.i64.wrap (x134 + 1)) y1 y3 (y4.set t8.toNat ((x1.getD x12.toNat ([], [])).2.getD x134.toNat 0)) else none else none else none else none else none else none) else some y4
def ref4_Join.l3 (k : Nat) : Nat → Int → (List ((List Int) × (List Int))) → Int → Int → Int → (List Int) → (List Int) → (List Int) → Option ((List Int))
  | 0, _, _, _, _, _, _, _, _ => none
  | n + 1, x0, x1, x11, x124, x125, y1, y3, y4 => if x125 < x124 then (if 0 ≤ x125 ∧ x125 < (x1.length : Int) then (ref4_Join.l4 k n x0 x1 x11 x125 x124 x125 ((x1.getD x125.toNat ([], [])).2.length : Int) 0 y1 y3 y4).bind fun t9 => if 0 ≤ x0 ∧ x0 < ((x1.getD x125.toNat ([], [])).1.length : Int) then ref4_Join.l3 k n x0 x1 (IntKind.i64.wrap (x11 + ((x1.getD x125.toNat ([], [])).1.getD x0.toNat 0))) x124 (IntKind.i64.wrap (x125 + 1)) y1 y3 t9 else none else none) else some y4
def ref4_Join.f (k : Nat) (a0 : Int) (a1 : List ((List Int) × (List Int))) : Option (Int × (List Int) × (List Int)) := (ref4_Join.l0 k k a0 a1 (a1.length : Int) 0).bind fun t2 => Sum.elim (fun t2 => if (a1.length : Int) = 0 then (some (1, [], [])) else if a0 < 0 then (some (1, [], [])) else if (0 : Int) ≤ 0 ∧ 0 < (a1.length : Int) then if ((a1.getD 0 ([], [])).1.length : Int) ≤ a0 then (some (1, [], [])) else if 0 + (a1.getD 0 ([], [])).1.length ≤ 281474976710656 ∧ (0 + (a1.getD 0 ([], [])).1.length) * 8 ≤ 140737488355328 then if 0 ≤ a0 ∧ a0 < (([] ++ (a1.getD 0 ([], [])).1).length : Int) then if a0.toNat < ([] ++ (a1.getD 0 ([], [])).1).length then (ref4_Join.l1 k k a0 a1 (a1.length : Int) 0 (([] ++ (a1.getD 0 ([], [])).1).set a0.toNat 0)).bind fun t4 => Sum.elim (fun t4 => (ref1_Right.f k t4).bind fun t5 => if t5 = true then ((ref1_Fill.f k t4 0).bind fun t6 => (ref4_Join.l3 k k a0 a1 0 (a1.length : Int) 0 t4 t6.1 t6.2).bind fun t10 => some (0, t6.1, t10)) else some (13, [], [])) (fun t4 => some (t4, [], [])) t4 else none else none else none else none) (fun t2 => some (t2, [], [])) t2

def law5_same.f (k : Nat) (a0_0 : List Int) (a0_1 : List Int) (a1 : List Int) (a2 : List Int) (a3 : Int) (a4 : Int) (a5 : List ((List Int) × (List Int))) : Option (Bool) := (axes_Turn.f k a0_0 a0_1 a1).bind fun t1 => (ref4_Turn.f k a0_0 a0_1 a1).bind fun t2 => (law5_equal.f k t1.2.1 t1.2.2 t1.1 t2.2.1 t2.2.2 t2.1).bind fun t3 => if t3 = true then ((axes_Spread.f k a0_0 a0_1 a2 a1).bind fun t4 => (ref4_Spread.f k a0_0 a0_1 a2 a1).bind fun t5 => (law5_equal.f k t4.2.1 t4.2.2 t4.1 t5.2.1 t5.2.2 t5.1).bind fun t6 => if t6 = true then ((axes_Slice.f k a0_0 a0_1 a1 a2).bind fun t7 => (ref4_Slice.f k a0_0 a0_1 a1 a2).bind fun t8 => (law5_equal.f k t7.2.1 t7.2.2 t7.1 t8.2.1 t8.2.2 t8.1).bind fun t9 => if t9 = true then ((axes_Pad.f k a0_0 a0_1 a1 a2 a3).bind fun t10 => (ref4_Pad.f k a0_0 a0_1 a1 a2 a3).bind fun t11 => (law5_equal.f k t10.2.1 t10.2.2 t10.1 t11.2.1 t11.2.2 t11.1).bind fun t12 => if t12 = true then ((axes_Join.f k a4 a5).bind fun t13 => (ref4_Join.f k a4 a5).bind fun t14 => (law5_equal.f k t13.2.1 t13.2.2 t13.1 t14.2.1 t14.2.2 t14.1).bind fun t15 => some t15) else some false) else some false) else some false) else some false

def law5_AxesTells.l0 : Nat → (List Int) → (List Int) → Int → Int → Int → Int → (List Int) → (List Int) → (List Int) → Int → (List Int) → (List Int) → (List Int) → (List Int) → (List Int) → Option (Int × (List Int) × (List Int))
  | 0, _, _, _, _, _, _, _, _, _, _, _, _, _, _, _ => none
  | n + 1, x1, x2, x3, x4, x39, x40, y0_0, y0_1, y1_0, y1_1, y2, y4, y5, y6, y7 => if x40 < x39 then ((keep_Tape_Next.f (y2.length : Int) y1_0 y1_1).bind fun t3 => if y4.length + [t3.1].length ≤ 281474976710656 ∧ (y4.length + [t3.1].length) * 8 ≤ 140737488355328 then if 0 ≤ x40 ∧ x40 < (y2.length : Int) then if x40.toNat < y2.length then (keep_Tape_Next.f (IntKind.i64.wrap ((y2.getD x40.toNat 0) + 2)) y1_0 t3.2).bind fun t4 => if y5.length + [t4.1].length ≤ 281474976710656 ∧ (y5.length + [t4.1].length) * 8 ≤ 140737488355328 then law5_AxesTells.l0 n x1 x2 x3 x4 x39 (IntKind.i64.wrap (x40 + 1)) y0_0 y0_1 y1_0 t4.2 y2 (y4 ++ [t3.1]) (y5 ++ [t4.1]) y6 y7 else none else none else none else none) else some (y1_1, y4, y5)
def law5_AxesTells.f (k : Nat) (a0 : List Int) (a1 : List Int) (a2 : List Int) (a3 : Int) (a4 : Int) (a5_0 : List Int) (a5_1 : List Int) : Option (Bool) := (keep_Tape_Shape.f k a0 0).bind fun t1 => (keep_Tape_Tensor.f k t1.2 a0 t1.1).bind fun t2 => if 5 < (a1.length : Int) then (if 0 ≤ ((0 : Nat) : Int) ∧ ((0 : Nat) : Int) ≤ 5 ∧ 5 ≤ (a1.length : Int) then if 5 < (a2.length : Int) then (if 0 ≤ ((0 : Nat) : Int) ∧ ((0 : Nat) : Int) ≤ 5 ∧ 5 ≤ (a2.length : Int) then (law5_AxesTells.l0 k ((a1.take 5).drop 0) ((a2.take 5).drop 0) a3 a4 (t1.2.length : Int) 0 a5_0 a5_1 a0 t2.1 t1.2 [] [] t2.2.1 t2.2.2).bind fun t5 => (keep_Tape_Tensor.f k t1.2 a0 t5.1).bind fun t6 => (keep_Tape_Shape.f k a0 t6.1).bind fun t7 => (keep_Tape_Tensor.f k t7.2 a0 t7.1).bind fun t8 => (keep_Tape_Next.f 3 a0 t8.1).bind fun t9 => if 0 ≤ ((0 : Nat) : Int) ∧ ((0 : Nat) : Int) ≤ IntKind.i64.wrap (1 + t9.1) ∧ IntKind.i64.wrap (1 + t9.1) ≤ ([(t2.2.1, t2.2.2), (t6.2.1, t6.2.2), (t8.2.1, t8.2.2)].length : Int) then (law5_same.f k t2.2.1 t2.2.2 t5.2.1 t5.2.2 a3 (bits .and .i64 a4 3) (([(t2.2.1, t2.2.2), (t6.2.1, t6.2.2), (t8.2.1, t8.2.2)].take (IntKind.i64.wrap (1 + t9.1)).toNat).drop 0)).bind fun t10 => if t10 = true then ((law5_same.f k t2.2.1 t2.2.2 ((a1.take 5).drop 0) ((a2.take 5).drop 0) a3 a4 (([(t2.2.1, t2.2.2), (t6.2.1, t6.2.2), (t8.2.1, t8.2.2)].take (IntKind.i64.wrap (1 + t9.1)).toNat).drop 0)).bind fun t11 => if t11 = true then ((law5_same.f k a5_0 a5_1 ((a1.take 5).drop 0) t5.2.2 a3 a4 [(a5_0, a5_1), (t2.2.1, t2.2.2)]).bind fun t12 => if t12 = true then ((law5_known.f k).bind fun t13 => some t13) else some false) else some false) else some false else none else none) else (law5_AxesTells.l0 k ((a1.take 5).drop 0) a2 a3 a4 (t1.2.length : Int) 0 a5_0 a5_1 a0 t2.1 t1.2 [] [] t2.2.1 t2.2.2).bind fun t14 => (keep_Tape_Tensor.f k t1.2 a0 t14.1).bind fun t15 => (keep_Tape_Shape.f k a0 t15.1).bind fun t16 => (keep_Tape_Tensor.f k t16.2 a0 t16.1).bind fun t17 => (keep_Tape_Next.f 3 a0 t17.1).bind fun t18 => if 0 ≤ ((0 : Nat) : Int) ∧ ((0 : Nat) : Int) ≤ IntKind.i64.wrap (1 + t18.1) ∧ IntKind.i64.wrap (1 + t18.1) ≤ ([(t2.2.1, t2.2.2), (t15.2.1, t15.2.2), (t17.2.1, t17.2.2)].length : Int) then (law5_same.f k t2.2.1 t2.2.2 t14.2.1 t14.2.2 a3 (bits .and .i64 a4 3) (([(t2.2.1, t2.2.2), (t15.2.1, t15.2.2), (t17.2.1, t17.2.2)].take (IntKind.i64.wrap (1 + t18.1)).toNat).drop 0)).bind fun t19 => if t19 = true then ((law5_same.f k t2.2.1 t2.2.2 ((a1.take 5).drop 0) a2 a3 a4 (([(t2.2.1, t2.2.2), (t15.2.1, t15.2.2), (t17.2.1, t17.2.2)].take (IntKind.i64.wrap (1 + t18.1)).toNat).drop 0)).bind fun t20 => if t20 = true then ((law5_same.f k a5_0 a5_1 ((a1.take 5).drop 0) t14.2.2 a3 a4 [(a5_0, a5_1), (t2.2.1, t2.2.2)]).bind fun t21 => if t21 = true then ((law5_known.f k).bind fun t22 => some t22) else some false) else some false) else some false else none else none) else if 5 < (a2.length : Int) then (if 0 ≤ ((0 : Nat) : Int) ∧ ((0 : Nat) : Int) ≤ 5 ∧ 5 ≤ (a2.length : Int) then (law5_AxesTells.l0 k a1 ((a2.take 5).drop 0) a3 a4 (t1.2.length : Int) 0 a5_0 a5_1 a0 t2.1 t1.2 [] [] t2.2.1 t2.2.2).bind fun t23 => (keep_Tape_Tensor.f k t1.2 a0 t23.1).bind fun t24 => (keep_Tape_Shape.f k a0 t24.1).bind fun t25 => (keep_Tape_Tensor.f k t25.2 a0 t25.1).bind fun t26 => (keep_Tape_Next.f 3 a0 t26.1).bind fun t27 => if 0 ≤ ((0 : Nat) : Int) ∧ ((0 : Nat) : Int) ≤ IntKind.i64.wrap (1 + t27.1) ∧ IntKind.i64.wrap (1 + t27.1) ≤ ([(t2.2.1, t2.2.2), (t24.2.1, t24.2.2), (t26.2.1, t26.2.2)].length : Int) then (law5_same.f k t2.2.1 t2.2.2 t23.2.1 t23.2.2 a3 (bits .and .i64 a4 3) (([(t2.2.1, t2.2.2), (t24.2.1, t24.2.2), (t26.2.1, t26.2.2)].take (IntKind.i64.wrap (1 + t27.1)).toNat).drop 0)).bind fun t28 => if t28 = true then ((law5_same.f k t2.2.1 t2.2.2 a1 ((a2.take 5).drop 0) a3 a4 (([(t2.2.1, t2.2.2), (t24.2.1, t24.2.2), (t26.2.1, t26.2.2)].take (IntKind.i64.wrap (1 + t27.1)).toNat).drop 0)).bind fun t29 => if t29 = true then ((law5_same.f k a5_0 a5_1 a1 t23.2.2 a3 a4 [(a5_0, a5_1), (t2.2.1, t2.2.2)]).bind fun t30 => if t30 = true then ((law5_known.f k).bind fun t31 => some t31) else some false) else some false) else some false else none else none) else (law5_AxesTells.l0 k a1 a2 a3 a4 (t1.2.length : Int) 0 a5_0 a5_1 a0 t2.1 t1.2 [] [] t2.2.1 t2.2.2).bind fun t32 => (keep_Tape_Tensor.f k t1.2 a0 t32.1).bind fun t33 => (keep_Tape_Shape.f k a0 t33.1).bind fun t34 => (keep_Tape_Tensor.f k t34.2 a0 t34.1).bind fun t35 => (keep_Tape_Next.f 3 a0 t35.1).bind fun t36 => if 0 ≤ ((0 : Nat) : Int) ∧ ((0 : Nat) : Int) ≤ IntKind.i64.wrap (1 + t36.1) ∧ IntKind.i64.wrap (1 + t36.1) ≤ ([(t2.2.1, t2.2.2), (t33.2.1, t33.2.2), (t35.2.1, t35.2.2)].length : Int) then (law5_same.f k t2.2.1 t2.2.2 t32.2.1 t32.2.2 a3 (bits .and .i64 a4 3) (([(t2.2.1, t2.2.2), (t33.2.1, t33.2.2), (t35.2.1, t35.2.2)].take (IntKind.i64.wrap (1 + t36.1)).toNat).drop 0)).bind fun t37 => if t37 = true then ((law5_same.f k t2.2.1 t2.2.2 a1 a2 a3 a4 (([(t2.2.1, t2.2.2), (t33.2.1, t33.2.2), (t35.2.1, t35.2.2)].take (IntKind.i64.wrap (1 + t36.1)).toNat).drop 0)).bind fun t38 => if t38 = true then ((law5_same.f k a5_0 a5_1 a1 t32.2.2 a3 a4 [(a5_0, a5_1), (t2.2.1, t2.2.2)]).bind fun t39 => if t39 = true then ((law5_known.f k).bind fun t40 => some t40) else some false) else some false) else some false else none

end Go.Pf

/- What functions of the program tell, as plain functions (printed by prt.py). -/
namespace Go.Pf
open Go

def spec_Parts.l0 : Nat → (List Int) → (List Int) → Int → Int → (List Int) → Option ((List Int))
  | 0, _, _, _, _, _ => none
  | n + 1, x0, x17, x18, x19, y0 => if x19 < x18 then (if 0 ≤ x19 ∧ x19 < (x17.length : Int) then if 0 ≤ x19 ∧ x19 < (y0.length : Int) then if x19.toNat < y0.length then if x17.getD x19.toNat 0 = -1 then (spec_Parts.l0 n x0 x17 x18 (IntKind.i64.wrap (x19 + 1)) (y0.set x19.toNat 1)) else if 0 ≤ x17.getD x19.toNat 0 ∧ x17.getD x19.toNat 0 < (x0.length : Int) then if 0 ≤ x19 ∧ x19 < ((y0.set x19.toNat 1).length : Int) then if x19.toNat < (y0.set x19.toNat 1).length then spec_Parts.l0 n x0 x17 x18 (IntKind.i64.wrap (x19 + 1)) ((y0.set x19.toNat 1).set x19.toNat (x0.getD (x17.getD x19.toNat 0).toNat 0)) else none else none else none else none else none else none) else some y0
def spec_Parts.f (k : Nat) (a0 : List Int) (a1 : List Int) : Option ((List Int)) := (spec_Right.f k a0 a1 (a1.length : Int)).bind fun t1 => if t1 = true then (if 0 ≤ (a1.length : Int) ∧ (a1.length : Int) ≤ 281474976710656 ∧ ((8 : Nat) : Int) * (a1.length : Int) ≤ 140737488355328 then (spec_Parts.l0 k a0 a1 (a1.length : Int) 0 (List.replicate (a1.length : Int).toNat (0 : Int))).bind fun t2 => some t2 else none) else some []

def spec_Copies.l0 : Nat → Int → Int → Int → (List Int) → Option (Int)
  | 0, _, _, _, _ => none
  | n + 1, x5, x19, x20, y0 => if x20 < x19 then (if 0 ≤ x20 ∧ x20 < (y0.length : Int) then if x20.toNat < y0.length then if y0.getD x20.toNat 0 ≠ 0 then spec_Copies.l0 n (IntKind.i64.wrap (x5.tdiv (y0.getD x20.toNat 0))) x19 (IntKind.i64.wrap (x20 + 1)) y0 else none else none else none) else some x5
def spec_Copies.f (k : Nat) (a0 : List Int) (a1 : List Int) : Option (Int) := (spec_Right.f k a0 a1 (a1.length : Int)).bind fun t1 => if t1 = true then ((mesh_Devices.f k a0).bind fun t2 => (spec_Parts.f k a0 a1).bind fun t3 => (spec_Copies.l0 k t2 (t3.length : Int) 0 t3).bind fun t4 => some t4) else some 0

def spec_First.l0 (k : Nat) : Nat → (List Int) → (List Int) → Int → Int → (List Int) → Option ((List Int))
  | 0, _, _, _, _, _ => none
  | n + 1, x0, x1, x29, x30, y0 => if x30 < x29 then ((slices_Contains_int.f k x1 x30).bind fun t4 => if t4 = true then (spec_First.l0 k n x0 x1 x29 (IntKind.i64.wrap (x30 + 1)) y0) else if 0 ≤ x30 ∧ x30 < (y0.length : Int) then if x30.toNat < y0.length then spec_First.l0 k n x0 x1 x29 (IntKind.i64.wrap (x30 + 1)) (y0.set x30.toNat 0) else none else none) else some y0
def spec_First.f (k : Nat) (a0 : List Int) (a1 : List Int) (a2 : Int) : Option (Int) := (spec_Right.f k a0 a1 (a1.length : Int)).bind fun t1 => if t1 = true then (if a2 < 0 then (some (-1)) else (mesh_Devices.f k a0).bind fun t2 => if t2 ≤ a2 then (some (-1)) else (mesh_At.f k a0 a2).bind fun t3 => (spec_First.l0 k k a0 a1 (t3.length : Int) 0 t3).bind fun t5 => (mesh_Of.f k a0 t5).bind fun t6 => some t6) else some (-1)

def ref14_First.l1 : Nat → (List Int) → (List Int) → Int → Bool → Int → Int → Int → Int → (List Int) → Option (Bool)
  | 0, _, _, _, _, _, _, _, _, _ => none
  | n + 1, x0, x1, x8, x9, x31, x32, x36, x37, y0 => if x37 < x36 then (if x9 = true then (ref14_First.l1 n x0 x1 x8 true x31 x32 x36 (IntKind.i64.wrap (x37 + 1)) y0) else if 0 ≤ x37 ∧ x37 < (x1.length : Int) then ref14_First.l1 n x0 x1 x8 (decide (x1.getD x37.toNat 0 = x8)) x31 x32 x36 (IntKind.i64.wrap (x37 + 1)) y0 else none) else some x9
def ref14_First.l0 (k : Nat) : Nat → (List Int) → (List Int) → Int → Int → (List Int) → Option ((List Int))
  | 0, _, _, _, _, _ => none
  | n + 1, x0, x1, x31, x32, y0 => if x32 < x31 then ((ref14_First.l1 n x0 x1 x32 false x31 x32 (x1.length : Int) 0 y0).bind fun t4 => if t4 = true then (ref14_First.l0 k n x0 x1 x31 (IntKind.i64.wrap (x32 + 1)) y0) else if 0 ≤ x32 ∧ x32 < (y0.length : Int) then if x32.toNat < y0.length then ref14_First.l0 k n x0 x1 x31 (IntKind.i64.wrap (x32 + 1)) (y0.set x32.toNat 0) else none else none) else some y0
def ref14_First.f (k : Nat) (a0 : List Int) (a1 : List Int) (a2 : Int) : Option (Int) := if a2 < 0 then (some (-1)) else (ref14_Devices.f k a0).bind fun t1 => if t1 ≤ a2 then (some (-1)) else (ref14_Spec.f k a0 a1 (a1.length : Int)).bind fun t2 => if t2 = true then ((ref14_At.f k a0 a2).bind fun t3 => (ref14_First.l0 k k a0 a1 (t3.length : Int) 0 t3).bind fun t5 => (ref14_Of.f k a0 t5).bind fun t6 => some t6) else some (-1)

def math_bits_Mul64.f (a0 : Int) (a1 : Int) : Option (Int × Int) := if 0 ≤ (32 : Int) then some (IntKind.u64.wrap ((IntKind.u64.wrap ((IntKind.u64.wrap ((a0.fdiv (2 ^ (min 32 64))) * (a1.fdiv (2 ^ (min 32 64))))) + ((IntKind.u64.wrap ((IntKind.u64.wrap ((a0.fdiv (2 ^ (min 32 64))) * (bits .and .u64 a1 4294967295))) + ((IntKind.u64.wrap ((bits .and .u64 a0 4294967295) * (bits .and .u64 a1 4294967295))).fdiv (2 ^ (min 32 64))))).fdiv (2 ^ (min 32 64))))) + ((IntKind.u64.wrap ((bits .and .u64 (IntKind.u64.wrap ((IntKind.u64.wrap ((a0.fdiv (2 ^ (min 32 64))) * (bits .and .u64 a1 4294967295))) + ((IntKind.u64.wrap ((bits .and .u64 a0 4294967295) * (bits .and .u64 a1 4294967295))).fdiv (2 ^ (min 32 64))))) 4294967295) + (IntKind.u64.wrap ((bits .and .u64 a0 4294967295) * (a1.fdiv (2 ^ (min 32 64))))))).fdiv (2 ^ (min 32 64)))), IntKind.u64.wrap (a0 * a1)) else none

def math_bits_Mul.f (a0 : Int) (a1 : Int) : Option (Int × Int) := (math_bits_Mul64.f a0 a1).bind fun t1 => some (t1.1, t1.2)

def slices_Repeat_int.l0 : Nat → Int → (List Int) → Option ((List Int))
  | 0, _, _ => none
  | n + 1, x8, y0 => if x8 < (y0.length : Int) then (if 0 ≤ x8 ∧ x8 ≤ (y0.length : Int) ∧ (y0.length : Int) ≤ (y0.length : Int) then if 0 ≤ ((0 : Nat) : Int) ∧ ((0 : Nat) : Int) ≤ x8 ∧ x8 ≤ (y0.length : Int) then slices_Repeat_int.l0 n (IntKind.i64.wrap (x8 + ((min ((y0.take x8.toNat).drop 0).length (y0.length - x8.toNat) : Nat) : Int))) (y0.take x8.toNat ++ ((y0.take x8.toNat).drop 0).take (y0.length - x8.toNat) ++ y0.drop (x8.toNat + min ((y0.take x8.toNat).drop 0).length (y0.length - x8.toNat))) else none else none) else some y0
def slices_Repeat_int.f (k : Nat) (a0 : List Int) (a1 : Int) : Option ((List Int)) := if a1 < 0 then (none) else (math_bits_Mul.f (IntKind.u64.wrap (a0.length : Int)) (IntKind.u64.wrap a1)).bind fun t1 => if 0 < t1.1 then (none) else if 9223372036854775807 < t1.2 then (none) else if 0 ≤ IntKind.i64.wrap t1.2 ∧ IntKind.i64.wrap t1.2 ≤ 281474976710656 ∧ ((8 : Nat) : Int) * (IntKind.i64.wrap t1.2) ≤ 140737488355328 then (slices_Repeat_int.l0 k ((min a0.length (List.replicate (IntKind.i64.wrap t1.2).toNat (0 : Int)).length : Nat) : Int) (a0.take (List.replicate (IntKind.i64.wrap t1.2).toNat (0 : Int)).length ++ (List.replicate (IntKind.i64.wrap t1.2).toNat (0 : Int)).drop a0.length)).bind fun t2 => some t2 else none

def spec_Whole.f (k : Nat) (a0 : Int) : Option ((List Int)) := if a0 < 0 then (some []) else if 4 < a0 then (some []) else (slices_Repeat_int.f k ([-1] : List Int) a0).bind fun t1 => some t1

def slices_Equal_int.l0 : Nat → (List Int) → (List Int) → Int → Int → Option (Unit ⊕ Bool)
  | 0, _, _, _, _ => none
  | n + 1, x0, x1, x12, x13 => if x13 < x12 then (if 0 ≤ x13 ∧ x13 < (x0.length : Int) then if 0 ≤ x13 ∧ x13 < (x1.length : Int) then if x0.getD x13.toNat 0 = x1.getD x13.toNat 0 then (slices_Equal_int.l0 n x0 x1 x12 (IntKind.i64.wrap (x13 + 1))) else some (.inr false) else none else none) else some (.inl ())
def slices_Equal_int.f (k : Nat) (a0 : List Int) (a1 : List Int) : Option (Bool) := if (a0.length : Int) = (a1.length : Int) then ((slices_Equal_int.l0 k a0 a1 (a0.length : Int) 0).bind fun t1 => Sum.elim (fun t1 => some true) (fun t1 => some t1) t1) else some false

def spec_Same.f (k : Nat) (a0 : List Int) (a1 : List Int) : Option (Bool) := (slices_Equal_int.f k a0 a1).bind fun t1 => some t1

def law15_same.l0 : Nat → (List Int) → (List Int) → Int → Int → Int → (List Int) → Option ((List Int))
  | 0, _, _, _, _, _, _ => none
  | n + 1, x0, x1, x2, x3, x10, y0 => if x10 < x2 then (if x2 ≤ 4 then (if y0.length + ([-1] : List Int).length ≤ 281474976710656 ∧ (y0.length + ([-1] : List Int).length) * 8 ≤ 140737488355328 then law15_same.l0 n x0 x1 x2 x3 (IntKind.i64.wrap (x10 + 1)) (y0 ++ ([-1] : List Int)) else none) else some y0) else some y0
def law15_same.f (k : Nat) (a0 : List Int) (a1 : List Int) (a2 : Int) (a3 : Int) : Option (Bool) := (law15_same.l0 k a0 a1 a2 a3 0 []).bind fun t1 => (spec_Right.f k a0 a1 a2).bind fun t2 => (ref14_Spec.f k a0 a1 a2).bind fun t3 => if (t2 == t3) = true then ((spec_Parts.f k a0 a1).bind fun t4 => (ref14_Parts.f k a0 a1).bind fun t5 => (book_Same_int.f k t4 t5).bind fun t6 => if t6 = true then ((spec_Copies.f k a0 a1).bind fun t7 => (ref14_Copies.f k a0 a1).bind fun t8 => if t7 = t8 then ((spec_First.f k a0 a1 a3).bind fun t9 => (ref14_First.f k a0 a1 a3).bind fun t10 => if t9 = t10 then ((spec_Whole.f k a2).bind fun t11 => (book_Same_int.f k t11 t1).bind fun t12 => if t12 = true then ((spec_Same.f k a1 a0).bind fun t13 => (book_Same_int.f k a1 a0).bind fun t14 => some (t13 == t14)) else some false) else some false) else some false) else some false) else some false

def law15_known.f (k : Nat) : Option (Bool) := (spec_Copies.f k ([2, 4] : List Int) ([1] : List Int)).bind fun t1 => if t1 = 2 then ((spec_Right.f k ([2] : List Int) ([0, 0] : List Int) 2).bind fun t2 => if t2 = true then (some false) else (spec_First.f k ([2, 4] : List Int) ([-1] : List Int) 7).bind fun t3 => if t3 = 0 then ((spec_Parts.f k ([2, 4] : List Int) ([1, -1] : List Int)).bind fun t4 => (book_Same_int.f k t4 ([4, 1] : List Int)).bind fun t5 => if t5 = true then ((spec_Whole.f k 2).bind fun t6 => (book_Same_int.f k t6 ([-1, -1] : List Int)).bind fun t7 => if t7 = true then ((spec_Same.f k [] []).bind fun t8 => some t8) else some false) else some false) else some false) else some false

def law15_SpecNumbers.l4 (k : Nat) : Nat → (List Int) → Int → Int → Int → Nat → Nat → Int → Int → Int → (List Int) → (List (List Int)) → Option (Unit ⊕ Bool)
  | 0, _, _, _, _, _, _, _, _, _, _, _ => none
  | n + 1, x2, x3, x4, x5, x6_0, x6_1, x7, x15, x16, y0, y1 => if x7 < 9 then ((law15_same.f k x2 ((y0.take x6_1).drop x6_0) x5 x7).bind fun t1 => if t1 = true then ((law15_same.f k x2 ((y0.take x6_1).drop x6_0) x7 x7).bind fun t2 => if t2 = true then (law15_SpecNumbers.l4 k n x2 x3 x4 x5 x6_0 x6_1 (IntKind.i64.wrap (x7 + 1)) x15 x16 y0 y1) else some (.inr false)) else some (.inr false)) else some (.inl ())
def law15_SpecNumbers.l3 (k : Nat) : Nat → (List Int) → Int → Int → Int → Int → Int → (List (List Int)) → Option (Unit ⊕ Bool)
  | 0, _, _, _, _, _, _, _ => none
  | n + 1, x2, x3, x4, x5, x15, x16, y0 => if x5 < 4 then (if 0 ≤ ((0 : Nat) : Int) ∧ ((0 : Nat) : Int) ≤ x5 ∧ x5 ≤ ([x3, x4, -1].length : Int) then (law15_SpecNumbers.l4 k n x2 x3 x4 x5 0 x5.toNat (-1) x15 x16 [x3, x4, -1] y0).bind fun t3 => Sum.elim (fun t3 => law15_SpecNumbers.l3 k n x2 x3 x4 (IntKind.i64.wrap (x5 + 1)) x15 x16 y0) (fun t3 => some (.inr t3)) t3 else none) else some (.inl ())
def law15_SpecNumbers.l2 (k : Nat) : Nat → (List Int) → Int → Int → Int → Int → (List (List Int)) → Option (Unit ⊕ Bool)
  | 0, _, _, _, _, _, _ => none
  | n + 1, x2, x3, x4, x15, x16, y0 => if x4 < 4 then ((law15_SpecNumbers.l3 k n x2 x3 x4 0 x15 x16 y0).bind fun t4 => Sum.elim (fun t4 => law15_SpecNumbers.l2 k n x2 x3 (IntKind.i64.wrap (x4 + 1)) x15 x16 y0) (fun t4 => some (.inr t4)) t4) else some (.inl ())
def law15_SpecNumbers.l1 (k : Nat) : Nat → (List Int) → Int → Int → Int → (List (List Int)) → Option (Unit ⊕ Bool)
  | 0, _, _, _, _, _ => none
  | n + 1, x2, x3, x15, x16, y0 => if x3 < 4 then ((law15_SpecNumbers.l2 k n x2 x3 (-2) x15 x16 y0).bind fun t5 => Sum.elim (fun t5 => law15_SpecNumbers.l1 k n x2 (IntKind.i64.wrap (x3 + 1)) x15 x16 y0) (fun t5 => some (.inr t5)) t5) else some (.inl ())
def law15_SpecNumbers.l0 (k : Nat) : Nat → Int → Int → (List (List Int)) → Option (Unit ⊕ Bool)
  | 0, _, _, _ => none
  | n + 1, x15, x16, y0 => if x16 < x15 then (if 0 ≤ x16 ∧ x16 < (y0.length : Int) then if x16.toNat < y0.length then (law15_SpecNumbers.l1 k n (y0.getD x16.toNat []) (-2) x15 x16 y0).bind fun t6 => Sum.elim (fun t6 => law15_SpecNumbers.l0 k n x15 (IntKind.i64.wrap (x16 + 1)) y0) (fun t6 => some (.inr t6)) t6 else none else none) else some (.inl ())
def law15_SpecNumbers.f (k : Nat) : Option (Bool) := (law15_SpecNumbers.l0 k k ([[], ([2] : List Int), ([2, 4] : List Int), ([2, 2, 2] : List Int), ([3, 1] : List Int), ([9] : List Int), ([1] : List Int)].length : Int) 0 [[], ([2] : List Int), ([2, 4] : List Int), ([2, 2, 2] : List Int), ([3, 1] : List Int), ([9] : List Int), ([1] : List Int)]).bind fun t7 => Sum.elim (fun t7 => (law15_known.f k).bind fun t8 => some t8) (fun t7 => some t7) t7

def law15_SpecCopies.l0 (k : Nat) : Nat → (List Int) → Int → Int → (List Int) → Int → Int → Int → Int → Int → Int → Int → Int → Option ((Int × Int × Int × Int × Int × Int × Int × Int) ⊕ Bool)
  | 0, _, _, _, _, _, _, _, _, _, _, _, _ => none
  | n + 1, x4, x6, x8, y0, y1_0, y1_1, y1_2, y1_3, y1_4, y1_5, y1_6, y1_7 => if x8 < x6 then ((spec_First.f k x4 y0 x8).bind fun t5 => if t5 < 0 then (some (.inr false)) else if x8 < t5 then (some (.inr false)) else (spec_First.f k x4 y0 t5).bind fun t6 => if t6 = t5 then (if t5 = 0 then (law15_SpecCopies.l0 k n x4 x6 (IntKind.i64.wrap (x8 + 1)) y0 (IntKind.i64.wrap (y1_0 + 1)) y1_1 y1_2 y1_3 y1_4 y1_5 y1_6 y1_7) else if t5 = 1 then (law15_SpecCopies.l0 k n x4 x6 (IntKind.i64.wrap (x8 + 1)) y0 y1_0 (IntKind.i64.wrap (y1_1 + 1)) y1_2 y1_3 y1_4 y1_5 y1_6 y1_7) else if t5 = 2 then (law15_SpecCopies.l0 k n x4 x6 (IntKind.i64.wrap (x8 + 1)) y0 y1_0 y1_1 (IntKind.i64.wrap (y1_2 + 1)) y1_3 y1_4 y1_5 y1_6 y1_7) else if t5 = 3 then (law15_SpecCopies.l0 k n x4 x6 (IntKind.i64.wrap (x8 + 1)) y0 y1_0 y1_1 y1_2 (IntKind.i64.wrap (y1_3 + 1)) y1_4 y1_5 y1_6 y1_7) else if t5 = 4 then (law15_SpecCopies.l0 k n x4 x6 (IntKind.i64.wrap (x8 + 1)) y0 y1_0 y1_1 y1_2 y1_3 (IntKind.i64.wrap (y1_4 + 1)) y1_5 y1_6 y1_7) else if t5 = 5 then (law15_SpecCopies.l0 k n x4 x6 (IntKind.i64.wrap (x8 + 1)) y0 y1_0 y1_1 y1_2 y1_3 y1_4 (IntKind.i64.wrap (y1_5 + 1)) y1_6 y1_7) else if t5 = 6 then (law15_SpecCopies.l0 k n x4 x6 (IntKind.i64.wrap (x8 + 1)) y0 y1_0 y1_1 y1_2 y1_3 y1_4 y1_5 (IntKind.i64.wrap (y1_6 + 1)) y1_7) else if t5 = 7 then (law15_SpecCopies.l0 k n x4 x6 (IntKind.i64.wrap (x8 + 1)) y0 y1_0 y1_1 y1_2 y1_3 y1_4 y1_5 y1_6 (IntKind.i64.wrap (y1_7 + 1))) else none) else some (.inr false)) else some (.inl (y1_0, y1_1, y1_2, y1_3, y1_4, y1_5, y1_6, y1_7))
def law15_SpecCopies.l1 (k : Nat) : Nat → (List Int) → Int → Int → (List Int) → Int → Int → Int → Int → Int → Int → Int → Int → Option (Unit ⊕ Bool)
  | 0, _, _, _, _, _, _, _, _, _, _, _, _ => none
  | n + 1, x4, x6, x10, y0, y1_0, y1_1, y1_2, y1_3, y1_4, y1_5, y1_6, y1_7 => if x10 < x6 then (if x10 = 0 then (if y1_0 = 0 then (law15_SpecCopies.l1 k n x4 x6 (IntKind.i64.wrap (x10 + 1)) y0 y1_0 y1_1 y1_2 y1_3 y1_4 y1_5 y1_6 y1_7) else (spec_Copies.f k x4 y0).bind fun t8 => if y1_0 = t8 then (law15_SpecCopies.l1 k n x4 x6 (IntKind.i64.wrap (x10 + 1)) y0 y1_0 y1_1 y1_2 y1_3 y1_4 y1_5 y1_6 y1_7) else some (.inr false)) else if x10 = 1 then (if y1_1 = 0 then (law15_SpecCopies.l1 k n x4 x6 (IntKind.i64.wrap (x10 + 1)) y0 y1_0 y1_1 y1_2 y1_3 y1_4 y1_5 y1_6 y1_7) else (spec_Copies.f k x4 y0).bind fun t9 => if y1_1 = t9 then (law15_SpecCopies.l1 k n x4 x6 (IntKind.i64.wrap (x10 + 1)) y0 y1_0 y1_1 y1_2 y1_3 y1_4 y1_5 y1_6 y1_7) else some (.inr false)) else if x10 = 2 then (if y1_2 = 0 then (law15_SpecCopies.l1 k n x4 x6 (IntKind.i64.wrap (x10 + 1)) y0 y1_0 y1_1 y1_2 y1_3 y1_4 y1_5 y1_6 y1_7) else (spec_Copies.f k x4 y0).bind fun t10 => if y1_2 = t10 then (law15_SpecCopies.l1 k n x4 x6 (IntKind.i64.wrap (x10 + 1)) y0 y1_0 y1_1 y1_2 y1_3 y1_4 y1_5 y1_6 y1_7) else some (.inr false)) else if x10 = 3 then (if y1_3 = 0 then (law15_SpecCopies.l1 k n x4 x6 (IntKind.i64.wrap (x10 + 1)) y0 y1_0 y1_1 y1_2 y1_3 y1_4 y1_5 y1_6 y1_7) else (spec_Copies.f k x4 y0).bind fun t11 => if y1_3 = t11 then (law15_SpecCopies.l1 k n x4 x6 (IntKind.i64.wrap (x10 + 1)) y0 y1_0 y1_1 y1_2 y1_3 y1_4 y1_5 y1_6 y1_7) else some (.inr false)) else if x10 = 4 then (if y1_4 = 0 then (law15_SpecCopies.l1 k n x4 x6 (IntKind.i64.wrap (x10 + 1)) y0 y1_0 y1_1 y1_2 y1_3 y1_4 y1_5 y1_6 y1_7) else (spec_Copies.f k x4 y0).bind fun t12 => if y1_4 = t12 then (law15_SpecCopies.l1 k n x4 x6 (IntKind.i64.wrap (x10 + 1)) y0 y1_0 y1_1 y1_2 y1_3 y1_4 y1_5 y1_6 y1_7) else some (.inr false)) else if x10 = 5 then (if y1_5 = 0 then (law15_SpecCopies.l1 k n x4 x6 (IntKind.i64.wrap (x10 + 1)) y0 y1_0 y1_1 y1_2 y1_3 y1_4 y1_5 y1_6 y1_7) else (spec_Copies.f k x4 y0).bind fun t13 => if y1_5 = t13 then (law15_SpecCopies.l1 k n x4 x6 (IntKind.i64.wrap (x10 + 1)) y0 y1_0 y1_1 y1_2 y1_3 y1_4 y1_5 y1_6 y1_7) else some (.inr false)) else if x10 = 6 then (if y1_6 = 0 then (law15_SpecCopies.l1 k n x4 x6 (IntKind.i64.wrap (x10 + 1)) y0 y1_0 y1_1 y1_2 y1_3 y1_4 y1_5 y1_6 y1_7) else (spec_Copies.f k x4 y0).bind fun t14 => if y1_6 = t14 then (law15_SpecCopies.l1 k n x4 x6 (IntKind.i64.wrap (x10 + 1)) y0 y1_0 y1_1 y1_2 y1_3 y1_4 y1_5 y1_6 y1_7) else some (.inr false)) else if x10 = 7 then (if y1_7 = 0 then (law15_SpecCopies.l1 k n x4 x6 (IntKind.i64.wrap (x10 + 1)) y0 y1_0 y1_1 y1_2 y1_3 y1_4 y1_5 y1_6 y1_7) else (spec_Copies.f k x4 y0).bind fun t15 => if y1_7 = t15 then (law15_SpecCopies.l1 k n x4 x6 (IntKind.i64.wrap (x10 + 1)) y0 y1_0 y1_1 y1_2 y1_3 y1_4 y1_5 y1_6 y1_7) else some (.inr false)) else none) else some (.inl ())
def law15_SpecCopies.f (k : Nat) (a0 : List Int) : Option (Bool) := (keep_Tape_Next.f 6 a0 0).bind fun t1 => if 0 ≤ t1.1 ∧ t1.1 < ([([2] : List Int), ([2, 4] : List Int), ([3, 2] : List Int), ([2, 2, 2] : List Int), [], ([5] : List Int)].length : Int) then if t1.1.toNat < [([2] : List Int), ([2, 4] : List Int), ([3, 2] : List Int), ([2, 2, 2] : List Int), [], ([5] : List Int)].length then (keep_Tape_Next.f 5 a0 t1.2).bind fun t2 => (keep_Tape_Spec.f k ([([2] : List Int), ([2, 4] : List Int), ([3, 2] : List Int), ([2, 2, 2] : List Int), [], ([5] : List Int)].getD t1.1.toNat []) t2.1 a0 t2.2).bind fun t3 => (ref14_Devices.f k ([([2] : List Int), ([2, 4] : List Int), ([3, 2] : List Int), ([2, 2, 2] : List Int), [], ([5] : List Int)].getD t1.1.toNat [])).bind fun t4 => (law15_SpecCopies.l0 k k ([([2] : List Int), ([2, 4] : List Int), ([3, 2] : List Int), ([2, 2, 2] : List Int), [], ([5] : List Int)].getD t1.1.toNat []) t4 0 t3.2 0 0 0 0 0 0 0 0).bind fun t7 => Sum.elim (fun t7 => (law15_SpecCopies.l1 k k ([([2] : List Int), ([2, 4] : List Int), ([3, 2] : List Int), ([2, 2, 2] : List Int), [], ([5] : List Int)].getD t1.1.toNat []) t4 0 t3.2 t7.1 t7.2.1 t7.2.2.1 t7.2.2.2.1 t7.2.2.2.2.1 t7.2.2.2.2.2.1 t7.2.2.2.2.2.2.1 t7.2.2.2.2.2.2.2).bind fun t16 => Sum.elim (fun t16 => (law15_known.f k).bind fun t17 => some t17) (fun t16 => some t16) t16) (fun t7 => some t7) t7 else none else none

def law15_SpecParts.l0 : Nat → Int → (List Int) → Int → Int → Int → Int → (List Int) → (List Int) → Option (Int)
  | 0, _, _, _, _, _, _, _, _ => none
  | n + 1, x1, x6, x7, x9, x39, x40, y0, y1 => if x40 < x39 then (if 0 ≤ x40 ∧ x40 < (y1.length : Int) then if x40.toNat < y1.length then law15_SpecParts.l0 n x1 x6 x7 (IntKind.i64.wrap (x9 * (y1.getD x40.toNat 0))) x39 (IntKind.i64.wrap (x40 + 1)) y0 y1 else none else none) else some x9
def law15_SpecParts.f (k : Nat) (a0 : List Int) (a1 : Int) : Option (Bool) := (keep_Tape_Next.f 6 a0 0).bind fun t1 => if 0 ≤ t1.1 ∧ t1.1 < ([([2] : List Int), ([2, 4] : List Int), ([3, 2] : List Int), ([2, 2, 2] : List Int), [], ([5] : List Int)].length : Int) then if t1.1.toNat < [([2] : List Int), ([2, 4] : List Int), ([3, 2] : List Int), ([2, 2, 2] : List Int), [], ([5] : List Int)].length then (keep_Tape_Next.f 5 a0 t1.2).bind fun t2 => (keep_Tape_Spec.f k ([([2] : List Int), ([2, 4] : List Int), ([3, 2] : List Int), ([2, 2, 2] : List Int), [], ([5] : List Int)].getD t1.1.toNat []) t2.1 a0 t2.2).bind fun t3 => (spec_Copies.f k ([([2] : List Int), ([2, 4] : List Int), ([3, 2] : List Int), ([2, 2, 2] : List Int), [], ([5] : List Int)].getD t1.1.toNat []) t3.2).bind fun t4 => (spec_Parts.f k ([([2] : List Int), ([2, 4] : List Int), ([3, 2] : List Int), ([2, 2, 2] : List Int), [], ([5] : List Int)].getD t1.1.toNat []) t3.2).bind fun t5 => (law15_SpecParts.l0 k a1 ([([2] : List Int), ([2, 4] : List Int), ([3, 2] : List Int), ([2, 2, 2] : List Int), [], ([5] : List Int)].getD t1.1.toNat []) t2.1 t4 (t5.length : Int) 0 t3.2 t5).bind fun t6 => if 8 ≠ 0 then (ref14_Devices.f k ([([2] : List Int), ([2, 4] : List Int), ([3, 2] : List Int), ([2, 2, 2] : List Int), [], ([5] : List Int)].getD t1.1.toNat [])).bind fun t7 => if t7 ≠ 0 then (ref14_Devices.f k ([([2] : List Int), ([2, 4] : List Int), ([3, 2] : List Int), ([2, 2, 2] : List Int), [], ([5] : List Int)].getD t1.1.toNat [])).bind fun t8 => if t6 = t8 then ((spec_Right.f k ([([2] : List Int), ([2, 4] : List Int), ([3, 2] : List Int), ([2, 2, 2] : List Int), [], ([5] : List Int)].getD t1.1.toNat []) t3.2 t2.1).bind fun t9 => if t9 = true then ((spec_Whole.f k t2.1).bind fun t10 => (spec_Copies.f k ([([2] : List Int), ([2, 4] : List Int), ([3, 2] : List Int), ([2, 2, 2] : List Int), [], ([5] : List Int)].getD t1.1.toNat []) t10).bind fun t11 => (ref14_Devices.f k ([([2] : List Int), ([2, 4] : List Int), ([3, 2] : List Int), ([2, 2, 2] : List Int), [], ([5] : List Int)].getD t1.1.toNat [])).bind fun t12 => if t11 = t12 then ((spec_Whole.f k t2.1).bind fun t13 => (spec_First.f k ([([2] : List Int), ([2, 4] : List Int), ([3, 2] : List Int), ([2, 2, 2] : List Int), [], ([5] : List Int)].getD t1.1.toNat []) t13 (((IntKind.i64.wrap ((a1.tmod 8) + 8)).tmod 8).tmod t7)).bind fun t14 => if t14 = 0 then ((spec_Same.f k t3.2 t3.2).bind fun t15 => if t15 = true then ((spec_Parts.f k ([([2] : List Int), ([2, 4] : List Int), ([3, 2] : List Int), ([2, 2, 2] : List Int), [], ([5] : List Int)].getD t1.1.toNat []) t3.2).bind fun t16 => if (t16.length : Int) = t2.1 then ((law15_known.f k).bind fun t17 => some t17) else some false) else some false) else some false) else some false) else some false) else some false else none else none else none else none

end Go.Pf

/- Plain words for the plain statements. -/
namespace Go.Pf
open Go Go.Vm

theorem i64_id {n : Int} (h1 : -9223372036854775808 ≤ n) (h2 : n < 9223372036854775808) : IntKind.i64.wrap n = n := by rw [IntKind.wrap_i64]; omega
theorem i64_bd (n : Int) : -9223372036854775808 ≤ IntKind.i64.wrap n ∧ IntKind.i64.wrap n < 9223372036854775808 := by rw [IntKind.wrap_i64]; omega
theorem i64_wf {n : Int} (h : (Lit.int .i64 n).wf = true) : -9223372036854775808 ≤ n ∧ n < 9223372036854775808 := by
  simp only [Lit.wf, Bool.and_eq_true, decide_eq_true_eq] at h
  have h1 : IntKind.i64.min = -9223372036854775808 := by decide
  have h2 : IntKind.i64.max = 9223372036854775807 := by decide
  omega
theorem fit_len {e : Ty} {l : List e.den} (h : Fit (.sl e) l) : l.length * e.bytes ≤ 140737488351232 := h.1
theorem fit_i64 {l : List Int} (h : Fit (.sl (.int .i64)) l) : l.length ≤ 17592186043904 ∧ ∀ x ∈ l, -9223372036854775808 ≤ x ∧ x < 9223372036854775808 := by
  obtain ⟨h1, h2⟩ := h
  have h3 : l.length * 8 ≤ 140737488351232 := h1
  exact ⟨by omega, fun x hx => i64_wf (h2 x hx)⟩
theorem drop_getD {α : Type} {l : List α} {i : Nat} (h : i < l.length) (d : α) : l.drop i = l.getD i d :: l.drop (i + 1) := by
  rw [List.drop_eq_getElem_cons h, List.getD_eq_getElem?_getD, List.getElem?_eq_getElem h]; rfl
theorem getD_mem {α : Type} {l : List α} {i : Nat} (h : i < l.length) (d : α) : l.getD i d ∈ l := by
  rw [List.getD_eq_getElem?_getD, List.getElem?_eq_getElem h]; exact List.getElem_mem h
end Go.Pf

namespace Go.Pf
open Go Go.Vm
/-! Chapter 14: meshes. -/
def pd : List Int → Int
  | [] => 1
  | x :: r => x * pd r
def okD (x : Int) : Bool := decide (1 ≤ x) && decide (x ≤ 8)
def mR (l : List Int) : Bool := decide (l.length ≤ 3) && l.all okD && decide (pd l ≤ 8)
def mD (l : List Int) : Int := if mR l = true then pd l else 0
def atM : List Int → Int → List Int
  | [], _ => []
  | x :: r, d => (d / pd r) % x :: atM r d
def mA (l : List Int) (d : Int) : List Int := if 0 ≤ d ∧ d < mD l then atM l d else []
def ofGo : List Int → List Int → Int → Int
  | x :: r, p :: s, acc => if p < 0 ∨ x ≤ p then -1 else ofGo r s (acc * x + p)
  | _, _, acc => acc
def mO (l p : List Int) : Int := if mR l = true ∧ p.length = l.length then ofGo l p 0 else -1
def mT (l : List Int) (d a : Int) : Bool := decide (0 ≤ d) && decide (d < mD l) && decide (0 ≤ a) && decide (a < (l.length : Int))
def gr (l A : List Int) (a j : Nat) : List Int := (List.range j).map (fun i : Nat => mO l (A.set a (i : Int)))
def mG (l : List Int) (d a : Int) : List Int := if mT l d a = true then gr l (atM l d) a.toNat (l.getD a.toNat 0).toNat else []
def mS (l : List Int) (d a b : Int) : Int := if mT l d a = true then mO l ((atM l d).set a.toNat (((atM l d).getD a.toNat 0 + b) % l.getD a.toNat 0)) else -1

theorem okD_iff {x : Int} : okD x = true ↔ 1 ≤ x ∧ x ≤ 8 := by simp [okD]
theorem pd_bd : ∀ (l : List Int), l.all okD = true → 1 ≤ pd l ∧ pd l ≤ 8 ^ l.length
  | [], _ => by simp [pd]
  | x :: r, h => by
    simp only [List.all_cons, Bool.and_eq_true, okD_iff] at h
    obtain ⟨⟨h1, h2⟩, h3⟩ := h
    obtain ⟨h4, h5⟩ := pd_bd r h3
    show 1 ≤ x * pd r ∧ x * pd r ≤ 8 ^ (r.length + 1)
    constructor
    · have := Int.mul_le_mul h1 h4 (by omega) (by omega); simpa using this
    · have := Int.mul_le_mul h2 h5 (by omega) (by omega)
      rw [Int.pow_succ]; rw [Int.mul_comm] at this; simpa [Int.mul_comm] using this
theorem mR_spec {l : List Int} (h : mR l = true) : l.length ≤ 3 ∧ l.all okD = true ∧ 1 ≤ pd l ∧ pd l ≤ 8 := by
  unfold mR at h
  simp only [Bool.and_eq_true, decide_eq_true_eq] at h
  exact ⟨h.1.1, h.1.2, (pd_bd l h.1.2).1, h.2⟩
theorem p8 {i : Nat} (h : i ≤ 3) : (1 : Int) ≤ 8 ^ i ∧ (8 : Int) ^ i ≤ 512 := by
  rcases (show i = 0 ∨ i = 1 ∨ i = 2 ∨ i = 3 by omega) with e | e | e | e <;> subst e <;> decide
theorem mul_step {p x : Int} {i : Nat} (h1 : 1 ≤ p) (h2 : p ≤ 8 ^ i) (hx : 1 ≤ x ∧ x ≤ 8) : 1 ≤ p * x ∧ p * x ≤ 8 ^ (i + 1) := by
  constructor
  · have := Int.mul_le_mul h1 hx.1 (by omega) (by omega); simpa using this
  · rw [Int.pow_succ]; exact Int.mul_le_mul h2 hx.2 (by omega) (by omega)

theorem mesh_Right_l0 (l : List Int) (hl : l.length ≤ 3) : ∀ (d i : Nat) (p : Int) (n : Nat), l.length = i + d → 1 ≤ p → p ≤ 8 ^ i → d < n →
    mesh_Right.l0 n p l l.length i = some (if (l.drop i).all okD = true then .inl (p * pd (l.drop i)) else .inr false)
  | 0, i, p, n, hi, h1, h2, hn => by
    obtain ⟨n, rfl⟩ : ∃ m, n = m + 1 := ⟨n - 1, by omega⟩
    rw [mesh_Right.l0, if_neg (by omega), List.drop_eq_nil_of_le (by omega)]
    simp [pd]
  | d + 1, i, p, n, hi, h1, h2, hn => by
    obtain ⟨n, rfl⟩ : ∃ m, n = m + 1 := ⟨n - 1, by omega⟩
    rw [mesh_Right.l0, if_pos (by omega), if_pos (by omega), Int.toNat_natCast, drop_getD (show i < l.length by omega) 0]
    generalize l.getD i 0 = x
    by_cases c1 : x < 1
    · rw [if_pos c1]; simp [okD_iff]; omega
    by_cases c2 : 8 < x
    · rw [if_neg c1, if_pos c2]; simp [okD_iff]; omega
    have hx : okD x = true := okD_iff.2 (by omega)
    have hm := mul_step h1 h2 (show 1 ≤ x ∧ x ≤ 8 by omega)
    have h8 := p8 (show i + 1 ≤ 3 by omega)
    rw [if_neg c1, if_neg c2, i64_id (n := p * x) (by omega) (by omega), i64_id (n := (i : Int) + 1) (by omega) (by omega)]
    have := mesh_Right_l0 l hl d (i + 1) (p * x) n (by omega) hm.1 hm.2 (by omega)
    rw [show (i : Int) + 1 = ((i + 1 : Nat) : Int) by omega, this]
    simp [hx, pd, Int.mul_assoc]
theorem mesh_Right_f (l : List Int) (k : Nat) (hk : 10 ≤ k) : mesh_Right.f k l = some (mR l) := by
  unfold mesh_Right.f
  by_cases h : 3 < (l.length : Int)
  · rw [if_pos h]; simp [mR]; omega
  · have := mesh_Right_l0 l (by omega) l.length 0 1 k (by omega) (by omega) (by simp) (by omega)
    rw [if_neg h, show (0 : Int) = ((0 : Nat) : Int) from rfl, this]
    have hl : l.length ≤ 3 := by omega
    by_cases ha : l.all okD = true
    · simp [ha, mR, hl]
    · simp [ha, mR]

theorem ref14_Right_l0 (l : List Int) : ∀ (d i : Nat) (p : Int) (n : Nat), l.length = i + d → i ≤ 3 → 1 ≤ p → p ≤ 8 ^ i → 4 < n + i →
    ref14_Right.l0 n l p l.length i = some (if l.length ≤ 3 ∧ (l.drop i).all okD = true then .inl (p * pd (l.drop i)) else .inr false)
  | 0, i, p, n, hi, hi3, h1, h2, hn => by
    obtain ⟨n, rfl⟩ : ∃ m, n = m + 1 := ⟨n - 1, by omega⟩
    rw [ref14_Right.l0, if_neg (by omega), List.drop_eq_nil_of_le (by omega), if_pos ⟨by omega, by simp⟩]
    simp [pd]
  | d + 1, i, p, n, hi, hi3, h1, h2, hn => by
    obtain ⟨n, rfl⟩ : ∃ m, n = m + 1 := ⟨n - 1, by omega⟩
    rw [ref14_Right.l0, if_pos (by omega)]
    by_cases c0 : 3 ≤ (i : Int)
    · rw [if_pos c0, if_neg (by omega)]
    rw [if_neg c0, if_pos (by omega), Int.toNat_natCast, drop_getD (show i < l.length by omega) 0]
    generalize l.getD i 0 = x
    by_cases c1 : x < 1
    · rw [if_pos c1, if_neg (by simp [okD_iff]; omega)]
    by_cases c2 : 8 < x
    · rw [if_neg c1, if_pos c2, if_neg (by simp [okD_iff]; omega)]
    have hx : okD x = true := okD_iff.2 (by omega)
    have hm := mul_step h1 h2 (show 1 ≤ x ∧ x ≤ 8 by omega)
    have h8 := p8 (show i + 1 ≤ 3 by omega)
    rw [if_neg c1, if_neg c2, i64_id (n := p * x) (by omega) (by omega), i64_id (n := (i : Int) + 1) (by omega) (by omega)]
    have := ref14_Right_l0 l d (i + 1) (p * x) n (by omega) (by omega) hm.1 hm.2 (by omega)
    rw [show (i : Int) + 1 = ((i + 1 : Nat) : Int) by omega, this]
    simp [hx, pd, Int.mul_assoc]
theorem ref14_Right_f (l : List Int) (k : Nat) (hk : 10 ≤ k) : ref14_Right.f k l = some (mR l) := by
  unfold ref14_Right.f
  have := ref14_Right_l0 l l.length 0 1 k (by omega) (by omega) (by omega) (by simp) (by omega)
  rw [show ((0 : Nat) : Int) = 0 from rfl] at this
  rw [this]
  by_cases ha : l.length ≤ 3 ∧ l.all okD = true
  · simp [ha.1, ha.2, mR]
  · rw [List.drop_zero, if_neg ha]
    have : mR l = false := by
      cases h : mR l with
      | false => rfl
      | true => exact absurd ⟨(mR_spec h).1, (mR_spec h).2.1⟩ ha
    simp [this]

theorem mesh_Devices_l0 (l : List Int) (hl : l.length ≤ 3) (ha : l.all okD = true) : ∀ (d i : Nat) (p : Int) (n : Nat), l.length = i + d → 1 ≤ p → p ≤ 8 ^ i → d < n →
    mesh_Devices.l0 n p l l.length i = some (p * pd (l.drop i))
  | 0, i, p, n, hi, h1, h2, hn => by
    obtain ⟨n, rfl⟩ : ∃ m, n = m + 1 := ⟨n - 1, by omega⟩
    rw [mesh_Devices.l0, if_neg (by omega), List.drop_eq_nil_of_le (by omega)]
    simp [pd]
  | d + 1, i, p, n, hi, h1, h2, hn => by
    obtain ⟨n, rfl⟩ : ∃ m, n = m + 1 := ⟨n - 1, by omega⟩
    have hx := okD_iff.1 (List.all_eq_true.1 ha _ (getD_mem (show i < l.length by omega) 0))
    rw [mesh_Devices.l0, if_pos (by omega), if_pos (by omega), Int.toNat_natCast, drop_getD (show i < l.length by omega) 0]
    generalize l.getD i 0 = x at hx ⊢
    have hm := mul_step h1 h2 hx
    have h8 := p8 (show i + 1 ≤ 3 by omega)
    rw [i64_id (n := p * x) (by omega) (by omega), i64_id (n := (i : Int) + 1) (by omega) (by omega)]
    rw [show (i : Int) + 1 = ((i + 1 : Nat) : Int) by omega, mesh_Devices_l0 l hl ha d (i + 1) (p * x) n (by omega) hm.1 hm.2 (by omega)]
    simp [pd, Int.mul_assoc]
theorem mesh_Devices_f (l : List Int) (k : Nat) (hk : 10 ≤ k) : mesh_Devices.f k l = some (mD l) := by
  unfold mesh_Devices.f
  rw [mesh_Right_f l k hk, Option.bind_some]
  by_cases h : mR l = true
  · obtain ⟨h1, h2, _⟩ := mR_spec h
    have := mesh_Devices_l0 l h1 h2 l.length 0 1 k (by omega) (by omega) (by simp) (by omega)
    rw [if_pos h, show (0 : Int) = ((0 : Nat) : Int) from rfl, this]
    simp [mD, h]
  · rw [if_neg h]; simp [mD, h]
theorem ref14_Devices_l0 (l : List Int) (hl : l.length ≤ 3) (ha : l.all okD = true) : ∀ (d i : Nat) (p : Int) (n : Nat), l.length = i + d → 1 ≤ p → p ≤ 8 ^ i → d < n →
    ref14_Devices.l0 n l p l.length i = some (p * pd (l.drop i))
  | 0, i, p, n, hi, h1, h2, hn => by
    obtain ⟨n, rfl⟩ : ∃ m, n = m + 1 := ⟨n - 1, by omega⟩
    rw [ref14_Devices.l0, if_neg (by omega), List.drop_eq_nil_of_le (by omega)]
    simp [pd]
  | d + 1, i, p, n, hi, h1, h2, hn => by
    obtain ⟨n, rfl⟩ : ∃ m, n = m + 1 := ⟨n - 1, by omega⟩
    have hx := okD_iff.1 (List.all_eq_true.1 ha _ (getD_mem (show i < l.length by omega) 0))
    rw [ref14_Devices.l0, if_pos (by omega), if_pos (by omega), Int.toNat_natCast, drop_getD (show i < l.length by omega) 0]
    generalize l.getD i 0 = x at hx ⊢
    have hm := mul_step h1 h2 hx
    have h8 := p8 (show i + 1 ≤ 3 by omega)
    rw [i64_id (n := p * x) (by omega) (by omega), i64_id (n := (i : Int) + 1) (by omega) (by omega)]
    rw [show (i : Int) + 1 = ((i + 1 : Nat) : Int) by omega, ref14_Devices_l0 l hl ha d (i + 1) (p * x) n (by omega) hm.1 hm.2 (by omega)]
    simp [pd, Int.mul_assoc]
theorem ref14_Devices_f (l : List Int) (k : Nat) (hk : 10 ≤ k) : ref14_Devices.f k l = some (mD l) := by
  unfold ref14_Devices.f
  rw [ref14_Right_f l k hk, Option.bind_some]
  by_cases h : mR l = true
  · obtain ⟨h1, h2, _⟩ := mR_spec h
    have := ref14_Devices_l0 l h1 h2 l.length 0 1 k (by omega) (by omega) (by simp) (by omega)
    rw [if_pos h, show (0 : Int) = ((0 : Nat) : Int) from rfl, this]
    simp [mD, h]
  · rw [if_neg h]; simp [mD, h]

theorem atM_len : ∀ (l : List Int) (d : Int), (atM l d).length = l.length
  | [], _ => rfl
  | x :: r, d => by show (atM r d).length + 1 = _; rw [atM_len r d]; rfl
theorem at_step {l : List Int} (ha : l.all okD = true) {d : Int} (hd0 : 0 ≤ d) (hd8 : d ≤ 8) {m : Nat} (hm : m < l.length) :
    okD (l.getD m 0) = true ∧ (d / pd (l.drop (m + 1))).tdiv (l.getD m 0) = d / pd (l.drop m) ∧ 0 ≤ d / pd (l.drop m) ∧ d / pd (l.drop m) ≤ 8 ∧
    (List.replicate (m + 1) 0 ++ atM (l.drop (m + 1)) d).set m ((d / pd (l.drop (m + 1))).tmod (l.getD m 0)) = List.replicate m 0 ++ atM (l.drop m) d := by
  have hx := List.all_eq_true.1 ha _ (getD_mem hm 0)
  have hdr := drop_getD hm 0
  generalize l.getD m 0 = x at hx hdr ⊢
  have hx' := okD_iff.1 hx
  have hall : (l.drop (m + 1)).all okD = true := by
    rw [List.all_eq_true] at ha ⊢
    exact fun y hy => ha y (List.mem_of_mem_drop hy)
  have hp := (pd_bd _ hall).1
  have h0 : 0 ≤ d / pd (l.drop (m + 1)) := Int.ediv_nonneg hd0 (by omega)
  have h8 : d / pd (l.drop (m + 1)) ≤ 8 := Int.le_trans (Int.ediv_le_self _ hd0) hd8
  have e1 : (d / pd (l.drop (m + 1))).tdiv x = d / pd (l.drop m) := by
    rw [Int.tdiv_eq_ediv_of_nonneg h0, hdr]
    show d / pd (l.drop (m + 1)) / x = d / (x * pd (l.drop (m + 1)))
    rw [Int.ediv_ediv_of_nonneg (by omega), Int.mul_comm]
  refine ⟨hx, e1, ?_, ?_, ?_⟩
  · rw [← e1, Int.tdiv_eq_ediv_of_nonneg h0]; exact Int.ediv_nonneg h0 (by omega)
  · rw [← e1, Int.tdiv_eq_ediv_of_nonneg h0]; exact Int.le_trans (Int.ediv_le_self _ h0) h8
  · rw [hdr, Int.tmod_eq_emod_of_nonneg h0, List.replicate_succ', List.append_assoc]
    show (List.replicate m 0 ++ (0 :: atM (l.drop (m + 1)) d)).set m _ = List.replicate m 0 ++ ((d / pd (l.drop (m + 1))) % x :: atM (l.drop (m + 1)) d)
    rw [List.set_append]
    simp
theorem mesh_At_l0 (l : List Int) (hl : l.length ≤ 3) (ha : l.all okD = true) (d : Int) (hd0 : 0 ≤ d) (hd8 : d ≤ 8) : ∀ (m n : Nat), m ≤ l.length → m < n →
    mesh_At.l0 n l (d / pd (l.drop m)) ((m : Int) - 1) (List.replicate m 0 ++ atM (l.drop m) d) = some (atM l d)
  | 0, n, hm, hn => by
    obtain ⟨n, rfl⟩ : ∃ m, n = m + 1 := ⟨n - 1, by omega⟩
    rw [mesh_At.l0, if_neg (by omega)]; simp
  | m + 1, n, hm, hn => by
    obtain ⟨n, rfl⟩ : ∃ m, n = m + 1 := ⟨n - 1, by omega⟩
    obtain ⟨h1, h2, h3, h4, h5⟩ := at_step ha hd0 hd8 (show m < l.length by omega)
    have hx := okD_iff.1 h1
    have hlen : (List.replicate (m + 1) 0 ++ atM (l.drop (m + 1)) d).length = l.length := by simp [atM_len]; omega
    have e : (((m + 1 : Nat) : Int) - 1) = (m : Int) := by omega
    rw [e, mesh_At.l0, if_pos (by omega), if_pos (by omega), Int.toNat_natCast, if_pos (by omega), if_pos (by omega), if_pos (by omega), h2, h5, i64_id (by omega) (by omega), i64_id (n := (m : Int) - 1) (by omega) (by omega)]
    exact mesh_At_l0 l hl ha d hd0 hd8 m n (by omega) (by omega)
theorem ref14_At_l0 (l : List Int) (hl : l.length ≤ 3) (ha : l.all okD = true) (d : Int) (hd0 : 0 ≤ d) (hd8 : d ≤ 8) : ∀ (m n : Nat), m ≤ l.length → m < n →
    ref14_At.l0 n l (d / pd (l.drop m)) ((m : Int) - 1) (List.replicate m 0 ++ atM (l.drop m) d) = some (atM l d)
  | 0, n, hm, hn => by
    obtain ⟨n, rfl⟩ : ∃ m, n = m + 1 := ⟨n - 1, by omega⟩
    rw [ref14_At.l0, if_neg (by omega)]; simp
  | m + 1, n, hm, hn => by
    obtain ⟨n, rfl⟩ : ∃ m, n = m + 1 := ⟨n - 1, by omega⟩
    obtain ⟨h1, h2, h3, h4, h5⟩ := at_step ha hd0 hd8 (show m < l.length by omega)
    have hx := okD_iff.1 h1
    have hlen : (List.replicate (m + 1) 0 ++ atM (l.drop (m + 1)) d).length = l.length := by simp [atM_len]; omega
    have e : (((m + 1 : Nat) : Int) - 1) = (m : Int) := by omega
    rw [e, ref14_At.l0, if_pos (by omega), if_pos (by omega), Int.toNat_natCast, if_pos (by omega), if_pos (by omega), if_pos (by omega), h2, h5, i64_id (by omega) (by omega), i64_id (n := (m : Int) - 1) (by omega) (by omega)]
    exact ref14_At_l0 l hl ha d hd0 hd8 m n (by omega) (by omega)
theorem mD_spec {l : List Int} {d : Int} (h0 : 0 ≤ d) (h : d < mD l) : mR l = true ∧ l.length ≤ 3 ∧ l.all okD = true ∧ d < pd l ∧ pd l ≤ 8 := by
  have hR : mR l = true := by
    by_cases h' : mR l = true
    · exact h'
    · rw [mD, if_neg h'] at h; omega
  rw [mD, if_pos hR] at h
  obtain ⟨h1, h2, _, h3⟩ := mR_spec hR
  exact ⟨hR, h1, h2, h, h3⟩
theorem mesh_At_f (l : List Int) (d : Int) (k : Nat) (hk : 10 ≤ k) : mesh_At.f k l d = some (mA l d) := by
  unfold mesh_At.f mA
  by_cases c1 : d < 0
  · rw [if_pos c1, if_neg (by omega)]
  rw [if_neg c1, mesh_Devices_f l k hk, Option.bind_some]
  by_cases c2 : mD l ≤ d
  · rw [if_pos c2, if_neg (by omega)]
  obtain ⟨_, h1, h2, h3, h4⟩ := mD_spec (show 0 ≤ d by omega) (show d < mD l by omega)
  have := mesh_At_l0 l h1 h2 d (by omega) (by omega) l.length k (by omega) (by omega)
  rw [if_neg c2, if_pos (by omega), i64_id (by omega) (by omega), Int.toNat_natCast, if_pos (by omega)]
  simp [pd, atM] at this
  rw [this]; rfl
theorem ref14_At_f (l : List Int) (d : Int) (k : Nat) (hk : 10 ≤ k) : ref14_At.f k l d = some (mA l d) := by
  unfold ref14_At.f mA
  by_cases c1 : d < 0
  · rw [if_pos c1, if_neg (by omega)]
  rw [if_neg c1, ref14_Devices_f l k hk, Option.bind_some]
  by_cases c2 : mD l ≤ d
  · rw [if_pos c2, if_neg (by omega)]
  obtain ⟨_, h1, h2, h3, h4⟩ := mD_spec (show 0 ≤ d by omega) (show d < mD l by omega)
  have := ref14_At_l0 l h1 h2 d (by omega) (by omega) l.length k (by omega) (by omega)
  rw [if_neg c2, if_pos (by omega), i64_id (by omega) (by omega), Int.toNat_natCast, if_pos (by omega)]
  simp [pd, atM] at this
  rw [this]; rfl

theorem mesh_Of_l0 (l p : List Int) (hl : l.length ≤ 3) (hlen : p.length = l.length) (ha : l.all okD = true) : ∀ (d i : Nat) (acc : Int) (n : Nat), l.length = i + d → 0 ≤ acc → acc < 8 ^ i → d < n →
    ∃ r, mesh_Of.l0 n l acc p p.length i = some r ∧ Sum.elim id id r = ofGo (l.drop i) (p.drop i) acc
  | 0, i, acc, n, hi, h0, h8, hn => by
    obtain ⟨n, rfl⟩ : ∃ m, n = m + 1 := ⟨n - 1, by omega⟩
    rw [mesh_Of.l0, if_neg (by omega), List.drop_eq_nil_of_le (show l.length ≤ i by omega)]
    exact ⟨_, rfl, rfl⟩
  | d + 1, i, acc, n, hi, h0, h8, hn => by
    obtain ⟨n, rfl⟩ : ∃ m, n = m + 1 := ⟨n - 1, by omega⟩
    have hx := okD_iff.1 (List.all_eq_true.1 ha _ (getD_mem (show i < l.length by omega) 0))
    rw [mesh_Of.l0, if_pos (by omega), if_pos (by omega), Int.toNat_natCast, drop_getD (show i < l.length by omega) 0, drop_getD (show i < p.length by omega) 0]
    generalize l.getD i 0 = x at hx ⊢
    generalize p.getD i 0 = y
    by_cases c1 : y < 0
    · rw [if_pos c1, ofGo, if_pos (.inl c1)]; exact ⟨_, rfl, rfl⟩
    by_cases c2 : x ≤ y
    · rw [if_neg c1, if_pos (by omega), if_pos c2, ofGo, if_pos (.inr c2)]; exact ⟨_, rfl, rfl⟩
    have h8' := p8 (show i + 1 ≤ 3 by omega)
    have h8i : (8 : Int) ^ (i + 1) = 8 ^ i * 8 := Int.pow_succ ..
    have hb : 0 ≤ acc * x ∧ acc * x ≤ (8 ^ i - 1) * 8 := ⟨Int.mul_nonneg h0 (by omega), Int.mul_le_mul (by omega) hx.2 (by omega) (by omega)⟩
    rw [if_neg c1, if_pos (by omega), if_neg c2, i64_id (n := acc * x) (by omega) (by omega), i64_id (n := acc * x + y) (by omega) (by omega), i64_id (n := (i : Int) + 1) (by omega) (by omega), ofGo, if_neg (by omega), show (i : Int) + 1 = ((i + 1 : Nat) : Int) by omega]
    exact mesh_Of_l0 l p hl hlen ha d (i + 1) (acc * x + y) n (by omega) (by omega) (by omega) (by omega)
theorem mesh_Of_f (l p : List Int) (k : Nat) (hk : 10 ≤ k) : mesh_Of.f k l p = some (mO l p) := by
  unfold mesh_Of.f mO
  rw [mesh_Right_f l k hk, Option.bind_some]
  by_cases h : mR l = true
  · rw [if_pos h]
    by_cases hp : p.length = l.length
    · obtain ⟨h1, h2, _⟩ := mR_spec h
      obtain ⟨r, h3, h4⟩ := mesh_Of_l0 l p h1 hp h2 l.length 0 0 k (by omega) (by omega) (by simp) (by omega)
      rw [if_pos (by omega), show mesh_Of.l0 k l 0 p (↑p.length) 0 = some r from h3, Option.bind_some, if_pos ⟨h, hp⟩]
      rw [List.drop_zero, List.drop_zero] at h4
      rw [← h4]
      cases r <;> rfl
    · rw [if_neg (by omega), if_neg (fun c => hp c.2)]
  · rw [if_neg h, if_neg (fun c => h c.1)]
theorem ref14_Of_l0 (l p : List Int) (hl : l.length ≤ 3) (hlen : p.length = l.length) (ha : l.all okD = true) : ∀ (d i : Nat) (acc : Int) (n : Nat), l.length = i + d → 0 ≤ acc → acc < 8 ^ i → d < n →
    ∃ r, ref14_Of.l0 n l p acc l.length i = some r ∧ Sum.elim id id r = ofGo (l.drop i) (p.drop i) acc
  | 0, i, acc, n, hi, h0, h8, hn => by
    obtain ⟨n, rfl⟩ : ∃ m, n = m + 1 := ⟨n - 1, by omega⟩
    rw [ref14_Of.l0, if_neg (by omega), List.drop_eq_nil_of_le (show l.length ≤ i by omega)]
    exact ⟨_, rfl, rfl⟩
  | d + 1, i, acc, n, hi, h0, h8, hn => by
    obtain ⟨n, rfl⟩ : ∃ m, n = m + 1 := ⟨n - 1, by omega⟩
    have hx := okD_iff.1 (List.all_eq_true.1 ha _ (getD_mem (show i < l.length by omega) 0))
    rw [ref14_Of.l0, if_pos (by omega), if_pos (by omega), Int.toNat_natCast, drop_getD (show i < l.length by omega) 0, drop_getD (show i < p.length by omega) 0]
    generalize l.getD i 0 = x at hx ⊢
    generalize p.getD i 0 = y
    by_cases c1 : y < 0
    · rw [if_pos c1, ofGo, if_pos (.inl c1)]; exact ⟨_, rfl, rfl⟩
    by_cases c2 : x ≤ y
    · rw [if_neg c1, if_pos (by omega), if_pos c2, ofGo, if_pos (.inr c2)]; exact ⟨_, rfl, rfl⟩
    have h8' := p8 (show i + 1 ≤ 3 by omega)
    have h8i : (8 : Int) ^ (i + 1) = 8 ^ i * 8 := Int.pow_succ ..
    have hb : 0 ≤ acc * x ∧ acc * x ≤ (8 ^ i - 1) * 8 := ⟨Int.mul_nonneg h0 (by omega), Int.mul_le_mul (by omega) hx.2 (by omega) (by omega)⟩
    rw [if_neg c1, if_pos (by omega), if_neg c2, i64_id (n := acc * x) (by omega) (by omega), i64_id (n := acc * x + y) (by omega) (by omega), i64_id (n := (i : Int) + 1) (by omega) (by omega), ofGo, if_neg (by omega), show (i : Int) + 1 = ((i + 1 : Nat) : Int) by omega]
    exact ref14_Of_l0 l p hl hlen ha d (i + 1) (acc * x + y) n (by omega) (by omega) (by omega) (by omega)
theorem ref14_Of_f (l p : List Int) (k : Nat) (hk : 10 ≤ k) : ref14_Of.f k l p = some (mO l p) := by
  unfold ref14_Of.f mO
  rw [ref14_Right_f l k hk, Option.bind_some]
  by_cases h : mR l = true
  · rw [if_pos h]
    by_cases hp : p.length = l.length
    · obtain ⟨h1, h2, _⟩ := mR_spec h
      obtain ⟨r, h3, h4⟩ := ref14_Of_l0 l p h1 hp h2 l.length 0 0 k (by omega) (by omega) (by simp) (by omega)
      rw [if_pos (by omega), show ref14_Of.l0 k l p 0 (↑l.length) 0 = some r from h3, Option.bind_some, if_pos ⟨h, hp⟩]
      rw [List.drop_zero, List.drop_zero] at h4
      rw [← h4]
      cases r <;> rfl
    · rw [if_neg (by omega), if_neg (fun c => hp c.2)]
  · rw [if_neg h, if_neg (fun c => h c.1)]
theorem mesh_there_f (l : List Int) (d a : Int) (k : Nat) (hk : 10 ≤ k) : mesh_there.f k l d a = some (mT l d a) := by
  unfold mesh_there.f mT
  rw [mesh_Devices_f l k hk, Option.bind_some]
  by_cases h1 : 0 ≤ d <;> by_cases h2 : d < mD l <;> by_cases h3 : 0 ≤ a <;> simp [h1, h2, h3]

theorem book_Same_l0 (a b : List Int) (hl : a.length = b.length) (hb : a.length ≤ 4611686018427387904) : ∀ (d i n : Nat), a.length = i + d → d < n →
    book_Same_int.l0 n a b i = some (if a.drop i = b.drop i then .inl () else .inr false)
  | 0, i, n, hi, hn => by
    obtain ⟨n, rfl⟩ : ∃ m, n = m + 1 := ⟨n - 1, by omega⟩
    rw [book_Same_int.l0, if_neg (by omega), List.drop_eq_nil_of_le (by omega), List.drop_eq_nil_of_le (by omega), if_pos rfl]
  | d + 1, i, n, hi, hn => by
    obtain ⟨n, rfl⟩ : ∃ m, n = m + 1 := ⟨n - 1, by omega⟩
    rw [book_Same_int.l0, if_pos (by omega), if_pos (by omega), if_pos (by omega), Int.toNat_natCast, drop_getD (show i < a.length by omega) 0, drop_getD (show i < b.length by omega) 0, i64_id (by omega) (by omega), show (i : Int) + 1 = ((i + 1 : Nat) : Int) by omega, book_Same_l0 a b hl hb d (i + 1) n (by omega) (by omega)]
    by_cases c : a.getD i 0 = b.getD i 0
    · rw [if_pos c, c]; simp
    · rw [if_neg c, if_neg (by simp only [List.cons.injEq]; exact fun h => c h.1)]
theorem book_Same_f (a b : List Int) (hb : a.length ≤ 4611686018427387904) (k : Nat) (hk : a.length < k) : book_Same_int.f k a b = some (decide (a = b)) := by
  unfold book_Same_int.f
  by_cases h : a.length = b.length
  · have := book_Same_l0 a b h hb a.length 0 k (by omega) hk
    rw [if_pos (by omega), show (0 : Int) = ((0 : Nat) : Int) from rfl, this, List.drop_zero, List.drop_zero]
    by_cases c : a = b
    · simp [c]
    · simp [c]
  · rw [if_neg (by omega)]
    have : a ≠ b := fun c => h (by rw [c])
    simp [this]

theorem gr_succ (l A : List Int) (a j : Nat) : gr l A a (j + 1) = gr l A a j ++ [mO l (A.set a (j : Int))] := by simp [gr, List.range_succ]
theorem gr_len (l A : List Int) (a j : Nat) : (gr l A a j).length = j := by simp [gr]
theorem mA_pos {l : List Int} {d : Int} (h0 : 0 ≤ d) (h1 : d < mD l) : mA l d = atM l d := by rw [mA, if_pos ⟨h0, h1⟩]
theorem set_set_same {α : Type} (l : List α) (i : Nat) (a b : α) : (l.set i a).set i b = l.set i b := by simp
theorem mesh_Group_l0 (l : List Int) (k : Nat) (hk : 10 ≤ k) (A : List Int) (a : Nat) (hA : A.length = l.length) (ha : a < l.length) (hx : l.getD a 0 ≤ 8) : ∀ (d j n : Nat), l.getD a 0 = ((j + d : Nat) : Int) → d < n →
    mesh_Group.l0 k n l a (A.set a (j : Int)) (gr l A a j) = some (gr l A a (j + d))
  | 0, j, n, hd, hn => by
    obtain ⟨n, rfl⟩ : ∃ m, n = m + 1 := ⟨n - 1, by omega⟩
    have hg : (A.set a (j : Int)).getD a 0 = j := by simp [List.getD_eq_getElem?_getD, hA, ha]
    rw [mesh_Group.l0, Int.toNat_natCast, if_pos (by simp; omega), if_pos (by simp; omega), if_pos (by omega), hg, if_neg (by omega), Nat.add_zero]
  | d + 1, j, n, hd, hn => by
    obtain ⟨n, rfl⟩ : ∃ m, n = m + 1 := ⟨n - 1, by omega⟩
    have hg : (A.set a (j : Int)).getD a 0 = j := by simp [List.getD_eq_getElem?_getD, hA, ha]
    rw [mesh_Group.l0, Int.toNat_natCast, if_pos (by simp; omega), if_pos (by simp; omega), if_pos (by omega), hg, if_pos (by omega), mesh_Of_f _ _ k hk, Option.bind_some, if_pos (by simp [gr_len]; omega), set_set_same, i64_id (by omega) (by omega), show (j : Int) + 1 = ((j + 1 : Nat) : Int) by omega]
    have := mesh_Group_l0 l k hk A a hA ha hx d (j + 1) n (by omega) (by omega)
    rw [gr_succ] at this
    rw [show j + (d + 1) = j + 1 + d by omega]
    exact this
theorem mT_spec {l : List Int} {d a : Int} (h : mT l d a = true) : 0 ≤ d ∧ d < mD l ∧ 0 ≤ a ∧ a < (l.length : Int) := by
  unfold mT at h
  simp only [Bool.and_eq_true, decide_eq_true_eq] at h
  exact ⟨h.1.1.1, h.1.1.2, h.1.2, h.2⟩
theorem mesh_Group_f (l : List Int) (d a : Int) (k : Nat) (hk : 10 ≤ k) : mesh_Group.f k l d a = some (mG l d a) := by
  unfold mesh_Group.f mG
  rw [mesh_there_f l d a k hk, Option.bind_some]
  by_cases h : mT l d a = true
  · obtain ⟨h0, h1, h2, h3⟩ := mT_spec h
    obtain ⟨_, hl, ha, h5, h6⟩ := mD_spec h0 h1
    obtain ⟨m, rfl⟩ : ∃ m : Nat, a = m := ⟨a.toNat, by omega⟩
    have hx := okD_iff.1 (List.all_eq_true.1 ha _ (getD_mem (show m < l.length by omega) 0))
    obtain ⟨x, hxe⟩ : ∃ x : Nat, l.getD m 0 = x := ⟨(l.getD m 0).toNat, by omega⟩
    have := mesh_Group_l0 l k hk (atM l d) m (atM_len l d) (by omega) hx.2 x 0 k (by omega) (by omega)
    rw [if_pos h, mesh_At_f l d k hk, Option.bind_some, mA_pos h0 h1, Int.toNat_natCast, if_pos (by rw [atM_len]; omega), if_pos (by rw [atM_len]; omega), show ((atM l d).set m 0) = (atM l d).set m ((0 : Nat) : Int) from rfl, show ([] : List Int) = gr l (atM l d) m 0 from rfl, this, Option.bind_some, if_pos h, hxe, Nat.zero_add, Int.toNat_natCast]
  · rw [if_neg h, if_neg h]
theorem ref14_Group_l0 (l : List Int) (k : Nat) (hk : 10 ≤ k) (A : List Int) (a : Nat) (hA : A.length = l.length) (ha : a < l.length) (hx : l.getD a 0 ≤ 8) : ∀ (d j n : Nat) (B : List Int), l.getD a 0 = ((j + d : Nat) : Int) → d < n → B.length = l.length → (∀ v, B.set a v = A.set a v) →
    ref14_Group.l0 k n l a j B (gr l A a j) = some (gr l A a (j + d))
  | 0, j, n, B, hd, hn, hB, hBA => by
    obtain ⟨n, rfl⟩ : ∃ m, n = m + 1 := ⟨n - 1, by omega⟩
    rw [ref14_Group.l0, Int.toNat_natCast, if_pos (by omega), if_neg (by omega), Nat.add_zero]
  | d + 1, j, n, B, hd, hn, hB, hBA => by
    obtain ⟨n, rfl⟩ : ∃ m, n = m + 1 := ⟨n - 1, by omega⟩
    rw [ref14_Group.l0, Int.toNat_natCast, if_pos (by omega), if_pos (by omega), if_pos (by omega), if_pos (by omega), ref14_Of_f _ _ k hk, Option.bind_some, if_pos (by simp [gr_len]; omega), hBA, i64_id (by omega) (by omega), show (j : Int) + 1 = ((j + 1 : Nat) : Int) by omega]
    have := ref14_Group_l0 l k hk A a hA ha hx d (j + 1) n (A.set a (j : Int)) (by omega) (by omega) (by simp [hA]) (fun v => set_set_same _ _ _ _)
    rw [gr_succ] at this
    rw [show j + (d + 1) = j + 1 + d by omega]
    exact this
theorem ref14_Group_f (l : List Int) (d a : Int) (k : Nat) (hk : 10 ≤ k) : ref14_Group.f k l d a = some (mG l d a) := by
  unfold ref14_Group.f mG
  by_cases c1 : d < 0
  · rw [if_pos c1, if_neg (fun h => by have := mT_spec h; omega)]
  rw [if_neg c1, ref14_Devices_f l k hk, Option.bind_some]
  by_cases c2 : mD l ≤ d
  · rw [if_pos c2, if_neg (fun h => by have := mT_spec h; omega)]
  by_cases c3 : a < 0
  · rw [if_neg c2, if_pos c3, if_neg (fun h => by have := mT_spec h; omega)]
  by_cases c4 : (l.length : Int) ≤ a
  · rw [if_neg c2, if_neg c3, if_pos c4, if_neg (fun h => by have := mT_spec h; omega)]
  have h : mT l d a = true := by simp [mT]; omega
  obtain ⟨_, hl, ha, h5, h6⟩ := mD_spec (show 0 ≤ d by omega) (show d < mD l by omega)
  obtain ⟨m, rfl⟩ : ∃ m : Nat, a = m := ⟨a.toNat, by omega⟩
  have hx := okD_iff.1 (List.all_eq_true.1 ha _ (getD_mem (show m < l.length by omega) 0))
  obtain ⟨x, hxe⟩ : ∃ x : Nat, l.getD m 0 = x := ⟨(l.getD m 0).toNat, by omega⟩
  have := ref14_Group_l0 l k hk (atM l d) m (atM_len l d) (by omega) hx.2 x 0 k (atM l d) (by omega) (by omega) (atM_len l d) (fun _ => rfl)
  rw [if_neg c2, if_neg c3, if_neg c4, ref14_At_f l d k hk, Option.bind_some, mA_pos (by omega) (by omega), show ref14_Group.l0 k k l (m : Int) 0 (atM l d) [] = _ from this, Option.bind_some, if_pos h, Int.toNat_natCast, hxe, Nat.zero_add, Int.toNat_natCast]

theorem atM_bd : ∀ {l : List Int} {d : Int}, l.all okD = true → ∀ {m : Nat}, m < l.length → 0 ≤ (atM l d).getD m 0 ∧ (atM l d).getD m 0 < l.getD m 0
  | [], _, _, m, h => by simp at h
  | x :: r, d, ha, 0, _ => by
    have hx := okD_iff.1 (List.all_eq_true.1 ha x (by simp))
    show 0 ≤ (d / pd r) % x ∧ (d / pd r) % x < x
    exact ⟨Int.emod_nonneg _ (by omega), Int.emod_lt_of_pos _ (by omega)⟩
  | x :: r, d, ha, m + 1, h => by
    simp only [List.all_cons, Bool.and_eq_true] at ha
    exact atM_bd (l := r) (d := d) ha.2 (by simpa using h)
theorem tm_eq (b x : Int) (h : 0 < x) : (b.tmod x) % x = b % x ∧ -x < b.tmod x ∧ b.tmod x < x := by
  refine ⟨?_, ?_, Int.tmod_lt_of_pos _ h⟩
  · have := Int.mul_tdiv_add_tmod b x
    have e : b.tmod x = b + x * (-(b.tdiv x)) := by rw [Int.mul_neg]; omega
    rw [e, Int.add_mul_emod_self_left]
  · have := Int.lt_tmod_of_pos b h
    omega
theorem step_num {p b x : Int} (h0 : 0 ≤ p) (h1 : p < x) (hx : x ≤ 8) : (IntKind.i64.wrap ((IntKind.i64.wrap (p + b.tmod x)) + x)).tmod x = (p + b) % x := by
  obtain ⟨t1, t2, t3⟩ := tm_eq b x (by omega)
  rw [i64_id (n := p + b.tmod x) (by omega) (by omega), i64_id (by omega) (by omega), Int.tmod_eq_emod_of_nonneg (by omega), Int.add_emod_right, Int.add_emod, t1, ← Int.add_emod]
theorem step_num2 {p b x : Int} (h0 : 0 ≤ p) (h1 : p < x) (hx : x ≤ 8) : (IntKind.i64.wrap (((IntKind.i64.wrap (p + b.tmod x)).tmod x) + x)).tmod x = (p + b) % x := by
  obtain ⟨t1, t2, t3⟩ := tm_eq b x (by omega)
  obtain ⟨u1, u2, u3⟩ := tm_eq (p + b.tmod x) x (by omega)
  rw [i64_id (n := p + b.tmod x) (by omega) (by omega), i64_id (by omega) (by omega), Int.tmod_eq_emod_of_nonneg (by omega), Int.add_emod_right, u1, Int.add_emod, t1, ← Int.add_emod]
theorem mesh_Step_f (l : List Int) (d a b : Int) (k : Nat) (hk : 10 ≤ k) : mesh_Step.f k l d a b = some (mS l d a b) := by
  unfold mesh_Step.f mS
  rw [mesh_there_f l d a k hk, Option.bind_some]
  by_cases h : mT l d a = true
  · obtain ⟨h0, h1, h2, h3⟩ := mT_spec h
    obtain ⟨_, hl, ha, h5, h6⟩ := mD_spec h0 h1
    obtain ⟨m, rfl⟩ : ∃ m : Nat, a = m := ⟨a.toNat, by omega⟩
    have hx := okD_iff.1 (List.all_eq_true.1 ha _ (getD_mem (show m < l.length by omega) 0))
    have hb := atM_bd (d := d) ha (show m < l.length by omega)
    rw [if_pos h, mesh_At_f l d k hk, Option.bind_some, mA_pos h0 h1, Int.toNat_natCast, if_pos (by omega), if_pos (by rw [atM_len]; omega), if_pos (by rw [atM_len]; omega), if_pos (by omega), mesh_Of_f _ _ k hk, Option.bind_some, if_pos h, step_num hb.1 hb.2 hx.2]
  · rw [if_neg h, if_neg h]
theorem ref14_Step_f (l : List Int) (d a b : Int) (k : Nat) (hk : 10 ≤ k) : ref14_Step.f k l d a b = some (mS l d a b) := by
  unfold ref14_Step.f mS
  rw [ref14_Group_f l d a k hk, Option.bind_some]
  by_cases h : mT l d a = true
  · obtain ⟨h0, h1, h2, h3⟩ := mT_spec h
    obtain ⟨_, hl, ha, h5, h6⟩ := mD_spec h0 h1
    obtain ⟨m, rfl⟩ : ∃ m : Nat, a = m := ⟨a.toNat, by omega⟩
    have hx := okD_iff.1 (List.all_eq_true.1 ha _ (getD_mem (show m < l.length by omega) 0))
    have hb := atM_bd (d := d) ha (show m < l.length by omega)
    have hlen : ((mG l d m).length : Int) = l.getD m 0 := by rw [mG, if_pos h, gr_len, Int.toNat_natCast]; omega
    have hs := step_num2 (b := b) hb.1 hb.2 hx.2
    have hm0 := Int.emod_nonneg ((atM l d).getD m 0 + b) (show l.getD m 0 ≠ 0 by omega)
    have hm1 := Int.emod_lt_of_pos ((atM l d).getD m 0 + b) (show 0 < l.getD m 0 by omega)
    rw [if_neg (by omega), ref14_At_f l d k hk, Option.bind_some, mA_pos h0 h1, Int.toNat_natCast, if_pos (by rw [atM_len]; omega), if_pos (by rw [atM_len]; omega), if_pos (by omega), hlen, hs, if_pos ⟨hm0, hm1⟩, if_pos (by omega), if_pos h]
    congr 1
    rw [mG, if_pos h, gr, List.getD_eq_getElem?_getD, List.getElem?_map, List.getElem?_range (by rw [Int.toNat_natCast]; omega)]
    simp only [Option.map_some, Option.getD_some, Int.toNat_natCast]
    congr 2
    omega
  · have : mG l d a = [] := by rw [mG, if_neg h]
    rw [this, if_neg h]; rfl

theorem same14 (s at_ : List Int) (d axis by_ : Int) (k : Nat) (hk : 10 ≤ k) : law14_same.f k s at_ d axis by_ = some true := by
  have hA : (mA s d).length ≤ 3 := by
    unfold mA
    split
    · rename_i h; rw [atM_len]; exact (mD_spec h.1 h.2).2.1
    · simp
  have hG : (mG s d axis).length ≤ 8 := by
    unfold mG
    split
    · rename_i h
      obtain ⟨h0, h1, h2, h3⟩ := mT_spec h
      obtain ⟨_, hl, ha, h5, h6⟩ := mD_spec h0 h1
      have hx := okD_iff.1 (List.all_eq_true.1 ha _ (getD_mem (show axis.toNat < s.length by omega) 0))
      rw [gr_len]; omega
    · simp
  unfold law14_same.f
  simp only [mesh_Right_f s k hk, ref14_Right_f s k hk, mesh_Devices_f s k hk, ref14_Devices_f s k hk, mesh_At_f s d k hk, ref14_At_f s d k hk, mesh_Of_f s at_ k hk, ref14_Of_f s at_ k hk, mesh_Group_f s d axis k hk, ref14_Group_f s d axis k hk, mesh_Step_f s d axis by_ k hk, ref14_Step_f s d axis by_ k hk, Option.bind_some,
    book_Same_f (mA s d) (mA s d) (by omega) k (by omega), book_Same_f (mG s d axis) (mG s d axis) (by omega) k (by omega)]
  simp
theorem known14 (k : Nat) (hk : 10 ≤ k) : law14_known.f k = some true := by
  unfold law14_known.f
  simp only [mesh_Right_f _ k hk, mesh_Devices_f _ k hk, mesh_At_f _ _ k hk, mesh_Of_f _ _ k hk, mesh_Group_f _ _ _ k hk, mesh_Step_f _ _ _ _ k hk, Option.bind_some]
  have e1 : (mA [2, 4] 5).length = 2 := by decide
  have e2 : (mG [2, 2] 1 0).length = 2 := by decide
  rw [book_Same_f _ _ (by decide) k (by omega), Option.bind_some, if_pos (by decide), if_pos (by decide), if_pos (by decide), if_pos (by decide), book_Same_f _ _ (by decide) k (by omega), Option.bind_some, if_pos (by decide)]
  decide
theorem within_f {a lo hi : Int} (ha : -9223372036854775808 ≤ a ∧ a < 9223372036854775808) (h : lo ≤ hi) (h1 : -1000000 ≤ lo) (h2 : hi ≤ 1000000) : ∃ r, book_Within.f a lo hi = some r ∧ lo ≤ r ∧ r ≤ hi := by
  unfold book_Within.f
  rw [i64_id (n := hi - lo) (by omega) (by omega), i64_id (n := hi - lo + 1) (by omega) (by omega)]
  have t2 := Int.lt_tmod_of_pos a (show 0 < hi - lo + 1 by omega)
  have t3 := Int.tmod_lt_of_pos a (show 0 < hi - lo + 1 by omega)
  have key : ∃ r, (if hi - lo + 1 ≠ 0 then if a.tmod (hi - lo + 1) < 0 then some (IntKind.i64.wrap (lo + (IntKind.i64.wrap ((IntKind.i64.wrap ((IntKind.i64.wrap ((a.tmod (hi - lo + 1)) + hi)) - lo)) + 1)))) else some (IntKind.i64.wrap (lo + (a.tmod (hi - lo + 1)))) else none) = some r ∧ lo ≤ r ∧ r ≤ hi := by
    rw [if_pos (by omega)]
    split
    · rw [i64_id (n := a.tmod (hi - lo + 1) + hi) (by omega) (by omega), i64_id (n := a.tmod (hi - lo + 1) + hi - lo) (by omega) (by omega), i64_id (n := a.tmod (hi - lo + 1) + hi - lo + 1) (by omega) (by omega), i64_id (by omega) (by omega)]
      exact ⟨_, rfl, by omega, by omega⟩
    · rw [i64_id (by omega) (by omega)]
      exact ⟨_, rfl, by omega, by omega⟩
  split
  · split
    · exact ⟨_, rfl, by omega, by omega⟩
    · exact key
  · exact key

theorem MeshTells_ok (a0 : Int) (a1 : List Int) (a2 : List Int) (a3 : Int) (a4 : Int) (a5 : Int) (w0 : (Lit.int .i64 a0).wf = true) (_ : Fit (.sl (.int .i64)) a1) (_ : Fit (.sl (.int .i64)) a2) (_ : (Lit.int .i64 a3).wf = true) (_ : (Lit.int .i64 a4).wf = true) (_ : (Lit.int .i64 a5).wf = true) : ∃ k, law14_MeshTells.f k a0 a1 a2 a3 a4 a5 = some true := by
  refine ⟨10, ?_⟩
  unfold law14_MeshTells.f
  have e : law14_meshes.f = some [[], [1], [2], [8], [2, 4], [4, 2], [2, 2, 2], [1, 3], [3, 2], [1, 1, 1], [2, 1, 3]] := rfl
  rw [e, Option.bind_some]
  obtain ⟨r, hr, h0, h1⟩ := within_f (i64_wf w0) (show (0 : Int) ≤ 10 by omega) (by omega) (by omega)
  rw [show IntKind.i64.wrap ((([[], [1], [2], [8], [2, 4], [4, 2], [2, 2, 2], [1, 3], [3, 2], [1, 1, 1], [2, 1, 3]] : List (List Int)).length : Int) - 1) = 10 by decide, hr, Option.bind_some, if_pos (by simp; omega), if_pos (by simp; omega)]
  simp only [same14 _ _ _ _ _ 10 (by omega), known14 10 (by omega), Option.bind_some, if_true]

/-! The other laws: finite. -/
def mshs : List (List Int) := [[], [1], [2], [8], [2, 4], [4, 2], [2, 2, 2], [1, 3], [3, 2], [1, 1, 1], [2, 1, 3]]
theorem meshes14 : law14_meshes.f = some mshs := rfl
theorem mshs_R : ∀ s ∈ mshs, mR s = true := by decide +kernel
theorem which14 {a : Int} (w : (Lit.int .i64 a).wf = true) : ∃ r, book_Within.f a 0 (IntKind.i64.wrap ((mshs.length : Int) - 1)) = some r ∧ 0 ≤ r ∧ r < (mshs.length : Int) ∧ r.toNat < mshs.length ∧ mshs.getD r.toNat [] ∈ mshs := by
  obtain ⟨r, hr, h0, h1⟩ := within_f (i64_wf w) (show (0 : Int) ≤ 10 by omega) (by omega) (by omega)
  have hl : mshs.length = 11 := rfl
  refine ⟨r, ?_, h0, by omega, by omega, getD_mem (by omega) _⟩
  rw [show IntKind.i64.wrap ((mshs.length : Int) - 1) = 10 by decide]
  exact hr
theorem mA_len {l : List Int} (d : Int) : (mA l d).length ≤ 3 := by
  unfold mA
  split
  · rename_i h; rw [atM_len]; exact (mD_spec h.1 h.2).2.1
  · simp
theorem mG_len {l : List Int} (d a : Int) : (mG l d a).length ≤ 8 := by
  unfold mG
  split
  · rename_i h
    obtain ⟨h0, h1, h2, h3⟩ := mT_spec h
    obtain ⟨_, hl, ha, h5, h6⟩ := mD_spec h0 h1
    have hx := okD_iff.1 (List.all_eq_true.1 ha _ (getD_mem (show a.toNat < l.length by omega) 0))
    rw [gr_len]; omega
  · simp
def chk1 (s : List Int) (k : Int) : Bool := decide (mO s (mA s k) = k) && (decide (s ≠ []) || decide (True))
def chk2 (s : List Int) (k a : Nat) : Bool := decide ((mG s k a).countP (fun x => x == (k : Int)) = 1) && decide (((mG s k a).length : Int) = s.getD a 0) && (mG s k a).all (fun x => decide (mG s x a = mG s k a))
def chk3 (s : List Int) (k a b : Nat) : Bool := decide (mS s (mS s k a b) a (-(b : Int)) = k) && decide (0 ≤ mS s k a b)
theorem all1 : (mshs.all fun s => (List.range 8).all fun k => decide ((k : Int) < mD s) → chk1 s k) = true := by decide +kernel
theorem all2 : (mshs.all fun s => (List.range 8).all fun k => (List.range 3).all fun a => decide ((k : Int) < mD s ∧ a < s.length) → chk2 s k a) = true := by decide +kernel
theorem all3 : (mshs.all fun s => (List.range 8).all fun k => (List.range 3).all fun a => (List.range 8).all fun b => decide ((k : Int) < mD s ∧ a < s.length ∧ (b : Int) < s.getD a 0) → chk3 s k a b) = true := by decide +kernel
def chk4 (s : List Int) (d : Nat) : Bool := (List.range d).all (fun e => decide (mA s d ≠ mA s e)) && (decide (3 ≤ s.length) || decide (mA (1 :: s) d = 0 :: mA s d))
theorem all4 : (mshs.all fun s => (List.range 8).all fun d => decide ((d : Int) < mD s) → chk4 s d) = true := by decide +kernel
theorem all5 : (mshs.all fun s => decide (1 ≤ mD s ∧ mD s ≤ 8 ∧ (mA s (mD s)).length = 0 ∧ s.length ≤ 3 ∧ (s.length = 3 ∨ mD (1 :: s) = mD s) ∧ (s = [] → (mG s 0 0).length = 0))) = true := by decide +kernel
theorem mS_mod (l : List Int) (d a b : Int) : mS l d a b = mS l d a (b % l.getD a.toNat 0) := by
  unfold mS
  split
  · rw [Int.add_emod _ (b % _), Int.emod_emod_of_dvd _ (Int.dvd_refl _), ← Int.add_emod]
  · rfl

theorem imp_dec {p : Prop} [Decidable p] {q : Bool} (h : decide (p → q = true) = true) (hp : p) : q = true := of_decide_eq_true h hp
theorem get1 {s : List Int} (hs : s ∈ mshs) {k : Int} (h0 : 0 ≤ k) (h1 : k < mD s) : mO s (mA s k) = k := by
  have h8 := (mD_spec h0 h1).2.2.2.2
  have h4 := (mD_spec h0 h1).2.2.2.1
  obtain ⟨m, rfl⟩ : ∃ m : Nat, k = m := ⟨k.toNat, by omega⟩
  have := List.all_eq_true.1 (List.all_eq_true.1 all1 s hs) m (List.mem_range.2 (by omega))
  have := of_decide_eq_true this (decide_eq_true h1)
  simp [chk1] at this
  exact this
theorem get2 {s : List Int} (hs : s ∈ mshs) {k a : Int} (h0 : 0 ≤ k) (h1 : k < mD s) (h2 : 0 ≤ a) (h3 : a < (s.length : Int)) : (mG s k a).countP (fun x => x == k) = 1 ∧ ((mG s k a).length : Int) = s.getD a.toNat 0 ∧ ∀ x ∈ mG s k a, mG s x a = mG s k a := by
  obtain ⟨_, hl, _, h4, h8⟩ := mD_spec h0 h1
  obtain ⟨m, rfl⟩ : ∃ m : Nat, k = m := ⟨k.toNat, by omega⟩
  obtain ⟨b, rfl⟩ : ∃ b : Nat, a = b := ⟨a.toNat, by omega⟩
  have := List.all_eq_true.1 (List.all_eq_true.1 (List.all_eq_true.1 all2 s hs) m (List.mem_range.2 (by omega))) b (List.mem_range.2 (by omega))
  have := of_decide_eq_true this (decide_eq_true ⟨h1, by omega⟩)
  simp only [chk2, Bool.and_eq_true, decide_eq_true_eq, List.all_eq_true] at this
  exact ⟨this.1.1, this.1.2, this.2⟩
theorem get3 {s : List Int} (hs : s ∈ mshs) {k a b : Int} (h0 : 0 ≤ k) (h1 : k < mD s) (h2 : 0 ≤ a) (h3 : a < (s.length : Int)) : mS s (mS s k a b) a (-b) = k ∧ mS s k a (b + s.getD a.toNat 0) = mS s k a b := by
  obtain ⟨_, hl, ha, h4, h8⟩ := mD_spec h0 h1
  obtain ⟨m, rfl⟩ : ∃ m : Nat, k = m := ⟨k.toNat, by omega⟩
  obtain ⟨c, rfl⟩ : ∃ c : Nat, a = c := ⟨a.toNat, by omega⟩
  have hx := okD_iff.1 (List.all_eq_true.1 ha _ (getD_mem (show c < s.length by omega) 0))
  have e1 : mS s m c (b + s.getD (c : Int).toNat 0) = mS s m c b := by
    rw [mS_mod s m c (b + _), mS_mod s m c b, Int.add_emod_right]
  refine ⟨?_, e1⟩
  rw [Int.toNat_natCast] at e1
  have hb0 := Int.emod_nonneg b (show s.getD c 0 ≠ 0 by omega)
  have hb1 := Int.emod_lt_of_pos b (show 0 < s.getD c 0 by omega)
  obtain ⟨r, hr⟩ : ∃ r : Nat, b % s.getD c 0 = r := ⟨(b % s.getD c 0).toNat, by omega⟩
  have := List.all_eq_true.1 (List.all_eq_true.1 (List.all_eq_true.1 (List.all_eq_true.1 all3 s hs) m (List.mem_range.2 (by omega))) c (List.mem_range.2 (by omega))) r (List.mem_range.2 (by omega))
  have := of_decide_eq_true this (decide_eq_true ⟨h1, by omega, by omega⟩)
  simp only [chk3, Bool.and_eq_true, decide_eq_true_eq] at this
  have e2 : mS s m c b = mS s m c r := by rw [mS_mod, Int.toNat_natCast, hr]
  have e3 : mS s (mS s m c r) c (-b) = mS s (mS s m c r) c (-(r : Int)) := by
    have e : -b = -(b % s.getD c 0) + s.getD c 0 * (-(b / s.getD c 0)) := by
      have := Int.emod_add_mul_ediv b (s.getD c 0)
      rw [Int.mul_neg]; omega
    rw [mS_mod s _ c (-b), mS_mod s _ c (-(r : Int)), Int.toNat_natCast, ← hr, e, Int.add_mul_emod_self_left]
  rw [e2, e3]
  exact this.1
theorem MeshSteps_l0 (s : List Int) (k a m e : Int) (K : Nat) (hK : 10 ≤ K) (g : List Int) (hg : g.length ≤ 8) (hall : ∀ x ∈ g, mG s x a = g) : ∀ (d i : Nat) (c : Int) (n : Nat), g.length = i + d → 0 ≤ c → c ≤ i → d < n →
    law14_MeshSteps.l0 K n s k a m e c g.length i g = some (.inl (c + ((g.drop i).countP (fun x => x == k) : Nat)))
  | 0, i, c, n, hi, h0, h1, hn => by
    obtain ⟨n, rfl⟩ : ∃ m, n = m + 1 := ⟨n - 1, by omega⟩
    rw [law14_MeshSteps.l0, if_neg (by omega), List.drop_eq_nil_of_le (by omega)]
    simp
  | d + 1, i, c, n, hi, h0, h1, hn => by
    obtain ⟨n, rfl⟩ : ∃ m, n = m + 1 := ⟨n - 1, by omega⟩
    have hm := getD_mem (show i < g.length by omega) 0
    have hG := hall _ hm
    rw [law14_MeshSteps.l0, if_pos (by omega), if_pos (by omega), Int.toNat_natCast, if_pos (by omega), mesh_Group_f _ _ _ K hK, Option.bind_some, hG, book_Same_f g g (by omega) K (by omega), Option.bind_some, drop_getD (show i < g.length by omega) 0, i64_id (n := c + 1) (by omega) (by omega), i64_id (n := (i : Int) + 1) (by omega) (by omega), show (i : Int) + 1 = ((i + 1 : Nat) : Int) by omega]
    by_cases hk : g.getD i 0 = k
    · rw [if_pos hk, if_pos (by simp), MeshSteps_l0 s k a m e K hK g hg hall d (i + 1) (c + 1) n (by omega) (by omega) (by omega) (by omega), List.countP_cons_of_pos (by simpa using hk)]
      congr 2; omega
    · rw [if_neg hk, Option.bind_some, book_Same_f g g (by omega) K (by omega), Option.bind_some, if_pos (by simp), MeshSteps_l0 s k a m e K hK g hg hall d (i + 1) c n (by omega) (by omega) (by omega) (by omega), List.countP_cons_of_neg (by simpa using hk)]
theorem mT_of {s : List Int} {k a : Int} (h0 : 0 ≤ k) (h1 : k < mD s) (h2 : 0 ≤ a) (h3 : a < (s.length : Int)) : mT s k a = true := by simp [mT]; omega
theorem MeshSteps_ok (a0 : Int) (a1 : Int) (a2 : Int) (a3 : Int) (w0 : (Lit.int .i64 a0).wf = true) (w1 : (Lit.int .i64 a1).wf = true) (w2 : (Lit.int .i64 a2).wf = true) (w3 : (Lit.int .i64 a3).wf = true) : ∃ k, law14_MeshSteps.f k a0 a1 a2 a3 = some true := by
  refine ⟨10, ?_⟩
  have K : (10 : Nat) ≤ 10 := by omega
  unfold law14_MeshSteps.f
  obtain ⟨r, hr, r0, r1, r2, hs⟩ := which14 w0
  rw [meshes14, Option.bind_some, hr, Option.bind_some, if_pos ⟨r0, r1⟩, if_pos r2]
  generalize mshs.getD r.toNat [] = s at hs ⊢
  have h5 := of_decide_eq_true (List.all_eq_true.1 all5 s hs)
  obtain ⟨n1, n8, _, hl3, _, hnil⟩ := h5
  rw [mesh_Devices_f s 10 K, Option.bind_some, if_neg (by omega), i64_id (n := mD s - 1) (by omega) (by omega)]
  obtain ⟨k, hk, k0, k1⟩ := within_f (i64_wf w1) (show (0 : Int) ≤ mD s - 1 by omega) (by omega) (by omega)
  have g1 := get1 hs k0 (show k < mD s by omega)
  have hkn := known14 10 K
  rw [hk, Option.bind_some, mesh_At_f _ _ 10 K, Option.bind_some, mesh_Of_f _ _ 10 K, Option.bind_some, if_pos g1]
  by_cases hz : (s.length : Int) = 0
  · have hG : mG s k a2 = [] := by
      rw [mG, if_neg]
      intro h
      have := mT_spec h
      omega
    rw [if_pos hz, mesh_Group_f _ _ _ 10 K, Option.bind_some, hG, if_pos (show ((([] : List Int).length : Nat) : Int) = 0 from rfl), hkn]; rfl
  · rw [if_neg hz, i64_id (n := (s.length : Int) - 1) (by omega) (by omega)]
    obtain ⟨a, ha, a0', a1'⟩ := within_f (i64_wf w2) (show (0 : Int) ≤ (s.length : Int) - 1 by omega) (by omega) (by omega)
    obtain ⟨m, hm, m0, m1⟩ := within_f (i64_wf w3) (show (-99 : Int) ≤ 99 by omega) (by omega) (by omega)
    obtain ⟨c1, c2, c3⟩ := get2 hs k0 (show k < mD s by omega) a0' (show a < (s.length : Int) by omega)
    obtain ⟨d1, d2⟩ := get3 (b := m) hs k0 (show k < mD s by omega) a0' (show a < (s.length : Int) by omega)
    have hx := okD_iff.1 (List.all_eq_true.1 (mD_spec k0 (show k < mD s by omega)).2.2.1 _ (getD_mem (show a.toNat < s.length by omega) 0))
    have hG8 := mG_len (l := s) k a
    have hl := MeshSteps_l0 s k a m (mS s k a m) 10 K (mG s k a) hG8 c3 (mG s k a).length 0 0 10 (by omega) (by omega) (by omega) (by omega)
    rw [List.drop_zero, c1] at hl
    rw [ha, Option.bind_some, hm, Option.bind_some, mesh_Step_f _ _ _ _ 10 K, Option.bind_some, mesh_Group_f _ _ _ 10 K, Option.bind_some]
    rw [show law14_MeshSteps.l0 10 10 s k a m (mS s k a m) 0 ((mG s k a).length) 0 (mG s k a) = some (.inl 1) from hl, Option.bind_some]
    simp only [Sum.elim_inl]
    rw [i64_id (n := 0 - m) (by omega) (by omega), Int.zero_sub, mesh_Step_f _ _ _ _ 10 K, Option.bind_some, if_pos d1, if_pos (by omega), i64_id (n := m + s.getD a.toNat 0) (by omega) (by omega), mesh_Step_f _ _ _ _ 10 K, Option.bind_some, if_pos d2, if_pos trivial, if_pos c2, hkn]
    rfl

theorem get4 {s : List Int} (hs : s ∈ mshs) {d : Nat} (h1 : (d : Int) < mD s) : (∀ e : Nat, e < d → mA s d ≠ mA s e) ∧ (s.length < 3 → mA (1 :: s) d = 0 :: mA s d) := by
  have h8 := (mD_spec (show (0 : Int) ≤ d by omega) h1).2.2.2.2
  have h4 := (mD_spec (show (0 : Int) ≤ d by omega) h1).2.2.2.1
  have := List.all_eq_true.1 (List.all_eq_true.1 all4 s hs) d (List.mem_range.2 (by omega))
  have := of_decide_eq_true this (decide_eq_true h1)
  simp only [chk4, Bool.and_eq_true, List.all_eq_true, Bool.or_eq_true, decide_eq_true_eq] at this
  refine ⟨fun e he => this.1 e (List.mem_range.2 he), fun h => ?_⟩
  rcases this.2 with h' | h'
  · omega
  · exact h'
theorem MeshPlaces_l1 (s : List Int) (N : Int) (dd : Nat) (K : Nat) (hK : 10 ≤ K) (h : ∀ e : Nat, e < dd → mA s dd ≠ mA s e) (h8 : dd ≤ 8) : ∀ (d i n : Nat), dd = i + d → d < n →
    law14_MeshPlaces.l1 K n s N dd i = some (.inl ())
  | 0, i, n, hi, hn => by
    obtain ⟨n, rfl⟩ : ∃ m, n = m + 1 := ⟨n - 1, by omega⟩
    rw [law14_MeshPlaces.l1, if_neg (by omega)]
  | d + 1, i, n, hi, hn => by
    obtain ⟨n, rfl⟩ : ∃ m, n = m + 1 := ⟨n - 1, by omega⟩
    have h3 := mA_len (l := s) dd
    rw [law14_MeshPlaces.l1, if_pos (by omega), mesh_At_f _ _ K hK, Option.bind_some, mesh_At_f _ _ K hK, Option.bind_some, book_Same_f _ _ (by omega) K (by omega), Option.bind_some, if_neg (by simpa using h i (by omega)), i64_id (by omega) (by omega), show (i : Int) + 1 = ((i + 1 : Nat) : Int) by omega]
    exact MeshPlaces_l1 s N dd K hK h h8 d (i + 1) n (by omega) (by omega)
theorem MeshPlaces_l0 (s : List Int) (hs : s ∈ mshs) (K : Nat) (hK : 10 ≤ K) : ∀ (d i n : Nat), mD s = ((i + d : Nat) : Int) → 20 ≤ n + i →
    law14_MeshPlaces.l0 K n s (mD s) i = some (.inl ())
  | 0, i, n, hi, hn => by
    have h8 := (of_decide_eq_true (List.all_eq_true.1 all5 s hs)).2.1
    obtain ⟨n, rfl⟩ : ∃ m, n = m + 1 := ⟨n - 1, by omega⟩
    rw [law14_MeshPlaces.l0, if_neg (by omega)]
  | d + 1, i, n, hi, hn => by
    obtain ⟨_, h8, _, hl3, _⟩ := of_decide_eq_true (List.all_eq_true.1 all5 s hs)
    obtain ⟨n, rfl⟩ : ∃ m, n = m + 1 := ⟨n - 1, by omega⟩
    obtain ⟨g1, g2⟩ := get4 (d := i) hs (by omega)
    have h3 := mA_len (l := s) i
    have h4 := mA_len (l := 1 :: s) i
    have l1 := MeshPlaces_l1 s (mD s) i K hK g1 (by omega) i 0 n (by omega) (by omega)
    rw [law14_MeshPlaces.l0, if_pos (by omega), show law14_MeshPlaces.l1 K n s (mD s) i 0 = _ from l1, Option.bind_some]
    simp only [Sum.elim_inl]
    rw [i64_id (by omega) (by omega), show (i : Int) + 1 = ((i + 1 : Nat) : Int) by omega]
    have ih := MeshPlaces_l0 s hs K hK d (i + 1) n (by omega) (by omega)
    by_cases c : (s.length : Int) < 3
    · rw [if_pos c, if_pos (by simp; omega), mesh_At_f _ _ K hK, Option.bind_some, mesh_At_f _ _ K hK, Option.bind_some, if_pos (by simp; omega), show [1] ++ s = 1 :: s from rfl, show [0] ++ mA s i = 0 :: mA s i from rfl, g2 (by omega), book_Same_f _ _ (by simp; omega) K (by simp; omega), Option.bind_some, if_pos (by simp)]
      exact ih
    · rw [if_neg c]; exact ih
theorem MeshPlaces_ok (a0 : Int) (w0 : (Lit.int .i64 a0).wf = true) : ∃ k, law14_MeshPlaces.f k a0 = some true := by
  refine ⟨20, ?_⟩
  have K : (10 : Nat) ≤ 20 := by omega
  unfold law14_MeshPlaces.f
  obtain ⟨r, hr, r0, r1, r2, hs⟩ := which14 w0
  rw [meshes14, Option.bind_some, hr, Option.bind_some, if_pos ⟨r0, r1⟩, if_pos r2]
  generalize mshs.getD r.toNat [] = s at hs ⊢
  obtain ⟨n1, n8, hz, hl3, hor, _⟩ := of_decide_eq_true (List.all_eq_true.1 all5 s hs)
  have hkn := known14 20 K
  have l0 := MeshPlaces_l0 s hs 20 K (mD s).toNat 0 20 (by omega) (by omega)
  rw [mesh_Devices_f s 20 K, Option.bind_some, show law14_MeshPlaces.l0 20 20 s (mD s) 0 = _ from l0, Option.bind_some]
  simp only [Sum.elim_inl]
  rw [if_pos (by omega), mesh_At_f _ _ 20 K, Option.bind_some, if_pos (by omega)]
  by_cases c : (s.length : Int) = 3
  · rw [if_pos c, hkn]; rfl
  · have hor' : mD (1 :: s) = mD s := by
      rcases hor with h | h
      · omega
      · exact h
    rw [if_neg c, if_pos (by simp; omega), mesh_Devices_f _ 20 K, Option.bind_some, show [1] ++ s = 1 :: s from rfl, if_pos hor', hkn]
    rfl

theorem l3_14 (s : List Int) (d a : Int) (x15 x16 : Int) (y : List (List Int)) (K : Nat) (hK : 10 ≤ K) (hl : s.length ≤ 4) : ∀ (m : Nat) (b : Int) (n : Nat), b + m = 10 → -9 ≤ b → m < n →
    law14_MeshNumbers.l3 K n s d a b x15 x16 y = some (.inl ())
  | 0, b, n, hb, h0, hn => by
    obtain ⟨n, rfl⟩ : ∃ m, n = m + 1 := ⟨n - 1, by omega⟩
    rw [law14_MeshNumbers.l3, if_neg (by omega)]
  | m + 1, b, n, hb, h0, hn => by
    obtain ⟨n, rfl⟩ : ∃ m, n = m + 1 := ⟨n - 1, by omega⟩
    have h3 : 0 ≤ bits .and .i64 (s.length : Int) 3 ∧ bits .and .i64 (s.length : Int) 3 ≤ 3 := by
      rcases (show s.length = 0 ∨ s.length = 1 ∨ s.length = 2 ∨ s.length = 3 ∨ s.length = 4 by omega) with e | e | e | e | e <;> rw [e] <;> decide
    rw [law14_MeshNumbers.l3, if_pos (by omega), ref14_At_f _ _ K hK, Option.bind_some, same14 _ _ _ _ _ K hK, Option.bind_some, if_pos rfl, if_pos ⟨by simp, h3.1, h3.2⟩, same14 _ _ _ _ _ K hK, Option.bind_some, if_pos rfl, i64_id (n := b + 1) (by omega) (by omega)]
    exact l3_14 s d a x15 x16 y K hK hl m (b + 1) n (by omega) (by omega) (by omega)
theorem l2_14 (s : List Int) (d : Int) (x15 x16 : Int) (y : List (List Int)) (K : Nat) (hK : 10 ≤ K) (hl : s.length ≤ 4) : ∀ (m : Nat) (a : Int) (n : Nat), a + m = 4 → -1 ≤ a → m + 20 < n →
    law14_MeshNumbers.l2 K n s d a x15 x16 y = some (.inl ())
  | 0, b, n, hb, h0, hn => by
    obtain ⟨n, rfl⟩ : ∃ m, n = m + 1 := ⟨n - 1, by omega⟩
    rw [law14_MeshNumbers.l2, if_neg (by omega)]
  | m + 1, b, n, hb, h0, hn => by
    obtain ⟨n, rfl⟩ : ∃ m, n = m + 1 := ⟨n - 1, by omega⟩
    rw [law14_MeshNumbers.l2, if_pos (by omega), l3_14 s d b x15 x16 y K hK hl 19 (-9) n (by omega) (by omega) (by omega), Option.bind_some]
    simp only [Sum.elim_inl]
    rw [i64_id (n := b + 1) (by omega) (by omega)]
    exact l2_14 s d x15 x16 y K hK hl m (b + 1) n (by omega) (by omega) (by omega)
theorem l1_14 (s : List Int) (x15 x16 : Int) (y : List (List Int)) (K : Nat) (hK : 10 ≤ K) (hl : s.length ≤ 4) : ∀ (m : Nat) (a : Int) (n : Nat), a + m = 9 → -1 ≤ a → m + 30 < n →
    law14_MeshNumbers.l1 K n s a x15 x16 y = some (.inl ())
  | 0, b, n, hb, h0, hn => by
    obtain ⟨n, rfl⟩ : ∃ m, n = m + 1 := ⟨n - 1, by omega⟩
    rw [law14_MeshNumbers.l1, if_neg (by omega)]
  | m + 1, b, n, hb, h0, hn => by
    obtain ⟨n, rfl⟩ : ∃ m, n = m + 1 := ⟨n - 1, by omega⟩
    rw [law14_MeshNumbers.l1, if_pos (by omega), l2_14 s b x15 x16 y K hK hl 5 (-1) n (by omega) (by omega) (by omega), Option.bind_some]
    simp only [Sum.elim_inl]
    rw [i64_id (n := b + 1) (by omega) (by omega)]
    exact l1_14 s x15 x16 y K hK hl m (b + 1) n (by omega) (by omega) (by omega)
theorem l0_14 (y : List (List Int)) (hy : ∀ s ∈ y, s.length ≤ 4) (hl : y.length ≤ 100) (K : Nat) (hK : 10 ≤ K) : ∀ (d i n : Nat), y.length = i + d → d + 50 < n →
    law14_MeshNumbers.l0 K n y.length i y = some (.inl ())
  | 0, i, n, hi, hn => by
    obtain ⟨n, rfl⟩ : ∃ m, n = m + 1 := ⟨n - 1, by omega⟩
    rw [law14_MeshNumbers.l0, if_neg (by omega)]
  | d + 1, i, n, hi, hn => by
    obtain ⟨n, rfl⟩ : ∃ m, n = m + 1 := ⟨n - 1, by omega⟩
    rw [law14_MeshNumbers.l0, if_pos (by omega), if_pos (by omega), Int.toNat_natCast, if_pos (by omega), l1_14 _ _ _ y K hK (hy _ (getD_mem (show i < y.length by omega) [])) 10 (-1) n (by omega) (by omega) (by omega), Option.bind_some]
    simp only [Sum.elim_inl]
    rw [i64_id (by omega) (by omega), show (i : Int) + 1 = ((i + 1 : Nat) : Int) by omega]
    exact l0_14 y hy hl K hK d (i + 1) n (by omega) (by omega)
theorem MeshNumbers_k (k : Nat) (hk : 200 ≤ k) : law14_MeshNumbers.f k = some true := by
  have K : 10 ≤ k := by omega
  unfold law14_MeshNumbers.f
  rw [meshes14, Option.bind_some, if_pos (by decide)]
  generalize hy : mshs ++ [[0], [9], [3, 3], [-1, -8], [1, 1, 1, 1], [2, 2, 3]] = y
  have h1 : ∀ s ∈ y, s.length ≤ 4 := by rw [← hy]; decide
  have h2 : y.length = 17 := by rw [← hy]; decide
  have h := l0_14 y h1 (by omega) k K 17 0 k (by omega) (by omega)
  rw [Int.natCast_zero] at h
  rw [h, Option.bind_some]
  simp only [Sum.elim_inl]
  rw [same14 _ _ _ _ _ k K, Option.bind_some, if_pos rfl, known14 k K, Option.bind_some]
theorem MeshNumbers_ok : ∃ k, law14_MeshNumbers.f k = some true := ⟨200, MeshNumbers_k 200 (Nat.le_refl _)⟩
end Go.Pf

namespace Go.Pf
open Go Go.Vm
/-! Chapter 15: specs. -/
theorem n0 : ((0 : Nat) : Int) = 0 := rfl
theorem drop0 {α : Type} (l : List α) : l.drop 0 = l := rfl
theorem slices_Index_l0 (xs : List Int) (v : Int) (hl : xs.length ≤ 4611686018427387904) : ∀ (d i n : Nat), xs.length = i + d → d < n →
    ∃ r, slices_Index_int.l0 n xs v xs.length i = some r ∧ ((r = .inl () ∧ v ∉ xs.drop i) ∨ ∃ j : Int, r = .inr j ∧ 0 ≤ j ∧ v ∈ xs.drop i)
  | 0, i, n, hi, hn => by
    obtain ⟨n, rfl⟩ : ∃ m, n = m + 1 := ⟨n - 1, by omega⟩
    rw [slices_Index_int.l0, if_neg (by omega), List.drop_eq_nil_of_le (by omega)]
    exact ⟨_, rfl, .inl ⟨rfl, by simp⟩⟩
  | d + 1, i, n, hi, hn => by
    obtain ⟨n, rfl⟩ : ∃ m, n = m + 1 := ⟨n - 1, by omega⟩
    rw [slices_Index_int.l0, if_pos (by omega), if_pos (by omega), Int.toNat_natCast, drop_getD (show i < xs.length by omega) 0]
    by_cases c : v = xs.getD i 0
    · rw [if_pos c]
      exact ⟨_, rfl, .inr ⟨_, rfl, by omega, by rw [c]; simp⟩⟩
    · rw [if_neg c, i64_id (by omega) (by omega), show (i : Int) + 1 = ((i + 1 : Nat) : Int) by omega]
      obtain ⟨r, h1, h2⟩ := slices_Index_l0 xs v hl d (i + 1) n (by omega) (by omega)
      refine ⟨r, h1, ?_⟩
      rcases h2 with ⟨h2, h3⟩ | ⟨j, h2, h3, h4⟩
      · exact .inl ⟨h2, by simp only [List.mem_cons]; exact fun h => h.elim c h3⟩
      · exact .inr ⟨j, h2, h3, List.mem_cons_of_mem _ h4⟩
theorem slices_Contains_f (xs : List Int) (v : Int) (hl : xs.length ≤ 4611686018427387904) (k : Nat) (hk : xs.length < k) : slices_Contains_int.f k xs v = some (decide (v ∈ xs)) := by
  unfold slices_Contains_int.f slices_Index_int.f
  obtain ⟨r, h1, h2⟩ := slices_Index_l0 xs v hl xs.length 0 k (by omega) hk
  rw [n0] at h1
  rw [h1, Option.bind_some]
  rw [drop0] at h2
  rcases h2 with ⟨rfl, h3⟩ | ⟨j, rfl, h3, h4⟩
  · simp [h3]
  · simp [h3, h4]

def okGo (m : Int) : List Int → List Int → Bool
  | _, [] => true
  | pre, k :: r => decide (-1 ≤ k) && decide (k < m) && (decide (k = -1) || !decide (k ∈ pre)) && okGo m (pre ++ [k]) r
def mSp (l sp : List Int) (r : Int) : Bool := mR l && decide ((sp.length : Int) = r) && okGo l.length [] sp
theorem take_snoc {l : List Int} {i : Nat} (h : i < l.length) : l.take (i + 1) = l.take i ++ [l.getD i 0] := by
  rw [List.take_add_one, List.getD_eq_getElem?_getD, List.getElem?_eq_getElem h]; rfl
theorem spec_Right_l0 (l sp : List Int) (hs : sp.length ≤ 4611686018427387904) (K : Nat) (hK : sp.length < K) : ∀ (d i n : Nat), sp.length = i + d → d < n →
    spec_Right.l0 K n l sp sp sp.length i = some (if okGo l.length (sp.take i) (sp.drop i) = true then .inl () else .inr false)
  | 0, i, n, hi, hn => by
    obtain ⟨n, rfl⟩ : ∃ m, n = m + 1 := ⟨n - 1, by omega⟩
    rw [spec_Right.l0, if_neg (by omega), List.drop_eq_nil_of_le (by omega)]; rfl
  | d + 1, i, n, hi, hn => by
    obtain ⟨n, rfl⟩ : ∃ m, n = m + 1 := ⟨n - 1, by omega⟩
    have ih := spec_Right_l0 l sp hs K hK d (i + 1) n (by omega) (by omega)
    rw [take_snoc (show i < sp.length by omega)] at ih
    rw [spec_Right.l0, if_pos (by omega), if_pos (by omega), Int.toNat_natCast, drop_getD (show i < sp.length by omega) 0, i64_id (by omega) (by omega), show (i : Int) + 1 = ((i + 1 : Nat) : Int) by omega, drop0]
    generalize sp.getD i 0 = x at ih ⊢
    by_cases c1 : x < -1
    · rw [if_pos c1, if_neg (by simp [okGo]; omega)]
    by_cases c2 : (l.length : Int) ≤ x
    · rw [if_neg c1, if_pos c2, if_neg (by simp [okGo]; omega)]
    have h1 : -1 ≤ x := by omega
    have h2 : x < (l.length : Int) := by omega
    rw [if_neg c1, if_neg c2]
    by_cases c3 : x = -1
    · have h2' : (-1 : Int) < l.length := by omega
      rw [if_pos c3, ih]; simp [okGo, c3, h2']
    · rw [if_neg c3, if_pos (by omega), slices_Contains_f _ _ (by simp; omega) K (by simp; omega), Option.bind_some]
      by_cases c4 : x ∈ sp.take i
      · rw [if_pos (by simpa using c4), if_neg (by simp [okGo, c3, c4])]
      · rw [if_neg (by simpa using c4), ih]; simp [okGo, c3, c4, h1, h2]
theorem spec_Right_f (l sp : List Int) (r : Int) (hs : sp.length ≤ 4611686018427387904) (k : Nat) (hk : sp.length + 10 ≤ k) : spec_Right.f k l sp r = some (mSp l sp r) := by
  unfold spec_Right.f mSp
  rw [mesh_Right_f l k (by omega), Option.bind_some]
  by_cases h : mR l = true
  · by_cases hr : (sp.length : Int) = r
    · have := spec_Right_l0 l sp hs k (by omega) sp.length 0 k (by omega) (by omega)
      rw [if_pos h, if_pos hr, show (0 : Int) = ((0 : Nat) : Int) from rfl, this, Option.bind_some, drop0, List.take_zero, h]
      cases okGo (l.length : Int) [] sp <;> simp [hr]
    · rw [if_pos h, if_neg hr]; simp [hr]
  · rw [if_neg h]; simp at h; simp [h]
theorem ref14_Spec_l1 (l sp : List Int) (i : Nat) (hi : i < sp.length) (hs : sp.length ≤ 4611686018427387904) (x19 x20 : Int) : ∀ (d j n : Nat), i = j + d → d < n →
    ref14_Spec.l1 n l sp i j x19 x20 = some (if 0 ≤ sp.getD i 0 ∧ sp.getD i 0 ∈ (sp.take i).drop j then .inr false else .inl ())
  | 0, j, n, hj, hn => by
    obtain ⟨n, rfl⟩ : ∃ m, n = m + 1 := ⟨n - 1, by omega⟩
    rw [ref14_Spec.l1, if_neg (by omega), List.drop_eq_nil_of_le (by simp; omega), if_neg (by simp)]
  | d + 1, j, n, hj, hn => by
    obtain ⟨n, rfl⟩ : ∃ m, n = m + 1 := ⟨n - 1, by omega⟩
    have hlen : j < (sp.take i).length := by simp; omega
    have hg : (sp.take i).getD j 0 = sp.getD j 0 := by
      rw [List.getD_eq_getElem?_getD, List.getD_eq_getElem?_getD, List.getElem?_take, if_pos (by omega)]
    rw [ref14_Spec.l1, if_pos (by omega), if_pos (by omega), if_pos (by omega), Int.toNat_natCast, Int.toNat_natCast, drop_getD hlen 0, hg, i64_id (by omega) (by omega), show (j : Int) + 1 = ((j + 1 : Nat) : Int) by omega, ref14_Spec_l1 l sp i hi hs x19 x20 d (j + 1) n (by omega) (by omega)]
    by_cases c1 : sp.getD j 0 = sp.getD i 0
    · by_cases c2 : 0 ≤ sp.getD i 0
      · rw [if_pos c1, if_pos c2, if_pos ⟨c2, by rw [c1]; simp⟩]
      · rw [if_pos c1, if_neg c2, if_neg (fun h => c2 h.1), if_neg (fun h => c2 h.1)]
    · rw [if_neg c1]
      simp only [List.mem_cons, Ne.symm c1, false_or]
theorem ref14_Spec_l0 (l sp : List Int) (hs : sp.length ≤ 4611686018427387904) (K : Nat) : ∀ (d i n : Nat), sp.length = i + d → sp.length + sp.length + 2 ≤ n + i →
    ref14_Spec.l0 K n l sp sp.length i = some (if okGo l.length (sp.take i) (sp.drop i) = true then .inl () else .inr false)
  | 0, i, n, hi, hn => by
    obtain ⟨n, rfl⟩ : ∃ m, n = m + 1 := ⟨n - 1, by omega⟩
    rw [ref14_Spec.l0, if_neg (by omega), List.drop_eq_nil_of_le (by omega)]; rfl
  | d + 1, i, n, hi, hn => by
    obtain ⟨n, rfl⟩ : ∃ m, n = m + 1 := ⟨n - 1, by omega⟩
    have ih := ref14_Spec_l0 l sp hs K d (i + 1) n (by omega) (by omega)
    have hin := ref14_Spec_l1 l sp i (by omega) hs sp.length i i 0 n (by omega) (by omega)
    rw [take_snoc (show i < sp.length by omega)] at ih
    rw [ref14_Spec.l0, if_pos (by omega), if_pos (by omega), Int.toNat_natCast, drop_getD (show i < sp.length by omega) 0, i64_id (by omega) (by omega), show (i : Int) + 1 = ((i + 1 : Nat) : Int) by omega]
    rw [n0, drop0] at hin
    rw [hin]
    generalize sp.getD i 0 = x at ih ⊢
    by_cases c1 : x < -1
    · rw [if_pos c1, if_neg (by simp [okGo]; omega)]
    by_cases c2 : (l.length : Int) ≤ x
    · rw [if_neg c1, if_pos c2, if_neg (by simp [okGo]; omega)]
    have h1 : -1 ≤ x := by omega
    have h2 : x < (l.length : Int) := by omega
    rw [if_neg c1, if_neg c2, Option.bind_some]
    by_cases c3 : 0 ≤ x ∧ x ∈ sp.take i
    · have c4 : ¬ x = -1 := by omega
      rw [if_pos c3, if_neg (by simp [okGo, c4, c3.2])]; rfl
    · rw [if_neg c3]
      simp only [Sum.elim_inl]
      rw [ih]
      have c5 : x = -1 ∨ x ∉ sp.take i := by
        by_cases h : x ∈ sp.take i
        · exact .inl (by have : ¬ 0 ≤ x := fun h' => c3 ⟨h', h⟩
                         omega)
        · exact .inr h
      have e : okGo l.length (sp.take i) (x :: sp.drop (i + 1)) = okGo l.length (sp.take i ++ [x]) (sp.drop (i + 1)) := by
        rcases c5 with h | h <;> simp [okGo, h, h1, h2]
        omega
      rw [e]
theorem ref14_Spec_f (l sp : List Int) (r : Int) (hs : sp.length ≤ 4611686018427387904) (k : Nat) (hk : sp.length + sp.length + 10 ≤ k) : ref14_Spec.f k l sp r = some (mSp l sp r) := by
  unfold ref14_Spec.f mSp
  rw [ref14_Right_f l k (by omega), Option.bind_some]
  by_cases h : mR l = true
  · by_cases hr : (sp.length : Int) = r
    · have := ref14_Spec_l0 l sp hs k sp.length 0 k (by omega) (by omega)
      rw [if_pos h, if_pos hr, show (0 : Int) = ((0 : Nat) : Int) from rfl, this, Option.bind_some, drop0, List.take_zero, h]
      cases okGo (l.length : Int) [] sp <;> simp [hr]
    · rw [if_pos h, if_neg hr]; simp [hr]
  · rw [if_neg h]; simp at h; simp [h]

/-! Parts, copies, firsts. -/
def part1 (l : List Int) (k : Int) : Int := if k < 0 then 1 else l.getD k.toNat 0
theorem okGo_mem {m : Int} : ∀ {r pre : List Int}, okGo m pre r = true → ∀ x ∈ r, -1 ≤ x ∧ x < m
  | [], _, _, x, hx => by cases hx
  | k :: r, pre, h, x, hx => by
    simp only [okGo, Bool.and_eq_true, decide_eq_true_eq] at h
    rcases List.mem_cons.1 hx with rfl | hx
    · exact ⟨h.1.1.1, h.1.1.2⟩
    · exact okGo_mem h.2 x hx
theorem mSp_spec {l sp : List Int} {r : Int} (h : mSp l sp r = true) : mR l = true ∧ (sp.length : Int) = r ∧ okGo l.length [] sp = true := by
  unfold mSp at h
  simp only [Bool.and_eq_true, decide_eq_true_eq] at h
  exact ⟨h.1.1, h.1.2, h.2⟩
/-- At most three axes: few entries that are not -1. -/
theorem okGo_len {m : Int} (hm : m ≤ 3) : ∀ {r pre : List Int}, okGo m pre r = true → True := fun _ => trivial
def mP (l sp : List Int) : List Int := if mSp l sp sp.length = true then sp.map (part1 l) else []
theorem set_repl (a : List Int) (i d : Nat) (x : Int) : (a ++ List.replicate (d + 1) 0).set a.length x = (a ++ [x]) ++ List.replicate d 0 := by
  rw [List.set_append, if_neg (by omega), Nat.sub_self, List.append_assoc]; rfl
theorem spec_Parts_l0 (l sp : List Int) (hs : sp.length ≤ 4611686018427387904) (hb : ∀ x ∈ sp, -1 ≤ x ∧ x < (l.length : Int)) : ∀ (d i n : Nat), sp.length = i + d → d < n →
    spec_Parts.l0 n l sp sp.length i ((sp.take i).map (part1 l) ++ List.replicate d 0) = some (sp.map (part1 l))
  | 0, i, n, hi, hn => by
    obtain ⟨n, rfl⟩ : ∃ m, n = m + 1 := ⟨n - 1, by omega⟩
    rw [spec_Parts.l0, if_neg (by omega), List.take_of_length_le (by omega)]; simp
  | d + 1, i, n, hi, hn => by
    obtain ⟨n, rfl⟩ : ∃ m, n = m + 1 := ⟨n - 1, by omega⟩
    have ih := spec_Parts_l0 l sp hs hb d (i + 1) n (by omega) (by omega)
    have hx := hb _ (getD_mem (show i < sp.length by omega) 0)
    rw [take_snoc (show i < sp.length by omega), List.map_append] at ih
    have hlen : ((sp.take i).map (part1 l)).length = i := by simp; omega
    have hset : ∀ x, ((sp.take i).map (part1 l) ++ List.replicate (d + 1) 0).set i x = ((sp.take i).map (part1 l) ++ [x]) ++ List.replicate d 0 := fun x => by
      have := set_repl ((sp.take i).map (part1 l)) i d x
      rwa [hlen] at this
    rw [spec_Parts.l0, if_pos (by omega), if_pos (by omega), if_pos (by simp; omega), Int.toNat_natCast, if_pos (by simp; omega), i64_id (by omega) (by omega), show (i : Int) + 1 = ((i + 1 : Nat) : Int) by omega]
    generalize sp.getD i 0 = x at ih hx ⊢
    by_cases c : x = -1
    · rw [if_pos c, hset]
      rw [c, show List.map (part1 l) [-1] = [1] from rfl] at ih
      exact ih
    · rw [if_neg c, if_pos ⟨by omega, hx.2⟩, if_pos (by simp; omega), if_pos (by simp; omega), List.set_set, hset]
      rw [show List.map (part1 l) [x] = [l.getD x.toNat 0] by simp [part1]; omega] at ih
      exact ih
theorem spec_Parts_f (l sp : List Int) (hs : sp.length ≤ 17592186044415) (k : Nat) (hk : sp.length + 10 ≤ k) : spec_Parts.f k l sp = some (mP l sp) := by
  unfold spec_Parts.f mP
  rw [spec_Right_f l sp _ (by omega) k hk, Option.bind_some]
  by_cases h : mSp l sp sp.length = true
  · obtain ⟨h1, h2, h3⟩ := mSp_spec h
    have := spec_Parts_l0 l sp (by omega) (fun x hx => okGo_mem h3 x hx) sp.length 0 k (by omega) (by omega)
    rw [if_pos h, if_pos (by omega), Int.toNat_natCast, if_pos h]
    rw [n0, List.take_zero, List.map_nil, List.nil_append] at this
    rw [this]; rfl
  · rw [if_neg h, if_neg h]
theorem ref14_Parts_l0 (l sp : List Int) (hs : sp.length ≤ 17592186044415) (hb : ∀ x ∈ sp, -1 ≤ x ∧ x < (l.length : Int)) : ∀ (d i n : Nat), sp.length = i + d → d < n →
    ref14_Parts.l0 n l sp sp.length i ((sp.take i).map (part1 l)) = some (sp.map (part1 l))
  | 0, i, n, hi, hn => by
    obtain ⟨n, rfl⟩ : ∃ m, n = m + 1 := ⟨n - 1, by omega⟩
    rw [ref14_Parts.l0, if_neg (by omega), List.take_of_length_le (by omega)]
  | d + 1, i, n, hi, hn => by
    obtain ⟨n, rfl⟩ : ∃ m, n = m + 1 := ⟨n - 1, by omega⟩
    have ih := ref14_Parts_l0 l sp hs hb d (i + 1) n (by omega) (by omega)
    have hx := hb _ (getD_mem (show i < sp.length by omega) 0)
    rw [take_snoc (show i < sp.length by omega), List.map_append] at ih
    rw [ref14_Parts.l0, if_pos (by omega), if_pos (by omega), Int.toNat_natCast, i64_id (by omega) (by omega), show (i : Int) + 1 = ((i + 1 : Nat) : Int) by omega]
    generalize sp.getD i 0 = x at ih hx ⊢
    by_cases c : 0 ≤ x
    · rw [if_pos c, if_pos ⟨c, hx.2⟩, if_pos (by simp; omega)]
      rw [show List.map (part1 l) [x] = [l.getD x.toNat 0] by simp [part1]; omega] at ih
      exact ih
    · rw [if_neg c, if_pos (by simp; omega)]
      rw [show List.map (part1 l) [x] = [1] by simp [part1]; omega] at ih
      exact ih
theorem ref14_Parts_f (l sp : List Int) (hs : sp.length ≤ 17592186044415) (k : Nat) (hk : sp.length + sp.length + 10 ≤ k) : ref14_Parts.f k l sp = some (mP l sp) := by
  unfold ref14_Parts.f mP
  rw [ref14_Right_f l k (by omega), Option.bind_some, ref14_Spec_f l sp _ (by omega) k hk, Option.bind_some]
  by_cases h : mSp l sp sp.length = true
  · obtain ⟨h1, h2, h3⟩ := mSp_spec h
    have := ref14_Parts_l0 l sp (by omega) (fun x hx => okGo_mem h3 x hx) sp.length 0 k (by omega) (by omega)
    rw [if_pos h1, if_pos h, if_pos h]
    rw [n0, List.take_zero, List.map_nil] at this
    rw [this]; rfl
  · rw [if_neg h, if_neg h]
    split <;> rfl

/-! Copies. -/
def mC (l sp : List Int) : Int := if mSp l sp sp.length = true then (mP l sp).foldl (fun n p => n.tdiv p) (mD l) else 0
theorem tdiv_bd {a p : Int} (h0 : 0 ≤ a) (h8 : a ≤ 8) (hp : 1 ≤ p) : 0 ≤ a.tdiv p ∧ a.tdiv p ≤ 8 := by
  rw [Int.tdiv_eq_ediv_of_nonneg h0]
  exact ⟨Int.ediv_nonneg h0 (by omega), Int.le_trans (Int.ediv_le_self _ h0) h8⟩
theorem spec_Copies_l0 (y : List Int) (hy : y.length ≤ 17592186044415) (hp : ∀ x ∈ y, 1 ≤ x) : ∀ (d i : Nat) (c : Int) (n : Nat), y.length = i + d → 0 ≤ c → c ≤ 8 → d < n →
    spec_Copies.l0 n c y.length i y = some ((y.drop i).foldl (fun n p => n.tdiv p) c)
  | 0, i, c, n, hi, h0, h8, hn => by
    obtain ⟨n, rfl⟩ : ∃ m, n = m + 1 := ⟨n - 1, by omega⟩
    rw [spec_Copies.l0, if_neg (by omega), List.drop_eq_nil_of_le (by omega)]; rfl
  | d + 1, i, c, n, hi, h0, h8, hn => by
    obtain ⟨n, rfl⟩ : ∃ m, n = m + 1 := ⟨n - 1, by omega⟩
    have hx := hp _ (getD_mem (show i < y.length by omega) 0)
    have hb := tdiv_bd h0 h8 hx
    rw [spec_Copies.l0, if_pos (by omega), if_pos (by omega), Int.toNat_natCast, if_pos (by omega), if_pos (by omega), drop_getD (show i < y.length by omega) 0, i64_id (by omega) (by omega), i64_id (n := (i : Int) + 1) (by omega) (by omega), show (i : Int) + 1 = ((i + 1 : Nat) : Int) by omega, spec_Copies_l0 y hy hp d (i + 1) _ n (by omega) hb.1 hb.2 (by omega)]
    rfl
theorem ref14_Copies_l0 (y : List Int) (hy : y.length ≤ 17592186044415) (hp : ∀ x ∈ y, 1 ≤ x) : ∀ (d i : Nat) (c : Int) (n : Nat), y.length = i + d → 0 ≤ c → c ≤ 8 → d < n →
    ref14_Copies.l0 n c y.length i y = some ((y.drop i).foldl (fun n p => n.tdiv p) c)
  | 0, i, c, n, hi, h0, h8, hn => by
    obtain ⟨n, rfl⟩ : ∃ m, n = m + 1 := ⟨n - 1, by omega⟩
    rw [ref14_Copies.l0, if_neg (by omega), List.drop_eq_nil_of_le (by omega)]; rfl
  | d + 1, i, c, n, hi, h0, h8, hn => by
    obtain ⟨n, rfl⟩ : ∃ m, n = m + 1 := ⟨n - 1, by omega⟩
    have hx := hp _ (getD_mem (show i < y.length by omega) 0)
    have hb := tdiv_bd h0 h8 hx
    rw [ref14_Copies.l0, if_pos (by omega), if_pos (by omega), Int.toNat_natCast, if_pos (by omega), if_pos (by omega), drop_getD (show i < y.length by omega) 0, i64_id (by omega) (by omega), i64_id (n := (i : Int) + 1) (by omega) (by omega), show (i : Int) + 1 = ((i + 1 : Nat) : Int) by omega, ref14_Copies_l0 y hy hp d (i + 1) _ n (by omega) hb.1 hb.2 (by omega)]
    rfl
theorem mP_len {l sp : List Int} : (mP l sp).length ≤ sp.length := by
  unfold mP
  split <;> simp
theorem mP_pos {l sp : List Int} : ∀ x ∈ mP l sp, 1 ≤ x ∧ x ≤ 8 := by
  intro x hx
  unfold mP at hx
  split at hx
  · rename_i h
    obtain ⟨h1, h2, h3⟩ := mSp_spec h
    obtain ⟨k, hk, rfl⟩ := List.mem_map.1 hx
    have hb := okGo_mem h3 k hk
    unfold part1
    split
    · omega
    · exact okD_iff.1 (List.all_eq_true.1 (mR_spec h1).2.1 _ (getD_mem (show k.toNat < l.length by omega) 0))
  · cases hx
theorem mD_bd (l : List Int) : 0 ≤ mD l ∧ mD l ≤ 8 := by
  unfold mD
  split
  · rename_i h; have := mR_spec h; omega
  · omega
theorem spec_Copies_f (l sp : List Int) (hs : sp.length ≤ 17592186044415) (k : Nat) (hk : sp.length + 10 ≤ k) : spec_Copies.f k l sp = some (mC l sp) := by
  unfold spec_Copies.f mC
  rw [spec_Right_f l sp _ (by omega) k hk, Option.bind_some]
  have hl := mP_len (l := l) (sp := sp)
  have hb := mD_bd l
  by_cases h : mSp l sp sp.length = true
  · have := spec_Copies_l0 (mP l sp) (by omega) (fun x hx => (mP_pos x hx).1) (mP l sp).length 0 (mD l) k (by omega) hb.1 hb.2 (by omega)
    rw [if_pos h, mesh_Devices_f l k (by omega), Option.bind_some, spec_Parts_f l sp hs k hk, Option.bind_some, if_pos h]
    rw [n0, drop0] at this
    rw [this]; rfl
  · rw [if_neg h, if_neg h]
theorem ref14_Copies_f (l sp : List Int) (hs : sp.length ≤ 17592186044415) (k : Nat) (hk : sp.length + sp.length + 10 ≤ k) : ref14_Copies.f k l sp = some (mC l sp) := by
  unfold ref14_Copies.f mC
  rw [ref14_Right_f l k (by omega), Option.bind_some, ref14_Spec_f l sp _ (by omega) k hk, Option.bind_some]
  have hl := mP_len (l := l) (sp := sp)
  have hb := mD_bd l
  by_cases h : mSp l sp sp.length = true
  · have := ref14_Copies_l0 (mP l sp) (by omega) (fun x hx => (mP_pos x hx).1) (mP l sp).length 0 (mD l) k (by omega) hb.1 hb.2 (by omega)
    rw [if_pos (mSp_spec h).1, if_pos h, ref14_Devices_f l k (by omega), Option.bind_some, ref14_Parts_f l sp hs k hk, Option.bind_some, if_pos h]
    rw [n0, drop0] at this
    rw [this]; rfl
  · rw [if_neg h, if_neg h]
    split <;> rfl

/-! Firsts. -/
def msk (sp : List Int) : Nat → List Int → List Int
  | _, [] => []
  | i, a :: r => (if (i : Int) ∈ sp then a else 0) :: msk sp (i + 1) r
theorem msk_len (sp : List Int) : ∀ (l : List Int) (i : Nat), (msk sp i l).length = l.length
  | [], _ => rfl
  | _ :: r, i => by show (msk sp (i + 1) r).length + 1 = _; rw [msk_len sp r]; rfl
theorem msk_snoc (sp : List Int) (a : Int) : ∀ (l : List Int) (i : Nat), msk sp i (l ++ [a]) = msk sp i l ++ [if ((i + l.length : Nat) : Int) ∈ sp then a else 0]
  | [], i => rfl
  | b :: r, i => by
    show _ :: msk sp (i + 1) (r ++ [a]) = _ :: _
    rw [msk_snoc sp a r (i + 1)]
    show _ = _ :: (msk sp (i + 1) r ++ _)
    congr 3
    rw [show i + 1 + r.length = i + (b :: r).length by simp; omega]
def mF (l sp : List Int) (d : Int) : Int := if mSp l sp sp.length = true ∧ 0 ≤ d ∧ d < mD l then mO l (msk sp 0 (atM l d)) else -1
theorem set_mid (a b : List Int) (y x : Int) : (a ++ y :: b).set a.length x = (a ++ [x]) ++ b := by
  rw [List.set_append, if_neg (by omega), Nat.sub_self, List.append_assoc]; rfl
theorem first_state (sp A : List Int) {i : Nat} (hi : i < A.length) :
    msk sp 0 (A.take i) ++ A.drop i = msk sp 0 (A.take i) ++ A.getD i 0 :: A.drop (i + 1) ∧ (msk sp 0 (A.take i)).length = i ∧
    msk sp 0 (A.take (i + 1)) = msk sp 0 (A.take i) ++ [if (i : Int) ∈ sp then A.getD i 0 else 0] := by
  refine ⟨by rw [drop_getD hi 0], by rw [msk_len]; simp; omega, ?_⟩
  rw [take_snoc hi, msk_snoc]
  have : 0 + (A.take i).length = i := by simp; omega
  rw [this]
theorem spec_First_l0 (l sp : List Int) (A : List Int) (hA : A.length ≤ 8) (hs : sp.length ≤ 17592186044415) (K : Nat) (hK : sp.length < K) : ∀ (d i n : Nat), A.length = i + d → d < n →
    spec_First.l0 K n l sp A.length i (msk sp 0 (A.take i) ++ A.drop i) = some (msk sp 0 A)
  | 0, i, n, hi, hn => by
    obtain ⟨n, rfl⟩ : ∃ m, n = m + 1 := ⟨n - 1, by omega⟩
    rw [spec_First.l0, if_neg (by omega), List.take_of_length_le (by omega), List.drop_eq_nil_of_le (by omega), List.append_nil]
  | d + 1, i, n, hi, hn => by
    obtain ⟨n, rfl⟩ : ∃ m, n = m + 1 := ⟨n - 1, by omega⟩
    obtain ⟨h1, h2, h3⟩ := first_state sp A (show i < A.length by omega)
    have ih := spec_First_l0 l sp A hA hs K hK d (i + 1) n (by omega) (by omega)
    rw [h3] at ih
    have hset := fun x => set_mid (msk sp 0 (A.take i)) (A.drop (i + 1)) (A.getD i 0) x
    rw [h2] at hset
    rw [h1, spec_First.l0, if_pos (by omega), slices_Contains_f sp _ (by omega) K hK, Option.bind_some, i64_id (by omega) (by omega), show (i : Int) + 1 = ((i + 1 : Nat) : Int) by omega]
    by_cases c : (i : Int) ∈ sp
    · rw [if_pos (by simpa using c)]
      rw [if_pos c, List.append_assoc] at ih
      exact ih
    · rw [if_neg (by simpa using c), if_pos (by simp [h2]; omega), Int.toNat_natCast, if_pos (by simp [h2]), hset]
      rw [if_neg c] at ih
      exact ih
theorem ref14_First_l1 (l sp : List Int) (x : Int) (a b : Int) (y : List Int) (hs : sp.length ≤ 17592186044415) : ∀ (d j : Nat) (c : Bool) (n : Nat), sp.length = j + d → d < n →
    ref14_First.l1 n l sp x c a b sp.length j y = some (c || decide (x ∈ sp.drop j))
  | 0, j, c, n, hj, hn => by
    obtain ⟨n, rfl⟩ : ∃ m, n = m + 1 := ⟨n - 1, by omega⟩
    rw [ref14_First.l1, if_neg (by omega), List.drop_eq_nil_of_le (by omega)]; simp
  | d + 1, j, c, n, hj, hn => by
    obtain ⟨n, rfl⟩ : ∃ m, n = m + 1 := ⟨n - 1, by omega⟩
    rw [ref14_First.l1, if_pos (by omega), i64_id (by omega) (by omega), show (j : Int) + 1 = ((j + 1 : Nat) : Int) by omega, drop_getD (show j < sp.length by omega) 0]
    cases c with
    | true => rw [if_pos rfl, ref14_First_l1 l sp x a b y hs d (j + 1) true n (by omega) (by omega)]; simp
    | false =>
      rw [if_neg (by simp), if_pos (by omega), Int.toNat_natCast, ref14_First_l1 l sp x a b y hs d (j + 1) _ n (by omega) (by omega)]
      generalize sp.getD j 0 = z
      by_cases h : z = x
      · subst h; simp
      · have h' : x ≠ z := Ne.symm h
        simp [h, h']
theorem ref14_First_l0 (l sp : List Int) (A : List Int) (hA : A.length ≤ 8) (hs : sp.length ≤ 17592186044415) (K : Nat) : ∀ (d i n : Nat), A.length = i + d → d + sp.length + 2 < n →
    ref14_First.l0 K n l sp A.length i (msk sp 0 (A.take i) ++ A.drop i) = some (msk sp 0 A)
  | 0, i, n, hi, hn => by
    obtain ⟨n, rfl⟩ : ∃ m, n = m + 1 := ⟨n - 1, by omega⟩
    rw [ref14_First.l0, if_neg (by omega), List.take_of_length_le (by omega), List.drop_eq_nil_of_le (by omega), List.append_nil]
  | d + 1, i, n, hi, hn => by
    obtain ⟨n, rfl⟩ : ∃ m, n = m + 1 := ⟨n - 1, by omega⟩
    obtain ⟨h1, h2, h3⟩ := first_state sp A (show i < A.length by omega)
    have ih := ref14_First_l0 l sp A hA hs K d (i + 1) n (by omega) (by omega)
    rw [h3] at ih
    have hset := fun x => set_mid (msk sp 0 (A.take i)) (A.drop (i + 1)) (A.getD i 0) x
    rw [h2] at hset
    have hin := ref14_First_l1 l sp i A.length i (msk sp 0 (A.take i) ++ A.getD i 0 :: A.drop (i + 1)) hs sp.length 0 false n (by omega) (by omega)
    rw [n0, drop0] at hin
    rw [h1, ref14_First.l0, if_pos (by omega), hin, Option.bind_some, i64_id (by omega) (by omega), show (i : Int) + 1 = ((i + 1 : Nat) : Int) by omega]
    by_cases c : (i : Int) ∈ sp
    · rw [if_pos (by simpa using c)]
      rw [if_pos c, List.append_assoc] at ih
      exact ih
    · rw [if_neg (by simpa using c), if_pos (by simp [h2]; omega), Int.toNat_natCast, if_pos (by simp [h2]), hset]
      rw [if_neg c] at ih
      exact ih
theorem spec_First_f (l sp : List Int) (d : Int) (hs : sp.length ≤ 17592186044415) (k : Nat) (hk : sp.length + 10 ≤ k) : spec_First.f k l sp d = some (mF l sp d) := by
  unfold spec_First.f mF
  rw [spec_Right_f l sp _ (by omega) k hk, Option.bind_some]
  by_cases h : mSp l sp sp.length = true
  · rw [if_pos h, mesh_Devices_f l k (by omega)]
    by_cases c1 : d < 0
    · rw [if_pos c1, if_neg (by omega)]
    by_cases c2 : mD l ≤ d
    · rw [if_neg c1, Option.bind_some, if_pos c2, if_neg (by omega)]
    have hl := mD_spec (show 0 ≤ d by omega) (show d < mD l by omega)
    have := spec_First_l0 l sp (atM l d) (by rw [atM_len]; omega) hs k (by omega) (atM l d).length 0 k (by omega) (by rw [atM_len]; omega)
    rw [n0, drop0] at this
    rw [if_neg c1, Option.bind_some, if_neg c2, mesh_At_f l d k (by omega), Option.bind_some, mA_pos (by omega) (by omega), show spec_First.l0 k k l sp (atM l d).length 0 (atM l d) = _ from this, Option.bind_some, mesh_Of_f _ _ k (by omega), if_pos ⟨h, by omega, by omega⟩]
    rfl
  · rw [if_neg h, if_neg (fun c => h c.1)]
theorem ref14_First_f (l sp : List Int) (d : Int) (hs : sp.length ≤ 17592186044415) (k : Nat) (hk : sp.length + sp.length + 20 ≤ k) : ref14_First.f k l sp d = some (mF l sp d) := by
  unfold ref14_First.f mF
  by_cases c1 : d < 0
  · rw [if_pos c1, if_neg (by omega)]
  rw [if_neg c1, ref14_Devices_f l k (by omega), Option.bind_some]
  by_cases c2 : mD l ≤ d
  · rw [if_pos c2, if_neg (by omega)]
  rw [if_neg c2, ref14_Spec_f l sp _ (by omega) k (by omega), Option.bind_some]
  by_cases h : mSp l sp sp.length = true
  · have hl := mD_spec (show 0 ≤ d by omega) (show d < mD l by omega)
    have := ref14_First_l0 l sp (atM l d) (by rw [atM_len]; omega) hs k (atM l d).length 0 k (by omega) (by rw [atM_len]; omega)
    rw [n0, drop0] at this
    rw [if_pos h, ref14_At_f l d k (by omega), Option.bind_some, mA_pos (by omega) (by omega), show ref14_First.l0 k k l sp (atM l d).length 0 (atM l d) = _ from this, Option.bind_some, ref14_Of_f _ _ k (by omega), if_pos ⟨h, by omega, by omega⟩]
    rfl
  · rw [if_neg h, if_neg (fun c => h c.1)]

/-! Whole, same, known. -/
def mW (r : Int) : List Int := if 0 ≤ r ∧ r ≤ 4 then List.replicate r.toNat (-1) else []
theorem spec_Whole_f (r : Int) (k : Nat) (hk : 10 ≤ k) : spec_Whole.f k r = some (mW r) := by
  obtain ⟨m, rfl⟩ : ∃ m, k = m + 10 := ⟨k - 10, by omega⟩
  unfold mW
  by_cases c1 : r < 0
  · unfold spec_Whole.f; rw [if_pos c1, if_neg (by omega)]
  by_cases c2 : 4 < r
  · unfold spec_Whole.f; rw [if_neg c1, if_pos c2, if_neg (by omega)]
  rcases (show r = 0 ∨ r = 1 ∨ r = 2 ∨ r = 3 ∨ r = 4 by omega) with e | e | e | e | e <;> subst e <;> rfl
theorem slices_Equal_l0 (a b : List Int) (hl : a.length = b.length) (hb : a.length ≤ 4611686018427387904) : ∀ (d i n : Nat), a.length = i + d → d < n →
    slices_Equal_int.l0 n a b a.length i = some (if a.drop i = b.drop i then .inl () else .inr false)
  | 0, i, n, hi, hn => by
    obtain ⟨n, rfl⟩ : ∃ m, n = m + 1 := ⟨n - 1, by omega⟩
    rw [slices_Equal_int.l0, if_neg (by omega), List.drop_eq_nil_of_le (by omega), List.drop_eq_nil_of_le (by omega), if_pos rfl]
  | d + 1, i, n, hi, hn => by
    obtain ⟨n, rfl⟩ : ∃ m, n = m + 1 := ⟨n - 1, by omega⟩
    rw [slices_Equal_int.l0, if_pos (by omega), if_pos (by omega), if_pos (by omega), Int.toNat_natCast, drop_getD (show i < a.length by omega) 0, drop_getD (show i < b.length by omega) 0, i64_id (by omega) (by omega), show (i : Int) + 1 = ((i + 1 : Nat) : Int) by omega, slices_Equal_l0 a b hl hb d (i + 1) n (by omega) (by omega)]
    by_cases c : a.getD i 0 = b.getD i 0
    · rw [if_pos c, c]; simp
    · rw [if_neg c, if_neg (by simp only [List.cons.injEq]; exact fun h => c h.1)]
theorem slices_Equal_f (a b : List Int) (hb : a.length ≤ 4611686018427387904) (k : Nat) (hk : a.length < k) : slices_Equal_int.f k a b = some (decide (a = b)) := by
  unfold slices_Equal_int.f
  by_cases h : a.length = b.length
  · have := slices_Equal_l0 a b h hb a.length 0 k (by omega) hk
    rw [if_pos (by omega), show (0 : Int) = ((0 : Nat) : Int) from rfl, this, List.drop_zero, List.drop_zero]
    by_cases c : a = b
    · simp [c]
    · simp [c]
  · rw [if_neg (by omega)]
    have : a ≠ b := fun c => h (by rw [c])
    simp [this]
theorem spec_Same_f (a b : List Int) (hb : a.length ≤ 4611686018427387904) (k : Nat) (hk : a.length < k) : spec_Same.f k a b = some (decide (a = b)) := by
  unfold spec_Same.f
  rw [slices_Equal_f a b hb k hk]; rfl
theorem law15_whole (l sp : List Int) (r d : Int) (k : Nat) (hk : 10 ≤ k) : law15_same.l0 k l sp r d 0 [] = some (mW r) := by
  obtain ⟨m, rfl⟩ : ∃ m, k = m + 10 := ⟨k - 10, by omega⟩
  unfold mW
  by_cases c1 : r ≤ 0
  · rw [law15_same.l0, if_neg (by omega)]
    split
    · rename_i h; rw [show r = 0 by omega]; rfl
    · rfl
  by_cases c2 : 4 < r
  · rw [law15_same.l0, if_pos (by omega), if_neg (by omega), if_neg (by omega)]
  rcases (show r = 1 ∨ r = 2 ∨ r = 3 ∨ r = 4 by omega) with e | e | e | e <;> subst e <;> rfl
theorem same15 (l sp : List Int) (r d : Int) (hs : sp.length ≤ 17592186044415) (k : Nat) (hk : sp.length + sp.length + 20 ≤ k) : law15_same.f k l sp r d = some true := by
  have hW : (mW r).length ≤ 4 := by unfold mW; split <;> simp; omega
  have hP := mP_len (l := l) (sp := sp)
  unfold law15_same.f
  rw [law15_whole l sp r d k (by omega), Option.bind_some, spec_Right_f l sp r (by omega) k (by omega), Option.bind_some, ref14_Spec_f l sp r (by omega) k (by omega), Option.bind_some, if_pos (by simp), spec_Parts_f l sp hs k (by omega), Option.bind_some, ref14_Parts_f l sp hs k (by omega), Option.bind_some,
    book_Same_f _ _ (by omega) k (by omega), Option.bind_some, if_pos (by simp), spec_Copies_f l sp hs k (by omega), Option.bind_some, ref14_Copies_f l sp hs k (by omega), Option.bind_some, if_pos rfl, spec_First_f l sp d hs k (by omega), Option.bind_some, ref14_First_f l sp d hs k hk, Option.bind_some, if_pos rfl,
    spec_Whole_f r k (by omega), Option.bind_some, book_Same_f _ _ (by omega) k (by omega), Option.bind_some, if_pos (by simp), spec_Same_f sp l (by omega) k (by omega), Option.bind_some, book_Same_f sp l (by omega) k (by omega), Option.bind_some]
  simp
theorem known15 (k : Nat) (hk : 30 ≤ k) : law15_known.f k = some true := by
  unfold law15_known.f
  rw [spec_Copies_f _ _ (by simp) k (by simp; omega), Option.bind_some, if_pos (by decide), spec_Right_f _ _ _ (by simp) k (by simp; omega), Option.bind_some, if_neg (by decide), spec_First_f _ _ _ (by simp) k (by simp; omega), Option.bind_some, if_pos (by decide), spec_Parts_f _ _ (by simp) k (by simp; omega), Option.bind_some,
    book_Same_f _ _ (by decide) k (by have : (mP [2, 4] [1, -1]).length = 2 := by decide
                                      omega), Option.bind_some, if_pos (by decide), spec_Whole_f _ k (by omega), Option.bind_some, book_Same_f _ _ (by decide) k (by
                                      have : (mW 2).length = 2 := by decide
                                      omega), Option.bind_some, if_pos (by decide), spec_Same_f _ _ (by simp) k (by simp; omega)]
  rfl

/-! Tapes. -/
theorem tape_Next (n : Int) (L : List Int) (hL : L.length ≤ 17592186044415) (hw : ∀ x ∈ L, -9223372036854775808 ≤ x ∧ x < 9223372036854775808) (p : Int) (h0 : 0 ≤ p) (hp : p ≤ 17592186044415) (hn : 1 ≤ n) : ∃ r q, keep_Tape_Next.f n L p = some (r, q) ∧ 0 ≤ r ∧ r < n ∧ 0 ≤ q ∧ q ≤ 17592186044415 ∧ p ≤ q ∧ q ≤ p + 1 := by
  unfold keep_Tape_Next.f
  by_cases c : (L.length : Int) ≤ p
  · rw [if_pos c]; exact ⟨_, _, rfl, by omega, by omega, h0, hp, by omega, by omega⟩
  rw [if_neg c, if_neg (by omega), i64_id (n := p + 1) (by omega) (by omega), show p + 1 - 1 = p by omega, i64_id (n := p) (by omega) (by omega), if_pos ⟨h0, by omega⟩]
  have hx := hw _ (getD_mem (show p.toNat < L.length by omega) 0)
  generalize L.getD p.toNat 0 = x at hx
  have key : ∃ r, book_Within.f x 0 1073741824 = some r ∧ 0 ≤ r := by
    unfold book_Within.f
    rw [i64_id (n := 1073741824 - 0) (by omega) (by omega), i64_id (n := 1073741824 - 0 + 1) (by omega) (by omega)]
    have t2 := Int.lt_tmod_of_pos x (show (0 : Int) < 1073741824 - 0 + 1 by omega)
    have t3 := Int.tmod_lt_of_pos x (show (0 : Int) < 1073741824 - 0 + 1 by omega)
    have k2 : ∃ r, (if (1073741824 - 0 + 1 : Int) ≠ 0 then if x.tmod (1073741824 - 0 + 1) < 0 then some (IntKind.i64.wrap (0 + (IntKind.i64.wrap ((IntKind.i64.wrap ((IntKind.i64.wrap ((x.tmod (1073741824 - 0 + 1)) + 1073741824)) - 0)) + 1)))) else some (IntKind.i64.wrap (0 + (x.tmod (1073741824 - 0 + 1)))) else none) = some r ∧ 0 ≤ r := by
      rw [if_pos (by omega)]
      split
      · rw [i64_id (n := x.tmod (1073741824 - 0 + 1) + 1073741824) (by omega) (by omega), i64_id (n := x.tmod (1073741824 - 0 + 1) + 1073741824 - 0) (by omega) (by omega), i64_id (n := x.tmod (1073741824 - 0 + 1) + 1073741824 - 0 + 1) (by omega) (by omega), i64_id (by omega) (by omega)]
        exact ⟨_, rfl, by omega⟩
      · rw [i64_id (by omega) (by omega)]
        exact ⟨_, rfl, by omega⟩
    split
    · split
      · exact ⟨_, rfl, by omega⟩
      · exact k2
    · exact k2
  obtain ⟨r, hr, hr0⟩ := key
  rw [hr, Option.bind_some, if_pos (by omega)]
  refine ⟨_, _, rfl, ?_, ?_, by omega, by omega, by omega, by omega⟩
  · rw [Int.tmod_eq_emod_of_nonneg hr0]; exact Int.emod_nonneg _ (by omega)
  · rw [Int.tmod_eq_emod_of_nonneg hr0]; exact Int.emod_lt_of_pos _ (by omega)

/-- What a tape's spec is: of so many, each -1 or an axis, none twice. -/
theorem okGo_snoc {m : Int} (x : Int) : ∀ (r pre : List Int), okGo m pre (r ++ [x]) = (okGo m pre r && (decide (-1 ≤ x) && decide (x < m) && (decide (x = -1) || !decide (x ∈ pre ++ r))))
  | [], pre => by simp [okGo]
  | k :: r, pre => by
    show (decide (-1 ≤ k) && decide (k < m) && (decide (k = -1) || !decide (k ∈ pre)) && okGo m (pre ++ [k]) (r ++ [x])) = (decide (-1 ≤ k) && decide (k < m) && (decide (k = -1) || !decide (k ∈ pre)) && okGo m (pre ++ [k]) r && _)
    rw [okGo_snoc x r (pre ++ [k]), List.append_assoc]
    simp only [List.singleton_append, Bool.and_assoc]
theorem tape_Spec_l0 (m : List Int) (hm : m.length ≤ 3) (L : List Int) (hL : L.length ≤ 17592186044415) (hw : ∀ x ∈ L, -9223372036854775808 ≤ x ∧ x < 9223372036854775808) (N : Nat) (hN : N ≤ 5) : ∀ (d i : Nat) (p : Int) (y1 : List Int) (y2 : List Bool) (n : Nat), N = i + d → 0 ≤ p → p ≤ 17592186000000 - 2 * d → y1.length = N → y2.length = m.length → okGo m.length [] (y1.take i) = true → (∀ j : Nat, j < m.length → (y2.getD j false = true ↔ (j : Int) ∈ y1.take i)) → d < n →
    ∃ q s, keep_Tape_Spec.l0 n m N i L p y1 y2 = some (q, s) ∧ s.length = N ∧ okGo m.length [] s = true ∧ 0 ≤ q ∧ q ≤ p + 2 * d := by
  intro d
  induction d with
  | zero =>
    intro i p y1 y2 n hi h0 hp h1 h2 hok hu hn
    obtain ⟨n, rfl⟩ : ∃ m, n = m + 1 := ⟨n - 1, by omega⟩
    rw [keep_Tape_Spec.l0, if_neg (by omega)]
    rw [List.take_of_length_le (by omega)] at hok
    exact ⟨_, _, rfl, h1, hok, h0, by omega⟩
  | succ d IH =>
    intro i p y1 y2 n hi h0 hp h1 h2 hok hu hn
    obtain ⟨n, rfl⟩ : ∃ m, n = m + 1 := ⟨n - 1, by omega⟩
    have htake : ∀ x : Int, (y1.set i x).take (i + 1) = y1.take i ++ [x] := fun x => by
      rw [List.take_set, List.take_add_one, List.getElem?_eq_getElem (by omega)]
      have : (y1.take i).length = i := by simp; omega
      rw [List.set_append, if_neg (by omega), this, Nat.sub_self]; rfl
    have hidx : (i : Int) + 1 = ((i + 1 : Nat) : Int) := by omega
    rw [keep_Tape_Spec.l0, if_pos (by omega), if_pos (by omega), Int.toNat_natCast, if_pos (by omega), i64_id (n := (i : Int) + 1) (by omega) (by omega), hidx]
    -- without an axis
    have stay : ∀ q, 0 ≤ q → q ≤ p + 2 → ∃ q' s, keep_Tape_Spec.l0 n m N ((i + 1 : Nat) : Int) L q (y1.set i (-1)) y2 = some (q', s) ∧ s.length = N ∧ okGo m.length [] s = true ∧ 0 ≤ q' ∧ q' ≤ q + 2 * d := fun q hq hq2 => by
      refine IH (i + 1) q (y1.set i (-1)) y2 n (by omega) hq (by omega) (by simpa using h1) h2 ?_ (fun j hj => ?_) (by omega)
      · rw [htake, okGo_snoc, hok]; simp; omega
      · rw [htake, List.mem_append, hu j hj]; simp
    by_cases c0 : 0 < (m.length : Int)
    · rw [if_pos c0]
      obtain ⟨r, q, e1, r0, r1, q0, q1, q2, q3⟩ := tape_Next 2 L hL hw p h0 (by omega) (by omega)
      rw [e1, Option.bind_some]
      dsimp only
      by_cases c1 : r = 0
      · rw [if_pos c1]
        obtain ⟨r', q', e1', r0', r1', q0', q1', q2', q3'⟩ := tape_Next m.length L hL hw q q0 (by omega) (by omega)
        rw [e1', Option.bind_some]
        dsimp only
        rw [if_pos ⟨r0', by omega⟩, if_pos (by omega)]
        by_cases c2 : y2.getD r'.toNat false = true
        · rw [if_pos c2]
          obtain ⟨q'', s, g1, g2, g3, g4, g5⟩ := stay q' q0' (by omega)
          exact ⟨q'', s, g1, g2, g3, g4, by omega⟩
        · rw [if_neg c2, if_pos (by simp; omega), if_pos (by simp; omega), List.set_set]
          have hnot : r' ∉ y1.take i := fun h => c2 ((hu r'.toNat (by omega)).2 (by rw [show ((r'.toNat : Nat) : Int) = r' by omega]; exact h))
          obtain ⟨q'', s, g1, g2, g3, g4, g5⟩ := IH (i + 1) q' (y1.set i r') (y2.set r'.toNat true) n (by omega) q0' (by omega) (by simpa using h1) (by simpa using h2) (by
            rw [htake, okGo_snoc, hok]; simp [hnot]; omega) (fun j hj => by
            rw [htake, List.mem_append, ← hu j hj, List.getD_eq_getElem?_getD, List.getD_eq_getElem?_getD, List.getElem?_set]
            by_cases hjr : r'.toNat = j
            · subst hjr
              rw [if_pos rfl, if_pos (by omega)]
              simp; omega
            · rw [if_neg hjr]
              simp
              omega) (by omega)
          exact ⟨q'', s, g1, g2, g3, g4, by omega⟩
      · rw [if_neg c1]
        obtain ⟨q'', s, g1, g2, g3, g4, g5⟩ := stay q q0 (by omega)
        exact ⟨q'', s, g1, g2, g3, g4, by omega⟩
    · rw [if_neg c0]
      obtain ⟨q'', s, g1, g2, g3, g4, g5⟩ := stay p h0 (by omega)
      exact ⟨q'', s, g1, g2, g3, g4, by omega⟩
theorem tape_Spec (m : List Int) (hm : m.length ≤ 3) (L : List Int) (hL : L.length ≤ 17592186044415) (hw : ∀ x ∈ L, -9223372036854775808 ≤ x ∧ x < 9223372036854775808) (N : Int) (hN0 : 0 ≤ N) (hN : N ≤ 5) (p : Int) (h0 : 0 ≤ p) (hp : p ≤ 17592185999000) (k : Nat) (hk : 10 ≤ k) :
    ∃ q s, keep_Tape_Spec.f k m N L p = some (q, s) ∧ (s.length : Int) = N ∧ okGo m.length [] s = true ∧ 0 ≤ q ∧ q ≤ p + 10 := by
  unfold keep_Tape_Spec.f
  obtain ⟨q, s, g1, g2, g3, g4, g5⟩ := tape_Spec_l0 m hm L hL hw N.toNat (by omega) N.toNat 0 p (List.replicate N.toNat 0) (List.replicate m.length false) k (by omega) h0 (by omega) (by simp) (by simp) rfl (fun j hj => by
    rw [List.getD_eq_getElem?_getD, List.getElem?_replicate]; simp [hj]) (by omega)
  rw [n0] at g1
  rw [if_pos (by omega), if_pos (by omega), Int.toNat_natCast, List.length_replicate, g1, Option.bind_some]
  exact ⟨q, s, rfl, by omega, g3, g4, by omega⟩

/-! All specs of few axes. -/
def rangeI (m : Nat) : List Int := (List.range (m + 1)).map fun i : Nat => (i : Int) - 1
def allL (m : Nat) : Nat → List (List Int)
  | 0 => [[]]
  | n + 1 => (rangeI m).flatMap fun x : Int => (allL m n).map (x :: ·)
theorem mem_allL {m : Nat} : ∀ {s : List Int}, (∀ x ∈ s, -1 ≤ x ∧ x < (m : Int)) → s ∈ allL m s.length
  | [], _ => by simp [allL]
  | x :: r, h => by
    have hx := h x (by simp)
    refine List.mem_flatMap.2 ⟨x, ?_, List.mem_map_of_mem (mem_allL fun y hy => h y (by simp [hy]))⟩
    exact List.mem_map.2 ⟨(x + 1).toNat, List.mem_range.2 (by omega), by omega⟩
def M6 : List (List Int) := [[2], [2, 4], [3, 2], [2, 2, 2], [], [5]]
def cntF (m s : List Int) (i : Nat) (j : Int) : Nat := (List.range i).countP fun d : Nat => decide (mF m s d = j)
def chk15a (m s : List Int) : Bool :=
  (List.range (mD m).toNat).all fun d : Nat => decide (0 ≤ mF m s d) && decide (mF m s d ≤ d) && decide (mF m s (mF m s d) = mF m s d) && (decide (cntF m s (mD m).toNat d = 0) || decide ((cntF m s (mD m).toNat d : Int) = mC m s))
def chk15b (m s : List Int) : Bool :=
  decide ((mP m s).foldl (· * ·) (mC m s) = mD m) && decide (0 ≤ mC m s ∧ mC m s ≤ 8) && decide ((mP m s).length = s.length)
def chk15c (m : List Int) (n : Nat) : Bool := decide (mC m (mW n) = mD m) && (List.range (mD m).toNat).all fun e : Nat => decide (mF m (mW n) e = 0)
theorem all15 : (M6.all fun m => (List.range 5).all fun n : Nat => chk15c m n && (allL m.length n).all fun s => decide (okGo m.length [] s = true → chk15a m s = true ∧ chk15b m s = true)) = true := by decide +kernel
theorem all15m : (M6.all fun m => mR m && decide (1 ≤ mD m ∧ mD m ≤ 8 ∧ m.length ≤ 3)) = true := by decide +kernel
theorem got15m {m : List Int} (hm : m ∈ M6) : mR m = true ∧ 1 ≤ mD m ∧ mD m ≤ 8 ∧ m.length ≤ 3 := by
  have := List.all_eq_true.1 all15m m hm
  simp only [Bool.and_eq_true, decide_eq_true_eq] at this
  exact ⟨this.1, this.2⟩
theorem got15c {m : List Int} (hm : m ∈ M6) {n : Nat} (hn : n < 5) : mC m (mW n) = mD m ∧ ∀ e : Int, 0 ≤ e → e < mD m → mF m (mW n) e = 0 := by
  have := List.all_eq_true.1 (List.all_eq_true.1 all15 m hm) n (List.mem_range.2 hn)
  simp only [chk15c, Bool.and_eq_true, decide_eq_true_eq] at this
  refine ⟨this.1.1, fun e h0 h1 => ?_⟩
  have := of_decide_eq_true (List.all_eq_true.1 this.1.2 e.toNat (List.mem_range.2 (by omega)))
  rwa [show ((e.toNat : Nat) : Int) = e by omega] at this
theorem got15 {m : List Int} (hm : m ∈ M6) {s : List Int} (hs : s.length < 5) (hok : okGo m.length [] s = true) : (∀ d : Nat, (d : Int) < mD m → 0 ≤ mF m s d ∧ mF m s d ≤ d ∧ mF m s (mF m s d) = mF m s d ∧ (cntF m s (mD m).toNat d = 0 ∨ (cntF m s (mD m).toNat d : Int) = mC m s)) ∧ (mP m s).foldl (· * ·) (mC m s) = mD m ∧ (0 ≤ mC m s ∧ mC m s ≤ 8) ∧ (mP m s).length = s.length := by
  have := List.all_eq_true.1 (List.all_eq_true.1 all15 m hm) s.length (List.mem_range.2 hs)
  simp only [Bool.and_eq_true] at this
  have := of_decide_eq_true (List.all_eq_true.1 this.2 s (mem_allL (okGo_mem hok))) hok
  obtain ⟨h1, h2⟩ := this
  simp only [chk15b, Bool.and_eq_true, decide_eq_true_eq] at h2
  refine ⟨fun d hd => ?_, h2.1.1, h2.1.2, h2.2⟩
  have := List.all_eq_true.1 h1 d (List.mem_range.2 (by omega))
  simp only [Bool.and_eq_true, Bool.or_eq_true, decide_eq_true_eq] at this
  exact ⟨this.1.1.1, this.1.1.2, this.1.2, this.2⟩
theorem mSp_of {m s : List Int} (h : mR m = true) (hok : okGo m.length [] s = true) (r : Int) (hr : (s.length : Int) = r) : mSp m s r = true := by simp [mSp, h, hok, hr]

/-! The laws of chapter 15. -/
theorem l4_15 (l s : List Int) (hs : s.length ≤ 3) (a b c : Int) (x y : Int) (z : List (List Int)) (u : List Int) (v w : Nat) (hu : (u.take w).drop v = s) (K : Nat) (hK : 50 ≤ K) : ∀ (d : Nat) (e : Int) (n : Nat), e + d = 9 → -1 ≤ e → d < n →
    law15_SpecNumbers.l4 K n l a b c v w e x y u z = some (.inl ())
  | 0, e, n, hd, h0, hn => by
    obtain ⟨n, rfl⟩ : ∃ m, n = m + 1 := ⟨n - 1, by omega⟩
    rw [law15_SpecNumbers.l4, if_neg (by omega)]
  | d + 1, e, n, hd, h0, hn => by
    obtain ⟨n, rfl⟩ : ∃ m, n = m + 1 := ⟨n - 1, by omega⟩
    rw [law15_SpecNumbers.l4, if_pos (by omega), hu, same15 l s c e (by omega) K (by omega), Option.bind_some, if_pos rfl, same15 l s e e (by omega) K (by omega), Option.bind_some, if_pos rfl, i64_id (n := e + 1) (by omega) (by omega)]
    exact l4_15 l s hs a b c x y z u v w hu K hK d (e + 1) n (by omega) (by omega) (by omega)
theorem l3_15 (l : List Int) (a b : Int) (x y : Int) (z : List (List Int)) (K : Nat) (hK : 50 ≤ K) : ∀ (d : Nat) (e : Int) (n : Nat), e + d = 4 → 0 ≤ e → d + 20 < n →
    law15_SpecNumbers.l3 K n l a b e x y z = some (.inl ())
  | 0, e, n, hd, h0, hn => by
    obtain ⟨n, rfl⟩ : ∃ m, n = m + 1 := ⟨n - 1, by omega⟩
    rw [law15_SpecNumbers.l3, if_neg (by omega)]
  | d + 1, e, n, hd, h0, hn => by
    obtain ⟨n, rfl⟩ : ∃ m, n = m + 1 := ⟨n - 1, by omega⟩
    rw [law15_SpecNumbers.l3, if_pos (by omega), if_pos (by simp; omega), l4_15 l (([a, b, -1].take e.toNat).drop 0) (by simp; omega) a b e x y z _ _ _ rfl K hK 10 (-1) n (by omega) (by omega) (by omega), Option.bind_some]
    simp only [Sum.elim_inl]
    rw [i64_id (n := e + 1) (by omega) (by omega)]
    exact l3_15 l a b x y z K hK d (e + 1) n (by omega) (by omega) (by omega)
theorem l2_15 (l : List Int) (a : Int) (x y : Int) (z : List (List Int)) (K : Nat) (hK : 50 ≤ K) : ∀ (d : Nat) (e : Int) (n : Nat), e + d = 4 → -2 ≤ e → d + 30 < n →
    law15_SpecNumbers.l2 K n l a e x y z = some (.inl ())
  | 0, e, n, hd, h0, hn => by
    obtain ⟨n, rfl⟩ : ∃ m, n = m + 1 := ⟨n - 1, by omega⟩
    rw [law15_SpecNumbers.l2, if_neg (by omega)]
  | d + 1, e, n, hd, h0, hn => by
    obtain ⟨n, rfl⟩ : ∃ m, n = m + 1 := ⟨n - 1, by omega⟩
    rw [law15_SpecNumbers.l2, if_pos (by omega), l3_15 l a e x y z K hK 4 0 n (by omega) (by omega) (by omega), Option.bind_some]
    simp only [Sum.elim_inl]
    rw [i64_id (n := e + 1) (by omega) (by omega)]
    exact l2_15 l a x y z K hK d (e + 1) n (by omega) (by omega) (by omega)
theorem l1_15 (l : List Int) (x y : Int) (z : List (List Int)) (K : Nat) (hK : 50 ≤ K) : ∀ (d : Nat) (e : Int) (n : Nat), e + d = 4 → -2 ≤ e → d + 40 < n →
    law15_SpecNumbers.l1 K n l e x y z = some (.inl ())
  | 0, e, n, hd, h0, hn => by
    obtain ⟨n, rfl⟩ : ∃ m, n = m + 1 := ⟨n - 1, by omega⟩
    rw [law15_SpecNumbers.l1, if_neg (by omega)]
  | d + 1, e, n, hd, h0, hn => by
    obtain ⟨n, rfl⟩ : ∃ m, n = m + 1 := ⟨n - 1, by omega⟩
    rw [law15_SpecNumbers.l1, if_pos (by omega), l2_15 l e x y z K hK 6 (-2) n (by omega) (by omega) (by omega), Option.bind_some]
    simp only [Sum.elim_inl]
    rw [i64_id (n := e + 1) (by omega) (by omega)]
    exact l1_15 l x y z K hK d (e + 1) n (by omega) (by omega) (by omega)
theorem l0_15 (z : List (List Int)) (hz : z.length ≤ 100) (K : Nat) (hK : 50 ≤ K) : ∀ (d i n : Nat), z.length = i + d → d + 60 < n →
    law15_SpecNumbers.l0 K n z.length i z = some (.inl ())
  | 0, i, n, hd, hn => by
    obtain ⟨n, rfl⟩ : ∃ m, n = m + 1 := ⟨n - 1, by omega⟩
    rw [law15_SpecNumbers.l0, if_neg (by omega)]
  | d + 1, i, n, hd, hn => by
    obtain ⟨n, rfl⟩ : ∃ m, n = m + 1 := ⟨n - 1, by omega⟩
    rw [law15_SpecNumbers.l0, if_pos (by omega), if_pos (by omega), Int.toNat_natCast, if_pos (by omega), l1_15 _ _ _ z K hK 6 (-2) n (by omega) (by omega) (by omega), Option.bind_some]
    simp only [Sum.elim_inl]
    rw [i64_id (by omega) (by omega), show (i : Int) + 1 = ((i + 1 : Nat) : Int) by omega]
    exact l0_15 z hz K hK d (i + 1) n (by omega) (by omega)
theorem SpecNumbers_k (k : Nat) (hk : 200 ≤ k) : law15_SpecNumbers.f k = some true := by
  unfold law15_SpecNumbers.f
  generalize hz : ([[], [2], [2, 4], [2, 2, 2], [3, 1], [9], [1]] : List (List Int)) = z
  have h2 : z.length = 7 := by rw [← hz]; rfl
  have h := l0_15 z (by omega) k (by omega) 7 0 k (by omega) (by omega)
  rw [Int.natCast_zero] at h
  rw [h, Option.bind_some]
  simp only [Sum.elim_inl]
  rw [known15 k (by omega), Option.bind_some]
theorem SpecNumbers_ok : ∃ k, law15_SpecNumbers.f k = some true := ⟨200, SpecNumbers_k 200 (Nat.le_refl _)⟩

theorem cntF_succ (m s : List Int) (i : Nat) (j : Int) : (cntF m s (i + 1) j : Int) = cntF m s i j + (if mF m s i = j then 1 else 0) := by
  unfold cntF
  rw [List.range_succ, List.countP_append]
  by_cases h : mF m s i = j
  · simp [h]
  · simp [h]
theorem cntF_le (m s : List Int) (i : Nat) (j : Int) : cntF m s i j ≤ i := by
  unfold cntF
  have := List.countP_le_length (p := fun d : Nat => decide (mF m s d = j)) (l := List.range i)
  simpa using this
theorem cnt_yes {m s : List Int} {i : Nat} {j : Int} (h : mF m s i = j) (hi : i ≤ 8) : IntKind.i64.wrap ((cntF m s i j : Int) + 1) = (cntF m s (i + 1) j : Int) := by
  have h1 := cntF_le m s i j
  have h2 := cntF_succ m s i j
  rw [if_pos h] at h2
  rw [i64_id (by omega) (by omega), h2]
theorem cnt_no {m s : List Int} {i : Nat} {j : Int} (h : mF m s i ≠ j) : (cntF m s i j : Int) = (cntF m s (i + 1) j : Int) := by
  have h2 := cntF_succ m s i j
  rw [if_neg h] at h2
  omega
theorem SpecCopies_l0 (m s : List Int) (hm : m ∈ M6) (hs : s.length < 5) (hok : okGo m.length [] s = true) (K : Nat) (hK : 50 ≤ K) : ∀ (d i n : Nat), mD m = ((i + d : Nat) : Int) → d < n →
    law15_SpecCopies.l0 K n m (mD m) i s (cntF m s i 0) (cntF m s i 1) (cntF m s i 2) (cntF m s i 3) (cntF m s i 4) (cntF m s i 5) (cntF m s i 6) (cntF m s i 7) =
      some (.inl ((cntF m s (i + d) 0 : Int), (cntF m s (i + d) 1 : Int), (cntF m s (i + d) 2 : Int), (cntF m s (i + d) 3 : Int), (cntF m s (i + d) 4 : Int), (cntF m s (i + d) 5 : Int), (cntF m s (i + d) 6 : Int), (cntF m s (i + d) 7 : Int)))
  | 0, i, n, hd, hn => by
    obtain ⟨n, rfl⟩ : ∃ m, n = m + 1 := ⟨n - 1, by omega⟩
    rw [law15_SpecCopies.l0, if_neg (by omega)]
    rfl
  | d + 1, i, n, hd, hn => by
    obtain ⟨n, rfl⟩ : ∃ m, n = m + 1 := ⟨n - 1, by omega⟩
    obtain ⟨_, _, h8, _⟩ := got15m hm
    obtain ⟨g0, g1, g2, _⟩ := (got15 hm hs hok).1 i (by omega)
    have ih := SpecCopies_l0 m s hm hs hok K hK d (i + 1) n (by omega) (by omega)
    rw [show i + 1 + d = i + (d + 1) by omega] at ih
    rw [law15_SpecCopies.l0, if_pos (by omega), spec_First_f m s i (by omega) K (by omega), Option.bind_some, if_neg (by omega), if_neg (by omega), spec_First_f m s _ (by omega) K (by omega), Option.bind_some, if_pos g2, i64_id (n := (i : Int) + 1) (by omega) (by omega), show (i : Int) + 1 = ((i + 1 : Nat) : Int) by omega, ← ih]
    have hy := fun j (h : mF m s i = j) => cnt_yes (m := m) (s := s) (i := i) (j := j) h (by omega)
    have hno := fun j (h : mF m s i ≠ j) => cnt_no (m := m) (s := s) (i := i) (j := j) h
    rcases (show mF m s i = 0 ∨ mF m s i = 1 ∨ mF m s i = 2 ∨ mF m s i = 3 ∨ mF m s i = 4 ∨ mF m s i = 5 ∨ mF m s i = 6 ∨ mF m s i = 7 by omega) with e | e | e | e | e | e | e | e
    · rw [if_pos e, hy 0 e, ← hno 1 (by omega), ← hno 2 (by omega), ← hno 3 (by omega), ← hno 4 (by omega), ← hno 5 (by omega), ← hno 6 (by omega), ← hno 7 (by omega)]
    · rw [if_neg (by omega), if_pos e, hy 1 e, ← hno 0 (by omega), ← hno 2 (by omega), ← hno 3 (by omega), ← hno 4 (by omega), ← hno 5 (by omega), ← hno 6 (by omega), ← hno 7 (by omega)]
    · rw [if_neg (by omega), if_neg (by omega), if_pos e, hy 2 e, ← hno 0 (by omega), ← hno 1 (by omega), ← hno 3 (by omega), ← hno 4 (by omega), ← hno 5 (by omega), ← hno 6 (by omega), ← hno 7 (by omega)]
    · rw [if_neg (by omega), if_neg (by omega), if_neg (by omega), if_pos e, hy 3 e, ← hno 0 (by omega), ← hno 1 (by omega), ← hno 2 (by omega), ← hno 4 (by omega), ← hno 5 (by omega), ← hno 6 (by omega), ← hno 7 (by omega)]
    · rw [if_neg (by omega), if_neg (by omega), if_neg (by omega), if_neg (by omega), if_pos e, hy 4 e, ← hno 0 (by omega), ← hno 1 (by omega), ← hno 2 (by omega), ← hno 3 (by omega), ← hno 5 (by omega), ← hno 6 (by omega), ← hno 7 (by omega)]
    · rw [if_neg (by omega), if_neg (by omega), if_neg (by omega), if_neg (by omega), if_neg (by omega), if_pos e, hy 5 e, ← hno 0 (by omega), ← hno 1 (by omega), ← hno 2 (by omega), ← hno 3 (by omega), ← hno 4 (by omega), ← hno 6 (by omega), ← hno 7 (by omega)]
    · rw [if_neg (by omega), if_neg (by omega), if_neg (by omega), if_neg (by omega), if_neg (by omega), if_neg (by omega), if_pos e, hy 6 e, ← hno 0 (by omega), ← hno 1 (by omega), ← hno 2 (by omega), ← hno 3 (by omega), ← hno 4 (by omega), ← hno 5 (by omega), ← hno 7 (by omega)]
    · rw [if_neg (by omega), if_neg (by omega), if_neg (by omega), if_neg (by omega), if_neg (by omega), if_neg (by omega), if_neg (by omega), if_pos e, hy 7 e, ← hno 0 (by omega), ← hno 1 (by omega), ← hno 2 (by omega), ← hno 3 (by omega), ← hno 4 (by omega), ← hno 5 (by omega), ← hno 6 (by omega)]
theorem SpecCopies_l1 (m s : List Int) (hm : m ∈ M6) (hs : s.length < 5) (K : Nat) (hK : 50 ≤ K) (c0 c1 c2 c3 c4 c5 c6 c7 : Int) (h : ∀ j : Nat, (j : Int) < mD m → [c0, c1, c2, c3, c4, c5, c6, c7].getD j 0 = 0 ∨ [c0, c1, c2, c3, c4, c5, c6, c7].getD j 0 = mC m s) : ∀ (d i n : Nat), mD m = ((i + d : Nat) : Int) → d < n →
    law15_SpecCopies.l1 K n m (mD m) i s c0 c1 c2 c3 c4 c5 c6 c7 = some (.inl ())
  | 0, i, n, hd, hn => by
    obtain ⟨n, rfl⟩ : ∃ m, n = m + 1 := ⟨n - 1, by omega⟩
    rw [law15_SpecCopies.l1, if_neg (by omega)]
  | d + 1, i, n, hd, hn => by
    obtain ⟨n, rfl⟩ : ∃ m, n = m + 1 := ⟨n - 1, by omega⟩
    obtain ⟨_, _, h8, _⟩ := got15m hm
    have ih := SpecCopies_l1 m s hm hs K hK c0 c1 c2 c3 c4 c5 c6 c7 h d (i + 1) n (by omega) (by omega)
    have hi := h i (by omega)
    have one : ∀ c : Int, (c = 0 ∨ c = mC m s) → (if c = 0 then law15_SpecCopies.l1 K n m (mD m) ((i + 1 : Nat) : Int) s c0 c1 c2 c3 c4 c5 c6 c7 else (spec_Copies.f K m s).bind fun t8 => if c = t8 then law15_SpecCopies.l1 K n m (mD m) ((i + 1 : Nat) : Int) s c0 c1 c2 c3 c4 c5 c6 c7 else some (.inr false)) = some (.inl ()) := fun c hc => by
      by_cases h0 : c = 0
      · rw [if_pos h0]; exact ih
      · rw [if_neg h0, spec_Copies_f m s (by omega) K (by omega), Option.bind_some, if_pos (by omega)]; exact ih
    rw [law15_SpecCopies.l1, if_pos (by omega), i64_id (n := (i : Int) + 1) (by omega) (by omega), show (i : Int) + 1 = ((i + 1 : Nat) : Int) by omega]
    rcases (show i = 0 ∨ i = 1 ∨ i = 2 ∨ i = 3 ∨ i = 4 ∨ i = 5 ∨ i = 6 ∨ i = 7 by omega) with e | e | e | e | e | e | e | e <;> subst e
    · rw [if_pos (by omega)]; exact one c0 hi
    · rw [if_neg (by omega), if_pos (by omega)]; exact one c1 hi
    · rw [if_neg (by omega), if_neg (by omega), if_pos (by omega)]; exact one c2 hi
    · rw [if_neg (by omega), if_neg (by omega), if_neg (by omega), if_pos (by omega)]; exact one c3 hi
    · rw [if_neg (by omega), if_neg (by omega), if_neg (by omega), if_neg (by omega), if_pos (by omega)]; exact one c4 hi
    · rw [if_neg (by omega), if_neg (by omega), if_neg (by omega), if_neg (by omega), if_neg (by omega), if_pos (by omega)]; exact one c5 hi
    · rw [if_neg (by omega), if_neg (by omega), if_neg (by omega), if_neg (by omega), if_neg (by omega), if_neg (by omega), if_pos (by omega)]; exact one c6 hi
    · rw [if_neg (by omega), if_neg (by omega), if_neg (by omega), if_neg (by omega), if_neg (by omega), if_neg (by omega), if_neg (by omega), if_pos (by omega)]; exact one c7 hi
theorem which15 {L : List Int} (hL : Fit (.sl (.int .i64)) L) : ∃ r q, keep_Tape_Next.f 6 L 0 = some (r, q) ∧ 0 ≤ r ∧ r < (M6.length : Int) ∧ r.toNat < M6.length ∧ M6.getD r.toNat [] ∈ M6 ∧ 0 ≤ q ∧ q ≤ 1 := by
  obtain ⟨h1, h2⟩ := fit_i64 hL
  obtain ⟨r, q, e, r0, r1, q0, q1, q2, q3⟩ := tape_Next 6 L (by omega) h2 0 (by omega) (by omega) (by omega)
  have hl : M6.length = 6 := rfl
  exact ⟨r, q, e, r0, by omega, by omega, getD_mem (by omega) _, q0, by omega⟩
theorem SpecCopies_ok (a0 : List Int) (w : Fit (.sl (.int .i64)) a0) : ∃ k, law15_SpecCopies.f k a0 = some true := by
  have hk : ∀ k, 60 ≤ k → law15_SpecCopies.f k a0 = some true := fun k hk => by
    unfold law15_SpecCopies.f
    obtain ⟨r, q, e, r0, r1, r2, hm, q0, q1⟩ := which15 w
    obtain ⟨f1, f2⟩ := fit_i64 w
    rw [e, Option.bind_some]
    rw [show ([[2], [2, 4], [3, 2], [2, 2, 2], [], [5]] : List (List Int)) = M6 from rfl, if_pos ⟨r0, r1⟩, if_pos r2]
    generalize M6.getD r.toNat [] = m at hm ⊢
    obtain ⟨hR, d1, d8, l3⟩ := got15m hm
    obtain ⟨n, p, e2, n0', n1, p0, _, _, p1⟩ := tape_Next 5 a0 (by omega) f2 q q0 (by omega) (by omega)
    obtain ⟨p', s, e3, hs, hok, p0', _⟩ := tape_Spec m l3 a0 (by omega) f2 n n0' (by omega) p p0 (by omega) k (by omega)
    rw [e2, Option.bind_some]
    dsimp only
    rw [e3, Option.bind_some, ref14_Devices_f m k (by omega), Option.bind_some]
    dsimp only
    obtain ⟨g1, g2, g3, g4⟩ := got15 hm (show s.length < 5 by omega) hok
    have L0 := SpecCopies_l0 m s hm (by omega) hok k (by omega) (mD m).toNat 0 k (by omega) (by omega)
    have hz : ∀ j, cntF m s 0 j = 0 := fun j => rfl
    simp only [hz, Nat.zero_add, n0] at L0
    rw [L0, Option.bind_some]
    simp only [Sum.elim_inl]
    have L1 := SpecCopies_l1 m s hm (by omega) k (by omega) (cntF m s (mD m).toNat 0) (cntF m s (mD m).toNat 1) (cntF m s (mD m).toNat 2) (cntF m s (mD m).toNat 3) (cntF m s (mD m).toNat 4) (cntF m s (mD m).toNat 5) (cntF m s (mD m).toNat 6) (cntF m s (mD m).toNat 7) (fun j hj => by
      have := (g1 j hj).2.2.2
      have h2 : ((cntF m s (mD m).toNat j : Int) = 0 ∨ (cntF m s (mD m).toNat j : Int) = mC m s) := by omega
      rcases (show j = 0 ∨ j = 1 ∨ j = 2 ∨ j = 3 ∨ j = 4 ∨ j = 5 ∨ j = 6 ∨ j = 7 by omega) with e | e | e | e | e | e | e | e <;> subst e <;> exact h2) (mD m).toNat 0 k (by omega) (by omega)
    rw [n0] at L1
    rw [L1, Option.bind_some]
    simp only [Sum.elim_inl]
    rw [known15 k (by omega), Option.bind_some]
  exact ⟨60, hk 60 (Nat.le_refl _)⟩

theorem SpecParts_l0 (a : Int) (m : List Int) (N : Int) (s : List Int) (y : List Int) (hy : y.length ≤ 5) (hp : ∀ x ∈ y, 1 ≤ x ∧ x ≤ 8) : ∀ (d i : Nat) (c : Int) (n : Nat), y.length = i + d → 0 ≤ c → c ≤ 8 ^ (i + 1) → d < n →
    law15_SpecParts.l0 n a m N c y.length i s y = some ((y.drop i).foldl (· * ·) c)
  | 0, i, c, n, hi, h0, h8, hn => by
    obtain ⟨n, rfl⟩ : ∃ m, n = m + 1 := ⟨n - 1, by omega⟩
    rw [law15_SpecParts.l0, if_neg (by omega), List.drop_eq_nil_of_le (by omega)]; rfl
  | d + 1, i, c, n, hi, h0, h8, hn => by
    obtain ⟨n, rfl⟩ : ∃ m, n = m + 1 := ⟨n - 1, by omega⟩
    have hx := hp _ (getD_mem (show i < y.length by omega) 0)
    have h9 : (8 : Int) ^ (i + 2) ≤ 262144 := by
      rcases (show i = 0 ∨ i = 1 ∨ i = 2 ∨ i = 3 ∨ i = 4 by omega) with e | e | e | e | e <;> subst e <;> decide
    have e8 : (8 : Int) ^ (i + 2) = 8 ^ (i + 1) * 8 := Int.pow_succ ..
    have hb : 0 ≤ c * y.getD i 0 ∧ c * y.getD i 0 ≤ 8 ^ (i + 2) := by
      refine ⟨Int.mul_nonneg h0 (by omega), ?_⟩
      rw [e8]; exact Int.mul_le_mul h8 hx.2 (by omega) (by omega)
    rw [law15_SpecParts.l0, if_pos (by omega), if_pos (by omega), Int.toNat_natCast, if_pos (by omega), drop_getD (show i < y.length by omega) 0, i64_id (by omega) (by omega), i64_id (n := (i : Int) + 1) (by omega) (by omega), show (i : Int) + 1 = ((i + 1 : Nat) : Int) by omega, SpecParts_l0 a m N s y hy hp d (i + 1) _ n (by omega) hb.1 hb.2 (by omega)]
    rfl
theorem SpecParts_ok (a0 : List Int) (a1 : Int) (w : Fit (.sl (.int .i64)) a0) (w1 : (Lit.int .i64 a1).wf = true) : ∃ k, law15_SpecParts.f k a0 a1 = some true := by
  have hk : ∀ k, 60 ≤ k → law15_SpecParts.f k a0 a1 = some true := fun k hk => by
    unfold law15_SpecParts.f
    obtain ⟨r, q, e, r0, r1, r2, hm, q0, q1⟩ := which15 w
    obtain ⟨f1, f2⟩ := fit_i64 w
    rw [e, Option.bind_some]
    rw [show ([[2], [2, 4], [3, 2], [2, 2, 2], [], [5]] : List (List Int)) = M6 from rfl, if_pos ⟨r0, r1⟩, if_pos r2]
    generalize M6.getD r.toNat [] = m at hm ⊢
    obtain ⟨hR, d1, d8, l3⟩ := got15m hm
    obtain ⟨n, p, e2, n0', n1, p0, _, _, p1⟩ := tape_Next 5 a0 (by omega) f2 q q0 (by omega) (by omega)
    obtain ⟨p', s, e3, hs, hok, p0', _⟩ := tape_Spec m l3 a0 (by omega) f2 n n0' (by omega) p p0 (by omega) k (by omega)
    obtain ⟨g1, g2, g3, g4⟩ := got15 hm (show s.length < 5 by omega) hok
    obtain ⟨c1, c2⟩ := got15c hm (n := n.toNat) (by omega)
    rw [show ((n.toNat : Nat) : Int) = n by omega] at c1 c2
    rw [e2, Option.bind_some]
    dsimp only
    have hw4 : (mW n).length ≤ 4 := by unfold mW; split <;> simp; omega
    have L0 := SpecParts_l0 a1 m n s (mP m s) (by omega) mP_pos (mP m s).length 0 (mC m s) k (by omega) g3.1 (by simpa using g3.2) (by omega)
    rw [n0, drop0, g2] at L0
    have hrange : 0 ≤ ((IntKind.i64.wrap ((a1.tmod 8) + 8)).tmod 8).tmod (mD m) ∧ ((IntKind.i64.wrap ((a1.tmod 8) + 8)).tmod 8).tmod (mD m) < mD m := by
      have t2 := Int.lt_tmod_of_pos a1 (show (0 : Int) < 8 by omega)
      have t3 := Int.tmod_lt_of_pos a1 (show (0 : Int) < 8 by omega)
      rw [i64_id (by omega) (by omega)]
      have h0 : 0 ≤ (a1.tmod 8 + 8).tmod 8 := by
        rw [Int.tmod_eq_emod_of_nonneg (by omega)]; exact Int.emod_nonneg _ (by omega)
      rw [Int.tmod_eq_emod_of_nonneg h0]
      exact ⟨Int.emod_nonneg _ (by omega), Int.emod_lt_of_pos _ (by omega)⟩
    rw [e3, Option.bind_some]
    dsimp only
    rw [spec_Copies_f m s (by omega) k (by omega), Option.bind_some, spec_Parts_f m s (by omega) k (by omega), Option.bind_some, L0, Option.bind_some, if_pos (by omega), ref14_Devices_f m k (by omega), Option.bind_some, if_pos (by omega), Option.bind_some, if_pos rfl, spec_Right_f m s n (by omega) k (by omega), Option.bind_some, if_pos (mSp_of hR hok n hs), spec_Whole_f n k (by omega), Option.bind_some, spec_Copies_f m _ (by omega) k (by omega), Option.bind_some, Option.bind_some, if_pos c1, Option.bind_some, spec_First_f m _ _ (by omega) k (by omega), Option.bind_some, c2 _ hrange.1 hrange.2, if_pos rfl, spec_Same_f s s (by omega) k (by omega), Option.bind_some, if_pos (by simp), Option.bind_some, if_pos (by omega), known15 k (by omega), Option.bind_some]
  exact ⟨60, hk 60 (Nat.le_refl _)⟩
end Go.Pf
