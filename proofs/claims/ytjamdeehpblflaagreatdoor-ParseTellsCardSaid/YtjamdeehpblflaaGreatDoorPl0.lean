/- Own texts put together: P14, P16, P5 .. -/
import Derived.Test.YtjamdeehpblflaaGreatDoorVm1
open ByteArray renaming mk→vaa, empty→vab
open List renaming replicate→vac, mem_cons_self→vad, getElem?_eq_getElem→vag, length_replicate→vai, mem_cons→val, range→vap, set_append→vaq, mem_append→vau, length_nil→vav, replicate_succ'→vax, take_add_one→vaA, getElem?_set→vaB, length_drop→vaE, all_eq_true→vaF
open Int renaming mul_nonneg→vae, mul_le_mul→vaf, emod_lt_of_pos→vah, pow_succ→vaj, mul_le_mul_of_nonneg_right→vak, mul_assoc→vam, emod_nonneg→van, tmod_eq_emod_of_nonneg→vao, add_mul→var, emod_eq_of_lt→vas, mul_comm→vat, add_mul_ediv_right→vaw, mul_ediv_add_emod→vay, one_mul→vaz, tmod_lt_of_pos→vaC, lt_tmod_of_pos→vaD, ediv_le_self→vaG
open Go.IntKind renaming i64→iW
namespace Go.Pf
abbrev LI := List Int
abbrev LN := Int × LI × LI × LI × Int × Int × ByteArray
abbrev ln0 : LN := (0,([],([],([],(0,(0,vab))))))
abbrev LT := LI × LI
theorem obs {α β : Type} (a : α) (f : α → Option β) : (some a).bind f = f a := rfl
theorem ifp {c : Prop} [Decidable c] {α : Type} {a b : α} (h : c := by omega) : (if c then a else b) = a := if_pos h
theorem ifq {c : Prop} [Decidable c] {α : Type} {a b : α} (h : ¬ c := by omega) : (if c then a else b) = b := if_neg h
theorem sun {n : Nat} (h : 0 < n := by omega) : ∃ m, n = m + 1 := ⟨n - 1,by omega⟩
theorem lSi {α : Type} {a : α} : [a].length = 1 := rfl
theorem tNc (n : Nat) : (n : Int).toNat = n := Int.toNat_natCast n
theorem dNl {α : Type} {l : List α} {i : Nat} (h : l.length ≤ i) : l.drop i = [] := List.drop_eq_nil_of_le h
theorem lAp {α : Type} {a b : List α} : (a ++ b).length = a.length + b.length := List.length_append
theorem gDg {α : Type} {l : List α} {i : Nat} {a : α} : l.getD i a = l[i]?.getD a := List.getD_eq_getElem?_getD
theorem dZr {α : Type} {l : List α} : l.drop 0 = l := rfl
theorem lCo {α : Type} {a : α} {l : List α} : (a :: l).length = l.length + 1 := rfl
theorem mCm {α : Type} (y : α) {a : α} {l : List α} (h : a ∈ l) : a ∈ y :: l := List.mem_cons_of_mem y h
theorem lTk {α : Type} {i : Nat} {l : List α} : (l.take i).length = min i l.length := List.length_take
theorem nAp {α : Type} (a : List α) : [] ++ a = a := rfl
theorem aAs {α : Type} (a b c : List α) : a ++ b ++ c = a ++ (b ++ c) := List.append_assoc a b c
theorem bAt (a b : Bool) : ((a && b) = true) = (a = true ∧ b = true) := Bool.and_eq_true a b
end Go.Pf

set_option linter.unusedVariables false
set_option linter.unusedSimpArgs false
namespace Go.Pf
open Go
def qbo.f (a0 : Int) (a1 : Int) (a2 : Int) : Option (Int) := if a1 <= a0 then (if a0 <= a2 then (some a0) else if iW.wrap ((iW.wrap (a2 - a1)) + 1) ≠ 0 then if a0.tmod (iW.wrap ((iW.wrap (a2 - a1)) + 1)) < 0 then (some (iW.wrap (a1 + (iW.wrap ((iW.wrap ((iW.wrap ((a0.tmod (iW.wrap ((iW.wrap (a2 - a1)) + 1))) + a2)) - a1)) + 1))))) else some (iW.wrap (a1 + (a0.tmod (iW.wrap ((iW.wrap (a2 - a1)) + 1))))) else none) else if iW.wrap ((iW.wrap (a2 - a1)) + 1) ≠ 0 then if a0.tmod (iW.wrap ((iW.wrap (a2 - a1)) + 1)) < 0 then (some (iW.wrap (a1 + (iW.wrap ((iW.wrap ((iW.wrap ((a0.tmod (iW.wrap ((iW.wrap (a2 - a1)) + 1))) + a2)) - a1)) + 1))))) else some (iW.wrap (a1 + (a0.tmod (iW.wrap ((iW.wrap (a2 - a1)) + 1))))) else none
end Go.Pf

namespace Go.Pf
open Go
def qaS.l0 : Nat -> Int -> LI -> Int -> Int -> Option (Int ⊕ Bool)
 | 0,_,_,_,_ => none
 | n + 1,x3,x9,x10,x11 => if x11 < x10 then (if 0 <= x11 /\ x11 < (x9.length : Int) then if x9.getD x11.toNat 0 < 0 then (some (.inr false)) else if 32 < x9.getD x11.toNat 0 then (some (.inr false)) else qaS.l0 n (iW.wrap (x3 * (x9.getD x11.toNat 0))) x9 x10 (iW.wrap (x11 + 1)) else none) else some (.inl x3)
def qaS.f (k : Nat) (a0 : LI) : Option (Bool) := if 4 < (a0.length : Int) then (some false) else (qaS.l0 k 1 a0 (a0.length : Int) 0).bind fun t1 => Sum.elim (fun t1 => some (decide (t1 <= 4096))) (fun t1 => some t1) t1
def qaZ.l0 : Nat -> LI -> Int -> Int -> Int -> Option (Unit ⊕ Int)
 | 0,_,_,_,_ => none
 | n + 1,x0,x1,x7,x8 => if x8 < x7 then (if 0 <= x8 /\ x8 < (x0.length : Int) then if x1 = x0.getD x8.toNat 0 then (some (.inr x8)) else qaZ.l0 n x0 x1 x7 (iW.wrap (x8 + 1)) else none) else some (.inl ())
def qaZ.f (k : Nat) (a0 : LI) (a1 : Int) : Option (Int) := (qaZ.l0 k a0 a1 (a0.length : Int) 0).bind fun t1 => Sum.elim (fun t1 => some (-1)) (fun t1 => some t1) t1
def qb9.f (k : Nat) (a0 : LI) (a1 : Int) : Option (Bool) := (qaZ.f k a0 a1).bind fun t1 => some (decide (0 <= t1))
def qac.f (a1 : Int) (o0_0 : LI) (o0_1 : Int) : Option (Int × Int) := if (o0_0.length : Int) <= o0_1 then (some (0,o0_1)) else if a1 < 1 then (some (0,o0_1)) else if 0 <= iW.wrap ((iW.wrap (o0_1 + 1)) - 1) /\ iW.wrap ((iW.wrap (o0_1 + 1)) - 1) < (o0_0.length : Int) then (qbo.f (o0_0.getD (iW.wrap ((iW.wrap (o0_1 + 1)) - 1)).toNat 0) 0 1073741824).bind fun t1 => if a1 ≠ 0 then some (t1.tmod a1,iW.wrap (o0_1 + 1)) else none else none
def qav.l0 : Nat -> Int -> LI -> Int -> LI -> Option (Int × LI)
 | 0,_,_,_,_ => none
 | n + 1,x4,y0_0,y0_1,y1 => if 0 < x4 then ((qac.f 8 y0_0 y0_1).bind fun t2 => if 0 <= t2.1 /\ t2.1 < (([1,2,3,4,5,0,7,2] : LI).length : Int) then if t2.1.toNat < ([1,2,3,4,5,0,7,2] : LI).length then if y1.length + [([1,2,3,4,5,0,7,2] : LI).getD t2.1.toNat 0].length <= 281474976710656 /\ (y1.length + [([1,2,3,4,5,0,7,2] : LI).getD t2.1.toNat 0].length) * 8 <= 140737488355328 then qav.l0 n (iW.wrap (x4 - 1)) y0_0 t2.2 (y1 ++ [([1,2,3,4,5,0,7,2] : LI).getD t2.1.toNat 0]) else none else none else none) else some (y0_1,y1)
def qav.f (k : Nat) (o0_0 : LI) (o0_1 : Int) : Option (Int × LI) := (qac.f 4 o0_0 o0_1).bind fun t1 => (qav.l0 k t1.1 o0_0 t1.2 []).bind fun t3 => some (t3.1,t3.2)
def qaN.l0 : Nat -> LI -> Int -> Int -> LI -> Int -> LI -> (List Bool) -> Option (Int × LI)
 | 0,_,_,_,_,_,_,_ => none
 | n + 1,x1,x17,x18,y0_0,y0_1,y1,y2 => if x18 < x17 then (if 0 <= x18 /\ x18 < (y1.length : Int) then if x18.toNat < y1.length then if 0 < (x1.length : Int) then ((qac.f 2 y0_0 y0_1).bind fun t1 => if t1.1 = 0 then ((qac.f (x1.length : Int) y0_0 t1.2).bind fun t2 => if 0 <= t2.1 /\ t2.1 < (y2.length : Int) then if t2.1.toNat < y2.length then if (y2.getD t2.1.toNat false) = true then (qaN.l0 n x1 x17 (iW.wrap (x18 + 1)) y0_0 t2.2 (y1.set x18.toNat (-1)) y2) else if 0 <= x18 /\ x18 < ((y1.set x18.toNat (-1)).length : Int) then if x18.toNat < (y1.set x18.toNat (-1)).length then qaN.l0 n x1 x17 (iW.wrap (x18 + 1)) y0_0 t2.2 ((y1.set x18.toNat (-1)).set x18.toNat t2.1) (y2.set t2.1.toNat true) else none else none else none else none) else qaN.l0 n x1 x17 (iW.wrap (x18 + 1)) y0_0 t1.2 (y1.set x18.toNat (-1)) y2) else qaN.l0 n x1 x17 (iW.wrap (x18 + 1)) y0_0 y0_1 (y1.set x18.toNat (-1)) y2 else none else none) else some (y0_1,y1)
def qaN.f (k : Nat) (a1 : LI) (a2 : Int) (o0_0 : LI) (o0_1 : Int) : Option (Int × LI) := if 0 <= a2 /\ a2 <= 281474976710656 /\ ((8 : Nat) : Int) * a2 <= 140737488355328 then if 0 <= (a1.length : Int) /\ (a1.length : Int) <= 281474976710656 /\ ((1 : Nat) : Int) * (a1.length : Int) <= 140737488355328 then (qaN.l0 k a1 ((vac a2.toNat (0 : Int)).length : Int) 0 o0_0 o0_1 (vac a2.toNat (0 : Int)) (vac (a1.length : Int).toNat (false : Bool))).bind fun t3 => some (t3.1,t3.2) else none else none
end Go.Pf

namespace Go.Pf
open Go
def qaE.l0 : Nat -> LI -> Int -> Int -> Option (Int ⊕ Bool)
 | 0,_,_,_ => none
 | n + 1,x0,x3,x4 => if x4 < (x0.length : Int) then (if 0 <= x4 /\ x4 < (x0.length : Int) then if x0.getD x4.toNat 0 < 0 then (some (.inr false)) else if 32 < x0.getD x4.toNat 0 then (some (.inr false)) else if 4 <= x4 then (some (.inr false)) else qaE.l0 n x0 (iW.wrap (x3 * (x0.getD x4.toNat 0))) (iW.wrap (x4 + 1)) else none) else some (.inl x3)
def qaE.f (k : Nat) (a0 : LI) : Option (Bool) := (qaE.l0 k a0 1 0).bind fun t1 => Sum.elim (fun t1 => some (decide (t1 <= 4096))) (fun t1 => some t1) t1
def qbT.l0 : Nat -> LI -> Int -> Int -> Option (Int)
 | 0,_,_,_ => none
 | n + 1,x0,x3,x4 => if x4 < (x0.length : Int) then (if 0 <= x4 /\ x4 < (x0.length : Int) then qbT.l0 n x0 (iW.wrap (x3 * (x0.getD x4.toNat 0))) (iW.wrap (x4 + 1)) else none) else some x3
def qbT.f (k : Nat) (a0 : LI) : Option (Int) := (qaE.f k a0).bind fun t1 => if t1 = true then ((qbT.l0 k a0 1 0).bind fun t2 => some t2) else some 0
def qa0.l0 (k : Nat) : Nat -> LI -> Int -> Int -> LI -> LI -> Option (LI)
 | 0,_,_,_,_,_ => none
 | n + 1,x0,x1,x6,y2,y3 => (qbT.f k x0).bind fun t1 => if x6 < t1 then (if y3.length + [x1].length <= 281474976710656 /\ (y3.length + [x1].length) * 8 <= 140737488355328 then qa0.l0 k n x0 x1 (iW.wrap (x6 + 1)) y2 (y3 ++ [x1]) else none) else some y3
def qa0.f (k : Nat) (a0 : LI) (a1 : Int) : Option LT := if 0 + a0.length <= 281474976710656 /\ (0 + a0.length) * 8 <= 140737488355328 then (qa0.l0 k k a0 a1 0 ([] ++ a0) []).bind fun t2 => some ([] ++ a0,t2) else none
def qbc.f (o0_0 : LI) (o0_1 : Int) : Option (Int × Int) := (qac.f 9 o0_0 o0_1).bind fun t1 => if t1.1 = 0 then ((qac.f 6 o0_0 t1.2).bind fun t2 => if 0 <= t2.1 /\ t2.1 < (([9223372036854775807,-9223372036854775808,4611686018427387904,-1099511627776,8589934592,3037000500] : LI).length : Int) then if t2.1.toNat < ([9223372036854775807,-9223372036854775808,4611686018427387904,-1099511627776,8589934592,3037000500] : LI).length then some (([9223372036854775807,-9223372036854775808,4611686018427387904,-1099511627776,8589934592,3037000500] : LI).getD t2.1.toNat 0,t2.2) else none else none) else if t1.1 = 1 then (some (0,t1.2)) else (qac.f 19 o0_0 t1.2).bind fun t3 => some (iW.wrap (t3.1 - 9),t3.2)
def qbE.f (a0 : LI) : Option (LI) := if 0 + a0.length <= 281474976710656 /\ (0 + a0.length) * 8 <= 140737488355328 then some ([] ++ a0) else none
def qaU.l1 : Nat -> Int -> LI -> (List LI) -> Int -> Int -> LI -> Int -> Int -> LI -> Option (Unit ⊕ Int)
 | 0,_,_,_,_,_,_,_,_,_ => none
 | n + 1,x0,x8,x33,x34,x35,x44,x45,x46,y0 => if x46 < x45 then (if 0 <= x46 /\ x46 < (x44.length : Int) then if x46 = x0 then (qaU.l1 n x0 x8 x33 x34 x35 x44 x45 (iW.wrap (x46 + 1)) y0) else if 0 <= x46 /\ x46 < (y0.length : Int) then if x46.toNat < y0.length then if x44.getD x46.toNat 0 = y0.getD x46.toNat 0 then (qaU.l1 n x0 x8 x33 x34 x35 x44 x45 (iW.wrap (x46 + 1)) y0) else some (.inr 13) else none else none else none) else some (.inl ())
def qaU.l0 (k : Nat) : Nat -> Int -> (List LI) -> Int -> Int -> LI -> Option (LI ⊕ Int)
 | 0,_,_,_,_,_ => none
 | n + 1,x0,x33,x34,x35,y0 => if x35 < x34 then (if 0 <= x35 /\ x35 < (x33.length : Int) then if ((x33.getD x35.toNat []).length : Int) = (y0.length : Int) then ((qaU.l1 n x0 (x33.getD x35.toNat []) x33 x34 x35 (x33.getD x35.toNat []) ((x33.getD x35.toNat []).length : Int) 0 y0).bind fun t2 => Sum.elim (fun t2 => if 0 <= x0 /\ x0 < (y0.length : Int) then if x0.toNat < y0.length then if 0 <= x0 /\ x0 < ((x33.getD x35.toNat []).length : Int) then if 0 <= x0 /\ x0 < ((y0.set x0.toNat (iW.wrap ((y0.getD x0.toNat 0) + ((x33.getD x35.toNat []).getD x0.toNat 0)))).length : Int) then if x0.toNat < (y0.set x0.toNat (iW.wrap ((y0.getD x0.toNat 0) + ((x33.getD x35.toNat []).getD x0.toNat 0)))).length then if 32 < (y0.set x0.toNat (iW.wrap ((y0.getD x0.toNat 0) + ((x33.getD x35.toNat []).getD x0.toNat 0)))).getD x0.toNat 0 then (some (.inr 13)) else qaU.l0 k n x0 x33 x34 (iW.wrap (x35 + 1)) (y0.set x0.toNat (iW.wrap ((y0.getD x0.toNat 0) + ((x33.getD x35.toNat []).getD x0.toNat 0)))) else none else none else none else none else none) (fun t2 => some (.inr t2)) t2) else some (.inr 13) else none) else some (.inl y0)
def qaU.f (k : Nat) (a0 : Int) (a1 : List LI) : Option (Int × LI) := if (a1.length : Int) = 0 then (some (1,[])) else if a0 < 0 then (some (1,[])) else if (0 : Int) <= 0 /\ 0 < (a1.length : Int) then if ((a1.getD 0 []).length : Int) <= a0 then (some (1,[])) else (qbE.f (a1.getD 0 [])).bind fun t1 => if 0 <= a0 /\ a0 < (t1.length : Int) then if a0.toNat < t1.length then (qaU.l0 k k a0 a1 (a1.length : Int) 0 (t1.set a0.toNat 0)).bind fun t3 => Sum.elim (fun t3 => (qaS.f k t3).bind fun t4 => if t4 = true then (some (0,t3)) else some (13,[])) (fun t3 => some (t3,[])) t3 else none else none else none
def qlf.l0 : Nat -> LI -> Int -> Int -> LI -> Option (LI)
 | 0,_,_,_,_ => none
 | n + 1,x0,x1,x6,y0 => if 0 <= x6 then (if 0 <= x6 /\ x6 < (x0.length : Int) then if x0.getD x6.toNat 0 ≠ 0 then if 0 <= x6 /\ x6 < (y0.length : Int) then if x6.toNat < y0.length then qlf.l0 n x0 (iW.wrap (x1.tdiv (x0.getD x6.toNat 0))) (iW.wrap (x6 - 1)) (y0.set x6.toNat (x1.tmod (x0.getD x6.toNat 0))) else none else none else none else none) else some y0
def qbM.l0 : Nat -> LI -> LI -> Int -> Int -> LI -> (List Bool) -> Option (LI ⊕ Int)
 | 0,_,_,_,_,_,_ => none
 | n + 1,x0,x21,x22,x23,y0,y1 => if x23 < x22 then (if 0 <= x23 /\ x23 < (x21.length : Int) then if x21.getD x23.toNat 0 < 0 then (some (.inr 1)) else if (x0.length : Int) <= x21.getD x23.toNat 0 then (some (.inr 1)) else if 0 <= x21.getD x23.toNat 0 /\ x21.getD x23.toNat 0 < (y1.length : Int) then if (x21.getD x23.toNat 0).toNat < y1.length then if (y1.getD (x21.getD x23.toNat 0).toNat false) = true then (some (.inr 1)) else if 0 <= x21.getD x23.toNat 0 /\ x21.getD x23.toNat 0 < (x0.length : Int) then if 0 <= x23 /\ x23 < (y0.length : Int) then if x23.toNat < y0.length then qbM.l0 n x0 x21 x22 (iW.wrap (x23 + 1)) (y0.set x23.toNat (x0.getD (x21.getD x23.toNat 0).toNat 0)) (y1.set (x21.getD x23.toNat 0).toNat true) else none else none else none else none else none else none) else some (.inl y0)
def qbM.f (k : Nat) (a0 : LI) (a1 : LI) : Option (Int × LI) := if (a1.length : Int) = (a0.length : Int) then (if 0 <= (a0.length : Int) /\ (a0.length : Int) <= 281474976710656 /\ ((8 : Nat) : Int) * (a0.length : Int) <= 140737488355328 then if 0 <= (a0.length : Int) /\ (a0.length : Int) <= 281474976710656 /\ ((1 : Nat) : Int) * (a0.length : Int) <= 140737488355328 then (qbM.l0 k a0 a1 (a1.length : Int) 0 (vac (a0.length : Int).toNat (0 : Int)) (vac (a0.length : Int).toNat (false : Bool))).bind fun t1 => Sum.elim (fun t1 => some (0,t1)) (fun t1 => some (t1,[])) t1 else none else none) else some (1,[])
def qlO.l0 : Nat -> LI -> Int -> Int -> LI -> LI -> LI -> LI -> LI -> Option (LI)
 | 0,_,_,_,_,_,_,_,_ => none
 | n + 1,x8,x9,x10,y0,y1,y3_0,y3_1,y4 => if x10 < x9 then (if 0 <= x10 /\ x10 < (x8.length : Int) then if 0 <= x10 /\ x10 < (y0.length : Int) then if x10.toNat < y0.length then if 0 <= x8.getD x10.toNat 0 /\ x8.getD x10.toNat 0 < (y4.length : Int) then if (x8.getD x10.toNat 0).toNat < y4.length then qlO.l0 n x8 x9 (iW.wrap (x10 + 1)) y0 y1 y3_0 y3_1 (y4.set (x8.getD x10.toNat 0).toNat (y0.getD x10.toNat 0)) else none else none else none else none else none) else some y4
def qbN.l0 : Nat -> LI -> LI -> LI -> Int -> Int -> Option (Unit ⊕ Int)
 | 0,_,_,_,_,_ => none
 | n + 1,x1,x2,x21,x22,x23 => if x23 < x22 then (if 0 <= x23 /\ x23 < (x21.length : Int) then if 0 <= x23 /\ x23 < (x1.length : Int) then if x1.getD x23.toNat 0 < 0 then (some (.inr 1)) else if x21.getD x23.toNat 0 < x1.getD x23.toNat 0 then (some (.inr 1)) else if 0 <= x23 /\ x23 < (x2.length : Int) then if x2.getD x23.toNat 0 < 0 then (some (.inr 1)) else if iW.wrap ((x21.getD x23.toNat 0) - (x1.getD x23.toNat 0)) < x2.getD x23.toNat 0 then (some (.inr 1)) else qbN.l0 n x1 x2 x21 x22 (iW.wrap (x23 + 1)) else none else none else none) else some (.inl ())
def qbN.f (k : Nat) (a0 : LI) (a1 : LI) (a2 : LI) : Option (Int) := if (a1.length : Int) = (a0.length : Int) then (if (a2.length : Int) = (a0.length : Int) then ((qbN.l0 k a1 a2 a0 (a0.length : Int) 0).bind fun t1 => Sum.elim (fun t1 => some 0) (fun t1 => some t1) t1) else some 1) else some 1
def qk2.l0 : Nat -> LI -> Int -> Int -> LI -> LI -> LI -> LI -> Option (LI)
 | 0,_,_,_,_,_,_,_ => none
 | n + 1,x7,x8,x9,y0,y1,y2_0,y2_1 => if x9 < x8 then (if 0 <= x9 /\ x9 < (x7.length : Int) then if 0 <= x9 /\ x9 < (y0.length : Int) then if x9.toNat < y0.length then qk2.l0 n x7 x8 (iW.wrap (x9 + 1)) (y0.set x9.toNat (iW.wrap ((y0.getD x9.toNat 0) + (x7.getD x9.toNat 0)))) y1 y2_0 y2_1 else none else none else none) else some y0
def qbq.l0 : Nat -> LI -> LI -> Int -> Option (Unit ⊕ Bool)
 | 0,_,_,_ => none
 | n + 1,x0,x1,x5 => if x5 < (x0.length : Int) then (if 0 <= x5 /\ x5 < (x0.length : Int) then if 0 <= x5 /\ x5 < (x1.length : Int) then if x0.getD x5.toNat 0 = x1.getD x5.toNat 0 then (qbq.l0 n x0 x1 (iW.wrap (x5 + 1))) else some (.inr false) else none else none) else some (.inl ())
def qbq.f (k : Nat) (a0 : LI) (a1 : LI) : Option (Bool) := if (a0.length : Int) = (a1.length : Int) then ((qbq.l0 k a0 a1 0).bind fun t1 => Sum.elim (fun t1 => some true) (fun t1 => some t1) t1) else some false
def qcP.f (a0 : Int) : Option (Bool) := if 0 <= a0 then (some (decide (a0 <= 32))) else some false
def qbO.l0 : Nat -> LI -> LI -> LI -> Int -> Int -> LI -> Option (LI ⊕ Int)
 | 0,_,_,_,_,_,_ => none
 | n + 1,x1,x2,x27,x28,x29,y0 => if x29 < x28 then (if 0 <= x29 /\ x29 < (x27.length : Int) then if 0 <= x29 /\ x29 < (x1.length : Int) then (qcP.f (x1.getD x29.toNat 0)).bind fun t1 => if t1 = true then (if 0 <= x29 /\ x29 < (x2.length : Int) then (qcP.f (x2.getD x29.toNat 0)).bind fun t2 => if t2 = true then (if 0 <= x29 /\ x29 < (y0.length : Int) then if x29.toNat < y0.length then qbO.l0 n x1 x2 x27 x28 (iW.wrap (x29 + 1)) (y0.set x29.toNat (iW.wrap ((iW.wrap ((x1.getD x29.toNat 0) + (x27.getD x29.toNat 0))) + (x2.getD x29.toNat 0)))) else none else none) else some (.inr 1) else none) else some (.inr 1) else none else none) else some (.inl y0)
def qbO.f (k : Nat) (a0 : LI) (a1 : LI) (a2 : LI) : Option (Int × LI) := if (a1.length : Int) = (a0.length : Int) then (if (a2.length : Int) = (a0.length : Int) then (if 0 <= (a0.length : Int) /\ (a0.length : Int) <= 281474976710656 /\ ((8 : Nat) : Int) * (a0.length : Int) <= 140737488355328 then (qbO.l0 k a1 a2 a0 (a0.length : Int) 0 (vac (a0.length : Int).toNat (0 : Int))).bind fun t3 => Sum.elim (fun t3 => (qaS.f k t3).bind fun t4 => if t4 = true then (some (0,t3)) else some (13,[])) (fun t3 => some (t3,[])) t3 else none) else some (1,[])) else some (1,[])
def qa3.l0 : Nat -> Int -> Int -> LI -> Int -> Int -> Option (Unit ⊕ Bool)
 | 0,_,_,_,_,_ => none
 | n + 1,x1,x5,x8,x9,x10 => if x10 < x9 then (if 0 <= x10 /\ x10 < (x8.length : Int) then if x8.getD x10.toNat 0 <= x5 then (some (.inr false)) else if x1 <= x8.getD x10.toNat 0 then (some (.inr false)) else qa3.l0 n x1 (x8.getD x10.toNat 0) x8 x9 (iW.wrap (x10 + 1)) else none) else some (.inl ())
def qa3.f (k : Nat) (a0 : LI) (a1 : Int) : Option (Bool) := (qa3.l0 k a1 (-1) a0 (a0.length : Int) 0).bind fun t1 => Sum.elim (fun t1 => some true) (fun t1 => some t1) t1
def qb8.l0 : Nat -> LI -> LI -> LI -> Int -> Int -> Option (Unit ⊕ Int)
 | 0,_,_,_,_,_ => none
 | n + 1,x0,x1,x24,x25,x26 => if x26 < x25 then (if 0 <= x26 /\ x26 < (x24.length : Int) then if 0 <= x24.getD x26.toNat 0 /\ x24.getD x26.toNat 0 < (x1.length : Int) then if 0 <= x26 /\ x26 < (x0.length : Int) then if x1.getD (x24.getD x26.toNat 0).toNat 0 = x0.getD x26.toNat 0 then (qb8.l0 n x0 x1 x24 x25 (iW.wrap (x26 + 1))) else some (.inr 1) else none else none else none) else some (.inl ())
def qb8.f (k : Nat) (a0 : LI) (a1 : LI) (a2 : LI) : Option (Int) := (qaS.f k a1).bind fun t1 => if t1 = true then (if (a2.length : Int) = (a0.length : Int) then ((qa3.f k a2 (a1.length : Int)).bind fun t2 => if t2 = true then ((qb8.l0 k a0 a1 a2 (a2.length : Int) 0).bind fun t3 => Sum.elim (fun t3 => some 0) (fun t3 => some t3) t3) else some 1) else some 1) else some 13
def qby.f (k : Nat) (a0_0 : LI) (a0_1 : LI) : Option (Bool) := (qaE.f k a0_0).bind fun t1 => if t1 = true then ((qbT.f k a0_0).bind fun t2 => some (decide ((a0_1.length : Int) = t2))) else some false
def qa5.l0 : Nat -> LI -> Int -> Int -> LI -> Option (LI)
 | 0,_,_,_,_ => none
 | n + 1,x0,x1,x6,y0 => if 0 <= x6 then (if 0 <= x6 /\ x6 < (x0.length : Int) then if x0.getD x6.toNat 0 ≠ 0 then if 0 <= x6 /\ x6 < (y0.length : Int) then if x6.toNat < y0.length then qa5.l0 n x0 (iW.wrap (x1.tdiv (x0.getD x6.toNat 0))) (iW.wrap (x6 - 1)) (y0.set x6.toNat (x1.tmod (x0.getD x6.toNat 0))) else none else none else none else none) else some y0
def qa5.f (k : Nat) (a0 : LI) (a1 : Int) : Option (LI) := if a1 < 0 then (some []) else (qbT.f k a0).bind fun t1 => if t1 <= a1 then (some []) else if 0 <= (a0.length : Int) /\ (a0.length : Int) <= 281474976710656 /\ ((8 : Nat) : Int) * (a0.length : Int) <= 140737488355328 then (qa5.l0 k a0 a1 (iW.wrap ((a0.length : Int) - 1)) (vac (a0.length : Int).toNat (0 : Int))).bind fun t2 => some t2 else none
def qbC.l0 : Nat -> LI -> LI -> Int -> Int -> Option (Int ⊕ Int)
 | 0,_,_,_,_ => none
 | n + 1,x0,x1,x5,x6 => if x6 < (x0.length : Int) then (if 0 <= x6 /\ x6 < (x1.length : Int) then if x1.getD x6.toNat 0 < 0 then (some (.inr (-1))) else if 0 <= x6 /\ x6 < (x0.length : Int) then if x0.getD x6.toNat 0 <= x1.getD x6.toNat 0 then (some (.inr (-1))) else qbC.l0 n x0 x1 (iW.wrap ((iW.wrap (x5 * (x0.getD x6.toNat 0))) + (x1.getD x6.toNat 0))) (iW.wrap (x6 + 1)) else none else none) else some (.inl x5)
def qbC.f (k : Nat) (a0 : LI) (a1 : LI) : Option (Int) := (qaE.f k a0).bind fun t1 => if t1 = true then (if (a1.length : Int) = (a0.length : Int) then ((qbC.l0 k a0 a1 0 0).bind fun t2 => Sum.elim (fun t2 => some t2) (fun t2 => some t2) t2) else some (-1)) else some (-1)
def qci.f (k : Nat) (a0_0 : LI) (a0_1 : LI) (a1 : LI) : Option (Int) := (qbC.f k a0_0 a1).bind fun t1 => if 0 <= t1 /\ t1 < (a0_1.length : Int) then some (a0_1.getD t1.toNat 0) else none
def qaW.l0 : Nat -> LI -> Int -> Int -> LI -> LI -> LI -> LI -> Option (LI ⊕ Int)
 | 0,_,_,_,_,_,_,_ => none
 | n + 1,x1,x29,x30,y0_0,y0_1,y2,y3 => if x30 < x29 then (if 0 <= x30 /\ x30 < (x1.length : Int) then if x1.getD x30.toNat 0 < 0 then (some (.inr 1)) else if (y2.length : Int) <= x1.getD x30.toNat 0 then (some (.inr 1)) else if 0 <= x1.getD x30.toNat 0 /\ x1.getD x30.toNat 0 < (y2.length : Int) then if (x1.getD x30.toNat 0).toNat < y2.length then if 0 < y2.getD (x1.getD x30.toNat 0).toNat 0 then (some (.inr 1)) else if 0 <= x1.getD x30.toNat 0 /\ x1.getD x30.toNat 0 < (y0_0.length : Int) then if y3.length + [y0_0.getD (x1.getD x30.toNat 0).toNat 0].length <= 281474976710656 /\ (y3.length + [y0_0.getD (x1.getD x30.toNat 0).toNat 0].length) * 8 <= 140737488355328 then qaW.l0 n x1 x29 (iW.wrap (x30 + 1)) y0_0 y0_1 (y2.set (x1.getD x30.toNat 0).toNat (iW.wrap ((y2.getD (x1.getD x30.toNat 0).toNat 0) + 1))) (y3 ++ [y0_0.getD (x1.getD x30.toNat 0).toNat 0]) else none else none else none else none else none) else some (.inl y3)
def qaW.l2 : Nat -> LI -> Int -> Int -> Int -> Int -> Int -> LI -> LI -> LI -> LI -> LI -> LI -> LI -> Option (LI)
 | 0,_,_,_,_,_,_,_,_,_,_,_,_,_ => none
 | n + 1,x1,x10,x83,x84,x94,x95,y0_0,y0_1,y2,y4,y5,y6,y7 => if x95 < x94 then (if 0 <= x95 /\ x95 < (x1.length : Int) then if 0 <= x95 /\ x95 < (y4.length : Int) then if x95.toNat < y4.length then if 0 <= x1.getD x95.toNat 0 /\ x1.getD x95.toNat 0 < (y5.length : Int) then if (x1.getD x95.toNat 0).toNat < y5.length then qaW.l2 n x1 x10 x83 x84 x94 (iW.wrap (x95 + 1)) y0_0 y0_1 y2 y4 (y5.set (x1.getD x95.toNat 0).toNat (y4.getD x95.toNat 0)) y6 y7 else none else none else none else none else none) else some y5
def qaW.l1 (k : Nat) : Nat -> LI -> Int -> Int -> LI -> LI -> LI -> LI -> LI -> Option (LI)
 | 0,_,_,_,_,_,_,_,_ => none
 | n + 1,x1,x83,x84,y0_0,y0_1,y2,y4,y5 => if x84 < x83 then ((qa5.f k y2 x84).bind fun t4 => if 0 <= (t4.length : Int) /\ (t4.length : Int) <= 281474976710656 /\ ((8 : Nat) : Int) * (t4.length : Int) <= 140737488355328 then (qaW.l2 n x1 x84 x83 x84 (t4.length : Int) 0 y0_0 y0_1 y2 t4 (vac (t4.length : Int).toNat (0 : Int)) y4 y5).bind fun t5 => (qci.f k y0_0 y0_1 t5).bind fun t6 => if 0 <= x84 /\ x84 < (y5.length : Int) then if x84.toNat < y5.length then qaW.l1 k n x1 x83 (iW.wrap (x84 + 1)) y0_0 y0_1 y2 y4 (y5.set x84.toNat t6) else none else none else none) else some y5
def qaW.f (k : Nat) (a0_0 : LI) (a0_1 : LI) (a1 : LI) : Option (Int × LI × LI) := (qby.f k a0_0 a0_1).bind fun t1 => if t1 = true then (if 0 <= (a0_0.length : Int) /\ (a0_0.length : Int) <= 281474976710656 /\ ((8 : Nat) : Int) * (a0_0.length : Int) <= 140737488355328 then if (a1.length : Int) = ((vac (a0_0.length : Int).toNat (0 : Int)).length : Int) then ((qaW.l0 k a1 (a1.length : Int) 0 a0_0 a0_1 (vac (a0_0.length : Int).toNat (0 : Int)) []).bind fun t2 => Sum.elim (fun t2 => (qa0.f k t2 0).bind fun t3 => (qaW.l1 k k a1 (t3.2.length : Int) 0 a0_0 a0_1 t2 t3.1 t3.2).bind fun t7 => some (0,t3.1,t7)) (fun t2 => some (t2,[],[])) t2) else some (1,[],[]) else none) else some (13,[],[])
def qaw.l0 : Nat -> LI -> LI -> Int -> Int -> LI -> LI -> Option (Unit ⊕ Int)
 | 0,_,_,_,_,_,_ => none
 | n + 1,x1,x2,x31,x32,y0_0,y0_1 => if x32 < x31 then (if 0 <= x32 /\ x32 < (x2.length : Int) then if x2.getD x32.toNat 0 < 0 then (some (.inr 1)) else if (x1.length : Int) <= x2.getD x32.toNat 0 then (some (.inr 1)) else if 0 < x32 then (if 0 <= iW.wrap (x32 - 1) /\ iW.wrap (x32 - 1) < (x2.length : Int) then if x2.getD x32.toNat 0 <= x2.getD (iW.wrap (x32 - 1)).toNat 0 then (some (.inr 1)) else if 0 <= x2.getD x32.toNat 0 /\ x2.getD x32.toNat 0 < (x1.length : Int) then if 0 <= x32 /\ x32 < (y0_0.length : Int) then if x1.getD (x2.getD x32.toNat 0).toNat 0 = y0_0.getD x32.toNat 0 then (qaw.l0 n x1 x2 x31 (iW.wrap (x32 + 1)) y0_0 y0_1) else some (.inr 1) else none else none else none) else if 0 <= x2.getD x32.toNat 0 /\ x2.getD x32.toNat 0 < (x1.length : Int) then if 0 <= x32 /\ x32 < (y0_0.length : Int) then if x1.getD (x2.getD x32.toNat 0).toNat 0 = y0_0.getD x32.toNat 0 then (qaw.l0 n x1 x2 x31 (iW.wrap (x32 + 1)) y0_0 y0_1) else some (.inr 1) else none else none else none) else some (.inl ())
def qaw.l2 : Nat -> LI -> LI -> Int -> Int -> Int -> Int -> Int -> LI -> LI -> LI -> LI -> LI -> LI -> Option (LI)
 | 0,_,_,_,_,_,_,_,_,_,_,_,_,_ => none
 | n + 1,x1,x2,x10,x86,x87,x94,x95,y0_0,y0_1,y3,y4,y5,y6 => if x95 < x94 then (if 0 <= x95 /\ x95 < (x2.length : Int) then if 0 <= x2.getD x95.toNat 0 /\ x2.getD x95.toNat 0 < (y3.length : Int) then if (x2.getD x95.toNat 0).toNat < y3.length then if y4.length + [y3.getD (x2.getD x95.toNat 0).toNat 0].length <= 281474976710656 /\ (y4.length + [y3.getD (x2.getD x95.toNat 0).toNat 0].length) * 8 <= 140737488355328 then qaw.l2 n x1 x2 x10 x86 x87 x94 (iW.wrap (x95 + 1)) y0_0 y0_1 y3 (y4 ++ [y3.getD (x2.getD x95.toNat 0).toNat 0]) y5 y6 else none else none else none else none) else some y4
def qaw.l1 (k : Nat) : Nat -> LI -> LI -> Int -> Int -> LI -> LI -> LI -> LI -> Option (LI)
 | 0,_,_,_,_,_,_,_,_ => none
 | n + 1,x1,x2,x86,x87,y0_0,y0_1,y3,y4 => if x87 < x86 then ((qa5.f k x1 x87).bind fun t5 => (qaw.l2 n x1 x2 x87 x86 x87 (x2.length : Int) 0 y0_0 y0_1 t5 [] y3 y4).bind fun t6 => (qci.f k y0_0 y0_1 t6).bind fun t7 => if 0 <= x87 /\ x87 < (y4.length : Int) then if x87.toNat < y4.length then qaw.l1 k n x1 x2 x86 (iW.wrap (x87 + 1)) y0_0 y0_1 y3 (y4.set x87.toNat t7) else none else none) else some y4
def qaw.f (k : Nat) (a0_0 : LI) (a0_1 : LI) (a1 : LI) (a2 : LI) : Option (Int × LI × LI) := (qby.f k a0_0 a0_1).bind fun t1 => if t1 = true then ((qaE.f k a1).bind fun t2 => if t2 = true then (if (a2.length : Int) = (a0_0.length : Int) then ((qaw.l0 k a1 a2 (a2.length : Int) 0 a0_0 a0_1).bind fun t3 => Sum.elim (fun t3 => (qa0.f k a1 0).bind fun t4 => (qaw.l1 k k a1 a2 (t4.2.length : Int) 0 a0_0 a0_1 t4.1 t4.2).bind fun t8 => some (0,t4.1,t8)) (fun t3 => some (t3,[],[])) t3) else some (1,[],[])) else some (13,[],[])) else some (13,[],[])
def qaH.l0 : Nat -> LI -> LI -> Int -> Int -> LI -> LI -> Option (Unit ⊕ Int)
 | 0,_,_,_,_,_,_ => none
 | n + 1,x1,x2,x33,x34,y0_0,y0_1 => if x34 < x33 then (if 0 <= x34 /\ x34 < (x1.length : Int) then if x1.getD x34.toNat 0 < 0 then (some (.inr 1)) else if 0 <= x34 /\ x34 < (x2.length : Int) then if x2.getD x34.toNat 0 < 0 then (some (.inr 1)) else if 0 <= x34 /\ x34 < (y0_0.length : Int) then if y0_0.getD x34.toNat 0 < x1.getD x34.toNat 0 then (some (.inr 1)) else if iW.wrap ((y0_0.getD x34.toNat 0) - (x1.getD x34.toNat 0)) < x2.getD x34.toNat 0 then (some (.inr 1)) else qaH.l0 n x1 x2 x33 (iW.wrap (x34 + 1)) y0_0 y0_1 else none else none else none) else some (.inl ())
def qaH.l2 : Nat -> LI -> LI -> Int -> Int -> Int -> Int -> Int -> LI -> LI -> LI -> LI -> LI -> Option (LI)
 | 0,_,_,_,_,_,_,_,_,_,_,_,_ => none
 | n + 1,x1,x2,x10,x84,x85,x92,x93,y0_0,y0_1,y3,y4,y5 => if x93 < x92 then (if 0 <= x93 /\ x93 < (y3.length : Int) then if x93.toNat < y3.length then if 0 <= x93 /\ x93 < (x1.length : Int) then qaH.l2 n x1 x2 x10 x84 x85 x92 (iW.wrap (x93 + 1)) y0_0 y0_1 (y3.set x93.toNat (iW.wrap ((y3.getD x93.toNat 0) + (x1.getD x93.toNat 0)))) y4 y5 else none else none else none) else some y3
def qaH.l1 (k : Nat) : Nat -> LI -> LI -> Int -> Int -> LI -> LI -> LI -> LI -> Option (LI)
 | 0,_,_,_,_,_,_,_,_ => none
 | n + 1,x1,x2,x84,x85,y0_0,y0_1,y3,y4 => if x85 < x84 then ((qa5.f k x2 x85).bind fun t4 => (qaH.l2 n x1 x2 x85 x84 x85 (t4.length : Int) 0 y0_0 y0_1 t4 y3 y4).bind fun t5 => (qci.f k y0_0 y0_1 t5).bind fun t6 => if 0 <= x85 /\ x85 < (y4.length : Int) then if x85.toNat < y4.length then qaH.l1 k n x1 x2 x84 (iW.wrap (x85 + 1)) y0_0 y0_1 y3 (y4.set x85.toNat t6) else none else none) else some y4
def qaH.f (k : Nat) (a0_0 : LI) (a0_1 : LI) (a1 : LI) (a2 : LI) : Option (Int × LI × LI) := (qby.f k a0_0 a0_1).bind fun t1 => if t1 = true then (if (a1.length : Int) = (a0_0.length : Int) then (if (a2.length : Int) = (a0_0.length : Int) then ((qaH.l0 k a1 a2 (a1.length : Int) 0 a0_0 a0_1).bind fun t2 => Sum.elim (fun t2 => (qa0.f k a2 0).bind fun t3 => (qaH.l1 k k a1 a2 (t3.2.length : Int) 0 a0_0 a0_1 t3.1 t3.2).bind fun t7 => some (0,t3.1,t7)) (fun t2 => some (t2,[],[])) t2) else some (1,[],[])) else some (1,[],[])) else some (13,[],[])
def qa8.l0 : Nat -> LI -> LI -> Int -> Int -> Int -> LI -> LI -> LI -> Option (LI ⊕ Int)
 | 0,_,_,_,_,_,_,_,_ => none
 | n + 1,x1,x2,x3,x36,x37,y0_0,y0_1,y2 => if x37 < x36 then (if 0 <= x37 /\ x37 < (x1.length : Int) then if x1.getD x37.toNat 0 < 0 then (some (.inr 1)) else if 0 <= x37 /\ x37 < (x2.length : Int) then if x2.getD x37.toNat 0 < 0 then (some (.inr 1)) else if 32 < x1.getD x37.toNat 0 then (some (.inr 1)) else if 32 < x2.getD x37.toNat 0 then (some (.inr 1)) else if 0 <= x37 /\ x37 < (y0_0.length : Int) then if y2.length + [iW.wrap ((iW.wrap ((x1.getD x37.toNat 0) + (y0_0.getD x37.toNat 0))) + (x2.getD x37.toNat 0))].length <= 281474976710656 /\ (y2.length + [iW.wrap ((iW.wrap ((x1.getD x37.toNat 0) + (y0_0.getD x37.toNat 0))) + (x2.getD x37.toNat 0))].length) * 8 <= 140737488355328 then qa8.l0 n x1 x2 x3 x36 (iW.wrap (x37 + 1)) y0_0 y0_1 (y2 ++ [iW.wrap ((iW.wrap ((x1.getD x37.toNat 0) + (y0_0.getD x37.toNat 0))) + (x2.getD x37.toNat 0))]) else none else none else none else none) else some (.inl y2)
def qa8.l2 : Nat -> LI -> Int -> Int -> Int -> Int -> Int -> LI -> LI -> LI -> LI -> LI -> LI -> Option (LI)
 | 0,_,_,_,_,_,_,_,_,_,_,_,_ => none
 | n + 1,x1,x13,x95,x96,x104,x105,y0_0,y0_1,y2,y4,y5,y6 => if x105 < x104 then (if 0 <= x105 /\ x105 < (y4.length : Int) then if x105.toNat < y4.length then if 0 <= x105 /\ x105 < (x1.length : Int) then qa8.l2 n x1 x13 x95 x96 x104 (iW.wrap (x105 + 1)) y0_0 y0_1 y2 (y4.set x105.toNat (iW.wrap ((y4.getD x105.toNat 0) + (x1.getD x105.toNat 0)))) y5 y6 else none else none else none) else some y4
def qa8.l1 (k : Nat) : Nat -> LI -> Int -> Int -> LI -> LI -> LI -> LI -> LI -> Option (LI)
 | 0,_,_,_,_,_,_,_,_ => none
 | n + 1,x1,x95,x96,y0_0,y0_1,y2,y4,y5 => if x96 < x95 then ((qa5.f k y0_0 x96).bind fun t5 => (qa8.l2 n x1 x96 x95 x96 (t5.length : Int) 0 y0_0 y0_1 y2 t5 y4 y5).bind fun t6 => (qbC.f k y2 t6).bind fun t7 => if 0 <= x96 /\ x96 < (y0_1.length : Int) then if 0 <= t7 /\ t7 < (y5.length : Int) then if t7.toNat < y5.length then qa8.l1 k n x1 x95 (iW.wrap (x96 + 1)) y0_0 y0_1 y2 y4 (y5.set t7.toNat (y0_1.getD x96.toNat 0)) else none else none else none) else some y5
def qa8.f (k : Nat) (a0_0 : LI) (a0_1 : LI) (a1 : LI) (a2 : LI) (a3 : Int) : Option (Int × LI × LI) := (qby.f k a0_0 a0_1).bind fun t1 => if t1 = true then (if (a1.length : Int) = (a0_0.length : Int) then (if (a2.length : Int) = (a0_0.length : Int) then ((qa8.l0 k a1 a2 a3 (a1.length : Int) 0 a0_0 a0_1 []).bind fun t2 => Sum.elim (fun t2 => (qaE.f k t2).bind fun t3 => if t3 = true then ((qa0.f k t2 a3).bind fun t4 => (qa8.l1 k k a1 (a0_1.length : Int) 0 a0_0 a0_1 t2 t4.1 t4.2).bind fun t8 => some (0,t4.1,t8)) else some (13,[],[])) (fun t2 => some (t2,[],[])) t2) else some (1,[],[])) else some (1,[],[])) else some (13,[],[])
def qas.l0 (k : Nat) : Nat -> Int -> (List LT) -> Int -> Int -> Option (Unit ⊕ Int)
 | 0,_,_,_,_ => none
 | n + 1,x0,x1,x16,x17 => if x17 < x16 then (if 0 <= x17 /\ x17 < (x1.length : Int) then (qby.f k (x1.getD x17.toNat ([],[])).1 (x1.getD x17.toNat ([],[])).2).bind fun t1 => if t1 = true then (qas.l0 k n x0 x1 x16 (iW.wrap (x17 + 1))) else some (.inr 13) else none) else some (.inl ())
def qas.l2 : Nat -> Int -> (List LT) -> Int -> Int -> Int -> Int -> Int -> LI -> Option (Unit ⊕ Int)
 | 0,_,_,_,_,_,_,_,_ => none
 | n + 1,x0,x1,x8,x55,x56,x70,x71,y1 => if x71 < x70 then (if x71 = x0 then (qas.l2 n x0 x1 x8 x55 x56 x70 (iW.wrap (x71 + 1)) y1) else if 0 <= x8 /\ x8 < (x1.length : Int) then if 0 <= x71 /\ x71 < ((x1.getD x8.toNat ([],[])).1.length : Int) then if 0 <= x71 /\ x71 < (y1.length : Int) then if x71.toNat < y1.length then if (x1.getD x8.toNat ([],[])).1.getD x71.toNat 0 = y1.getD x71.toNat 0 then (qas.l2 n x0 x1 x8 x55 x56 x70 (iW.wrap (x71 + 1)) y1) else some (.inr 13) else none else none else none else none) else some (.inl ())
def qas.l1 (k : Nat) : Nat -> Int -> (List LT) -> Int -> Int -> LI -> Option (LI ⊕ Int)
 | 0,_,_,_,_,_ => none
 | n + 1,x0,x1,x55,x56,y1 => if x56 < x55 then (if 0 <= x56 /\ x56 < (x1.length : Int) then if ((x1.getD x56.toNat ([],[])).1.length : Int) = (y1.length : Int) then ((qas.l2 n x0 x1 x56 x55 x56 (y1.length : Int) 0 y1).bind fun t3 => Sum.elim (fun t3 => if 0 <= x0 /\ x0 < (y1.length : Int) then if x0.toNat < y1.length then if 0 <= x0 /\ x0 < ((x1.getD x56.toNat ([],[])).1.length : Int) then if 0 <= x0 /\ x0 < ((y1.set x0.toNat (iW.wrap ((y1.getD x0.toNat 0) + ((x1.getD x56.toNat ([],[])).1.getD x0.toNat 0)))).length : Int) then if x0.toNat < (y1.set x0.toNat (iW.wrap ((y1.getD x0.toNat 0) + ((x1.getD x56.toNat ([],[])).1.getD x0.toNat 0)))).length then if 32 < (y1.set x0.toNat (iW.wrap ((y1.getD x0.toNat 0) + ((x1.getD x56.toNat ([],[])).1.getD x0.toNat 0)))).getD x0.toNat 0 then (some (.inr 13)) else qas.l1 k n x0 x1 x55 (iW.wrap (x56 + 1)) (y1.set x0.toNat (iW.wrap ((y1.getD x0.toNat 0) + ((x1.getD x56.toNat ([],[])).1.getD x0.toNat 0)))) else none else none else none else none else none) (fun t3 => some (.inr t3)) t3) else some (.inr 13) else none) else some (.inl y1)
def qas.l4 (k : Nat) : Nat -> Int -> (List LT) -> Int -> Int -> Int -> Int -> Int -> Int -> LI -> LI -> LI -> Option (LI)
 | 0,_,_,_,_,_,_,_,_,_,_,_ => none
 | n + 1,x0,x1,x11,x12,x124,x125,x133,x134,y1,y3,y4 => if x134 < x133 then (if 0 <= x12 /\ x12 < (x1.length : Int) then (qa5.f k (x1.getD x12.toNat ([],[])).1 x134).bind fun t7 => if 0 <= x0 /\ x0 < (t7.length : Int) then if x0.toNat < t7.length then (qbC.f k y1 (t7.set x0.toNat (iW.wrap ((t7.getD x0.toNat 0) + x11)))).bind fun t8 => if 0 <= x134 /\ x134 < ((x1.getD x12.toNat ([],[])).2.length : Int) then if 0 <= t8 /\ t8 < (y4.length : Int) then if t8.toNat < y4.length then qas.l4 k n x0 x1 x11 x12 x124 x125 x133 (iW.wrap (x134 + 1)) y1 y3 (y4.set t8.toNat ((x1.getD x12.toNat ([],[])).2.getD x134.toNat 0)) else none else none else none else none else none else none) else some y4
def qas.l3 (k : Nat) : Nat -> Int -> (List LT) -> Int -> Int -> Int -> LI -> LI -> LI -> Option (LI)
 | 0,_,_,_,_,_,_,_,_ => none
 | n + 1,x0,x1,x11,x124,x125,y1,y3,y4 => if x125 < x124 then (if 0 <= x125 /\ x125 < (x1.length : Int) then (qas.l4 k n x0 x1 x11 x125 x124 x125 ((x1.getD x125.toNat ([],[])).2.length : Int) 0 y1 y3 y4).bind fun t9 => if 0 <= x0 /\ x0 < ((x1.getD x125.toNat ([],[])).1.length : Int) then qas.l3 k n x0 x1 (iW.wrap (x11 + ((x1.getD x125.toNat ([],[])).1.getD x0.toNat 0))) x124 (iW.wrap (x125 + 1)) y1 y3 t9 else none else none) else some y4
def qas.f (k : Nat) (a0 : Int) (a1 : List LT) : Option (Int × LI × LI) := (qas.l0 k k a0 a1 (a1.length : Int) 0).bind fun t2 => Sum.elim (fun t2 => if (a1.length : Int) = 0 then (some (1,[],[])) else if a0 < 0 then (some (1,[],[])) else if (0 : Int) <= 0 /\ 0 < (a1.length : Int) then if ((a1.getD 0 ([],[])).1.length : Int) <= a0 then (some (1,[],[])) else if 0 + (a1.getD 0 ([],[])).1.length <= 281474976710656 /\ (0 + (a1.getD 0 ([],[])).1.length) * 8 <= 140737488355328 then if 0 <= a0 /\ a0 < (([] ++ (a1.getD 0 ([],[])).1).length : Int) then if a0.toNat < ([] ++ (a1.getD 0 ([],[])).1).length then (qas.l1 k k a0 a1 (a1.length : Int) 0 (([] ++ (a1.getD 0 ([],[])).1).set a0.toNat 0)).bind fun t4 => Sum.elim (fun t4 => (qaE.f k t4).bind fun t5 => if t5 = true then ((qa0.f k t4 0).bind fun t6 => (qas.l3 k k a0 a1 0 (a1.length : Int) 0 t4 t6.1 t6.2).bind fun t10 => some (0,t6.1,t10)) else some (13,[],[])) (fun t4 => some (t4,[],[])) t4 else none else none else none else none) (fun t2 => some (t2,[],[])) t2
end Go.Pf

namespace Go.Pf
open Go
def qaV.l0 : Nat -> LI -> LI -> Int -> Int -> Option (Unit ⊕ Bool)
 | 0,_,_,_,_ => none
 | n + 1,x0,x1,x12,x13 => if x13 < x12 then (if 0 <= x13 /\ x13 < (x0.length : Int) then if 0 <= x13 /\ x13 < (x1.length : Int) then if x0.getD x13.toNat 0 = x1.getD x13.toNat 0 then (qaV.l0 n x0 x1 x12 (iW.wrap (x13 + 1))) else some (.inr false) else none else none) else some (.inl ())
def qaV.f (k : Nat) (a0 : LI) (a1 : LI) : Option (Bool) := if (a0.length : Int) = (a1.length : Int) then ((qaV.l0 k a0 a1 (a0.length : Int) 0).bind fun t1 => Sum.elim (fun t1 => some true) (fun t1 => some t1) t1) else some false
end Go.Pf

namespace Go.Pf
open Go
def qdF.f (k : Nat) (a0 : LI) (a1 : LI) : Option (Bool) := (qaV.f k a0 a1).bind fun t1 => some t1
end Go.Pf

namespace Go.Pf
open Go
def qcS.f (o0_0 : LI) (o0_1 : Int) : Option (ByteArray × Int × LI) := (qac.f 10 o0_0 o0_1).bind fun t1 => if 0 <= t1.1 /\ t1.1 < ([([2] : LI),([3] : LI),([2,2] : LI),([4] : LI),([2,3] : LI),[],([2,2,2] : LI),([5] : LI),([1,3] : LI),([8] : LI)].length : Int) then if t1.1.toNat < [([2] : LI),([3] : LI),([2,2] : LI),([4] : LI),([2,3] : LI),[],([2,2,2] : LI),([5] : LI),([1,3] : LI),([8] : LI)].length then if 0 <= (if iW.wrap ((([([2] : LI),([3] : LI),([2,2] : LI),([4] : LI),([2,3] : LI),[],([2,2,2] : LI),([5] : LI),([1,3] : LI),([8] : LI)].getD t1.1.toNat []).length : Int) - 1) < 0 then 0 else iW.wrap ((([([2] : LI),([3] : LI),([2,2] : LI),([4] : LI),([2,3] : LI),[],([2,2,2] : LI),([5] : LI),([1,3] : LI),([8] : LI)].getD t1.1.toNat []).length : Int) - 1)) /\ (if iW.wrap ((([([2] : LI),([3] : LI),([2,2] : LI),([4] : LI),([2,3] : LI),[],([2,2,2] : LI),([5] : LI),([1,3] : LI),([8] : LI)].getD t1.1.toNat []).length : Int) - 1) < 0 then 0 else iW.wrap ((([([2] : LI),([3] : LI),([2,2] : LI),([4] : LI),([2,3] : LI),[],([2,2,2] : LI),([5] : LI),([1,3] : LI),([8] : LI)].getD t1.1.toNat []).length : Int) - 1)) < ([(vaa #[120]),(vaa #[121,195,169]),(vaa #[97,98,228,184,150])].length : Int) then if (if iW.wrap ((([([2] : LI),([3] : LI),([2,2] : LI),([4] : LI),([2,3] : LI),[],([2,2,2] : LI),([5] : LI),([1,3] : LI),([8] : LI)].getD t1.1.toNat []).length : Int) - 1) < 0 then 0 else iW.wrap ((([([2] : LI),([3] : LI),([2,2] : LI),([4] : LI),([2,3] : LI),[],([2,2,2] : LI),([5] : LI),([1,3] : LI),([8] : LI)].getD t1.1.toNat []).length : Int) - 1)).toNat < [(vaa #[120]),(vaa #[121,195,169]),(vaa #[97,98,228,184,150])].length then if (([([2] : LI),([3] : LI),([2,2] : LI),([4] : LI),([2,3] : LI),[],([2,2,2] : LI),([5] : LI),([1,3] : LI),([8] : LI)].getD t1.1.toNat []).length : Int) = 0 then (if (([([2] : LI),([3] : LI),([2,2] : LI),([4] : LI),([2,3] : LI),[],([2,2,2] : LI),([5] : LI),([1,3] : LI),([8] : LI)].getD t1.1.toNat []).length : Int) = 2 then (if 0 + ([([2] : LI),([3] : LI),([2,2] : LI),([4] : LI),([2,3] : LI),[],([2,2,2] : LI),([5] : LI),([1,3] : LI),([8] : LI)].getD t1.1.toNat []).length <= 281474976710656 /\ (0 + ([([2] : LI),([3] : LI),([2,2] : LI),([4] : LI),([2,3] : LI),[],([2,2,2] : LI),([5] : LI),([1,3] : LI),([8] : LI)].getD t1.1.toNat []).length) * 8 <= 140737488355328 then some ((vaa #[121,195,169]),t1.2,[] ++ ([([2] : LI),([3] : LI),([2,2] : LI),([4] : LI),([2,3] : LI),[],([2,2,2] : LI),([5] : LI),([1,3] : LI),([8] : LI)].getD t1.1.toNat [])) else none) else if 0 + ([([2] : LI),([3] : LI),([2,2] : LI),([4] : LI),([2,3] : LI),[],([2,2,2] : LI),([5] : LI),([1,3] : LI),([8] : LI)].getD t1.1.toNat []).length <= 281474976710656 /\ (0 + ([([2] : LI),([3] : LI),([2,2] : LI),([4] : LI),([2,3] : LI),[],([2,2,2] : LI),([5] : LI),([1,3] : LI),([8] : LI)].getD t1.1.toNat []).length) * 8 <= 140737488355328 then some (vab,t1.2,[] ++ ([([2] : LI),([3] : LI),([2,2] : LI),([4] : LI),([2,3] : LI),[],([2,2,2] : LI),([5] : LI),([1,3] : LI),([8] : LI)].getD t1.1.toNat [])) else none) else if (([([2] : LI),([3] : LI),([2,2] : LI),([4] : LI),([2,3] : LI),[],([2,2,2] : LI),([5] : LI),([1,3] : LI),([8] : LI)].getD t1.1.toNat []).length : Int) = 2 then (if 0 + ([([2] : LI),([3] : LI),([2,2] : LI),([4] : LI),([2,3] : LI),[],([2,2,2] : LI),([5] : LI),([1,3] : LI),([8] : LI)].getD t1.1.toNat []).length <= 281474976710656 /\ (0 + ([([2] : LI),([3] : LI),([2,2] : LI),([4] : LI),([2,3] : LI),[],([2,2,2] : LI),([5] : LI),([1,3] : LI),([8] : LI)].getD t1.1.toNat []).length) * 8 <= 140737488355328 then some ((vaa #[121,195,169]),t1.2,[] ++ ([([2] : LI),([3] : LI),([2,2] : LI),([4] : LI),([2,3] : LI),[],([2,2,2] : LI),([5] : LI),([1,3] : LI),([8] : LI)].getD t1.1.toNat [])) else none) else if 0 + ([([2] : LI),([3] : LI),([2,2] : LI),([4] : LI),([2,3] : LI),[],([2,2,2] : LI),([5] : LI),([1,3] : LI),([8] : LI)].getD t1.1.toNat []).length <= 281474976710656 /\ (0 + ([([2] : LI),([3] : LI),([2,2] : LI),([4] : LI),([2,3] : LI),[],([2,2,2] : LI),([5] : LI),([1,3] : LI),([8] : LI)].getD t1.1.toNat []).length) * 8 <= 140737488355328 then some ([(vaa #[120]),(vaa #[121,195,169]),(vaa #[97,98,228,184,150])].getD (if iW.wrap ((([([2] : LI),([3] : LI),([2,2] : LI),([4] : LI),([2,3] : LI),[],([2,2,2] : LI),([5] : LI),([1,3] : LI),([8] : LI)].getD t1.1.toNat []).length : Int) - 1) < 0 then 0 else iW.wrap ((([([2] : LI),([3] : LI),([2,2] : LI),([4] : LI),([2,3] : LI),[],([2,2,2] : LI),([5] : LI),([1,3] : LI),([8] : LI)].getD t1.1.toNat []).length : Int) - 1)).toNat vab,t1.2,[] ++ ([([2] : LI),([3] : LI),([2,2] : LI),([4] : LI),([2,3] : LI),[],([2,2,2] : LI),([5] : LI),([1,3] : LI),([8] : LI)].getD t1.1.toNat [])) else none else none else none else none else none
def qbH.l0 (k : Nat) : Nat -> (List LI) -> LI -> Int -> Int -> LI -> Option (LI)
 | 0,_,_,_,_,_ => none
 | n + 1,x0,x1,x8,x9,y0 => if x9 < x8 then (if 0 <= x9 /\ x9 < (x0.length : Int) then (qbq.f k (x0.getD x9.toNat []) x1).bind fun t1 => if t1 = true then (if y0.length + [x9].length <= 281474976710656 /\ (y0.length + [x9].length) * 8 <= 140737488355328 then qbH.l0 k n x0 x1 x8 (iW.wrap (x9 + 1)) (y0 ++ [x9]) else none) else qbH.l0 k n x0 x1 x8 (iW.wrap (x9 + 1)) y0 else none) else some y0
def qbH.f (k : Nat) (a0 : List LI) (a1 : LI) : Option (LI) := (qbH.l0 k k a0 a1 (a0.length : Int) 0 []).bind fun t2 => some t2
def qdO.f (a0 : Int) : Option (Int × Bool × Bool × Bool × Bool) := if a0 = 1 then (some (0,true,false,false,false)) else if a0 = 2 then (some (0,true,false,true,false)) else if a0 = 3 then (some (0,true,true,false,false)) else if a0 = 4 then (some (1,false,false,false,false)) else if a0 = 5 then (some (1,false,false,false,false)) else if 6 <= a0 then (if a0 <= 11 then (some (2,false,false,false,false)) else if a0 = 12 then (some (3,false,false,false,false)) else if a0 = 13 then (some (1,false,true,false,false)) else if a0 = 15 then (some (1,false,true,false,false)) else if a0 = 14 then (some (1,true,true,false,false)) else if a0 = 16 then (some (1,false,true,true,false)) else if a0 = 17 then (some (-1,false,true,false,false)) else if a0 = 18 then (some (1,false,true,false,true)) else if a0 = 20 then (some (1,false,true,false,true)) else if a0 = 19 then (some (2,false,true,false,false)) else some (-2,false,false,false,false)) else if a0 = 12 then (some (3,false,false,false,false)) else if a0 = 13 then (some (1,false,true,false,false)) else if a0 = 15 then (some (1,false,true,false,false)) else if a0 = 14 then (some (1,true,true,false,false)) else if a0 = 16 then (some (1,false,true,true,false)) else if a0 = 17 then (some (-1,false,true,false,false)) else if a0 = 18 then (some (1,false,true,false,true)) else if a0 = 20 then (some (1,false,true,false,true)) else if a0 = 19 then (some (2,false,true,false,false)) else some (-2,false,false,false,false)
def qek.f (a0_0 : Int) (a0_1 : LI) (a0_2 : LI) (a0_3 : LI) (a0_4 : Int) (a0_5 : Int) (a0_6 : ByteArray) (a1 : Int) : Option (Bool) := (qdO.f a0_0).bind fun t1 => if t1.1 = -2 then (some false) else if 0 <= t1.1 then (if a1 = t1.1 then (if t1.1 = -1 then (if a1 < 2 then (some false) else if t1.2.1 = true then (if t1.2.2.1 = true then (if t1.2.2.2.1 = true then (if t1.2.2.2.2 = true then (some true) else some (decide (a0_5 = 0))) else if a0_4 = 0 then (if t1.2.2.2.2 = true then (some true) else some (decide (a0_5 = 0))) else some false) else if (a0_3.length : Int) = 0 then (if t1.2.2.2.1 = true then (if t1.2.2.2.2 = true then (some true) else some (decide (a0_5 = 0))) else if a0_4 = 0 then (if t1.2.2.2.2 = true then (some true) else some (decide (a0_5 = 0))) else some false) else some false) else if (a0_2.length : Int) = 0 then (if t1.2.2.1 = true then (if t1.2.2.2.1 = true then (if t1.2.2.2.2 = true then (some true) else some (decide (a0_5 = 0))) else if a0_4 = 0 then (if t1.2.2.2.2 = true then (some true) else some (decide (a0_5 = 0))) else some false) else if (a0_3.length : Int) = 0 then (if t1.2.2.2.1 = true then (if t1.2.2.2.2 = true then (some true) else some (decide (a0_5 = 0))) else if a0_4 = 0 then (if t1.2.2.2.2 = true then (some true) else some (decide (a0_5 = 0))) else some false) else some false) else some false) else if t1.2.1 = true then (if t1.2.2.1 = true then (if t1.2.2.2.1 = true then (if t1.2.2.2.2 = true then (some true) else some (decide (a0_5 = 0))) else if a0_4 = 0 then (if t1.2.2.2.2 = true then (some true) else some (decide (a0_5 = 0))) else some false) else if (a0_3.length : Int) = 0 then (if t1.2.2.2.1 = true then (if t1.2.2.2.2 = true then (some true) else some (decide (a0_5 = 0))) else if a0_4 = 0 then (if t1.2.2.2.2 = true then (some true) else some (decide (a0_5 = 0))) else some false) else some false) else if (a0_2.length : Int) = 0 then (if t1.2.2.1 = true then (if t1.2.2.2.1 = true then (if t1.2.2.2.2 = true then (some true) else some (decide (a0_5 = 0))) else if a0_4 = 0 then (if t1.2.2.2.2 = true then (some true) else some (decide (a0_5 = 0))) else some false) else if (a0_3.length : Int) = 0 then (if t1.2.2.2.1 = true then (if t1.2.2.2.2 = true then (some true) else some (decide (a0_5 = 0))) else if a0_4 = 0 then (if t1.2.2.2.2 = true then (some true) else some (decide (a0_5 = 0))) else some false) else some false) else some false) else some false) else if t1.1 = -1 then (if a1 < 2 then (some false) else if t1.2.1 = true then (if t1.2.2.1 = true then (if t1.2.2.2.1 = true then (if t1.2.2.2.2 = true then (some true) else some (decide (a0_5 = 0))) else if a0_4 = 0 then (if t1.2.2.2.2 = true then (some true) else some (decide (a0_5 = 0))) else some false) else if (a0_3.length : Int) = 0 then (if t1.2.2.2.1 = true then (if t1.2.2.2.2 = true then (some true) else some (decide (a0_5 = 0))) else if a0_4 = 0 then (if t1.2.2.2.2 = true then (some true) else some (decide (a0_5 = 0))) else some false) else some false) else if (a0_2.length : Int) = 0 then (if t1.2.2.1 = true then (if t1.2.2.2.1 = true then (if t1.2.2.2.2 = true then (some true) else some (decide (a0_5 = 0))) else if a0_4 = 0 then (if t1.2.2.2.2 = true then (some true) else some (decide (a0_5 = 0))) else some false) else if (a0_3.length : Int) = 0 then (if t1.2.2.2.1 = true then (if t1.2.2.2.2 = true then (some true) else some (decide (a0_5 = 0))) else if a0_4 = 0 then (if t1.2.2.2.2 = true then (some true) else some (decide (a0_5 = 0))) else some false) else some false) else some false) else if t1.2.1 = true then (if t1.2.2.1 = true then (if t1.2.2.2.1 = true then (if t1.2.2.2.2 = true then (some true) else some (decide (a0_5 = 0))) else if a0_4 = 0 then (if t1.2.2.2.2 = true then (some true) else some (decide (a0_5 = 0))) else some false) else if (a0_3.length : Int) = 0 then (if t1.2.2.2.1 = true then (if t1.2.2.2.2 = true then (some true) else some (decide (a0_5 = 0))) else if a0_4 = 0 then (if t1.2.2.2.2 = true then (some true) else some (decide (a0_5 = 0))) else some false) else some false) else if (a0_2.length : Int) = 0 then (if t1.2.2.1 = true then (if t1.2.2.2.1 = true then (if t1.2.2.2.2 = true then (some true) else some (decide (a0_5 = 0))) else if a0_4 = 0 then (if t1.2.2.2.2 = true then (some true) else some (decide (a0_5 = 0))) else some false) else if (a0_3.length : Int) = 0 then (if t1.2.2.2.1 = true then (if t1.2.2.2.2 = true then (some true) else some (decide (a0_5 = 0))) else if a0_4 = 0 then (if t1.2.2.2.2 = true then (some true) else some (decide (a0_5 = 0))) else some false) else some false) else some false
def qcs.f (a0_0 : Int) (a0_1 : LI) (a0_2 : LI) (a0_3 : LI) (a0_4 : Int) (a0_5 : Int) (a0_6 : ByteArray) (a1 : Int) : Option (Bool) := some (decide ((a0_3.length : Int) = a1))
def qcg.l0 (k : Nat) : Nat -> LI -> Int -> Int -> LI -> LI -> Option (LI)
 | 0,_,_,_,_,_ => none
 | n + 1,x0,x1,x6,y2,y3 => if x6 < (y3.length : Int) then ((qa5.f k x0 x6).bind fun t2 => if 0 <= x1 /\ x1 < (t2.length : Int) then if x1.toNat < t2.length then if 0 <= x6 /\ x6 < (y3.length : Int) then if x6.toNat < y3.length then qcg.l0 k n x0 x1 (iW.wrap (x6 + 1)) y2 (y3.set x6.toNat (t2.getD x1.toNat 0)) else none else none else none else none) else some y3
def qcg.f (k : Nat) (a0 : LI) (a1 : Int) : Option LT := (qa0.f k a0 0).bind fun t1 => (qcg.l0 k k a0 a1 0 t1.1 t1.2).bind fun t3 => some (t1.1,t3)
def qbQ.l0 (k : Nat) : Nat -> (List LT) -> Int -> Option (Unit ⊕ Int)
 | 0,_,_ => none
 | n + 1,x0,x3 => if x3 < (x0.length : Int) then (if 0 <= x3 /\ x3 < (x0.length : Int) then (qby.f k (x0.getD x3.toNat ([],[])).1 (x0.getD x3.toNat ([],[])).2).bind fun t1 => if t1 = true then (if (0 : Int) <= 0 /\ 0 < (x0.length : Int) then (qbq.f k (x0.getD x3.toNat ([],[])).1 (x0.getD 0 ([],[])).1).bind fun t2 => if t2 = true then (qbQ.l0 k n x0 (iW.wrap (x3 + 1))) else some (.inr 13) else none) else some (.inr 13) else none) else some (.inl ())
def qbQ.f (k : Nat) (a0 : List LT) : Option (Int) := (qbQ.l0 k k a0 0).bind fun t3 => Sum.elim (fun t3 => some 0) (fun t3 => some t3) t3
def qf5.f (a0 : Bool) : Option (Int) := if a0 = true then (some 1) else some 0
def qeh.f (a0 : Int) (a1 : Int) (a2 : Int) : Option (Int) := if a0 = 4 then (some (iW.wrap (0 - a1))) else if a0 = 5 then ((qf5.f (decide (a1 = 0))).bind fun t1 => some t1) else if a0 = 6 then (some (iW.wrap (a1 + a2))) else if a0 = 7 then (some (iW.wrap (a1 - a2))) else if a0 = 8 then (some (iW.wrap (a1 * a2))) else if a0 = 9 then (some (if a2 < a1 then a2 else a1)) else if a0 = 10 then (some (if a1 < a2 then a2 else a1)) else if a0 = 11 then ((qf5.f (decide (a1 < a2))).bind fun t2 => some t2) else some 0
def qcl.l0 : Nat -> Int -> Int -> Int -> LI -> LI -> LI -> LI -> Option (LI)
 | 0,_,_,_,_,_,_,_ => none
 | n + 1,x0,x28,x29,y0_0,y0_1,y3,y4 => if x29 < x28 then (if 0 <= x29 /\ x29 < (y0_1.length : Int) then (qeh.f x0 (y0_1.getD x29.toNat 0) 0).bind fun t3 => if 0 <= x29 /\ x29 < (y4.length : Int) then if x29.toNat < y4.length then qcl.l0 n x0 x28 (iW.wrap (x29 + 1)) y0_0 y0_1 y3 (y4.set x29.toNat t3) else none else none else none) else some y4
def qcl.f (k : Nat) (a0 : Int) (a1_0 : LI) (a1_1 : LI) : Option (Int × LI × LI) := if a0 = 4 then ((qbQ.f k [(a1_0,a1_1)]).bind fun t5 => if t5 = 0 then ((qa0.f k a1_0 0).bind fun t6 => (qcl.l0 k a0 (t6.2.length : Int) 0 a1_0 a1_1 t6.1 t6.2).bind fun t7 => some (0,t6.1,t7)) else some (t5,[],[])) else if a0 = 5 then ((qbQ.f k [(a1_0,a1_1)]).bind fun t1 => if t1 = 0 then ((qa0.f k a1_0 0).bind fun t2 => (qcl.l0 k a0 (t2.2.length : Int) 0 a1_0 a1_1 t2.1 t2.2).bind fun t4 => some (0,t2.1,t4)) else some (t1,[],[])) else some (1,[],[])
def qce.l0 : Nat -> Int -> Int -> LI -> LI -> LI -> LI -> LI -> LI -> LI -> LI -> Option (LI)
 | 0,_,_,_,_,_,_,_,_,_,_ => none
 | n + 1,x25,x26,y0_0,y0_1,y1_0,y1_1,y2_0,y2_1,y5,y6 => if x26 < x25 then (if 0 <= x26 /\ x26 < (y2_1.length : Int) then if 0 <= x26 /\ x26 < (y6.length : Int) then if x26.toNat < y6.length then if 0 <= x26 /\ x26 < (y0_1.length : Int) then if y0_1.getD x26.toNat 0 = 0 then (qce.l0 n x25 (iW.wrap (x26 + 1)) y0_0 y0_1 y1_0 y1_1 y2_0 y2_1 y5 (y6.set x26.toNat (y2_1.getD x26.toNat 0))) else if 0 <= x26 /\ x26 < (y1_1.length : Int) then if 0 <= x26 /\ x26 < ((y6.set x26.toNat (y2_1.getD x26.toNat 0)).length : Int) then if x26.toNat < (y6.set x26.toNat (y2_1.getD x26.toNat 0)).length then qce.l0 n x25 (iW.wrap (x26 + 1)) y0_0 y0_1 y1_0 y1_1 y2_0 y2_1 y5 ((y6.set x26.toNat (y2_1.getD x26.toNat 0)).set x26.toNat (y1_1.getD x26.toNat 0)) else none else none else none else none else none else none else none) else some y6
def qce.f (k : Nat) (a0_0 : LI) (a0_1 : LI) (a1_0 : LI) (a1_1 : LI) (a2_0 : LI) (a2_1 : LI) : Option (Int × LI × LI) := (qbQ.f k [(a0_0,a0_1),(a1_0,a1_1),(a2_0,a2_1)]).bind fun t1 => if t1 = 0 then ((qa0.f k a1_0 0).bind fun t2 => (qce.l0 k (t2.2.length : Int) 0 a0_0 a0_1 a1_0 a1_1 a2_0 a2_1 t2.1 t2.2).bind fun t3 => some (0,t2.1,t3)) else some (t1,[],[])
def qc7.f (k : Nat) (a0 : LI) (a1 : LI) (a2 : Int) : Option (Int × LI) := if a2 < 0 then (some (1,[])) else if (a0.length : Int) <= a2 then (some (1,[])) else if (a1.length : Int) <= a2 then (some (1,[])) else (qaE.f k a0).bind fun t1 => if t1 = true then ((qaE.f k a1).bind fun t2 => if t2 = true then (if 0 <= ((0 : Nat) : Int) /\ ((0 : Nat) : Int) <= a2 /\ a2 <= (a0.length : Int) then if 0 <= ((0 : Nat) : Int) /\ ((0 : Nat) : Int) <= a2 /\ a2 <= (a1.length : Int) then (qbq.f k ((a0.take a2.toNat).drop 0) ((a1.take a2.toNat).drop 0)).bind fun t3 => if t3 = true then (if 0 <= iW.wrap ((a0.length : Int) - 1) /\ iW.wrap ((a0.length : Int) - 1) < (a0.length : Int) then if 0 <= a2 /\ a2 < (a1.length : Int) then if a0.getD (iW.wrap ((a0.length : Int) - 1)).toNat 0 = a1.getD a2.toNat 0 then (if 0 <= ((0 : Nat) : Int) /\ ((0 : Nat) : Int) <= iW.wrap ((a0.length : Int) - 1) /\ iW.wrap ((a0.length : Int) - 1) <= (a0.length : Int) then if 0 + ((a0.take (iW.wrap ((a0.length : Int) - 1)).toNat).drop 0).length <= 281474976710656 /\ (0 + ((a0.take (iW.wrap ((a0.length : Int) - 1)).toNat).drop 0).length) * 8 <= 140737488355328 then if 0 <= iW.wrap (a2 + 1) /\ iW.wrap (a2 + 1) <= (a1.length : Int) /\ (a1.length : Int) <= (a1.length : Int) then if ([] ++ ((a0.take (iW.wrap ((a0.length : Int) - 1)).toNat).drop 0)).length + ((a1.take a1.length).drop (iW.wrap (a2 + 1)).toNat).length <= 281474976710656 /\ (([] ++ ((a0.take (iW.wrap ((a0.length : Int) - 1)).toNat).drop 0)).length + ((a1.take a1.length).drop (iW.wrap (a2 + 1)).toNat).length) * 8 <= 140737488355328 then (qaE.f k (([] ++ ((a0.take (iW.wrap ((a0.length : Int) - 1)).toNat).drop 0)) ++ ((a1.take a1.length).drop (iW.wrap (a2 + 1)).toNat))).bind fun t4 => if t4 = true then (some (0,([] ++ ((a0.take (iW.wrap ((a0.length : Int) - 1)).toNat).drop 0)) ++ ((a1.take a1.length).drop (iW.wrap (a2 + 1)).toNat))) else some (13,[]) else none else none else none else none) else some (13,[]) else none else none) else some (13,[]) else none else none) else some (13,[])) else some (13,[])
def qbF.l1 (k : Nat) : Nat -> Int -> Int -> Int -> Int -> Int -> Int -> LI -> LI -> LI -> LI -> LI -> LI -> LI -> LI -> Option (LI)
 | 0,_,_,_,_,_,_,_,_,_,_,_,_,_,_ => none
 | n + 1,x2,x11,x12,x14,x47,x48,y0_0,y0_1,y1_0,y1_1,y3,y5,y6,y7 => if 0 <= x2 /\ x2 < (y1_0.length : Int) then if x14 < y1_0.getD x2.toNat 0 then (if 0 <= ((0 : Nat) : Int) /\ ((0 : Nat) : Int) <= x11 /\ x11 <= (y5.length : Int) then if 0 + ((y5.take x11.toNat).drop 0).length <= 281474976710656 /\ (0 + ((y5.take x11.toNat).drop 0).length) * 8 <= 140737488355328 then if ([] ++ ((y5.take x11.toNat).drop 0)).length + [x14].length <= 281474976710656 /\ (([] ++ ((y5.take x11.toNat).drop 0)).length + [x14].length) * 8 <= 140737488355328 then if 0 <= ((0 : Nat) : Int) /\ ((0 : Nat) : Int) <= x2 /\ x2 <= (y5.length : Int) then if 0 + ((y5.take x2.toNat).drop 0).length <= 281474976710656 /\ (0 + ((y5.take x2.toNat).drop 0).length) * 8 <= 140737488355328 then if ([] ++ ((y5.take x2.toNat).drop 0)).length + [x14].length <= 281474976710656 /\ (([] ++ ((y5.take x2.toNat).drop 0)).length + [x14].length) * 8 <= 140737488355328 then if 0 <= x11 /\ x11 <= (y5.length : Int) /\ (y5.length : Int) <= (y5.length : Int) then if (([] ++ ((y5.take x2.toNat).drop 0)) ++ [x14]).length + ((y5.take y5.length).drop x11.toNat).length <= 281474976710656 /\ ((([] ++ ((y5.take x2.toNat).drop 0)) ++ [x14]).length + ((y5.take y5.length).drop x11.toNat).length) * 8 <= 140737488355328 then if 0 <= x12 /\ x12 < (y7.length : Int) then if x12.toNat < y7.length then (qci.f k y0_0 y0_1 (([] ++ ((y5.take x11.toNat).drop 0)) ++ [x14])).bind fun t6 => (qci.f k y1_0 y1_1 ((([] ++ ((y5.take x2.toNat).drop 0)) ++ [x14]) ++ ((y5.take y5.length).drop x11.toNat))).bind fun t7 => qbF.l1 k n x2 x11 x12 (iW.wrap (x14 + 1)) x47 x48 y0_0 y0_1 y1_0 y1_1 y3 y5 y6 (y7.set x12.toNat (iW.wrap ((y7.getD x12.toNat 0) + (iW.wrap (t6 * t7))))) else none else none else none else none else none else none else none else none else none else none) else some y7 else none
def qbF.l0 (k : Nat) : Nat -> Int -> Int -> Int -> Int -> LI -> LI -> LI -> LI -> LI -> LI -> LI -> Option (LI)
 | 0,_,_,_,_,_,_,_,_,_,_,_ => none
 | n + 1,x2,x11,x47,x48,y0_0,y0_1,y1_0,y1_1,y3,y5,y6 => if x48 < x47 then ((qa5.f k y3 x48).bind fun t5 => (qbF.l1 k n x2 x11 x48 0 x47 x48 y0_0 y0_1 y1_0 y1_1 y3 t5 y5 y6).bind fun t8 => qbF.l0 k n x2 x11 x47 (iW.wrap (x48 + 1)) y0_0 y0_1 y1_0 y1_1 y3 y5 t8) else some y6
def qbF.f (k : Nat) (a0_0 : LI) (a0_1 : LI) (a1_0 : LI) (a1_1 : LI) (a2 : Int) : Option (Int × LI × LI) := (qby.f k a0_0 a0_1).bind fun t1 => if t1 = true then ((qby.f k a1_0 a1_1).bind fun t2 => if t2 = true then ((qc7.f k a0_0 a1_0 a2).bind fun t3 => if t3.1 = 0 then ((qa0.f k t3.2 0).bind fun t4 => (qbF.l0 k k a2 (iW.wrap ((a0_0.length : Int) - 1)) (t4.2.length : Int) 0 a0_0 a0_1 a1_0 a1_1 t3.2 t4.1 t4.2).bind fun t9 => some (0,t4.1,t9)) else some (t3.1,[],[])) else some (13,[],[])) else some (13,[],[])
def qfb.f (a0 : Int) : Option (Bool) := if 1 <= a0 then (some (decide (a0 <= 4))) else some false
def qbx.l0 : Nat -> LI -> Int -> Int -> Int -> Option (Unit ⊕ Bool)
 | 0,_,_,_,_ => none
 | n + 1,x0,x1,x7,x8 => if x8 < x7 then (if 0 <= x8 /\ x8 < (x0.length : Int) then if x0.getD x8.toNat 0 < 0 then (some (.inr false)) else if x1 <= x0.getD x8.toNat 0 then (some (.inr false)) else if 0 < x8 then (if 0 <= iW.wrap (x8 - 1) /\ iW.wrap (x8 - 1) < (x0.length : Int) then if x0.getD x8.toNat 0 <= x0.getD (iW.wrap (x8 - 1)).toNat 0 then (some (.inr false)) else qbx.l0 n x0 x1 x7 (iW.wrap (x8 + 1)) else none) else qbx.l0 n x0 x1 x7 (iW.wrap (x8 + 1)) else none) else some (.inl ())
def qbx.f (k : Nat) (a0 : LI) (a1 : Int) : Option (Bool) := (qbx.l0 k a0 a1 (a0.length : Int) 0).bind fun t1 => Sum.elim (fun t1 => some true) (fun t1 => some t1) t1
def qcC.l0 : Nat -> LI -> Int -> Int -> Int -> Option (Unit ⊕ Bool)
 | 0,_,_,_,_ => none
 | n + 1,x0,x1,x7,x8 => if x8 < x7 then (if 0 <= x8 /\ x8 < (x0.length : Int) then if x0.getD x8.toNat 0 = x1 then (some (.inr true)) else qcC.l0 n x0 x1 x7 (iW.wrap (x8 + 1)) else none) else some (.inl ())
def qcC.f (k : Nat) (a0 : LI) (a1 : Int) : Option (Bool) := (qcC.l0 k a0 a1 (a0.length : Int) 0).bind fun t1 => Sum.elim (fun t1 => some false) (fun t1 => some t1) t1
def qei.f (a0 : Int) : Option (Int) := if a0 = 2 then (some 1) else if a0 = 3 then (some 9223372036854775807) else if a0 = 4 then (some (-9223372036854775808)) else some 0
def qfa.f (a0 : Int) (a1 : Int) (a2 : Int) : Option (Int) := if a0 = 1 then (some (iW.wrap (a1 + a2))) else if a0 = 2 then (some (iW.wrap (a1 * a2))) else if a0 = 3 then (some (if a2 < a1 then a2 else a1)) else if a0 = 4 then (some (if a1 < a2 then a2 else a1)) else some 0
def qaQ.l0 (k : Nat) : Nat -> Int -> LI -> Int -> Int -> LI -> LI -> LI -> Option (LI)
 | 0,_,_,_,_,_,_,_ => none
 | n + 1,x0,x2,x33,x34,y0_0,y0_1,y2 => if x34 < x33 then ((qcC.f k x2 x34).bind fun t4 => if t4 = true then (qaQ.l0 k n x0 x2 x33 (iW.wrap (x34 + 1)) y0_0 y0_1 y2) else if 0 <= x34 /\ x34 < (y0_0.length : Int) then if y2.length + [y0_0.getD x34.toNat 0].length <= 281474976710656 /\ (y2.length + [y0_0.getD x34.toNat 0].length) * 8 <= 140737488355328 then qaQ.l0 k n x0 x2 x33 (iW.wrap (x34 + 1)) y0_0 y0_1 (y2 ++ [y0_0.getD x34.toNat 0]) else none else none) else some y2
def qaQ.l2 (k : Nat) : Nat -> Int -> LI -> Int -> Int -> Int -> Int -> Int -> LI -> LI -> LI -> LI -> LI -> LI -> LI -> Option (LI)
 | 0,_,_,_,_,_,_,_,_,_,_,_,_,_,_ => none
 | n + 1,x0,x2,x11,x60,x61,x68,x69,y0_0,y0_1,y2,y4,y5,y6,y7 => if x69 < x68 then (if 0 <= x69 /\ x69 < (y5.length : Int) then if x69.toNat < y5.length then (qcC.f k x2 x69).bind fun t10 => if t10 = true then (qaQ.l2 k n x0 x2 x11 x60 x61 x68 (iW.wrap (x69 + 1)) y0_0 y0_1 y2 y4 y5 y6 y7) else if y4.length + [y5.getD x69.toNat 0].length <= 281474976710656 /\ (y4.length + [y5.getD x69.toNat 0].length) * 8 <= 140737488355328 then qaQ.l2 k n x0 x2 x11 x60 x61 x68 (iW.wrap (x69 + 1)) y0_0 y0_1 y2 (y4 ++ [y5.getD x69.toNat 0]) y5 y6 y7 else none else none else none) else some y4
def qaQ.l1 (k : Nat) : Nat -> Int -> LI -> Int -> Int -> LI -> LI -> LI -> LI -> LI -> Option (LI)
 | 0,_,_,_,_,_,_,_,_,_ => none
 | n + 1,x0,x2,x60,x61,y0_0,y0_1,y2,y4,y5 => if x61 < x60 then ((qa5.f k y0_0 x61).bind fun t9 => (qaQ.l2 k n x0 x2 x61 x60 x61 (t9.length : Int) 0 y0_0 y0_1 y2 [] t9 y4 y5).bind fun t11 => (qbC.f k y2 t11).bind fun t12 => if 0 <= t12 /\ t12 < (y5.length : Int) then if t12.toNat < y5.length then if 0 <= x61 /\ x61 < (y0_1.length : Int) then (qfa.f x0 (y5.getD t12.toNat 0) (y0_1.getD x61.toNat 0)).bind fun t13 => qaQ.l1 k n x0 x2 x60 (iW.wrap (x61 + 1)) y0_0 y0_1 y2 y4 (y5.set t12.toNat t13) else none else none else none) else some y5
def qaQ.f (k : Nat) (a0 : Int) (a1_0 : LI) (a1_1 : LI) (a2 : LI) : Option (Int × LI × LI) := (qfb.f a0).bind fun t1 => if t1 = true then ((qby.f k a1_0 a1_1).bind fun t2 => if t2 = true then ((qbx.f k a2 (a1_0.length : Int)).bind fun t3 => if t3 = true then ((qaQ.l0 k k a0 a2 (a1_0.length : Int) 0 a1_0 a1_1 []).bind fun t5 => (qaE.f k t5).bind fun t6 => if t6 = true then ((qei.f a0).bind fun t7 => (qa0.f k t5 t7).bind fun t8 => (qaQ.l1 k k a0 a2 (a1_1.length : Int) 0 a1_0 a1_1 t5 t8.1 t8.2).bind fun t14 => some (0,t8.1,t14)) else some (13,[],[])) else some (1,[],[])) else some (13,[],[])) else some (1,[],[])
def qdm.f (a0 : Int) (a1 : Int) (a2 : Int) : Option (Int) := if a0 < 0 then (some 0) else if a1 < 1 then (some 0) else if a2 < 1 then (some 0) else if a0 < a1 then (some 0) else if a2 ≠ 0 then some (iW.wrap ((iW.wrap ((iW.wrap (a0 - a1)).tdiv a2)) + 1)) else none
def qaT.l1 (k : Nat) : Nat -> Int -> Int -> Int -> Int -> Int -> Int -> Int -> Int -> Int -> LI -> LI -> LI -> LI -> LI -> LI -> Option (LI)
 | 0,_,_,_,_,_,_,_,_,_,_,_,_,_,_,_ => none
 | n + 1,x0,x2,x3,x4,x14,x16,x17,x72,x73,y0_0,y0_1,y2,y4,y5,y6 => if x17 < x3 then (if 0 <= x2 /\ x2 < (y4.length : Int) then if x2.toNat < y4.length then if 0 <= x14 /\ x14 < (y6.length : Int) then if x14.toNat < y6.length then (qci.f k y0_0 y0_1 (y4.set x2.toNat (iW.wrap (x16 + x17)))).bind fun t7 => (qfa.f x0 (y6.getD x14.toNat 0) t7).bind fun t8 => qaT.l1 k n x0 x2 x3 x4 x14 x16 (iW.wrap (x17 + 1)) x72 x73 y0_0 y0_1 y2 (y4.set x2.toNat (iW.wrap (x16 + x17))) y5 (y6.set x14.toNat t8) else none else none else none else none) else some y6
def qaT.l0 (k : Nat) : Nat -> Int -> Int -> Int -> Int -> Int -> Int -> LI -> LI -> LI -> LI -> LI -> Option (LI)
 | 0,_,_,_,_,_,_,_,_,_,_,_ => none
 | n + 1,x0,x2,x3,x4,x72,x73,y0_0,y0_1,y2,y4,y5 => if x73 < x72 then ((qa5.f k y2 x73).bind fun t6 => if 0 <= x2 /\ x2 < (t6.length : Int) then if x2.toNat < t6.length then (qaT.l1 k n x0 x2 x3 x4 x73 (iW.wrap ((t6.getD x2.toNat 0) * x4)) 0 x72 x73 y0_0 y0_1 y2 t6 y4 y5).bind fun t9 => qaT.l0 k n x0 x2 x3 x4 x72 (iW.wrap (x73 + 1)) y0_0 y0_1 y2 y4 t9 else none else none) else some y5
def qaT.f (k : Nat) (a0 : Int) (a1_0 : LI) (a1_1 : LI) (a2 : Int) (a3 : Int) (a4 : Int) : Option (Int × LI × LI) := (qfb.f a0).bind fun t1 => if t1 = true then (if a3 < 1 then (some (1,[],[])) else if 32 < a3 then (some (1,[],[])) else if a4 < 1 then (some (1,[],[])) else if 32 < a4 then (some (1,[],[])) else (qby.f k a1_0 a1_1).bind fun t2 => if t2 = true then (if a2 < 0 then (some (1,[],[])) else if (a1_0.length : Int) <= a2 then (some (1,[],[])) else if 0 + a1_0.length <= 281474976710656 /\ (0 + a1_0.length) * 8 <= 140737488355328 then if 0 <= a2 /\ a2 < (([] ++ a1_0).length : Int) then if a2.toNat < ([] ++ a1_0).length then (qdm.f (([] ++ a1_0).getD a2.toNat 0) a3 a4).bind fun t3 => (qei.f a0).bind fun t4 => (qa0.f k (([] ++ a1_0).set a2.toNat t3) t4).bind fun t5 => (qaT.l0 k k a0 a2 a3 a4 (t5.2.length : Int) 0 a1_0 a1_1 (([] ++ a1_0).set a2.toNat t3) t5.1 t5.2).bind fun t10 => some (0,t5.1,t10) else none else none else none) else some (13,[],[])) else some (1,[],[])
def qcM.l0 : Nat -> Int -> Int -> Int -> LI -> LI -> LI -> LI -> LI -> LI -> Option (LI)
 | 0,_,_,_,_,_,_,_,_,_ => none
 | n + 1,x0,x31,x32,y0_0,y0_1,y1_0,y1_1,y4,y5 => if x32 < x31 then (if 0 <= x32 /\ x32 < (y0_1.length : Int) then if 0 <= x32 /\ x32 < (y1_1.length : Int) then (qeh.f x0 (y0_1.getD x32.toNat 0) (y1_1.getD x32.toNat 0)).bind fun t3 => if 0 <= x32 /\ x32 < (y5.length : Int) then if x32.toNat < y5.length then qcM.l0 n x0 x31 (iW.wrap (x32 + 1)) y0_0 y0_1 y1_0 y1_1 y4 (y5.set x32.toNat t3) else none else none else none else none) else some y5
def qcM.f (k : Nat) (a0 : Int) (a1_0 : LI) (a1_1 : LI) (a2_0 : LI) (a2_1 : LI) : Option (Int × LI × LI) := if a0 < 6 then (some (1,[],[])) else if 11 < a0 then (some (1,[],[])) else (qbQ.f k [(a1_0,a1_1),(a2_0,a2_1)]).bind fun t1 => if t1 = 0 then ((qa0.f k a1_0 0).bind fun t2 => (qcM.l0 k a0 (t2.2.length : Int) 0 a1_0 a1_1 a2_0 a2_1 t2.1 t2.2).bind fun t4 => some (0,t2.1,t4)) else some (t1,[],[])
def qbj.f (k : Nat) (a0_0 : Int) (a0_1 : LI) (a0_2 : LI) (a0_3 : LI) (a0_4 : Int) (a0_5 : Int) (a0_6 : ByteArray) (a1 : List LT) : Option (Int × LI × LI) := if a0_0 = 2 then ((qaE.f k a0_2).bind fun t1 => if t1 = true then ((qa0.f k a0_2 a0_4).bind fun t2 => some (0,t2.1,t2.2)) else some (13,[],[])) else if a0_0 = 3 then ((qaE.f k a0_2).bind fun t3 => if t3 = true then ((qcs.f a0_0 a0_1 a0_2 a0_3 a0_4 a0_5 a0_6 1).bind fun t4 => if t4 = true then (if (0 : Int) <= 0 /\ 0 < (a0_3.length : Int) then if a0_3.getD 0 0 < 0 then (some (1,[],[])) else if (a0_2.length : Int) <= a0_3.getD 0 0 then (some (1,[],[])) else (qcg.f k a0_2 (a0_3.getD 0 0)).bind fun t5 => some (0,t5.1,t5.2) else none) else some (1,[],[])) else some (13,[],[])) else if a0_0 = 4 then (if (0 : Int) <= 0 /\ 0 < (a1.length : Int) then (qcl.f k a0_0 (a1.getD 0 ([],[])).1 (a1.getD 0 ([],[])).2).bind fun t6 => some (t6.1,t6.2.1,t6.2.2) else none) else if a0_0 = 5 then (if (0 : Int) <= 0 /\ 0 < (a1.length : Int) then (qcl.f k a0_0 (a1.getD 0 ([],[])).1 (a1.getD 0 ([],[])).2).bind fun t7 => some (t7.1,t7.2.1,t7.2.2) else none) else if a0_0 = 12 then (if (0 : Int) <= 0 /\ 0 < (a1.length : Int) then if (0 : Int) <= 1 /\ 1 < (a1.length : Int) then if (0 : Int) <= 2 /\ 2 < (a1.length : Int) then (qce.f k (a1.getD 0 ([],[])).1 (a1.getD 0 ([],[])).2 (a1.getD 1 ([],[])).1 (a1.getD 1 ([],[])).2 (a1.getD 2 ([],[])).1 (a1.getD 2 ([],[])).2).bind fun t8 => some (t8.1,t8.2.1,t8.2.2) else none else none else none) else if a0_0 = 13 then (if (0 : Int) <= 0 /\ 0 < (a1.length : Int) then (qaW.f k (a1.getD 0 ([],[])).1 (a1.getD 0 ([],[])).2 a0_3).bind fun t9 => some (t9.1,t9.2.1,t9.2.2) else none) else if a0_0 = 14 then (if (0 : Int) <= 0 /\ 0 < (a1.length : Int) then (qaw.f k (a1.getD 0 ([],[])).1 (a1.getD 0 ([],[])).2 a0_2 a0_3).bind fun t10 => some (t10.1,t10.2.1,t10.2.2) else none) else if a0_0 = 15 then (if (0 : Int) <= 0 /\ 0 < (a1.length : Int) then (qcs.f a0_0 a0_1 a0_2 a0_3 a0_4 a0_5 a0_6 (iW.wrap (2 * ((a1.getD 0 ([],[])).1.length : Int)))).bind fun t11 => if t11 = true then (if 0 <= ((0 : Nat) : Int) /\ ((0 : Nat) : Int) <= ((a1.getD 0 ([],[])).1.length : Int) /\ ((a1.getD 0 ([],[])).1.length : Int) <= (a0_3.length : Int) then if 0 <= ((a1.getD 0 ([],[])).1.length : Int) /\ ((a1.getD 0 ([],[])).1.length : Int) <= (a0_3.length : Int) /\ (a0_3.length : Int) <= (a0_3.length : Int) then (qaH.f k (a1.getD 0 ([],[])).1 (a1.getD 0 ([],[])).2 ((a0_3.take ((a1.getD 0 ([],[])).1.length : Int).toNat).drop 0) ((a0_3.take a0_3.length).drop ((a1.getD 0 ([],[])).1.length : Int).toNat)).bind fun t12 => some (t12.1,t12.2.1,t12.2.2) else none else none) else some (1,[],[]) else none) else if a0_0 = 16 then (if (0 : Int) <= 0 /\ 0 < (a1.length : Int) then (qcs.f a0_0 a0_1 a0_2 a0_3 a0_4 a0_5 a0_6 (iW.wrap (2 * ((a1.getD 0 ([],[])).1.length : Int)))).bind fun t13 => if t13 = true then (if 0 <= ((0 : Nat) : Int) /\ ((0 : Nat) : Int) <= ((a1.getD 0 ([],[])).1.length : Int) /\ ((a1.getD 0 ([],[])).1.length : Int) <= (a0_3.length : Int) then if 0 <= ((a1.getD 0 ([],[])).1.length : Int) /\ ((a1.getD 0 ([],[])).1.length : Int) <= (a0_3.length : Int) /\ (a0_3.length : Int) <= (a0_3.length : Int) then (qa8.f k (a1.getD 0 ([],[])).1 (a1.getD 0 ([],[])).2 ((a0_3.take ((a1.getD 0 ([],[])).1.length : Int).toNat).drop 0) ((a0_3.take a0_3.length).drop ((a1.getD 0 ([],[])).1.length : Int).toNat) a0_4).bind fun t14 => some (t14.1,t14.2.1,t14.2.2) else none else none) else some (1,[],[]) else none) else if a0_0 = 17 then ((qcs.f a0_0 a0_1 a0_2 a0_3 a0_4 a0_5 a0_6 1).bind fun t15 => if t15 = true then (if (0 : Int) <= 0 /\ 0 < (a0_3.length : Int) then (qas.f k (a0_3.getD 0 0) a1).bind fun t16 => some (t16.1,t16.2.1,t16.2.2) else none) else some (1,[],[])) else if a0_0 = 19 then ((qcs.f a0_0 a0_1 a0_2 a0_3 a0_4 a0_5 a0_6 1).bind fun t17 => if t17 = true then (if (0 : Int) <= 0 /\ 0 < (a1.length : Int) then if (0 : Int) <= 1 /\ 1 < (a1.length : Int) then if (0 : Int) <= 0 /\ 0 < (a0_3.length : Int) then (qbF.f k (a1.getD 0 ([],[])).1 (a1.getD 0 ([],[])).2 (a1.getD 1 ([],[])).1 (a1.getD 1 ([],[])).2 (a0_3.getD 0 0)).bind fun t18 => some (t18.1,t18.2.1,t18.2.2) else none else none else none) else some (1,[],[])) else if a0_0 = 18 then (if (0 : Int) <= 0 /\ 0 < (a1.length : Int) then (qaQ.f k a0_5 (a1.getD 0 ([],[])).1 (a1.getD 0 ([],[])).2 a0_3).bind fun t19 => some (t19.1,t19.2.1,t19.2.2) else none) else if a0_0 = 20 then ((qcs.f a0_0 a0_1 a0_2 a0_3 a0_4 a0_5 a0_6 3).bind fun t20 => if t20 = true then (if (0 : Int) <= 0 /\ 0 < (a1.length : Int) then if (0 : Int) <= 0 /\ 0 < (a0_3.length : Int) then if (0 : Int) <= 1 /\ 1 < (a0_3.length : Int) then if (0 : Int) <= 2 /\ 2 < (a0_3.length : Int) then (qaT.f k a0_5 (a1.getD 0 ([],[])).1 (a1.getD 0 ([],[])).2 (a0_3.getD 0 0) (a0_3.getD 1 0) (a0_3.getD 2 0)).bind fun t21 => some (t21.1,t21.2.1,t21.2.2) else none else none else none else none) else some (1,[],[])) else if (0 : Int) <= 0 /\ 0 < (a1.length : Int) then if (0 : Int) <= 1 /\ 1 < (a1.length : Int) then (qcM.f k a0_0 (a1.getD 0 ([],[])).1 (a1.getD 0 ([],[])).2 (a1.getD 1 ([],[])).1 (a1.getD 1 ([],[])).2).bind fun t22 => some (t22.1,t22.2.1,t22.2.2) else none else none
def qbe.l0 (k : Nat) : Nat -> (List LI) -> Int -> Int -> Int -> LI -> LI -> LI -> Int -> Int -> ByteArray -> (List LT) -> Option ((List LT) ⊕ Int)
 | 0,_,_,_,_,_,_,_,_,_,_,_ => none
 | n + 1,x1,x16,x17,y0_0,y0_1,y0_2,y0_3,y0_4,y0_5,y0_6,y1 => if x17 < x16 then (if 0 <= x17 /\ x17 < (x1.length : Int) then (qaE.f k (x1.getD x17.toNat [])).bind fun t2 => if t2 = true then ((qa0.f k (x1.getD x17.toNat []) 0).bind fun t3 => if y1.length + [(t3.1,t3.2)].length <= 281474976710656 /\ (y1.length + [(t3.1,t3.2)].length) * 48 <= 140737488355328 then qbe.l0 k n x1 x16 (iW.wrap (x17 + 1)) y0_0 y0_1 y0_2 y0_3 y0_4 y0_5 y0_6 (y1 ++ [(t3.1,t3.2)]) else none) else some (.inr 13) else none) else some (.inl y1)
def qbe.f (k : Nat) (a0_0 : Int) (a0_1 : LI) (a0_2 : LI) (a0_3 : LI) (a0_4 : Int) (a0_5 : Int) (a0_6 : ByteArray) (a1 : List LI) : Option (Int × LI) := (qek.f a0_0 a0_1 a0_2 a0_3 a0_4 a0_5 a0_6 (a1.length : Int)).bind fun t1 => if t1 = true then ((qbe.l0 k k a1 (a1.length : Int) 0 a0_0 a0_1 a0_2 a0_3 a0_4 a0_5 a0_6 []).bind fun t4 => Sum.elim (fun t4 => if a0_0 = 1 then ((qaE.f k a0_2).bind fun t5 => if t5 = true then (if 0 + a0_2.length <= 281474976710656 /\ (0 + a0_2.length) * 8 <= 140737488355328 then some (0,[] ++ a0_2) else none) else some (13,[])) else (qbj.f k a0_0 a0_1 a0_2 a0_3 a0_4 a0_5 a0_6 t4).bind fun t6 => if t6.1 = 0 then (some (0,t6.2.1)) else some (t6.1,[])) (fun t4 => some (t4,[])) t4) else some (1,[])
def qan.l1 (k : Nat) : Nat -> (List LI) -> Int -> LI -> Int -> Int -> Int -> LI -> Int -> Int -> Int -> Int -> ByteArray -> Option (Unit ⊕ (Int × Int × Int × ByteArray × LI × LI))
 | 0,_,_,_,_,_,_,_,_,_,_,_,_ => none
 | n + 1,x1,x2,x7,x8,x9,x10,y0_0,y0_1,y1_0,y1_1,y1_2,y1_3 => if x10 < 2 then (if 0 <= x9 /\ x9 < (x1.length : Int) then (qbe.f k 19 ([0,1] : LI) [] [x10] 0 0 vab [x7,x1.getD x9.toNat []]).bind fun t2 => if t2.1 = 0 then ((qbT.f k t2.2).bind fun t3 => if t3 <= 300 then (some (.inr (19,0,0,vab,[x2,x9],[x10]))) else qan.l1 k n x1 x2 x7 x8 x9 (iW.wrap (x10 + 1)) y0_0 y0_1 y1_0 y1_1 y1_2 y1_3) else qan.l1 k n x1 x2 x7 x8 x9 (iW.wrap (x10 + 1)) y0_0 y0_1 y1_0 y1_1 y1_2 y1_3 else none) else some (.inl ())
def qan.l0 (k : Nat) : Nat -> (List LI) -> Int -> LI -> Int -> LI -> Int -> Int -> Int -> Int -> ByteArray -> Option (Int ⊕ (Int × Int × Int × Int × ByteArray × LI × LI))
 | 0,_,_,_,_,_,_,_,_,_,_ => none
 | n + 1,x1,x2,x7,x8,y0_0,y0_1,y1_0,y1_1,y1_2,y1_3 => if x8 < (x1.length : Int) then ((qac.f 3 y0_0 y0_1).bind fun t1 => if (x1.length : Int) ≠ 0 then (qan.l1 k n x1 x2 x7 x8 ((iW.wrap (x8 + t1.1)).tmod (x1.length : Int)) 0 y0_0 t1.2 y1_0 y1_1 y1_2 y1_3).bind fun t4 => Sum.elim (fun t4 => qan.l0 k n x1 x2 x7 (iW.wrap (x8 + 1)) y0_0 t1.2 y1_0 y1_1 y1_2 y1_3) (fun t4 => some (.inr (t1.2,t4.1,t4.2.1,t4.2.2.1,t4.2.2.2.1,t4.2.2.2.2.1,t4.2.2.2.2.2))) t4 else none) else some (.inl y0_1)
def qan.f (k : Nat) (a1 : List LI) (a2 : Int) (o0_0 : LI) (o0_1 : Int) : Option (Int × Int × Int × ByteArray × Int × LI × LI) := if 0 <= a2 /\ a2 < (a1.length : Int) then (qan.l0 k k a1 a2 (a1.getD a2.toNat []) 0 o0_0 o0_1 0 0 0 vab).bind fun t5 => Sum.elim (fun t5 => some (5,0,0,vab,t5,[a2],[])) (fun t5 => some (t5.2.1,t5.2.2.1,t5.2.2.2.1,t5.2.2.2.2.1,t5.1,t5.2.2.2.2.2.1,t5.2.2.2.2.2.2)) t5 else none
def qad.l0 : Nat -> Int -> Int -> Int -> LI -> Int -> Int -> Int -> Int -> ByteArray -> LI -> Option (Int × LI)
 | 0,_,_,_,_,_,_,_,_,_,_ => none
 | n + 1,x7,x127,x128,y0_0,y0_1,y1_0,y1_1,y1_2,y1_3,y2 => if x128 < x127 then ((qac.f (iW.wrap (x128 + 1)) y0_0 y0_1).bind fun t28 => if 0 <= ((0 : Nat) : Int) /\ ((0 : Nat) : Int) <= t28.1 /\ t28.1 <= (y2.length : Int) then if 0 + ((y2.take t28.1.toNat).drop 0).length <= 281474976710656 /\ (0 + ((y2.take t28.1.toNat).drop 0).length) * 8 <= 140737488355328 then if ([] ++ ((y2.take t28.1.toNat).drop 0)).length + [x128].length <= 281474976710656 /\ (([] ++ ((y2.take t28.1.toNat).drop 0)).length + [x128].length) * 8 <= 140737488355328 then if 0 <= t28.1 /\ t28.1 <= (y2.length : Int) /\ (y2.length : Int) <= (y2.length : Int) then if (([] ++ ((y2.take t28.1.toNat).drop 0)) ++ [x128]).length + ((y2.take y2.length).drop t28.1.toNat).length <= 281474976710656 /\ ((([] ++ ((y2.take t28.1.toNat).drop 0)) ++ [x128]).length + ((y2.take y2.length).drop t28.1.toNat).length) * 8 <= 140737488355328 then qad.l0 n x7 x127 (iW.wrap (x128 + 1)) y0_0 t28.2 y1_0 y1_1 y1_2 y1_3 ((([] ++ ((y2.take t28.1.toNat).drop 0)) ++ [x128]) ++ ((y2.take y2.length).drop t28.1.toNat)) else none else none else none else none else none) else some (y0_1,y2)
def qad.l1 : Nat -> Int -> Int -> Int -> Int -> LI -> Int -> Int -> Int -> Int -> ByteArray -> LI -> LI -> Option (LI)
 | 0,_,_,_,_,_,_,_,_,_,_,_,_ => none
 | n + 1,x7,x14,x180,x181,y0_0,y0_1,y1_0,y1_1,y1_2,y1_3,y2,y3 => if x181 < x180 then (if x181 = x14 then (qad.l1 n x7 x14 x180 (iW.wrap (x181 + 1)) y0_0 y0_1 y1_0 y1_1 y1_2 y1_3 y2 y3) else if y3.length + [x181].length <= 281474976710656 /\ (y3.length + [x181].length) * 8 <= 140737488355328 then qad.l1 n x7 x14 x180 (iW.wrap (x181 + 1)) y0_0 y0_1 y1_0 y1_1 y1_2 y1_3 y2 (y3 ++ [x181]) else none) else some y3
def qad.l2 : Nat -> Int -> LI -> Int -> Int -> LI -> Int -> Int -> Int -> Int -> ByteArray -> LI -> LI -> Option (Int × LI × LI)
 | 0,_,_,_,_,_,_,_,_,_,_,_,_ => none
 | n + 1,x7,x8,x200,x201,y0_0,y0_1,y1_0,y1_1,y1_2,y1_3,y2,y3 => if x201 < x200 then (if 0 <= x201 /\ x201 < (x8.length : Int) then (qac.f (iW.wrap ((x8.getD x201.toNat 0) + 1)) y0_0 y0_1).bind fun t33 => if y2.length + [t33.1].length <= 281474976710656 /\ (y2.length + [t33.1].length) * 8 <= 140737488355328 then (qac.f (iW.wrap ((iW.wrap ((x8.getD x201.toNat 0) - t33.1)) + 1)) y0_0 t33.2).bind fun t34 => if y3.length + [t34.1].length <= 281474976710656 /\ (y3.length + [t34.1].length) * 8 <= 140737488355328 then qad.l2 n x7 x8 x200 (iW.wrap (x201 + 1)) y0_0 t34.2 y1_0 y1_1 y1_2 y1_3 (y2 ++ [t33.1]) (y3 ++ [t34.1]) else none else none else none) else some (y0_1,y2,y3)
def qad.l3 : Nat -> Int -> Int -> Int -> LI -> Int -> Int -> Int -> Int -> ByteArray -> LI -> LI -> Option (Int × LI × LI)
 | 0,_,_,_,_,_,_,_,_,_,_,_ => none
 | n + 1,x7,x237,x238,y0_0,y0_1,y1_0,y1_1,y1_2,y1_3,y2,y3 => if x238 < x237 then ((qac.f 3 y0_0 y0_1).bind fun t36 => if y2.length + [t36.1].length <= 281474976710656 /\ (y2.length + [t36.1].length) * 8 <= 140737488355328 then (qac.f 3 y0_0 t36.2).bind fun t37 => if y3.length + [t37.1].length <= 281474976710656 /\ (y3.length + [t37.1].length) * 8 <= 140737488355328 then qad.l3 n x7 x237 (iW.wrap (x238 + 1)) y0_0 t37.2 y1_0 y1_1 y1_2 y1_3 (y2 ++ [t36.1]) (y3 ++ [t37.1]) else none else none) else some (y0_1,y2,y3)
def qad.l4 : Nat -> Int -> Int -> Int -> LI -> Int -> Int -> Int -> Int -> ByteArray -> LI -> Option (Int × LI)
 | 0,_,_,_,_,_,_,_,_,_,_ => none
 | n + 1,x7,x293,x294,y0_0,y0_1,y1_0,y1_1,y1_2,y1_3,y2 => if x294 < x293 then ((qac.f 2 y0_0 y0_1).bind fun t44 => if t44.1 = 0 then (if y2.length + [x294].length <= 281474976710656 /\ (y2.length + [x294].length) * 8 <= 140737488355328 then qad.l4 n x7 x293 (iW.wrap (x294 + 1)) y0_0 t44.2 y1_0 y1_1 y1_2 y1_3 (y2 ++ [x294]) else none) else qad.l4 n x7 x293 (iW.wrap (x294 + 1)) y0_0 t44.2 y1_0 y1_1 y1_2 y1_3 y2) else some (y0_1,y2)
def qad.f (k : Nat) (a1 : List LI) (o0_0 : LI) (o0_1 : Int) : Option (Int × LI × LI × Int × Int × ByteArray × Int × LI) := if (a1.length : Int) = 0 then ((qac.f 4 o0_0 o0_1).bind fun t1 => if t1.1 = 0 then ((qav.f k o0_0 t1.2).bind fun t2 => (qbc.f o0_0 t2.1).bind fun t3 => some (2,[],t2.2,t3.1,0,vab,t3.2,[])) else if t1.1 = 1 then ((qav.f k o0_0 t1.2).bind fun t4 => if ([3] : LI).length + t4.2.length <= 281474976710656 /\ (([3] : LI).length + t4.2.length) * 8 <= 140737488355328 then if 3 < ((([3] : LI) ++ t4.2).length : Int) then (if 0 <= ((0 : Nat) : Int) /\ ((0 : Nat) : Int) <= 3 /\ 3 <= ((([3] : LI) ++ t4.2).length : Int) then (qac.f ((3 - 0 : Nat) : Int) o0_0 t4.1).bind fun t5 => some (3,[],((([3] : LI) ++ t4.2).take 3).drop 0,0,0,vab,t5.2,[t5.1]) else none) else (qac.f ((([3] : LI) ++ t4.2).length : Int) o0_0 t4.1).bind fun t6 => some (3,[],([3] : LI) ++ t4.2,0,0,vab,t6.2,[t6.1]) else none) else (qav.f k o0_0 t1.2).bind fun t7 => some (1,[],t7.2,0,0,vab,t7.1,[])) else (qac.f 5 o0_0 o0_1).bind fun t8 => if t8.1 = 0 then ((qac.f 4 o0_0 t8.2).bind fun t9 => if t9.1 = 0 then ((qav.f k o0_0 t9.2).bind fun t10 => (qbc.f o0_0 t10.1).bind fun t11 => some (2,[],t10.2,t11.1,0,vab,t11.2,[])) else if t9.1 = 1 then ((qav.f k o0_0 t9.2).bind fun t12 => if ([3] : LI).length + t12.2.length <= 281474976710656 /\ (([3] : LI).length + t12.2.length) * 8 <= 140737488355328 then if 3 < ((([3] : LI) ++ t12.2).length : Int) then (if 0 <= ((0 : Nat) : Int) /\ ((0 : Nat) : Int) <= 3 /\ 3 <= ((([3] : LI) ++ t12.2).length : Int) then (qac.f ((3 - 0 : Nat) : Int) o0_0 t12.1).bind fun t13 => some (3,[],((([3] : LI) ++ t12.2).take 3).drop 0,0,0,vab,t13.2,[t13.1]) else none) else (qac.f ((([3] : LI) ++ t12.2).length : Int) o0_0 t12.1).bind fun t14 => some (3,[],([3] : LI) ++ t12.2,0,0,vab,t14.2,[t14.1]) else none) else (qav.f k o0_0 t9.2).bind fun t15 => some (1,[],t15.2,0,0,vab,t15.1,[])) else (qac.f (a1.length : Int) o0_0 t8.2).bind fun t16 => if 0 <= t16.1 /\ t16.1 < (a1.length : Int) then (qac.f 12 o0_0 t16.2).bind fun t17 => if t17.1 = 0 then ((qac.f 2 o0_0 t17.2).bind fun t18 => some (iW.wrap (4 + t18.1),[t16.1],[],0,0,vab,t18.2,[])) else if t17.1 = 1 then ((qbH.f k a1 (a1.getD t16.1.toNat [])).bind fun t19 => (qac.f 6 o0_0 t17.2).bind fun t20 => (qac.f (t19.length : Int) o0_0 t20.2).bind fun t21 => if 0 <= t21.1 /\ t21.1 < (t19.length : Int) then if t21.1.toNat < t19.length then some (iW.wrap (6 + t20.1),[t16.1,t19.getD t21.1.toNat 0],[],0,0,vab,t21.2,[]) else none else none) else if t17.1 = 2 then ((qbH.f k a1 (a1.getD t16.1.toNat [])).bind fun t22 => (qac.f 6 o0_0 t17.2).bind fun t23 => (qac.f (t22.length : Int) o0_0 t23.2).bind fun t24 => if 0 <= t24.1 /\ t24.1 < (t22.length : Int) then if t24.1.toNat < t22.length then some (iW.wrap (6 + t23.1),[t16.1,t22.getD t24.1.toNat 0],[],0,0,vab,t24.2,[]) else none else none) else if t17.1 = 3 then ((qbH.f k a1 (a1.getD t16.1.toNat [])).bind fun t25 => (qac.f (t25.length : Int) o0_0 t17.2).bind fun t26 => if 0 <= t26.1 /\ t26.1 < (t25.length : Int) then if t26.1.toNat < t25.length then (qac.f (t25.length : Int) o0_0 t26.2).bind fun t27 => if 0 <= t27.1 /\ t27.1 < (t25.length : Int) then if t27.1.toNat < t25.length then some (12,[t16.1,t25.getD t26.1.toNat 0,t25.getD t27.1.toNat 0],[],0,0,vab,t27.2,[]) else none else none else none else none) else if t17.1 = 4 then ((qad.l0 k t16.1 ((a1.getD t16.1.toNat []).length : Int) 0 o0_0 t17.2 0 0 0 vab []).bind fun t29 => some (13,[t16.1],[],0,0,vab,t29.1,t29.2)) else if t17.1 = 5 then (if 2 < ((a1.getD t16.1.toNat []).length : Int) then (some (4,[t16.1],[],0,0,vab,t17.2,[])) else (qac.f (iW.wrap (((a1.getD t16.1.toNat []).length : Int) + 1)) o0_0 t17.2).bind fun t30 => if 0 <= ((0 : Nat) : Int) /\ ((0 : Nat) : Int) <= t30.1 /\ t30.1 <= ((a1.getD t16.1.toNat []).length : Int) then if 0 + (((a1.getD t16.1.toNat []).take t30.1.toNat).drop 0).length <= 281474976710656 /\ (0 + (((a1.getD t16.1.toNat []).take t30.1.toNat).drop 0).length) * 8 <= 140737488355328 then (qac.f 4 o0_0 t30.2).bind fun t31 => if ([] ++ (((a1.getD t16.1.toNat []).take t30.1.toNat).drop 0)).length + [iW.wrap (1 + t31.1)].length <= 281474976710656 /\ (([] ++ (((a1.getD t16.1.toNat []).take t30.1.toNat).drop 0)).length + [iW.wrap (1 + t31.1)].length) * 8 <= 140737488355328 then if 0 <= t30.1 /\ t30.1 <= ((a1.getD t16.1.toNat []).length : Int) /\ ((a1.getD t16.1.toNat []).length : Int) <= ((a1.getD t16.1.toNat []).length : Int) then if (([] ++ (((a1.getD t16.1.toNat []).take t30.1.toNat).drop 0)) ++ [iW.wrap (1 + t31.1)]).length + (((a1.getD t16.1.toNat []).take (a1.getD t16.1.toNat []).length).drop t30.1.toNat).length <= 281474976710656 /\ ((([] ++ (((a1.getD t16.1.toNat []).take t30.1.toNat).drop 0)) ++ [iW.wrap (1 + t31.1)]).length + (((a1.getD t16.1.toNat []).take (a1.getD t16.1.toNat []).length).drop t30.1.toNat).length) * 8 <= 140737488355328 then (qad.l1 k t16.1 t30.1 (((([] ++ (((a1.getD t16.1.toNat []).take t30.1.toNat).drop 0)) ++ [iW.wrap (1 + t31.1)]) ++ (((a1.getD t16.1.toNat []).take (a1.getD t16.1.toNat []).length).drop t30.1.toNat)).length : Int) 0 o0_0 t31.2 0 0 0 vab ((([] ++ (((a1.getD t16.1.toNat []).take t30.1.toNat).drop 0)) ++ [iW.wrap (1 + t31.1)]) ++ (((a1.getD t16.1.toNat []).take (a1.getD t16.1.toNat []).length).drop t30.1.toNat)) []).bind fun t32 => some (14,[t16.1],(([] ++ (((a1.getD t16.1.toNat []).take t30.1.toNat).drop 0)) ++ [iW.wrap (1 + t31.1)]) ++ (((a1.getD t16.1.toNat []).take (a1.getD t16.1.toNat []).length).drop t30.1.toNat),0,0,vab,t31.2,t32) else none else none else none else none else none) else if t17.1 = 6 then ((qad.l2 k t16.1 (a1.getD t16.1.toNat []) ((a1.getD t16.1.toNat []).length : Int) 0 o0_0 t17.2 0 0 0 vab [] []).bind fun t35 => if t35.2.1.length + t35.2.2.length <= 281474976710656 /\ (t35.2.1.length + t35.2.2.length) * 8 <= 140737488355328 then some (15,[t16.1],[],0,0,vab,t35.1,t35.2.1 ++ t35.2.2) else none) else if t17.1 = 7 then ((qad.l3 k t16.1 ((a1.getD t16.1.toNat []).length : Int) 0 o0_0 t17.2 0 0 0 vab [] []).bind fun t38 => if t38.2.1.length + t38.2.2.length <= 281474976710656 /\ (t38.2.1.length + t38.2.2.length) * 8 <= 140737488355328 then (qbc.f o0_0 t38.1).bind fun t39 => some (16,[t16.1],[],t39.1,0,vab,t39.2,t38.2.1 ++ t38.2.2) else none) else if t17.1 = 8 then ((qbH.f k a1 (a1.getD t16.1.toNat [])).bind fun t40 => if ((a1.getD t16.1.toNat []).length : Int) = 0 then (some (5,[t16.1],[],0,0,vab,t17.2,[])) else (qac.f (t40.length : Int) o0_0 t17.2).bind fun t41 => if 0 <= t41.1 /\ t41.1 < (t40.length : Int) then if t41.1.toNat < t40.length then (qac.f 2 o0_0 t41.2).bind fun t42 => if 0 <= ((0 : Nat) : Int) /\ ((0 : Nat) : Int) <= iW.wrap (2 + t42.1) /\ iW.wrap (2 + t42.1) <= ([t16.1,t40.getD t41.1.toNat 0,t16.1].length : Int) then (qac.f ((a1.getD t16.1.toNat []).length : Int) o0_0 t42.2).bind fun t43 => some (17,([t16.1,t40.getD t41.1.toNat 0,t16.1].take (iW.wrap (2 + t42.1)).toNat).drop 0,[],0,0,vab,t43.2,[t43.1]) else none else none else none) else if t17.1 = 9 then ((qad.l4 k t16.1 ((a1.getD t16.1.toNat []).length : Int) 0 o0_0 t17.2 0 0 0 vab []).bind fun t45 => (qac.f 4 o0_0 t45.1).bind fun t46 => some (18,[t16.1],[],0,iW.wrap (1 + t46.1),vab,t46.2,t45.2)) else if t17.1 = 10 then ((qan.f k a1 t16.1 o0_0 t17.2).bind fun t47 => some (t47.1,t47.2.2.2.2.2.1,[],t47.2.1,t47.2.2.1,t47.2.2.2.1,t47.2.2.2.2.1,t47.2.2.2.2.2.2)) else if ((a1.getD t16.1.toNat []).length : Int) = 0 then (some (4,[t16.1],[],0,0,vab,t17.2,[])) else (qac.f ((a1.getD t16.1.toNat []).length : Int) o0_0 t17.2).bind fun t48 => (qac.f 3 o0_0 t48.2).bind fun t49 => (qac.f 2 o0_0 t49.2).bind fun t50 => (qac.f 4 o0_0 t50.2).bind fun t51 => some (20,[t16.1],[],0,iW.wrap (1 + t51.1),vab,t51.2,[t48.1,iW.wrap (1 + t49.1),iW.wrap (1 + t50.1)]) else none
def qbB.l0 : Nat -> LI -> ByteArray -> Nat -> Option (LI)
 | 0,_,_,_ => none
 | n + 1,y0,y1_0,y1_1 => if y1_1 < y1_0.size then (if y0.length + [(((Utf8.decode y1_0 y1_1).1 : Nat) : Int)].length <= 281474976710656 /\ (y0.length + [(((Utf8.decode y1_0 y1_1).1 : Nat) : Int)].length) * 4 <= 140737488355328 then qbB.l0 n (y0 ++ [(((Utf8.decode y1_0 y1_1).1 : Nat) : Int)]) y1_0 (y1_1 + (Utf8.decode y1_0 y1_1).2) else none) else some y0
def qbB.f (k : Nat) (a0 : ByteArray) : Option (LI) := (qbB.l0 k [] a0 0).bind fun t1 => some t1
def qbZ.l0 : Nat -> LI -> ByteArray -> Int -> Int -> LI -> Option (ByteArray)
 | 0,_,_,_,_,_ => none
 | n + 1,x1,x6,x11,x12,y0 => if x12 < x11 then (if 0 <= x12 /\ x12 < (x1.length : Int) then if x1.getD x12.toNat 0 < 0 then (if x6.size + (vaa #[46]).size <= 9223372036854775807 then qbZ.l0 n x1 (x6 ++ (vaa #[46])) x11 (iW.wrap (x12 + 1)) y0 else none) else if (y0.length : Int) <= x1.getD x12.toNat 0 then (if x6.size + (vaa #[46]).size <= 9223372036854775807 then qbZ.l0 n x1 (x6 ++ (vaa #[46])) x11 (iW.wrap (x12 + 1)) y0 else none) else if 0 <= x1.getD x12.toNat 0 /\ x1.getD x12.toNat 0 < (y0.length : Int) then if (x1.getD x12.toNat 0).toNat < y0.length then if x6.size + (Utf8.encode (y0.getD (x1.getD x12.toNat 0).toNat 0)).size <= 9223372036854775807 then qbZ.l0 n x1 (x6 ++ (Utf8.encode (y0.getD (x1.getD x12.toNat 0).toNat 0))) x11 (iW.wrap (x12 + 1)) y0 else none else none else none else none) else some x6
def qbZ.f (k : Nat) (a0 : ByteArray) (a1 : LI) : Option (ByteArray) := (qbB.f k a0).bind fun t1 => (qbZ.l0 k a1 vab (a1.length : Int) 0 t1).bind fun t2 => some t2
def qar.l1 : Nat -> Int -> LI -> Int -> Int -> ByteArray -> LI -> Int -> ByteArray -> (List LI) -> Int -> LI -> LI -> Int -> Int -> ByteArray -> (List LI) -> LI -> (List LN) -> LI -> Option ((List LI))
 | 0,_,_,_,_,_,_,_,_,_,_,_,_,_,_,_,_,_,_,_ => none
 | n + 1,x6,x35,x36,x37,y0,y1_0,y1_1,y2,y3,y4_0,y4_1,y4_2,y4_3,y4_4,y4_5,y5,y6,y7,y8 => if x37 < x36 then (if 0 <= x37 /\ x37 < (x35.length : Int) then if 0 <= x35.getD x37.toNat 0 /\ x35.getD x37.toNat 0 < (y3.length : Int) then if (x35.getD x37.toNat 0).toNat < y3.length then if y5.length + [y3.getD (x35.getD x37.toNat 0).toNat []].length <= 281474976710656 /\ (y5.length + [y3.getD (x35.getD x37.toNat 0).toNat []].length) * 24 <= 140737488355328 then qar.l1 n x6 x35 x36 (iW.wrap (x37 + 1)) y0 y1_0 y1_1 y2 y3 y4_0 y4_1 y4_2 y4_3 y4_4 y4_5 (y5 ++ [y3.getD (x35.getD x37.toNat 0).toNat []]) y6 y7 y8 else none else none else none else none) else some y5
def qar.l0 (k : Nat) : Nat -> Int -> ByteArray -> LI -> Int -> ByteArray -> (List LI) -> LI -> (List LN) -> Option (Int × (List LI) × (List LN))
 | 0,_,_,_,_,_,_,_,_ => none
 | n + 1,x6,y0,y1_0,y1_1,y2,y3,y4,y5 => if 0 < x6 then ((qad.f k y3 y1_0 y1_1).bind fun t3 => (qar.l1 n x6 t3.2.1 (t3.2.1.length : Int) 0 y0 y1_0 t3.2.2.2.2.2.2.1 y2 y3 t3.1 t3.2.1 t3.2.2.1 t3.2.2.2.1 t3.2.2.2.2.1 t3.2.2.2.2.2.1 [] y4 y5 t3.2.2.2.2.2.2.2).bind fun t4 => (qbe.f k t3.1 t3.2.1 t3.2.2.1 t3.2.2.2.2.2.2.2 t3.2.2.2.1 t3.2.2.2.2.1 t3.2.2.2.2.2.1 t4).bind fun t5 => if t5.1 = 0 then ((qbT.f k t5.2).bind fun t6 => if 400 < t6 then (qar.l0 k n (iW.wrap (x6 - 1)) y0 y1_0 t3.2.2.2.2.2.2.1 y2 y3 y4 y5) else (qac.f 3 y1_0 t3.2.2.2.2.2.2.1).bind fun t7 => if t7.1 = 0 then ((qaN.f k y4 (t5.2.length : Int) y1_0 t7.2).bind fun t8 => (qbZ.f k y2 t8.2).bind fun t9 => if y5.length + [(t3.1,(t3.2.1,(t3.2.2.1,(t3.2.2.2.2.2.2.2,(t3.2.2.2.1,(t3.2.2.2.2.1,t9))))))].length <= 281474976710656 /\ (y5.length + [(t3.1,(t3.2.1,(t3.2.2.1,(t3.2.2.2.2.2.2.2,(t3.2.2.2.1,(t3.2.2.2.2.1,t9))))))].length) * 112 <= 140737488355328 then if y3.length + [t5.2].length <= 281474976710656 /\ (y3.length + [t5.2].length) * 24 <= 140737488355328 then qar.l0 k n (iW.wrap (x6 - 1)) y0 y1_0 t8.1 y2 (y3 ++ [t5.2]) y4 (y5 ++ [(t3.1,(t3.2.1,(t3.2.2.1,(t3.2.2.2.2.2.2.2,(t3.2.2.2.1,(t3.2.2.2.2.1,t9))))))]) else none else none) else if y5.length + [(t3.1,(t3.2.1,(t3.2.2.1,(t3.2.2.2.2.2.2.2,(t3.2.2.2.1,(t3.2.2.2.2.1,t3.2.2.2.2.2.1))))))].length <= 281474976710656 /\ (y5.length + [(t3.1,(t3.2.1,(t3.2.2.1,(t3.2.2.2.2.2.2.2,(t3.2.2.2.1,(t3.2.2.2.2.1,t3.2.2.2.2.2.1))))))].length) * 112 <= 140737488355328 then if y3.length + [t5.2].length <= 281474976710656 /\ (y3.length + [t5.2].length) * 24 <= 140737488355328 then qar.l0 k n (iW.wrap (x6 - 1)) y0 y1_0 t7.2 y2 (y3 ++ [t5.2]) y4 (y5 ++ [(t3.1,(t3.2.1,(t3.2.2.1,(t3.2.2.2.2.2.2.2,(t3.2.2.2.1,(t3.2.2.2.2.1,t3.2.2.2.2.2.1))))))]) else none else none) else qar.l0 k n (iW.wrap (x6 - 1)) y0 y1_0 t3.2.2.2.2.2.2.1 y2 y3 y4 y5) else some (y1_1,y3,y5)
def qar.l2 : Nat -> Int -> ByteArray -> LI -> Int -> ByteArray -> (List LI) -> LI -> (List LN) -> LI -> Option (LI)
 | 0,_,_,_,_,_,_,_,_,_ => none
 | n + 1,x13,y0,y1_0,y1_1,y2,y3,y4,y5,y6 => if 0 < x13 then (if 0 < (y3.length : Int) then ((qac.f (y3.length : Int) y1_0 y1_1).bind fun t12 => (qac.f 2 y1_0 t12.2).bind fun t13 => if 0 <= t13.1 /\ t13.1 < ([iW.wrap ((y3.length : Int) - 1),t12.1].length : Int) then if t13.1.toNat < [iW.wrap ((y3.length : Int) - 1),t12.1].length then if y6.length + [[iW.wrap ((y3.length : Int) - 1),t12.1].getD t13.1.toNat 0].length <= 281474976710656 /\ (y6.length + [[iW.wrap ((y3.length : Int) - 1),t12.1].getD t13.1.toNat 0].length) * 8 <= 140737488355328 then qar.l2 n (iW.wrap (x13 - 1)) y0 y1_0 t13.2 y2 y3 y4 y5 (y6 ++ [[iW.wrap ((y3.length : Int) - 1),t12.1].getD t13.1.toNat 0]) else none else none else none) else some y6) else some y6
def qar.f (k : Nat) (a0 : LI) : Option (ByteArray × LI × (List LN) × LI) := (qcS.f a0 0).bind fun t1 => (qac.f 9 a0 t1.2.1).bind fun t2 => (qar.l0 k k (iW.wrap (1 + t2.1)) vab a0 t2.2 t1.1 [] t1.2.2 []).bind fun t10 => (qac.f 3 a0 t10.1).bind fun t11 => (qar.l2 k (iW.wrap (1 + t11.1)) vab a0 t11.2 t1.1 t10.2.1 t1.2.2 t10.2.2 []).bind fun t14 => some (t1.1,t1.2.2,t10.2.2,t14)
def qbf.l0 : Nat -> LI -> ByteArray -> Nat -> Option (LI)
 | 0,_,_,_ => none
 | n + 1,y0,y1_0,y1_1 => if y1_1 < y1_0.size then (if y0.length + [(((Utf8.decode y1_0 y1_1).1 : Nat) : Int)].length <= 281474976710656 /\ (y0.length + [(((Utf8.decode y1_0 y1_1).1 : Nat) : Int)].length) * 4 <= 140737488355328 then qbf.l0 n (y0 ++ [(((Utf8.decode y1_0 y1_1).1 : Nat) : Int)]) y1_0 (y1_1 + (Utf8.decode y1_0 y1_1).2) else none) else some y0
def qbf.f (k : Nat) (a0 : ByteArray) : Option (LI) := (qbf.l0 k [] a0 0).bind fun t1 => some t1
def qeW.f (a0 : Int) : Option (Bool) := if a0 = 46 then (some false) else if a0 = 45 then (some false) else if a0 = 40 then (some false) else if a0 = 41 then (some false) else if a0 = 65533 then (some false) else some (decide (33 <= a0))
def qaG.l0 : Nat -> LI -> Int -> Int -> Int -> Option (Unit ⊕ Int)
 | 0,_,_,_,_ => none
 | n + 1,x0,x1,x7,x8 => if x8 < x7 then (if 0 <= x8 /\ x8 < (x0.length : Int) then if x1 = x0.getD x8.toNat 0 then (some (.inr x8)) else qaG.l0 n x0 x1 x7 (iW.wrap (x8 + 1)) else none) else some (.inl ())
def qaG.f (k : Nat) (a0 : LI) (a1 : Int) : Option (Int) := (qaG.l0 k a0 a1 (a0.length : Int) 0).bind fun t1 => Sum.elim (fun t1 => some (-1)) (fun t1 => some t1) t1
def qbY.f (k : Nat) (a0 : LI) (a1 : Int) : Option (Bool) := (qaG.f k a0 a1).bind fun t1 => some (decide (0 <= t1))
def qbA.l0 (k : Nat) : Nat -> Int -> Int -> LI -> Option (Unit ⊕ Bool)
 | 0,_,_,_ => none
 | n + 1,x19,x20,y0 => if x20 < x19 then (if 0 <= x20 /\ x20 < (y0.length : Int) then if x20.toNat < y0.length then (qeW.f (y0.getD x20.toNat 0)).bind fun t2 => if t2 = true then (if 0 <= ((0 : Nat) : Int) /\ ((0 : Nat) : Int) <= x20 /\ x20 <= (y0.length : Int) then (qbY.f k ((y0.take x20.toNat).drop 0) (y0.getD x20.toNat 0)).bind fun t3 => if t3 = true then (some (.inr false)) else qbA.l0 k n x19 (iW.wrap (x20 + 1)) y0 else none) else some (.inr false) else none else none) else some (.inl ())
def qbA.f (k : Nat) (a0 : ByteArray) (a1 : Int) : Option (Bool) := (qbf.f k a0).bind fun t1 => if (t1.length : Int) = a1 then (if 3 < a1 then (some false) else (qbA.l0 k k (t1.length : Int) 0 t1).bind fun t4 => Sum.elim (fun t4 => some true) (fun t4 => some t4) t4) else some false
def qb7.l0 : Nat -> Int -> LI -> Int -> Int -> LI -> ByteArray -> (List LN) -> LI -> Option (Int ⊕ Bool)
 | 0,_,_,_,_,_,_,_,_ => none
 | n + 1,x3,x11,x12,x13,y0_0,y0_1,y0_2,y0_3 => if x13 < x12 then (if 0 <= x13 /\ x13 < (x11.length : Int) then if x11.getD x13.toNat 0 < 1 then (some (.inr false)) else if 8 < x11.getD x13.toNat 0 then (some (.inr false)) else qb7.l0 n (iW.wrap (x3 * (x11.getD x13.toNat 0))) x11 x12 (iW.wrap (x13 + 1)) y0_0 y0_1 y0_2 y0_3 else none) else some (.inl x3)
def qb7.f (k : Nat) (a0_0 : LI) (a0_1 : ByteArray) (a0_2 : List LN) (a0_3 : LI) : Option (Bool) := if 3 < (a0_0.length : Int) then (some false) else (qb7.l0 k 1 a0_0 (a0_0.length : Int) 0 a0_0 a0_1 a0_2 a0_3).bind fun t1 => Sum.elim (fun t1 => if t1 <= 8 then ((qbA.f k a0_1 (a0_0.length : Int)).bind fun t2 => some t2) else some false) (fun t1 => some t1) t1
def qen.f (a0 : Int) : Option (Int × Bool × Bool × Bool × Bool × Bool × Bool) := if a0 = 1 then (some (0,false,true,false,false,false,true)) else if a0 = 2 then (some (0,false,true,false,true,false,true)) else if a0 = 3 then (some (0,false,true,true,false,false,true)) else if a0 = 4 then (some (1,false,false,false,false,false,true)) else if a0 = 5 then (some (1,false,false,false,false,false,true)) else if a0 = 6 then (some (2,false,false,false,false,false,true)) else if a0 = 7 then (some (2,false,false,false,false,false,true)) else if a0 = 8 then (some (2,false,false,false,false,false,true)) else if a0 = 9 then (some (2,false,false,false,false,false,true)) else if a0 = 10 then (some (2,false,false,false,false,false,true)) else if a0 = 11 then (some (2,false,false,false,false,false,true)) else if a0 = 12 then (some (3,false,false,false,false,false,true)) else if a0 = 13 then (some (1,false,false,true,false,false,true)) else if a0 = 15 then (some (1,false,false,true,false,false,true)) else if a0 = 14 then (some (1,false,true,true,false,false,true)) else if a0 = 16 then (some (1,false,false,true,true,false,true)) else if a0 = 17 then (some (2,true,false,true,false,false,true)) else if a0 = 18 then (some (1,false,false,true,false,true,true)) else if a0 = 20 then (some (1,false,false,true,false,true,true)) else if a0 = 19 then (some (2,false,false,true,false,false,true)) else some (0,false,false,false,false,false,false)
def qdT.f (a0_0 : Int) (a0_1 : LI) (a0_2 : LI) (a0_3 : LI) (a0_4 : Int) (a0_5 : Int) (a0_6 : ByteArray) (a1 : Int) : Option (Bool) := (qen.f a0_0).bind fun t1 => if t1.2.2.2.2.2.2 = true then (if a1 < t1.1 then (some false) else if t1.1 < a1 then (if t1.2.1 = true then (if t1.2.2.1 = true then (if t1.2.2.2.1 = true then (if t1.2.2.2.2.1 = true then (if t1.2.2.2.2.2.1 = true then (some true) else some (decide (a0_5 = 0))) else if a0_4 = 0 then (if t1.2.2.2.2.2.1 = true then (some true) else some (decide (a0_5 = 0))) else some false) else if (a0_3.length : Int) = 0 then (if t1.2.2.2.2.1 = true then (if t1.2.2.2.2.2.1 = true then (some true) else some (decide (a0_5 = 0))) else if a0_4 = 0 then (if t1.2.2.2.2.2.1 = true then (some true) else some (decide (a0_5 = 0))) else some false) else some false) else if (a0_2.length : Int) = 0 then (if t1.2.2.2.1 = true then (if t1.2.2.2.2.1 = true then (if t1.2.2.2.2.2.1 = true then (some true) else some (decide (a0_5 = 0))) else if a0_4 = 0 then (if t1.2.2.2.2.2.1 = true then (some true) else some (decide (a0_5 = 0))) else some false) else if (a0_3.length : Int) = 0 then (if t1.2.2.2.2.1 = true then (if t1.2.2.2.2.2.1 = true then (some true) else some (decide (a0_5 = 0))) else if a0_4 = 0 then (if t1.2.2.2.2.2.1 = true then (some true) else some (decide (a0_5 = 0))) else some false) else some false) else some false) else some false) else if t1.2.2.1 = true then (if t1.2.2.2.1 = true then (if t1.2.2.2.2.1 = true then (if t1.2.2.2.2.2.1 = true then (some true) else some (decide (a0_5 = 0))) else if a0_4 = 0 then (if t1.2.2.2.2.2.1 = true then (some true) else some (decide (a0_5 = 0))) else some false) else if (a0_3.length : Int) = 0 then (if t1.2.2.2.2.1 = true then (if t1.2.2.2.2.2.1 = true then (some true) else some (decide (a0_5 = 0))) else if a0_4 = 0 then (if t1.2.2.2.2.2.1 = true then (some true) else some (decide (a0_5 = 0))) else some false) else some false) else if (a0_2.length : Int) = 0 then (if t1.2.2.2.1 = true then (if t1.2.2.2.2.1 = true then (if t1.2.2.2.2.2.1 = true then (some true) else some (decide (a0_5 = 0))) else if a0_4 = 0 then (if t1.2.2.2.2.2.1 = true then (some true) else some (decide (a0_5 = 0))) else some false) else if (a0_3.length : Int) = 0 then (if t1.2.2.2.2.1 = true then (if t1.2.2.2.2.2.1 = true then (some true) else some (decide (a0_5 = 0))) else if a0_4 = 0 then (if t1.2.2.2.2.2.1 = true then (some true) else some (decide (a0_5 = 0))) else some false) else some false) else some false) else some false
def qdA.f (k : Nat) (a0 : LI) : Option (Bool) := (qaS.f k a0).bind fun t1 => some (!t1)
def qaf.l0 (k : Nat) : Nat -> (List LI) -> Int -> Int -> Option (Unit ⊕ Int)
 | 0,_,_,_ => none
 | n + 1,x0,x7,x8 => if x8 < x7 then (if 0 <= x8 /\ x8 < (x0.length : Int) then (qdA.f k (x0.getD x8.toNat [])).bind fun t1 => if t1 = true then (some (.inr x8)) else qaf.l0 k n x0 x7 (iW.wrap (x8 + 1)) else none) else some (.inl ())
def qaf.f (k : Nat) (a0 : List LI) : Option (Int) := (qaf.l0 k k a0 (a0.length : Int) 0).bind fun t2 => Sum.elim (fun t2 => some (-1)) (fun t2 => some t2) t2
def qaC.f (k : Nat) (a0 : List LI) : Option (Bool) := (qaf.f k a0).bind fun t1 => some (decide (0 <= t1))
def qcZ.f (k : Nat) (a0_0 : Int) (a0_1 : LI) (a0_2 : LI) (a0_3 : LI) (a0_4 : Int) (a0_5 : Int) (a0_6 : ByteArray) : Option (LI × Int) := (qaS.f k a0_2).bind fun t1 => if t1 = true then (if a0_0 = 3 then (if (a0_3.length : Int) = 1 then (if (0 : Int) <= 0 /\ 0 < (a0_3.length : Int) then if a0_3.getD 0 0 < 0 then (some ([],1)) else if (a0_2.length : Int) <= a0_3.getD 0 0 then (some ([],1)) else some (a0_2,0) else none) else some ([],1)) else some (a0_2,0)) else some ([],13)
def qem.f (k : Nat) (a0_0 : Int) (a0_1 : LI) (a0_2 : LI) (a0_3 : LI) (a0_4 : Int) (a0_5 : Int) (a0_6 : ByteArray) (a1 : LI) : Option (LI × Int) := if (a0_3.length : Int) = iW.wrap (2 * (a1.length : Int)) then (if 0 <= ((0 : Nat) : Int) /\ ((0 : Nat) : Int) <= (a1.length : Int) /\ (a1.length : Int) <= (a0_3.length : Int) then if 0 <= (a1.length : Int) /\ (a1.length : Int) <= (a0_3.length : Int) /\ (a0_3.length : Int) <= (a0_3.length : Int) then if a0_0 = 15 then ((qbN.f k a1 ((a0_3.take (a1.length : Int).toNat).drop 0) ((a0_3.take a0_3.length).drop (a1.length : Int).toNat)).bind fun t1 => some ((a0_3.take a0_3.length).drop (a1.length : Int).toNat,t1)) else (qbO.f k a1 ((a0_3.take (a1.length : Int).toNat).drop 0) ((a0_3.take a0_3.length).drop (a1.length : Int).toNat)).bind fun t2 => some (t2.2,t2.1) else none else none) else some ([],1)
def qcF.f (a1 : Int) : Option (LI) := if a1 < 0 then (none) else if 0 < iW.wrap (a1 - (iW.wrap (0 - 0))) then (if ((0 : Nat) : Int) = 0 /\ 0 = 0 then if 1 <= iW.wrap (a1 - (iW.wrap (0 - 0))) /\ iW.wrap (a1 - (iW.wrap (0 - 0))) <= 281474976710656 /\ ((8 : Nat) : Int) * (iW.wrap (a1 - (iW.wrap (0 - 0)))) <= 140737488355328 then if 0 <= ((0 : Nat) : Int) /\ ((0 : Nat) : Int) <= 0 /\ 0 <= ((vac (iW.wrap (a1 - (iW.wrap (0 - 0)))).toNat (0 : Int)).length : Int) then some ((vac (iW.wrap (a1 - (iW.wrap (0 - 0)))).toNat (0 : Int)).take 0) else none else none else none) else some []
def qam.l0 : Nat -> (List LI) -> Int -> (List LI) -> Int -> Int -> Option (Int)
 | 0,_,_,_,_,_ => none
 | n + 1,x0,x3,x9,x10,x11 => if x11 < x10 then (if 0 <= x11 /\ x11 < (x9.length : Int) then if iW.wrap (x3 + ((x9.getD x11.toNat []).length : Int)) < 0 then (none) else qam.l0 n x0 (iW.wrap (x3 + ((x9.getD x11.toNat []).length : Int))) x9 x10 (iW.wrap (x11 + 1)) else none) else some x3
def qam.l1 : Nat -> (List LI) -> Int -> Int -> LI -> Option (LI)
 | 0,_,_,_,_ => none
 | n + 1,x25,x26,x27,y0 => if x27 < x26 then (if 0 <= x27 /\ x27 < (x25.length : Int) then if y0.length + (x25.getD x27.toNat []).length <= 281474976710656 /\ (y0.length + (x25.getD x27.toNat []).length) * 8 <= 140737488355328 then qam.l1 n x25 x26 (iW.wrap (x27 + 1)) (y0 ++ (x25.getD x27.toNat [])) else none else none) else some y0
def qam.f (k : Nat) (a0 : List LI) : Option (LI) := (qam.l0 k a0 0 a0 (a0.length : Int) 0).bind fun t1 => (qcF.f t1).bind fun t2 => (qam.l1 k a0 (a0.length : Int) 0 t2).bind fun t3 => some t3
def qe4.f (k : Nat) (a0 : LI) (a1 : LI) (a2 : Int) : Option (Int × LI) := if a2 < 0 then (some (1,[])) else if (a0.length : Int) <= a2 then (some (1,[])) else if (a1.length : Int) <= a2 then (some (1,[])) else (qaS.f k a0).bind fun t1 => if t1 = true then ((qaS.f k a1).bind fun t2 => if t2 = true then (if 0 <= ((0 : Nat) : Int) /\ ((0 : Nat) : Int) <= a2 /\ a2 <= (a0.length : Int) then if 0 <= ((0 : Nat) : Int) /\ ((0 : Nat) : Int) <= a2 /\ a2 <= (a1.length : Int) then (qdF.f k ((a0.take a2.toNat).drop 0) ((a1.take a2.toNat).drop 0)).bind fun t3 => if t3 = true then (if 0 <= iW.wrap ((a0.length : Int) - 1) /\ iW.wrap ((a0.length : Int) - 1) < (a0.length : Int) then if 0 <= a2 /\ a2 < (a1.length : Int) then if a0.getD (iW.wrap ((a0.length : Int) - 1)).toNat 0 = a1.getD a2.toNat 0 then (if 0 <= ((0 : Nat) : Int) /\ ((0 : Nat) : Int) <= iW.wrap ((a0.length : Int) - 1) /\ iW.wrap ((a0.length : Int) - 1) <= (a0.length : Int) then if 0 <= iW.wrap (a2 + 1) /\ iW.wrap (a2 + 1) <= (a1.length : Int) /\ (a1.length : Int) <= (a1.length : Int) then (qam.f k [(a0.take (iW.wrap ((a0.length : Int) - 1)).toNat).drop 0,(a1.take a1.length).drop (iW.wrap (a2 + 1)).toNat]).bind fun t4 => (qaS.f k t4).bind fun t5 => if t5 = true then (some (0,t4)) else some (13,[]) else none else none) else some (13,[]) else none else none) else some (13,[]) else none else none) else some (13,[])) else some (13,[])
def qdJ.f (a0 : Int) : Option (Bool) := if 1 <= a0 then (some (decide (a0 <= 4))) else some false
def qbU.l0 : Nat -> LI -> LI -> Int -> Int -> LI -> Option (LI)
 | 0,_,_,_,_,_ => none
 | n + 1,x1,x14,x15,x16,y0 => if x16 < x15 then (if 0 <= x16 /\ x16 < (x14.length : Int) then if 0 < (x1.length : Int) then (if (0 : Int) <= 0 /\ 0 < (x1.length : Int) then if x1.getD 0 0 = x16 then (if (0 : Int) <= 1 /\ 1 <= (x1.length : Int) /\ (x1.length : Int) <= (x1.length : Int) then qbU.l0 n ((x1.take x1.length).drop 1) x14 x15 (iW.wrap (x16 + 1)) y0 else none) else if y0.length + [x14.getD x16.toNat 0].length <= 281474976710656 /\ (y0.length + [x14.getD x16.toNat 0].length) * 8 <= 140737488355328 then qbU.l0 n x1 x14 x15 (iW.wrap (x16 + 1)) (y0 ++ [x14.getD x16.toNat 0]) else none else none) else if y0.length + [x14.getD x16.toNat 0].length <= 281474976710656 /\ (y0.length + [x14.getD x16.toNat 0].length) * 8 <= 140737488355328 then qbU.l0 n x1 x14 x15 (iW.wrap (x16 + 1)) (y0 ++ [x14.getD x16.toNat 0]) else none else none) else some y0
def qbU.f (k : Nat) (a0 : LI) (a1 : LI) : Option (Int × LI) := (qa3.f k a1 (a0.length : Int)).bind fun t1 => if t1 = true then ((qbU.l0 k a1 a0 (a0.length : Int) 0 []).bind fun t2 => some (0,t2)) else some (1,[])
def qd5.f (k : Nat) (a0_0 : Int) (a0_1 : LI) (a0_2 : LI) (a0_3 : LI) (a0_4 : Int) (a0_5 : Int) (a0_6 : ByteArray) (a1 : LI) : Option (Int × LI) := (qdJ.f a0_5).bind fun t1 => if t1 = true then ((qbU.f k a1 a0_3).bind fun t2 => if t2.1 = 0 then ((qaS.f k t2.2).bind fun t3 => if t3 = true then (some (t2.1,t2.2)) else some (13,t2.2)) else some (t2.1,t2.2)) else some (1,[])
def qc1.f (a0 : Int) : Option (Bool) := if 1 <= a0 then (some (decide (a0 <= 32))) else some false
def qee.f (a0 : Int) (a1 : Int) (a2 : Int) : Option (Bool) := (qdJ.f a0).bind fun t1 => if t1 = true then ((qc1.f a1).bind fun t2 => if t2 = true then ((qc1.f a2).bind fun t3 => some t3) else some false) else some false
def qed.f (a0 : Int) (a1 : Int) (a2 : Int) : Option (Int) := if a0 < 0 then (some 0) else if a1 < 1 then (some 0) else if a2 < 1 then (some 0) else if a0 < a1 then (some 0) else if a2 ≠ 0 then some (iW.wrap ((iW.wrap ((iW.wrap (a0 - a1)).tdiv a2)) + 1)) else none
def qeD.f (a0_0 : Int) (a0_1 : LI) (a0_2 : LI) (a0_3 : LI) (a0_4 : Int) (a0_5 : Int) (a0_6 : ByteArray) (a1 : LI) : Option (Int × LI) := if (a0_3.length : Int) = 3 then (if (0 : Int) <= 1 /\ 1 < (a0_3.length : Int) then if (0 : Int) <= 2 /\ 2 < (a0_3.length : Int) then (qee.f a0_5 (a0_3.getD 1 0) (a0_3.getD 2 0)).bind fun t1 => if t1 = true then (if (0 : Int) <= 0 /\ 0 < (a0_3.length : Int) then if a0_3.getD 0 0 < 0 then (some (1,[])) else if (a1.length : Int) <= a0_3.getD 0 0 then (some (1,[])) else (qbE.f a1).bind fun t2 => if 0 <= a0_3.getD 0 0 /\ a0_3.getD 0 0 < (a1.length : Int) then (qed.f (a1.getD (a0_3.getD 0 0).toNat 0) (a0_3.getD 1 0) (a0_3.getD 2 0)).bind fun t3 => if 0 <= a0_3.getD 0 0 /\ a0_3.getD 0 0 < (t2.length : Int) then if (a0_3.getD 0 0).toNat < t2.length then some (0,t2.set (a0_3.getD 0 0).toNat t3) else none else none else none else none) else some (1,[]) else none else none) else some (1,[])
def qdz.f (k : Nat) (a0 : LI) (o0 : List LI) : Option (Bool) := if (0 : Int) <= 0 /\ 0 < (o0.length : Int) then (qdF.f k a0 (o0.getD 0 [])).bind fun t1 => some (!t1) else none
def qae.l0 (k : Nat) : Nat -> (List LI) -> Int -> Int -> (List LI) -> Option (Unit ⊕ Int)
 | 0,_,_,_,_ => none
 | n + 1,x0,x7,x8,y0 => if x8 < x7 then (if 0 <= x8 /\ x8 < (x0.length : Int) then (qdz.f k (x0.getD x8.toNat []) y0).bind fun t1 => if t1 = true then (some (.inr x8)) else qae.l0 k n x0 x7 (iW.wrap (x8 + 1)) y0 else none) else some (.inl ())
def qae.f (k : Nat) (a0 : List LI) (o0 : List LI) : Option (Int) := (qae.l0 k k a0 (a0.length : Int) 0 o0).bind fun t2 => Sum.elim (fun t2 => some (-1)) (fun t2 => some t2) t2
def qaO.f (k : Nat) (a0 : List LI) (o0 : List LI) : Option (Bool) := (qae.f k a0 o0).bind fun t1 => some (decide (0 <= t1))
def qdU.f (k : Nat) (a0 : List LI) : Option (LI × Int) := (qaO.f k a0 a0).bind fun t1 => if t1 = true then (some ([],13)) else if (0 : Int) <= 0 /\ 0 < (a0.length : Int) then some (a0.getD 0 [],0) else none
def qaX.f (k : Nat) (a0_0 : Int) (a0_1 : LI) (a0_2 : LI) (a0_3 : LI) (a0_4 : Int) (a0_5 : Int) (a0_6 : ByteArray) (a1 : List LI) : Option (LI × Int) := if a0_0 = 1 then ((qcZ.f k a0_0 a0_1 a0_2 a0_3 a0_4 a0_5 a0_6).bind fun t1 => some (t1.1,t1.2)) else if a0_0 = 2 then ((qcZ.f k a0_0 a0_1 a0_2 a0_3 a0_4 a0_5 a0_6).bind fun t2 => some (t2.1,t2.2)) else if a0_0 = 3 then ((qcZ.f k a0_0 a0_1 a0_2 a0_3 a0_4 a0_5 a0_6).bind fun t3 => some (t3.1,t3.2)) else if a0_0 = 13 then (if (0 : Int) <= 0 /\ 0 < (a1.length : Int) then (qbM.f k (a1.getD 0 []) a0_3).bind fun t4 => some (t4.2,t4.1) else none) else if a0_0 = 14 then (if (0 : Int) <= 0 /\ 0 < (a1.length : Int) then (qb8.f k (a1.getD 0 []) a0_2 a0_3).bind fun t5 => some (a0_2,t5) else none) else if a0_0 = 15 then (if (0 : Int) <= 0 /\ 0 < (a1.length : Int) then (qem.f k a0_0 a0_1 a0_2 a0_3 a0_4 a0_5 a0_6 (a1.getD 0 [])).bind fun t6 => some (t6.1,t6.2) else none) else if a0_0 = 16 then (if (0 : Int) <= 0 /\ 0 < (a1.length : Int) then (qem.f k a0_0 a0_1 a0_2 a0_3 a0_4 a0_5 a0_6 (a1.getD 0 [])).bind fun t7 => some (t7.1,t7.2) else none) else if a0_0 = 17 then (if (a0_3.length : Int) = 1 then (if (0 : Int) <= 0 /\ 0 < (a0_3.length : Int) then (qaU.f k (a0_3.getD 0 0) a1).bind fun t8 => some (t8.2,t8.1) else none) else some ([],1)) else if a0_0 = 19 then (if (a0_3.length : Int) = 1 then (if (0 : Int) <= 0 /\ 0 < (a1.length : Int) then if (0 : Int) <= 1 /\ 1 < (a1.length : Int) then if (0 : Int) <= 0 /\ 0 < (a0_3.length : Int) then (qe4.f k (a1.getD 0 []) (a1.getD 1 []) (a0_3.getD 0 0)).bind fun t9 => some (t9.2,t9.1) else none else none else none) else some ([],1)) else if a0_0 = 18 then (if (0 : Int) <= 0 /\ 0 < (a1.length : Int) then (qd5.f k a0_0 a0_1 a0_2 a0_3 a0_4 a0_5 a0_6 (a1.getD 0 [])).bind fun t10 => some (t10.2,t10.1) else none) else if a0_0 = 20 then (if (0 : Int) <= 0 /\ 0 < (a1.length : Int) then (qeD.f a0_0 a0_1 a0_2 a0_3 a0_4 a0_5 a0_6 (a1.getD 0 [])).bind fun t11 => some (t11.2,t11.1) else none) else (qdU.f k a1).bind fun t12 => some (t12.1,t12.2)
def qdV.f (k : Nat) (a0_0 : Int) (a0_1 : LI) (a0_2 : LI) (a0_3 : LI) (a0_4 : Int) (a0_5 : Int) (a0_6 : ByteArray) (a1 : List LI) : Option (Int × LI) := (qdT.f a0_0 a0_1 a0_2 a0_3 a0_4 a0_5 a0_6 (a1.length : Int)).bind fun t1 => if t1 = true then ((qaC.f k a1).bind fun t2 => if t2 = true then (some (13,[])) else (qaX.f k a0_0 a0_1 a0_2 a0_3 a0_4 a0_5 a0_6 a1).bind fun t3 => if t3.2 = 0 then ((qbE.f t3.1).bind fun t4 => some (0,t4)) else some (t3.2,[])) else some (1,[])
def qel.f (k : Nat) (a0 : ByteArray) (a1 : Int) : Option (Int) := (qbf.f k a0).bind fun t1 => (qaG.f k t1 a1).bind fun t2 => some t2
def qbD.l0 (k : Nat) : Nat -> ByteArray -> Int -> Int -> Int -> LI -> LI -> Option (LI ⊕ (Bool × Int))
 | 0,_,_,_,_,_,_ => none
 | n + 1,x0,x2,x20,x21,y0,y1 => if x21 < x20 then (if 0 <= x21 /\ x21 < (y1.length : Int) then if x21.toNat < y1.length then (qel.f k x0 (y1.getD x21.toNat 0)).bind fun t2 => if y1.getD x21.toNat 0 = 32 then (qbD.l0 k n x0 x2 x20 (iW.wrap (x21 + 1)) y0 y1) else if y1.getD x21.toNat 0 = 46 then (if y0.length + ([-1] : LI).length <= 281474976710656 /\ (y0.length + ([-1] : LI).length) * 8 <= 140737488355328 then qbD.l0 k n x0 x2 x20 (iW.wrap (x21 + 1)) (y0 ++ ([-1] : LI)) y1 else none) else if t2 < 0 then (some (.inr (false,14))) else (qb9.f k y0 t2).bind fun t3 => if t3 = true then (some (.inr (false,14))) else if y0.length + [t2].length <= 281474976710656 /\ (y0.length + [t2].length) * 8 <= 140737488355328 then qbD.l0 k n x0 x2 x20 (iW.wrap (x21 + 1)) (y0 ++ [t2]) y1 else none else none else none) else some (.inl y0)
def qbD.f (k : Nat) (a0 : ByteArray) (a1 : ByteArray) (a2 : Int) : Option (Bool × Int × LI) := (qbf.f k a1).bind fun t1 => if 16 < (t1.length : Int) then (some (false,14,[])) else (qbD.l0 k k a0 a2 (t1.length : Int) 0 [] t1).bind fun t4 => Sum.elim (fun t4 => if (t4.length : Int) = 0 then (some (false,0,[])) else if (t4.length : Int) = a2 then (some (true,0,t4)) else some (false,14,[])) (fun t4 => some (t4.1,t4.2,[])) t4
def qbW.l0 : Nat -> (List LI) -> LI -> Int -> Int -> LI -> ByteArray -> (List LN) -> LI -> Int -> LI -> LI -> LI -> Int -> Int -> ByteArray -> (List LI) -> Option ((List LI) ⊕ Int)
 | 0,_,_,_,_,_,_,_,_,_,_,_,_,_,_,_,_ => none
 | n + 1,x2,x14,x15,x16,y0_0,y0_1,y0_2,y0_3,y1_0,y1_1,y1_2,y1_3,y1_4,y1_5,y1_6,y2 => if x16 < x15 then (if 0 <= x16 /\ x16 < (x14.length : Int) then if x14.getD x16.toNat 0 < 0 then (some (.inr 23)) else if (x2.length : Int) <= x14.getD x16.toNat 0 then (some (.inr 23)) else if 0 <= x14.getD x16.toNat 0 /\ x14.getD x16.toNat 0 < (x2.length : Int) then if y2.length + [x2.getD (x14.getD x16.toNat 0).toNat []].length <= 281474976710656 /\ (y2.length + [x2.getD (x14.getD x16.toNat 0).toNat []].length) * 24 <= 140737488355328 then qbW.l0 n x2 x14 x15 (iW.wrap (x16 + 1)) y0_0 y0_1 y0_2 y0_3 y1_0 y1_1 y1_2 y1_3 y1_4 y1_5 y1_6 (y2 ++ [x2.getD (x14.getD x16.toNat 0).toNat []]) else none else none else none) else some (.inl y2)
def qbW.f (k : Nat) (a0_0 : LI) (a0_1 : ByteArray) (a0_2 : List LN) (a0_3 : LI) (a1_0 : Int) (a1_1 : LI) (a1_2 : LI) (a1_3 : LI) (a1_4 : Int) (a1_5 : Int) (a1_6 : ByteArray) (a2 : List LI) : Option (Int × LI) := (qbW.l0 k a2 a1_1 (a1_1.length : Int) 0 a0_0 a0_1 a0_2 a0_3 a1_0 a1_1 a1_2 a1_3 a1_4 a1_5 a1_6 []).bind fun t1 => Sum.elim (fun t1 => (qdV.f k a1_0 a1_1 a1_2 a1_3 a1_4 a1_5 a1_6 t1).bind fun t2 => if t2.1 = 0 then ((qbD.f k a0_1 a1_6 (t2.2.length : Int)).bind fun t3 => some (t3.2.1,t2.2)) else some (t2.1,[])) (fun t1 => some (t1,[])) t1
def qcT.f (a0 : Int) (o1 : List LI) : Option (Bool) := if a0 < 0 then (some true) else some (decide ((o1.length : Int) <= a0))
def qai.l0 : Nat -> LI -> Int -> Int -> (List LI) -> Option (Unit ⊕ Int)
 | 0,_,_,_,_ => none
 | n + 1,x0,x7,x8,y1 => if x8 < x7 then (if 0 <= x8 /\ x8 < (x0.length : Int) then (qcT.f (x0.getD x8.toNat 0) y1).bind fun t1 => if t1 = true then (some (.inr x8)) else qai.l0 n x0 x7 (iW.wrap (x8 + 1)) y1 else none) else some (.inl ())
def qai.f (k : Nat) (a0 : LI) (o1 : List LI) : Option (Int) := (qai.l0 k a0 (a0.length : Int) 0 o1).bind fun t2 => Sum.elim (fun t2 => some (-1)) (fun t2 => some t2) t2
def qaF.f (k : Nat) (a0 : LI) (o1 : List LI) : Option (Bool) := (qai.f k a0 o1).bind fun t1 => some (decide (0 <= t1))
def qbh.l0 (k : Nat) : Nat -> (List LN) -> Int -> Int -> LI -> ByteArray -> (List LN) -> LI -> (List LI) -> Option ((List LI) ⊕ Int)
 | 0,_,_,_,_,_,_,_,_ => none
 | n + 1,x25,x26,x27,y0_0,y0_1,y0_2,y0_3,y2 => if x27 < x26 then (if 0 <= x27 /\ x27 < (x25.length : Int) then (qbW.f k y0_0 y0_1 y0_2 y0_3 (x25.getD x27.toNat ln0).1 (x25.getD x27.toNat ln0).2.1 (x25.getD x27.toNat ln0).2.2.1 (x25.getD x27.toNat ln0).2.2.2.1 (x25.getD x27.toNat ln0).2.2.2.2.1 (x25.getD x27.toNat ln0).2.2.2.2.2.1 (x25.getD x27.toNat ln0).2.2.2.2.2.2 y2).bind fun t2 => if t2.1 = 0 then (if y2.length + [t2.2].length <= 281474976710656 /\ (y2.length + [t2.2].length) * 24 <= 140737488355328 then qbh.l0 k n x25 x26 (iW.wrap (x27 + 1)) y0_0 y0_1 y0_2 y0_3 (y2 ++ [t2.2]) else none) else some (.inr t2.1) else none) else some (.inl y2)
def qbh.f (k : Nat) (a0_0 : LI) (a0_1 : ByteArray) (a0_2 : List LN) (a0_3 : LI) : Option (Int × (List LI)) := (qb7.f k a0_0 a0_1 a0_2 a0_3).bind fun t1 => if t1 = true then (if 48 < (a0_2.length : Int) then (some (3,[])) else if 48 < (a0_3.length : Int) then (some (3,[])) else (qbh.l0 k k a0_2 (a0_2.length : Int) 0 a0_0 a0_1 a0_2 a0_3 []).bind fun t3 => Sum.elim (fun t3 => (qaF.f k a0_3 t3).bind fun t4 => if t4 = true then (some (23,[])) else some (0,t3)) (fun t3 => some (t3,[])) t3) else some (15,[])
def qdW.f (k : Nat) (a0_0 : LI) (a0_1 : ByteArray) (a0_2 : List LN) (a0_3 : LI) : Option (Int) := (qbh.f k a0_0 a0_1 a0_2 a0_3).bind fun t1 => some t1.1
def qcd.l0 : Nat -> Int -> Int -> Int -> LI -> Option (Unit ⊕ Int)
 | 0,_,_,_,_ => none
 | n + 1,x1,x9,x10,y0 => if x10 < x9 then (if 0 <= x10 /\ x10 < (y0.length : Int) then if x10.toNat < y0.length then if y0.getD x10.toNat 0 = x1 then (some (.inr x10)) else qcd.l0 n x1 x9 (iW.wrap (x10 + 1)) y0 else none else none) else some (.inl ())
def qcd.f (k : Nat) (a0 : ByteArray) (a1 : Int) : Option (Int) := (qbB.f k a0).bind fun t1 => (qcd.l0 k a1 (t1.length : Int) 0 t1).bind fun t2 => Sum.elim (fun t2 => some (-1)) (fun t2 => some t2) t2
def qbV.l0 (k : Nat) : Nat -> ByteArray -> Int -> Int -> LI -> Option (Unit ⊕ Bool)
 | 0,_,_,_,_ => none
 | n + 1,x0,x23,x24,y0 => if x24 < x23 then (if 0 <= x24 /\ x24 < (y0.length : Int) then if x24.toNat < y0.length then if y0.getD x24.toNat 0 < 33 then (some (.inr false)) else if y0.getD x24.toNat 0 = 65533 then (some (.inr false)) else if y0.getD x24.toNat 0 = 46 then (some (.inr false)) else if y0.getD x24.toNat 0 = 45 then (some (.inr false)) else if y0.getD x24.toNat 0 = 40 then (some (.inr false)) else if y0.getD x24.toNat 0 = 41 then (some (.inr false)) else (qcd.f k x0 (y0.getD x24.toNat 0)).bind fun t2 => if t2 = x24 then (qbV.l0 k n x0 x23 (iW.wrap (x24 + 1)) y0) else some (.inr false) else none else none) else some (.inl ())
def qbV.f (k : Nat) (a0 : ByteArray) (a1 : Int) : Option (Bool) := (qbB.f k a0).bind fun t1 => if a1 < 0 then (some false) else if 3 < a1 then (some false) else if (t1.length : Int) = a1 then ((qbV.l0 k k a0 (t1.length : Int) 0 t1).bind fun t3 => Sum.elim (fun t3 => some true) (fun t3 => some t3) t3) else some false
def qb5.l0 : Nat -> Int -> Int -> Int -> LI -> ByteArray -> (List LN) -> LI -> Option (Int ⊕ Bool)
 | 0,_,_,_,_,_,_,_ => none
 | n + 1,x3,x7,x8,y0_0,y0_1,y0_2,y0_3 => if x8 < x7 then (if 0 <= x8 /\ x8 < (y0_0.length : Int) then if y0_0.getD x8.toNat 0 < 1 then (some (.inr false)) else if 8 < y0_0.getD x8.toNat 0 then (some (.inr false)) else if 3 <= x8 then (some (.inr false)) else qb5.l0 n (iW.wrap (x3 * (y0_0.getD x8.toNat 0))) x7 (iW.wrap (x8 + 1)) y0_0 y0_1 y0_2 y0_3 else none) else some (.inl x3)
def qb5.f (k : Nat) (a0_0 : LI) (a0_1 : ByteArray) (a0_2 : List LN) (a0_3 : LI) : Option (Bool) := (qb5.l0 k 1 (a0_0.length : Int) 0 a0_0 a0_1 a0_2 a0_3).bind fun t1 => Sum.elim (fun t1 => if t1 <= 8 then ((qbV.f k a0_1 (a0_0.length : Int)).bind fun t2 => some t2) else some false) (fun t1 => some t1) t1
def qa4.l1 : Nat -> ByteArray -> Int -> Int -> Int -> Int -> Int -> Int -> LI -> LI -> Option (Unit ⊕ (Bool × Int))
 | 0,_,_,_,_,_,_,_,_,_ => none
 | n + 1,x0,x2,x13,x21,x22,x36,x37,y0,y1 => if x37 < x36 then (if 0 <= x37 /\ x37 < (y0.length : Int) then if x37.toNat < y0.length then if y0.getD x37.toNat 0 = x13 then (some (.inr (false,14))) else qa4.l1 n x0 x2 x13 x21 x22 x36 (iW.wrap (x37 + 1)) y0 y1 else none else none) else some (.inl ())
def qa4.l0 (k : Nat) : Nat -> ByteArray -> Int -> Int -> Int -> LI -> LI -> Option (LI ⊕ (Bool × Int))
 | 0,_,_,_,_,_,_ => none
 | n + 1,x0,x2,x21,x22,y0,y1 => if x22 < x21 then (if 0 <= x22 /\ x22 < (y1.length : Int) then if x22.toNat < y1.length then if y1.getD x22.toNat 0 = 32 then (qa4.l0 k n x0 x2 x21 (iW.wrap (x22 + 1)) y0 y1) else if y1.getD x22.toNat 0 = 46 then (if y0.length + ([-1] : LI).length <= 281474976710656 /\ (y0.length + ([-1] : LI).length) * 8 <= 140737488355328 then qa4.l0 k n x0 x2 x21 (iW.wrap (x22 + 1)) (y0 ++ ([-1] : LI)) y1 else none) else (qcd.f k x0 (y1.getD x22.toNat 0)).bind fun t2 => if t2 < 0 then (some (.inr (false,14))) else (qa4.l1 n x0 x2 t2 x21 x22 (y0.length : Int) 0 y0 y1).bind fun t3 => Sum.elim (fun t3 => if y0.length + [t2].length <= 281474976710656 /\ (y0.length + [t2].length) * 8 <= 140737488355328 then qa4.l0 k n x0 x2 x21 (iW.wrap (x22 + 1)) (y0 ++ [t2]) y1 else none) (fun t3 => some (.inr (t3.1,t3.2))) t3 else none else none) else some (.inl y0)
def qa4.f (k : Nat) (a0 : ByteArray) (a1 : ByteArray) (a2 : Int) : Option (Bool × Int × LI) := (qbB.f k a1).bind fun t1 => if 16 < (t1.length : Int) then (some (false,14,[])) else (qa4.l0 k k a0 a2 (t1.length : Int) 0 [] t1).bind fun t4 => Sum.elim (fun t4 => if (t4.length : Int) = 0 then (some (false,0,[])) else if (t4.length : Int) = a2 then (some (true,0,t4)) else some (false,14,[])) (fun t4 => some (t4.1,t4.2,[])) t4
def qaq.l1 : Nat -> Int -> (List LN) -> Int -> Int -> LI -> Int -> Int -> LI -> ByteArray -> (List LN) -> LI -> (List LI) -> Int -> LI -> LI -> LI -> Int -> Int -> ByteArray -> (List LI) -> Option ((List LI) ⊕ Int)
 | 0,_,_,_,_,_,_,_,_,_,_,_,_,_,_,_,_,_,_,_,_ => none
 | n + 1,x5,x31,x32,x33,x39,x40,x41,y0_0,y0_1,y0_2,y0_3,y1,y2_0,y2_1,y2_2,y2_3,y2_4,y2_5,y2_6,y3 => if x41 < x40 then (if 0 <= x41 /\ x41 < (x39.length : Int) then if x39.getD x41.toNat 0 < 0 then (some (.inr 23)) else if x5 <= x39.getD x41.toNat 0 then (some (.inr 23)) else if 0 <= x39.getD x41.toNat 0 /\ x39.getD x41.toNat 0 < (y1.length : Int) then if (x39.getD x41.toNat 0).toNat < y1.length then if y3.length + [y1.getD (x39.getD x41.toNat 0).toNat []].length <= 281474976710656 /\ (y3.length + [y1.getD (x39.getD x41.toNat 0).toNat []].length) * 24 <= 140737488355328 then qaq.l1 n x5 x31 x32 x33 x39 x40 (iW.wrap (x41 + 1)) y0_0 y0_1 y0_2 y0_3 y1 y2_0 y2_1 y2_2 y2_3 y2_4 y2_5 y2_6 (y3 ++ [y1.getD (x39.getD x41.toNat 0).toNat []]) else none else none else none else none) else some (.inl y3)
def qaq.l0 (k : Nat) : Nat -> (List LN) -> Int -> Int -> LI -> ByteArray -> (List LN) -> LI -> (List LI) -> Option ((List LI) ⊕ Int)
 | 0,_,_,_,_,_,_,_,_ => none
 | n + 1,x31,x32,x33,y0_0,y0_1,y0_2,y0_3,y1 => if x33 < x32 then (if 0 <= x33 /\ x33 < (x31.length : Int) then (qaq.l1 n x33 x31 x32 x33 (x31.getD x33.toNat ln0).2.1 ((x31.getD x33.toNat ln0).2.1.length : Int) 0 y0_0 y0_1 y0_2 y0_3 y1 (x31.getD x33.toNat ln0).1 (x31.getD x33.toNat ln0).2.1 (x31.getD x33.toNat ln0).2.2.1 (x31.getD x33.toNat ln0).2.2.2.1 (x31.getD x33.toNat ln0).2.2.2.2.1 (x31.getD x33.toNat ln0).2.2.2.2.2.1 (x31.getD x33.toNat ln0).2.2.2.2.2.2 []).bind fun t2 => Sum.elim (fun t2 => (qbe.f k (x31.getD x33.toNat ln0).1 (x31.getD x33.toNat ln0).2.1 (x31.getD x33.toNat ln0).2.2.1 (x31.getD x33.toNat ln0).2.2.2.1 (x31.getD x33.toNat ln0).2.2.2.2.1 (x31.getD x33.toNat ln0).2.2.2.2.2.1 (x31.getD x33.toNat ln0).2.2.2.2.2.2 t2).bind fun t3 => if t3.1 = 0 then ((qa4.f k y0_1 (x31.getD x33.toNat ln0).2.2.2.2.2.2 (t3.2.length : Int)).bind fun t4 => if t4.2.1 = 0 then (if y1.length + [t3.2].length <= 281474976710656 /\ (y1.length + [t3.2].length) * 24 <= 140737488355328 then qaq.l0 k n x31 x32 (iW.wrap (x33 + 1)) y0_0 y0_1 y0_2 y0_3 (y1 ++ [t3.2]) else none) else some (.inr t4.2.1)) else some (.inr t3.1)) (fun t2 => some (.inr t2)) t2 else none) else some (.inl y1)
def qaq.l2 : Nat -> LI -> Int -> Int -> LI -> ByteArray -> (List LN) -> LI -> (List LI) -> Option (Unit ⊕ Int)
 | 0,_,_,_,_,_,_,_,_ => none
 | n + 1,x89,x90,x91,y0_0,y0_1,y0_2,y0_3,y1 => if x91 < x90 then (if 0 <= x91 /\ x91 < (x89.length : Int) then if x89.getD x91.toNat 0 < 0 then (some (.inr 23)) else if (y0_2.length : Int) <= x89.getD x91.toNat 0 then (some (.inr 23)) else qaq.l2 n x89 x90 (iW.wrap (x91 + 1)) y0_0 y0_1 y0_2 y0_3 y1 else none) else some (.inl ())
def qaq.f (k : Nat) (a0_0 : LI) (a0_1 : ByteArray) (a0_2 : List LN) (a0_3 : LI) : Option (Int × (List LI)) := (qb5.f k a0_0 a0_1 a0_2 a0_3).bind fun t1 => if t1 = true then (if 48 < (a0_2.length : Int) then (some (3,[])) else if 48 < (a0_3.length : Int) then (some (3,[])) else (qaq.l0 k k a0_2 (a0_2.length : Int) 0 a0_0 a0_1 a0_2 a0_3 []).bind fun t5 => Sum.elim (fun t5 => (qaq.l2 k a0_3 (a0_3.length : Int) 0 a0_0 a0_1 a0_2 a0_3 t5).bind fun t6 => Sum.elim (fun t6 => some (0,t5)) (fun t6 => some (t6,[])) t6) (fun t5 => some (t5,[])) t5) else some (15,[])
def qdP.f (k : Nat) (a0_0 : Int) (a0_1 : LI) (a0_2 : LI) (a0_3 : LI) (a0_4 : Int) (a0_5 : Int) (a0_6 : ByteArray) (a1_0 : Int) (a1_1 : LI) (a1_2 : LI) (a1_3 : LI) (a1_4 : Int) (a1_5 : Int) (a1_6 : ByteArray) : Option (Bool) := if a0_0 = a1_0 then ((qbq.f k a0_1 a1_1).bind fun t1 => if t1 = true then ((qbq.f k a0_2 a1_2).bind fun t2 => if t2 = true then ((qbq.f k a0_3 a1_3).bind fun t3 => if t3 = true then (if a0_4 = a1_4 then (if a0_5 = a1_5 then (some (a0_6.toList == a1_6.toList)) else some false) else some false) else some false) else some false) else some false) else some false
def qb6.l0 (k : Nat) : Nat -> Int -> Int -> LI -> ByteArray -> (List LN) -> LI -> LI -> ByteArray -> (List LN) -> LI -> Option (Unit ⊕ Bool)
 | 0,_,_,_,_,_,_,_,_,_,_ => none
 | n + 1,x38,x39,y0_0,y0_1,y0_2,y0_3,y1_0,y1_1,y1_2,y1_3 => if x39 < x38 then (if 0 <= x39 /\ x39 < (y0_2.length : Int) then if 0 <= x39 /\ x39 < (y1_2.length : Int) then (qdP.f k (y0_2.getD x39.toNat ln0).1 (y0_2.getD x39.toNat ln0).2.1 (y0_2.getD x39.toNat ln0).2.2.1 (y0_2.getD x39.toNat ln0).2.2.2.1 (y0_2.getD x39.toNat ln0).2.2.2.2.1 (y0_2.getD x39.toNat ln0).2.2.2.2.2.1 (y0_2.getD x39.toNat ln0).2.2.2.2.2.2 (y1_2.getD x39.toNat ln0).1 (y1_2.getD x39.toNat ln0).2.1 (y1_2.getD x39.toNat ln0).2.2.1 (y1_2.getD x39.toNat ln0).2.2.2.1 (y1_2.getD x39.toNat ln0).2.2.2.2.1 (y1_2.getD x39.toNat ln0).2.2.2.2.2.1 (y1_2.getD x39.toNat ln0).2.2.2.2.2.2).bind fun t3 => if t3 = true then (qb6.l0 k n x38 (iW.wrap (x39 + 1)) y0_0 y0_1 y0_2 y0_3 y1_0 y1_1 y1_2 y1_3) else some (.inr false) else none else none) else some (.inl ())
def qb6.f (k : Nat) (a0_0 : LI) (a0_1 : ByteArray) (a0_2 : List LN) (a0_3 : LI) (a1_0 : LI) (a1_1 : ByteArray) (a1_2 : List LN) (a1_3 : LI) : Option (Bool) := (qbq.f k a0_0 a1_0).bind fun t1 => if t1 = true then (if (a0_1.toList == a1_1.toList) = true then (if (a0_2.length : Int) = (a1_2.length : Int) then ((qbq.f k a0_3 a1_3).bind fun t2 => if t2 = true then ((qb6.l0 k k (a0_2.length : Int) 0 a0_0 a0_1 a0_2 a0_3 a1_0 a1_1 a1_2 a1_3).bind fun t4 => Sum.elim (fun t4 => some true) (fun t4 => some t4) t4) else some false) else some false) else some false) else some false
def qcA.f (a0 : Int) (a1 : Int) : Option (Int) := (qbo.f a0 0 1048576).bind fun t1 => if (if a1 < 1 then 1 else a1) ≠ 0 then some (t1.tmod (if a1 < 1 then 1 else a1)) else none
def qbL.f (a0 : LI) (a1_0 : Int) (a1_1 : Int) (a1_2 : Int) (a1_3 : Int) (a1_4 : ByteArray) : Option (LI) := if (a0.length : Int) = 0 then (some [a1_3]) else if 0 + a0.length <= 281474976710656 /\ (0 + a0.length) * 8 <= 140737488355328 then (qcA.f a1_2 (a0.length : Int)).bind fun t1 => if 0 <= t1 /\ t1 < (([] ++ a0).length : Int) then if t1.toNat < ([] ++ a0).length then some (([] ++ a0).set t1.toNat a1_3) else none else none else none
def qgi.f (a0_0 : LI) (a0_1 : ByteArray) (a0_2 : List LN) (a0_3 : LI) (a1_0 : Int) (a1_1 : Int) (a1_2 : Int) (a1_3 : Int) (a1_4 : ByteArray) : Option (LI × ByteArray × LI × (List LN)) := if 0 + a0_2.length <= 281474976710656 /\ (0 + a0_2.length) * 112 <= 140737488355328 then if 12 < (a1_4.size : Int) then (if 0 <= ((0 : Nat) : Int) /\ ((0 : Nat) : Int) <= 12 /\ 12 <= (a1_4.size : Int) then if (([] ++ a0_2).length : Int) = 0 then (if 4 ≠ 0 then (qcA.f (iW.wrap (a1_0.tdiv 4)) 5).bind fun t1 => if t1 = 0 then (if 0 + a0_0.length <= 281474976710656 /\ (0 + a0_0.length) * 8 <= 140737488355328 then if ([] ++ a0_0).length + [a1_3].length <= 281474976710656 /\ (([] ++ a0_0).length + [a1_3].length) * 8 <= 140737488355328 then some (([] ++ a0_0) ++ [a1_3],a0_1,a0_3,[] ++ a0_2) else none else none) else if t1 = 1 then (some (a0_0,a1_4.extract ((0 : Nat) : Int).toNat 12,a0_3,[] ++ a0_2)) else if t1 = 2 then (if 0 + a0_3.length <= 281474976710656 /\ (0 + a0_3.length) * 8 <= 140737488355328 then if ([] ++ a0_3).length + [a1_3].length <= 281474976710656 /\ (([] ++ a0_3).length + [a1_3].length) * 8 <= 140737488355328 then some (a0_0,a0_1,([] ++ a0_3) ++ [a1_3],[] ++ a0_2) else none else none) else if t1 = 3 then (if ([] ++ a0_2).length + ([(a1_3,([],([],([],(0,(0,vab))))))] : List LN).length <= 281474976710656 /\ (([] ++ a0_2).length + ([(a1_3,([],([],([],(0,(0,vab))))))] : List LN).length) * 112 <= 140737488355328 then some (a0_0,a0_1,a0_3,([] ++ a0_2) ++ ([(a1_3,([],([],([],(0,(0,vab))))))] : List LN)) else none) else some (a0_0,a0_1,[],[] ++ a0_2) else none) else if 4 ≠ 0 then if a1_0.tmod 4 = 3 then ((qcA.f (iW.wrap (a1_0.tdiv 4)) 5).bind fun t2 => if t2 = 0 then (if 0 + a0_0.length <= 281474976710656 /\ (0 + a0_0.length) * 8 <= 140737488355328 then if ([] ++ a0_0).length + [a1_3].length <= 281474976710656 /\ (([] ++ a0_0).length + [a1_3].length) * 8 <= 140737488355328 then some (([] ++ a0_0) ++ [a1_3],a0_1,a0_3,[] ++ a0_2) else none else none) else if t2 = 1 then (some (a0_0,a1_4.extract ((0 : Nat) : Int).toNat 12,a0_3,[] ++ a0_2)) else if t2 = 2 then (if 0 + a0_3.length <= 281474976710656 /\ (0 + a0_3.length) * 8 <= 140737488355328 then if ([] ++ a0_3).length + [a1_3].length <= 281474976710656 /\ (([] ++ a0_3).length + [a1_3].length) * 8 <= 140737488355328 then some (a0_0,a0_1,([] ++ a0_3) ++ [a1_3],[] ++ a0_2) else none else none) else if t2 = 3 then (if ([] ++ a0_2).length + ([(a1_3,([],([],([],(0,(0,vab))))))] : List LN).length <= 281474976710656 /\ (([] ++ a0_2).length + ([(a1_3,([],([],([],(0,(0,vab))))))] : List LN).length) * 112 <= 140737488355328 then some (a0_0,a0_1,a0_3,([] ++ a0_2) ++ ([(a1_3,([],([],([],(0,(0,vab))))))] : List LN)) else none) else some (a0_0,a0_1,[],[] ++ a0_2)) else (qcA.f a1_1 (([] ++ a0_2).length : Int)).bind fun t3 => if 0 <= t3 /\ t3 < (([] ++ a0_2).length : Int) then if t3.toNat < ([] ++ a0_2).length then (qcA.f (iW.wrap (a1_0.tdiv 4)) 9).bind fun t4 => if t4 = 0 then (some (a0_0,a0_1,a0_3,([] ++ a0_2).set t3.toNat (a1_3,((([] ++ a0_2).getD t3.toNat ln0).2.1,((([] ++ a0_2).getD t3.toNat ln0).2.2.1,((([] ++ a0_2).getD t3.toNat ln0).2.2.2.1,((([] ++ a0_2).getD t3.toNat ln0).2.2.2.2.1,((([] ++ a0_2).getD t3.toNat ln0).2.2.2.2.2.1,(([] ++ a0_2).getD t3.toNat ln0).2.2.2.2.2.2)))))))) else if t4 = 1 then ((qbL.f (([] ++ a0_2).getD t3.toNat ln0).2.1 a1_0 a1_1 a1_2 a1_3 a1_4).bind fun t5 => some (a0_0,a0_1,a0_3,([] ++ a0_2).set t3.toNat ((([] ++ a0_2).getD t3.toNat ln0).1,(t5,((([] ++ a0_2).getD t3.toNat ln0).2.2.1,((([] ++ a0_2).getD t3.toNat ln0).2.2.2.1,((([] ++ a0_2).getD t3.toNat ln0).2.2.2.2.1,((([] ++ a0_2).getD t3.toNat ln0).2.2.2.2.2.1,(([] ++ a0_2).getD t3.toNat ln0).2.2.2.2.2.2)))))))) else if t4 = 2 then ((qbL.f (([] ++ a0_2).getD t3.toNat ln0).2.2.1 a1_0 a1_1 a1_2 a1_3 a1_4).bind fun t6 => some (a0_0,a0_1,a0_3,([] ++ a0_2).set t3.toNat ((([] ++ a0_2).getD t3.toNat ln0).1,((([] ++ a0_2).getD t3.toNat ln0).2.1,(t6,((([] ++ a0_2).getD t3.toNat ln0).2.2.2.1,((([] ++ a0_2).getD t3.toNat ln0).2.2.2.2.1,((([] ++ a0_2).getD t3.toNat ln0).2.2.2.2.2.1,(([] ++ a0_2).getD t3.toNat ln0).2.2.2.2.2.2)))))))) else if t4 = 3 then ((qbL.f (([] ++ a0_2).getD t3.toNat ln0).2.2.2.1 a1_0 a1_1 a1_2 a1_3 a1_4).bind fun t7 => some (a0_0,a0_1,a0_3,([] ++ a0_2).set t3.toNat ((([] ++ a0_2).getD t3.toNat ln0).1,((([] ++ a0_2).getD t3.toNat ln0).2.1,((([] ++ a0_2).getD t3.toNat ln0).2.2.1,(t7,((([] ++ a0_2).getD t3.toNat ln0).2.2.2.2.1,((([] ++ a0_2).getD t3.toNat ln0).2.2.2.2.2.1,(([] ++ a0_2).getD t3.toNat ln0).2.2.2.2.2.2)))))))) else if t4 = 4 then (some (a0_0,a0_1,a0_3,([] ++ a0_2).set t3.toNat ((([] ++ a0_2).getD t3.toNat ln0).1,((([] ++ a0_2).getD t3.toNat ln0).2.1,((([] ++ a0_2).getD t3.toNat ln0).2.2.1,((([] ++ a0_2).getD t3.toNat ln0).2.2.2.1,(iW.wrap ((([] ++ a0_2).getD t3.toNat ln0).2.2.2.2.1 + 1),((([] ++ a0_2).getD t3.toNat ln0).2.2.2.2.2.1,(([] ++ a0_2).getD t3.toNat ln0).2.2.2.2.2.2)))))))) else if t4 = 5 then (some (a0_0,a0_1,a0_3,([] ++ a0_2).set t3.toNat ((([] ++ a0_2).getD t3.toNat ln0).1,((([] ++ a0_2).getD t3.toNat ln0).2.1,((([] ++ a0_2).getD t3.toNat ln0).2.2.1,((([] ++ a0_2).getD t3.toNat ln0).2.2.2.1,((([] ++ a0_2).getD t3.toNat ln0).2.2.2.2.1,(a1_3,(([] ++ a0_2).getD t3.toNat ln0).2.2.2.2.2.2)))))))) else if t4 = 6 then (some (a0_0,a0_1,a0_3,([] ++ a0_2).set t3.toNat ((([] ++ a0_2).getD t3.toNat ln0).1,((([] ++ a0_2).getD t3.toNat ln0).2.1,((([] ++ a0_2).getD t3.toNat ln0).2.2.1,((([] ++ a0_2).getD t3.toNat ln0).2.2.2.1,((([] ++ a0_2).getD t3.toNat ln0).2.2.2.2.1,((([] ++ a0_2).getD t3.toNat ln0).2.2.2.2.2.1,a1_4.extract ((0 : Nat) : Int).toNat 12)))))))) else if t4 = 7 then (if 0 + (([] ++ a0_2).getD t3.toNat ln0).2.2.2.1.length <= 281474976710656 /\ (0 + (([] ++ a0_2).getD t3.toNat ln0).2.2.2.1.length) * 8 <= 140737488355328 then if ([] ++ (([] ++ a0_2).getD t3.toNat ln0).2.2.2.1).length + [a1_3].length <= 281474976710656 /\ (([] ++ (([] ++ a0_2).getD t3.toNat ln0).2.2.2.1).length + [a1_3].length) * 8 <= 140737488355328 then some (a0_0,a0_1,a0_3,([] ++ a0_2).set t3.toNat ((([] ++ a0_2).getD t3.toNat ln0).1,((([] ++ a0_2).getD t3.toNat ln0).2.1,((([] ++ a0_2).getD t3.toNat ln0).2.2.1,(([] ++ (([] ++ a0_2).getD t3.toNat ln0).2.2.2.1) ++ [a1_3],((([] ++ a0_2).getD t3.toNat ln0).2.2.2.2.1,((([] ++ a0_2).getD t3.toNat ln0).2.2.2.2.2.1,(([] ++ a0_2).getD t3.toNat ln0).2.2.2.2.2.2))))))) else none else none) else if 0 + (([] ++ a0_2).getD t3.toNat ln0).2.1.length <= 281474976710656 /\ (0 + (([] ++ a0_2).getD t3.toNat ln0).2.1.length) * 8 <= 140737488355328 then if ([] ++ (([] ++ a0_2).getD t3.toNat ln0).2.1).length + [a1_3].length <= 281474976710656 /\ (([] ++ (([] ++ a0_2).getD t3.toNat ln0).2.1).length + [a1_3].length) * 8 <= 140737488355328 then some (a0_0,a0_1,a0_3,([] ++ a0_2).set t3.toNat ((([] ++ a0_2).getD t3.toNat ln0).1,(([] ++ (([] ++ a0_2).getD t3.toNat ln0).2.1) ++ [a1_3],((([] ++ a0_2).getD t3.toNat ln0).2.2.1,((([] ++ a0_2).getD t3.toNat ln0).2.2.2.1,((([] ++ a0_2).getD t3.toNat ln0).2.2.2.2.1,((([] ++ a0_2).getD t3.toNat ln0).2.2.2.2.2.1,(([] ++ a0_2).getD t3.toNat ln0).2.2.2.2.2.2))))))) else none else none else none else none else none else none) else if (([] ++ a0_2).length : Int) = 0 then (if 4 ≠ 0 then (qcA.f (iW.wrap (a1_0.tdiv 4)) 5).bind fun t8 => if t8 = 0 then (if 0 + a0_0.length <= 281474976710656 /\ (0 + a0_0.length) * 8 <= 140737488355328 then if ([] ++ a0_0).length + [a1_3].length <= 281474976710656 /\ (([] ++ a0_0).length + [a1_3].length) * 8 <= 140737488355328 then some (([] ++ a0_0) ++ [a1_3],a0_1,a0_3,[] ++ a0_2) else none else none) else if t8 = 1 then (some (a0_0,a1_4,a0_3,[] ++ a0_2)) else if t8 = 2 then (if 0 + a0_3.length <= 281474976710656 /\ (0 + a0_3.length) * 8 <= 140737488355328 then if ([] ++ a0_3).length + [a1_3].length <= 281474976710656 /\ (([] ++ a0_3).length + [a1_3].length) * 8 <= 140737488355328 then some (a0_0,a0_1,([] ++ a0_3) ++ [a1_3],[] ++ a0_2) else none else none) else if t8 = 3 then (if ([] ++ a0_2).length + ([(a1_3,([],([],([],(0,(0,vab))))))] : List LN).length <= 281474976710656 /\ (([] ++ a0_2).length + ([(a1_3,([],([],([],(0,(0,vab))))))] : List LN).length) * 112 <= 140737488355328 then some (a0_0,a0_1,a0_3,([] ++ a0_2) ++ ([(a1_3,([],([],([],(0,(0,vab))))))] : List LN)) else none) else some (a0_0,a0_1,[],[] ++ a0_2) else none) else if 4 ≠ 0 then if a1_0.tmod 4 = 3 then ((qcA.f (iW.wrap (a1_0.tdiv 4)) 5).bind fun t9 => if t9 = 0 then (if 0 + a0_0.length <= 281474976710656 /\ (0 + a0_0.length) * 8 <= 140737488355328 then if ([] ++ a0_0).length + [a1_3].length <= 281474976710656 /\ (([] ++ a0_0).length + [a1_3].length) * 8 <= 140737488355328 then some (([] ++ a0_0) ++ [a1_3],a0_1,a0_3,[] ++ a0_2) else none else none) else if t9 = 1 then (some (a0_0,a1_4,a0_3,[] ++ a0_2)) else if t9 = 2 then (if 0 + a0_3.length <= 281474976710656 /\ (0 + a0_3.length) * 8 <= 140737488355328 then if ([] ++ a0_3).length + [a1_3].length <= 281474976710656 /\ (([] ++ a0_3).length + [a1_3].length) * 8 <= 140737488355328 then some (a0_0,a0_1,([] ++ a0_3) ++ [a1_3],[] ++ a0_2) else none else none) else if t9 = 3 then (if ([] ++ a0_2).length + ([(a1_3,([],([],([],(0,(0,vab))))))] : List LN).length <= 281474976710656 /\ (([] ++ a0_2).length + ([(a1_3,([],([],([],(0,(0,vab))))))] : List LN).length) * 112 <= 140737488355328 then some (a0_0,a0_1,a0_3,([] ++ a0_2) ++ ([(a1_3,([],([],([],(0,(0,vab))))))] : List LN)) else none) else some (a0_0,a0_1,[],[] ++ a0_2)) else (qcA.f a1_1 (([] ++ a0_2).length : Int)).bind fun t10 => if 0 <= t10 /\ t10 < (([] ++ a0_2).length : Int) then if t10.toNat < ([] ++ a0_2).length then (qcA.f (iW.wrap (a1_0.tdiv 4)) 9).bind fun t11 => if t11 = 0 then (some (a0_0,a0_1,a0_3,([] ++ a0_2).set t10.toNat (a1_3,((([] ++ a0_2).getD t10.toNat ln0).2.1,((([] ++ a0_2).getD t10.toNat ln0).2.2.1,((([] ++ a0_2).getD t10.toNat ln0).2.2.2.1,((([] ++ a0_2).getD t10.toNat ln0).2.2.2.2.1,((([] ++ a0_2).getD t10.toNat ln0).2.2.2.2.2.1,(([] ++ a0_2).getD t10.toNat ln0).2.2.2.2.2.2)))))))) else if t11 = 1 then ((qbL.f (([] ++ a0_2).getD t10.toNat ln0).2.1 a1_0 a1_1 a1_2 a1_3 a1_4).bind fun t12 => some (a0_0,a0_1,a0_3,([] ++ a0_2).set t10.toNat ((([] ++ a0_2).getD t10.toNat ln0).1,(t12,((([] ++ a0_2).getD t10.toNat ln0).2.2.1,((([] ++ a0_2).getD t10.toNat ln0).2.2.2.1,((([] ++ a0_2).getD t10.toNat ln0).2.2.2.2.1,((([] ++ a0_2).getD t10.toNat ln0).2.2.2.2.2.1,(([] ++ a0_2).getD t10.toNat ln0).2.2.2.2.2.2)))))))) else if t11 = 2 then ((qbL.f (([] ++ a0_2).getD t10.toNat ln0).2.2.1 a1_0 a1_1 a1_2 a1_3 a1_4).bind fun t13 => some (a0_0,a0_1,a0_3,([] ++ a0_2).set t10.toNat ((([] ++ a0_2).getD t10.toNat ln0).1,((([] ++ a0_2).getD t10.toNat ln0).2.1,(t13,((([] ++ a0_2).getD t10.toNat ln0).2.2.2.1,((([] ++ a0_2).getD t10.toNat ln0).2.2.2.2.1,((([] ++ a0_2).getD t10.toNat ln0).2.2.2.2.2.1,(([] ++ a0_2).getD t10.toNat ln0).2.2.2.2.2.2)))))))) else if t11 = 3 then ((qbL.f (([] ++ a0_2).getD t10.toNat ln0).2.2.2.1 a1_0 a1_1 a1_2 a1_3 a1_4).bind fun t14 => some (a0_0,a0_1,a0_3,([] ++ a0_2).set t10.toNat ((([] ++ a0_2).getD t10.toNat ln0).1,((([] ++ a0_2).getD t10.toNat ln0).2.1,((([] ++ a0_2).getD t10.toNat ln0).2.2.1,(t14,((([] ++ a0_2).getD t10.toNat ln0).2.2.2.2.1,((([] ++ a0_2).getD t10.toNat ln0).2.2.2.2.2.1,(([] ++ a0_2).getD t10.toNat ln0).2.2.2.2.2.2)))))))) else if t11 = 4 then (some (a0_0,a0_1,a0_3,([] ++ a0_2).set t10.toNat ((([] ++ a0_2).getD t10.toNat ln0).1,((([] ++ a0_2).getD t10.toNat ln0).2.1,((([] ++ a0_2).getD t10.toNat ln0).2.2.1,((([] ++ a0_2).getD t10.toNat ln0).2.2.2.1,(iW.wrap ((([] ++ a0_2).getD t10.toNat ln0).2.2.2.2.1 + 1),((([] ++ a0_2).getD t10.toNat ln0).2.2.2.2.2.1,(([] ++ a0_2).getD t10.toNat ln0).2.2.2.2.2.2)))))))) else if t11 = 5 then (some (a0_0,a0_1,a0_3,([] ++ a0_2).set t10.toNat ((([] ++ a0_2).getD t10.toNat ln0).1,((([] ++ a0_2).getD t10.toNat ln0).2.1,((([] ++ a0_2).getD t10.toNat ln0).2.2.1,((([] ++ a0_2).getD t10.toNat ln0).2.2.2.1,((([] ++ a0_2).getD t10.toNat ln0).2.2.2.2.1,(a1_3,(([] ++ a0_2).getD t10.toNat ln0).2.2.2.2.2.2)))))))) else if t11 = 6 then (some (a0_0,a0_1,a0_3,([] ++ a0_2).set t10.toNat ((([] ++ a0_2).getD t10.toNat ln0).1,((([] ++ a0_2).getD t10.toNat ln0).2.1,((([] ++ a0_2).getD t10.toNat ln0).2.2.1,((([] ++ a0_2).getD t10.toNat ln0).2.2.2.1,((([] ++ a0_2).getD t10.toNat ln0).2.2.2.2.1,((([] ++ a0_2).getD t10.toNat ln0).2.2.2.2.2.1,a1_4)))))))) else if t11 = 7 then (if 0 + (([] ++ a0_2).getD t10.toNat ln0).2.2.2.1.length <= 281474976710656 /\ (0 + (([] ++ a0_2).getD t10.toNat ln0).2.2.2.1.length) * 8 <= 140737488355328 then if ([] ++ (([] ++ a0_2).getD t10.toNat ln0).2.2.2.1).length + [a1_3].length <= 281474976710656 /\ (([] ++ (([] ++ a0_2).getD t10.toNat ln0).2.2.2.1).length + [a1_3].length) * 8 <= 140737488355328 then some (a0_0,a0_1,a0_3,([] ++ a0_2).set t10.toNat ((([] ++ a0_2).getD t10.toNat ln0).1,((([] ++ a0_2).getD t10.toNat ln0).2.1,((([] ++ a0_2).getD t10.toNat ln0).2.2.1,(([] ++ (([] ++ a0_2).getD t10.toNat ln0).2.2.2.1) ++ [a1_3],((([] ++ a0_2).getD t10.toNat ln0).2.2.2.2.1,((([] ++ a0_2).getD t10.toNat ln0).2.2.2.2.2.1,(([] ++ a0_2).getD t10.toNat ln0).2.2.2.2.2.2))))))) else none else none) else if 0 + (([] ++ a0_2).getD t10.toNat ln0).2.1.length <= 281474976710656 /\ (0 + (([] ++ a0_2).getD t10.toNat ln0).2.1.length) * 8 <= 140737488355328 then if ([] ++ (([] ++ a0_2).getD t10.toNat ln0).2.1).length + [a1_3].length <= 281474976710656 /\ (([] ++ (([] ++ a0_2).getD t10.toNat ln0).2.1).length + [a1_3].length) * 8 <= 140737488355328 then some (a0_0,a0_1,a0_3,([] ++ a0_2).set t10.toNat ((([] ++ a0_2).getD t10.toNat ln0).1,(([] ++ (([] ++ a0_2).getD t10.toNat ln0).2.1) ++ [a1_3],((([] ++ a0_2).getD t10.toNat ln0).2.2.1,((([] ++ a0_2).getD t10.toNat ln0).2.2.2.1,((([] ++ a0_2).getD t10.toNat ln0).2.2.2.2.1,((([] ++ a0_2).getD t10.toNat ln0).2.2.2.2.2.1,(([] ++ a0_2).getD t10.toNat ln0).2.2.2.2.2.2))))))) else none else none else none else none else none else none
def qb3.l0 : Nat -> (List (Int × Int × Int × Int × ByteArray)) -> Int -> LI -> ByteArray -> (List LN) -> LI -> ByteArray -> Option (LI × ByteArray × (List LN) × LI)
 | 0,_,_,_,_,_,_,_ => none
 | n + 1,x1,x5,y0_0,y0_1,y0_2,y0_3,y1 => if x5 < (x1.length : Int) then (if x5 < 4 then (if 0 <= x5 /\ x5 < (x1.length : Int) then (qgi.f y0_0 y0_1 y0_2 y0_3 (x1.getD x5.toNat (0,(0,(0,(0,vab))))).1 (x1.getD x5.toNat (0,(0,(0,(0,vab))))).2.1 (x1.getD x5.toNat (0,(0,(0,(0,vab))))).2.2.1 (x1.getD x5.toNat (0,(0,(0,(0,vab))))).2.2.2.1 (x1.getD x5.toNat (0,(0,(0,(0,vab))))).2.2.2.2).bind fun t1 => qb3.l0 n x1 (iW.wrap (x5 + 1)) t1.1 t1.2.1 t1.2.2.2 t1.2.2.1 y1 else none) else some (y0_0,y0_1,y0_2,y0_3)) else some (y0_0,y0_1,y0_2,y0_3)
def qb3.f (k : Nat) (a0_0 : LI) (a0_1 : ByteArray) (a0_2 : List LN) (a0_3 : LI) (a1 : List (Int × Int × Int × Int × ByteArray)) : Option (LI × ByteArray × (List LN) × LI) := (qb3.l0 k a1 0 a0_0 a0_1 a0_2 a0_3 vab).bind fun t2 => some (t2.1,t2.2.1,t2.2.2.1,t2.2.2.2)
end Go.Pf

namespace Go.Pf
open Go
def qcw.f (a0 : ByteArray) : Option (ByteArray) := if (a0.toList == vab.toList) = true then (some (vaa #[45])) else some a0
def qcE.f (a0 : Int) : Option (ByteArray) := (strconv_FormatInt.f a0 10).bind fun t1 => some t1
def qba.l0 : Nat -> LI -> Int -> Int -> (List ByteArray) -> Option ((List ByteArray))
 | 0,_,_,_,_ => none
 | n + 1,x6,x7,x8,y0 => if x8 < x7 then (if 0 <= x8 /\ x8 < (x6.length : Int) then (qcE.f (x6.getD x8.toNat 0)).bind fun t1 => if y0.length + [t1].length <= 281474976710656 /\ (y0.length + [t1].length) * 16 <= 140737488355328 then qba.l0 n x6 x7 (iW.wrap (x8 + 1)) (y0 ++ [t1]) else none else none) else some y0
def qba.f (k : Nat) (a0 : LI) : Option ((List ByteArray)) := (qba.l0 k a0 (a0.length : Int) 0 []).bind fun t2 => some t2
def qec.f (a0 : Int) : Option (ByteArray) := if a0 < 1 then (some vab) else if 20 < a0 then (some vab) else if 0 <= iW.wrap (a0 - 1) /\ iW.wrap (a0 - 1) < ([(vaa #[112,97,114,97,109]),(vaa #[102,105,108,108]),(vaa #[105,111,116,97]),(vaa #[110,101,103]),(vaa #[110,111,116]),(vaa #[97,100,100]),(vaa #[115,117,98]),(vaa #[109,117,108]),(vaa #[109,105,110]),(vaa #[109,97,120]),(vaa #[108,101,115,115]),(vaa #[115,101,108,101,99,116]),(vaa #[116,117,114,110]),(vaa #[115,112,114,101,97,100]),(vaa #[115,108,105,99,101]),(vaa #[112,97,100]),(vaa #[106,111,105,110]),(vaa #[102,111,108,100]),(vaa #[100,111,116]),(vaa #[119,105,110,100,111,119])].length : Int) then if (iW.wrap (a0 - 1)).toNat < [(vaa #[112,97,114,97,109]),(vaa #[102,105,108,108]),(vaa #[105,111,116,97]),(vaa #[110,101,103]),(vaa #[110,111,116]),(vaa #[97,100,100]),(vaa #[115,117,98]),(vaa #[109,117,108]),(vaa #[109,105,110]),(vaa #[109,97,120]),(vaa #[108,101,115,115]),(vaa #[115,101,108,101,99,116]),(vaa #[116,117,114,110]),(vaa #[115,112,114,101,97,100]),(vaa #[115,108,105,99,101]),(vaa #[112,97,100]),(vaa #[106,111,105,110]),(vaa #[102,111,108,100]),(vaa #[100,111,116]),(vaa #[119,105,110,100,111,119])].length then some ([(vaa #[112,97,114,97,109]),(vaa #[102,105,108,108]),(vaa #[105,111,116,97]),(vaa #[110,101,103]),(vaa #[110,111,116]),(vaa #[97,100,100]),(vaa #[115,117,98]),(vaa #[109,117,108]),(vaa #[109,105,110]),(vaa #[109,97,120]),(vaa #[108,101,115,115]),(vaa #[115,101,108,101,99,116]),(vaa #[116,117,114,110]),(vaa #[115,112,114,101,97,100]),(vaa #[115,108,105,99,101]),(vaa #[112,97,100]),(vaa #[106,111,105,110]),(vaa #[102,111,108,100]),(vaa #[100,111,116]),(vaa #[119,105,110,100,111,119])].getD (iW.wrap (a0 - 1)).toNat vab) else none else none
def qbK.l0 : Nat -> LI -> Int -> Int -> LI -> LI -> Option (LI)
 | 0,_,_,_,_,_ => none
 | n + 1,x11,x12,x13,y0,y1 => if x13 < x12 then (if 0 <= x13 /\ x13 < (x11.length : Int) then if 0 <= x11.getD x13.toNat 0 then (if x11.getD x13.toNat 0 < (y0.length : Int) then (if 0 <= x11.getD x13.toNat 0 /\ x11.getD x13.toNat 0 < (y0.length : Int) then if (x11.getD x13.toNat 0).toNat < y0.length then if y1.length + [y0.getD (x11.getD x13.toNat 0).toNat 0].length <= 281474976710656 /\ (y1.length + [y0.getD (x11.getD x13.toNat 0).toNat 0].length) * 4 <= 140737488355328 then qbK.l0 n x11 x12 (iW.wrap (x13 + 1)) y0 (y1 ++ [y0.getD (x11.getD x13.toNat 0).toNat 0]) else none else none else none) else if y1.length + ([46] : LI).length <= 281474976710656 /\ (y1.length + ([46] : LI).length) * 4 <= 140737488355328 then qbK.l0 n x11 x12 (iW.wrap (x13 + 1)) y0 (y1 ++ ([46] : LI)) else none) else if y1.length + ([46] : LI).length <= 281474976710656 /\ (y1.length + ([46] : LI).length) * 4 <= 140737488355328 then qbK.l0 n x11 x12 (iW.wrap (x13 + 1)) y0 (y1 ++ ([46] : LI)) else none else none) else some y1
def qbK.f (k : Nat) (a0 : ByteArray) (a1 : LI) : Option (ByteArray) := (qbf.f k a0).bind fun t1 => (qbK.l0 k a1 (a1.length : Int) 0 t1 []).bind fun t2 => some (runesBytes t2)
def qcc.l0 (k : Nat) : Nat -> Int -> Int -> Int -> LI -> ByteArray -> (List LN) -> LI -> Int -> LI -> LI -> LI -> Int -> Int -> ByteArray -> (List ByteArray) -> (List LI) -> Option ((List ByteArray))
 | 0,_,_,_,_,_,_,_,_,_,_,_,_,_,_,_,_ => none
 | n + 1,x2,x24,x25,y0_0,y0_1,y0_2,y0_3,y1_0,y1_1,y1_2,y1_3,y1_4,y1_5,y1_6,y2,y3 => if x25 < x24 then (if 0 <= x25 /\ x25 < (y3.length : Int) then if x25.toNat < y3.length then if y2.length + [(vaa #[40])].length <= 281474976710656 /\ (y2.length + [(vaa #[40])].length) * 16 <= 140737488355328 then (qba.f k (y3.getD x25.toNat [])).bind fun t2 => if (y2 ++ [(vaa #[40])]).length + t2.length <= 281474976710656 /\ ((y2 ++ [(vaa #[40])]).length + t2.length) * 16 <= 140737488355328 then if ((y2 ++ [(vaa #[40])]) ++ t2).length + [(vaa #[41])].length <= 281474976710656 /\ (((y2 ++ [(vaa #[40])]) ++ t2).length + [(vaa #[41])].length) * 16 <= 140737488355328 then qcc.l0 k n x2 x24 (iW.wrap (x25 + 1)) y0_0 y0_1 y0_2 y0_3 y1_0 y1_1 y1_2 y1_3 y1_4 y1_5 y1_6 (((y2 ++ [(vaa #[40])]) ++ t2) ++ [(vaa #[41])]) y3 else none else none else none else none else none) else some y2
def qcc.f (k : Nat) (a0_0 : LI) (a0_1 : ByteArray) (a0_2 : List LN) (a0_3 : LI) (a1_0 : Int) (a1_1 : LI) (a1_2 : LI) (a1_3 : LI) (a1_4 : Int) (a1_5 : Int) (a1_6 : ByteArray) (a2 : Int) : Option ((List ByteArray)) := (qec.f a1_0).bind fun t1 => (qcc.l0 k k a2 ([a1_1,a1_2,a1_3].length : Int) 0 a0_0 a0_1 a0_2 a0_3 a1_0 a1_1 a1_2 a1_3 a1_4 a1_5 a1_6 [t1] [a1_1,a1_2,a1_3]).bind fun t3 => (qbD.f k a0_1 a1_6 a2).bind fun t4 => (qcE.f a1_4).bind fun t5 => (qcE.f a1_5).bind fun t6 => (qbK.f k a0_1 t4.2.2).bind fun t7 => (qcw.f t7).bind fun t8 => if t3.length + [t5,t6,t8].length <= 281474976710656 /\ (t3.length + [t5,t6,t8].length) * 16 <= 140737488355328 then some (t3 ++ [t5,t6,t8]) else none
def qaJ.f (a1 : ByteArray) (o1 : LI) : Option (Int × LI) := (qcQ.f).bind fun t1 => if o1.length + (a1.data.toList.map fun b => (b.toNat : Int)).length <= 281474976710656 /\ (o1.length + (a1.data.toList.map fun b => (b.toNat : Int)).length) * 1 <= 140737488355328 then some ((a1.size : Int),o1 ++ (a1.data.toList.map fun b => (b.toNat : Int))) else none
def qbI.f (o1 : LI) : Option (Int) := some (o1.length : Int)
def qbb.l0 (k : Nat) : Nat -> (List LN) -> Int -> Int -> LI -> ByteArray -> (List LN) -> LI -> (List LI) -> (List (List ByteArray)) -> Option ((List (List ByteArray)))
 | 0,_,_,_,_,_,_,_,_,_ => none
 | n + 1,x30,x31,x32,y0_0,y0_1,y0_2,y0_3,y1,y2 => if x32 < x31 then (if 0 <= x32 /\ x32 < (x30.length : Int) then if 0 <= x32 /\ x32 < (y1.length : Int) then if x32.toNat < y1.length then (qcc.f k y0_0 y0_1 y0_2 y0_3 (x30.getD x32.toNat ln0).1 (x30.getD x32.toNat ln0).2.1 (x30.getD x32.toNat ln0).2.2.1 (x30.getD x32.toNat ln0).2.2.2.1 (x30.getD x32.toNat ln0).2.2.2.2.1 (x30.getD x32.toNat ln0).2.2.2.2.2.1 (x30.getD x32.toNat ln0).2.2.2.2.2.2 ((y1.getD x32.toNat []).length : Int)).bind fun t4 => if y2.length + [t4].length <= 281474976710656 /\ (y2.length + [t4].length) * 24 <= 140737488355328 then qbb.l0 k n x30 x31 (iW.wrap (x32 + 1)) y0_0 y0_1 y0_2 y0_3 y1 (y2 ++ [t4]) else none else none else none else none) else some y2
def qbb.l1 : Nat -> Int -> Int -> (List (List ByteArray)) -> LI -> Option (LI)
 | 0,_,_,_,_ => none
 | n + 1,x58,x59,y1,y2 => if x59 < x58 then (if 0 <= x59 /\ x59 < (y1.length : Int) then if x59.toNat < y1.length then (strings_Join.f (y1.getD x59.toNat []) (vaa #[32])).bind fun t7 => (qaJ.f t7 y2).bind fun t8 => (qaJ.f (vaa #[10]) t8.2).bind fun t9 => qbb.l1 n x58 (iW.wrap (x59 + 1)) y1 t9.2 else none else none) else some y2
def qbb.f (k : Nat) (a0_0 : LI) (a0_1 : ByteArray) (a0_2 : List LN) (a0_3 : LI) : Option (ByteArray × Int) := (qbh.f k a0_0 a0_1 a0_2 a0_3).bind fun t1 => if t1.1 = 0 then ((qcw.f a0_1).bind fun t2 => (qba.f k a0_0).bind fun t3 => if [(vaa #[109,101,115,104]),t2].length + t3.length <= 281474976710656 /\ ([(vaa #[109,101,115,104]),t2].length + t3.length) * 16 <= 140737488355328 then (qbb.l0 k k a0_2 (a0_2.length : Int) 0 a0_0 a0_1 a0_2 a0_3 t1.2 [[(vaa #[109,101,115,104]),t2] ++ t3]).bind fun t5 => (qba.f k a0_3).bind fun t6 => if [(vaa #[111,117,116,115])].length + t6.length <= 281474976710656 /\ ([(vaa #[111,117,116,115])].length + t6.length) * 16 <= 140737488355328 then if t5.length + [[(vaa #[111,117,116,115])] ++ t6].length <= 281474976710656 /\ (t5.length + [[(vaa #[111,117,116,115])] ++ t6].length) * 24 <= 140737488355328 then (qbb.l1 k ((t5 ++ [[(vaa #[111,117,116,115])] ++ t6]).length : Int) 0 (t5 ++ [[(vaa #[111,117,116,115])] ++ t6]) []).bind fun t10 => (qbI.f t10).bind fun t11 => if 65536 < t11 then (some (vab,3)) else (strings_Builder_String.f t10).bind fun t12 => some (t12,0) else none else none else none) else some (vab,t1.1)
def qaD.l0 : Nat -> Int -> ByteArray -> Int -> Option (ByteArray)
 | 0,_,_,_ => none
 | n + 1,x0,x3,x4 => if x4 = 0 then (some x3) else if 10 ≠ 0 then if x4.tmod 10 < 0 then (if (Utf8.encode (IntKind.i32.wrap (iW.wrap (48 + (iW.wrap (0 - (x4.tmod 10))))))).size + x3.size <= 9223372036854775807 then qaD.l0 n x0 ((Utf8.encode (IntKind.i32.wrap (iW.wrap (48 + (iW.wrap (0 - (x4.tmod 10))))))) ++ x3) (iW.wrap (x4.tdiv 10)) else none) else if (Utf8.encode (IntKind.i32.wrap (iW.wrap (48 + (x4.tmod 10))))).size + x3.size <= 9223372036854775807 then qaD.l0 n x0 ((Utf8.encode (IntKind.i32.wrap (iW.wrap (48 + (x4.tmod 10))))) ++ x3) (iW.wrap (x4.tdiv 10)) else none else none
def qaD.f (k : Nat) (a0 : Int) : Option (ByteArray) := if a0 = 0 then (some (vaa #[48])) else (qaD.l0 k a0 vab a0).bind fun t1 => if a0 < 0 then (if (vaa #[45]).size + t1.size <= 9223372036854775807 then some ((vaa #[45]) ++ t1) else none) else some t1
def qcX.f : Option ((List ByteArray)) := some [vab,(vaa #[112,97,114,97,109]),(vaa #[102,105,108,108]),(vaa #[105,111,116,97]),(vaa #[110,101,103]),(vaa #[110,111,116]),(vaa #[97,100,100]),(vaa #[115,117,98]),(vaa #[109,117,108]),(vaa #[109,105,110]),(vaa #[109,97,120]),(vaa #[108,101,115,115]),(vaa #[115,101,108,101,99,116]),(vaa #[116,117,114,110]),(vaa #[115,112,114,101,97,100]),(vaa #[115,108,105,99,101]),(vaa #[112,97,100]),(vaa #[106,111,105,110]),(vaa #[102,111,108,100]),(vaa #[100,111,116]),(vaa #[119,105,110,100,111,119])]
def qdH.f (a0 : Int) : Option (ByteArray) := if a0 < 1 then (some vab) else if 20 < a0 then (some vab) else (qcX.f).bind fun t1 => if 0 <= a0 /\ a0 < (t1.length : Int) then if a0.toNat < t1.length then some (t1.getD a0.toNat vab) else none else none
def qbi.l0 (k : Nat) : Nat -> LI -> ByteArray -> Int -> Int -> Option (ByteArray)
 | 0,_,_,_,_ => none
 | n + 1,x0,x3,x6,x7 => if x7 < x6 then (if x3.size + (vaa #[32]).size <= 9223372036854775807 then if 0 <= x7 /\ x7 < (x0.length : Int) then (qaD.f k (x0.getD x7.toNat 0)).bind fun t1 => if (x3 ++ (vaa #[32])).size + t1.size <= 9223372036854775807 then qbi.l0 k n x0 ((x3 ++ (vaa #[32])) ++ t1) x6 (iW.wrap (x7 + 1)) else none else none else none) else some x3
def qbi.f (k : Nat) (a0 : LI) : Option (ByteArray) := (qbi.l0 k k a0 (vaa #[32,40]) (a0.length : Int) 0).bind fun t2 => if t2.size + (vaa #[32,41]).size <= 9223372036854775807 then some (t2 ++ (vaa #[32,41])) else none
def qdG.f (k : Nat) (a0_0 : LI) (a0_1 : ByteArray) (a0_2 : List LN) (a0_3 : LI) (a1_0 : Int) (a1_1 : LI) (a1_2 : LI) (a1_3 : LI) (a1_4 : Int) (a1_5 : Int) (a1_6 : ByteArray) (a2 : Int) : Option (ByteArray) := (qa4.f k a0_1 a1_6 a2).bind fun t1 => if t1.1 = true then ((qbZ.f k a0_1 t1.2.2).bind fun t2 => some t2) else some (vaa #[45])
def qap.l0 (k : Nat) : Nat -> ByteArray -> Int -> Int -> LI -> ByteArray -> (List LN) -> LI -> (List LI) -> Option (ByteArray)
 | 0,_,_,_,_,_,_,_,_ => none
 | n + 1,x6,x27,x28,y0_0,y0_1,y0_2,y0_3,y1 => if x28 < x27 then (if x6.size + (vaa #[32]).size <= 9223372036854775807 then if 0 <= x28 /\ x28 < (y0_0.length : Int) then (qaD.f k (y0_0.getD x28.toNat 0)).bind fun t2 => if (x6 ++ (vaa #[32])).size + t2.size <= 9223372036854775807 then qap.l0 k n ((x6 ++ (vaa #[32])) ++ t2) x27 (iW.wrap (x28 + 1)) y0_0 y0_1 y0_2 y0_3 y1 else none else none else none) else some x6
def qap.l1 (k : Nat) : Nat -> ByteArray -> (List LN) -> Int -> Int -> LI -> ByteArray -> (List LN) -> LI -> (List LI) -> Option (ByteArray)
 | 0,_,_,_,_,_,_,_,_,_ => none
 | n + 1,x6,x44,x45,x46,y0_0,y0_1,y0_2,y0_3,y1 => if x46 < x45 then (if 0 <= x46 /\ x46 < (x44.length : Int) then (qdH.f (x44.getD x46.toNat ln0).1).bind fun t4 => if x6.size + t4.size <= 9223372036854775807 then (qbi.f k (x44.getD x46.toNat ln0).2.1).bind fun t5 => if (x6 ++ t4).size + t5.size <= 9223372036854775807 then (qbi.f k (x44.getD x46.toNat ln0).2.2.1).bind fun t6 => if ((x6 ++ t4) ++ t5).size + t6.size <= 9223372036854775807 then (qbi.f k (x44.getD x46.toNat ln0).2.2.2.1).bind fun t7 => if (((x6 ++ t4) ++ t5) ++ t6).size + t7.size <= 9223372036854775807 then if ((((x6 ++ t4) ++ t5) ++ t6) ++ t7).size + (vaa #[32]).size <= 9223372036854775807 then (qaD.f k (x44.getD x46.toNat ln0).2.2.2.2.1).bind fun t8 => if (((((x6 ++ t4) ++ t5) ++ t6) ++ t7) ++ (vaa #[32])).size + t8.size <= 9223372036854775807 then if ((((((x6 ++ t4) ++ t5) ++ t6) ++ t7) ++ (vaa #[32])) ++ t8).size + (vaa #[32]).size <= 9223372036854775807 then (qaD.f k (x44.getD x46.toNat ln0).2.2.2.2.2.1).bind fun t9 => if (((((((x6 ++ t4) ++ t5) ++ t6) ++ t7) ++ (vaa #[32])) ++ t8) ++ (vaa #[32])).size + t9.size <= 9223372036854775807 then if ((((((((x6 ++ t4) ++ t5) ++ t6) ++ t7) ++ (vaa #[32])) ++ t8) ++ (vaa #[32])) ++ t9).size + (vaa #[32]).size <= 9223372036854775807 then if 0 <= x46 /\ x46 < (y1.length : Int) then if x46.toNat < y1.length then (qdG.f k y0_0 y0_1 y0_2 y0_3 (x44.getD x46.toNat ln0).1 (x44.getD x46.toNat ln0).2.1 (x44.getD x46.toNat ln0).2.2.1 (x44.getD x46.toNat ln0).2.2.2.1 (x44.getD x46.toNat ln0).2.2.2.2.1 (x44.getD x46.toNat ln0).2.2.2.2.2.1 (x44.getD x46.toNat ln0).2.2.2.2.2.2 ((y1.getD x46.toNat []).length : Int)).bind fun t10 => if (((((((((x6 ++ t4) ++ t5) ++ t6) ++ t7) ++ (vaa #[32])) ++ t8) ++ (vaa #[32])) ++ t9) ++ (vaa #[32])).size + t10.size <= 9223372036854775807 then if ((((((((((x6 ++ t4) ++ t5) ++ t6) ++ t7) ++ (vaa #[32])) ++ t8) ++ (vaa #[32])) ++ t9) ++ (vaa #[32])) ++ t10).size + (vaa #[10]).size <= 9223372036854775807 then qap.l1 k n (((((((((((x6 ++ t4) ++ t5) ++ t6) ++ t7) ++ (vaa #[32])) ++ t8) ++ (vaa #[32])) ++ t9) ++ (vaa #[32])) ++ t10) ++ (vaa #[10])) x44 x45 (iW.wrap (x46 + 1)) y0_0 y0_1 y0_2 y0_3 y1 else none else none else none else none else none else none else none else none else none else none else none else none else none else none) else some x6
def qap.l2 (k : Nat) : Nat -> ByteArray -> Int -> Int -> LI -> ByteArray -> (List LN) -> LI -> Option (ByteArray)
 | 0,_,_,_,_,_,_,_ => none
 | n + 1,x6,x94,x95,y0_0,y0_1,y0_2,y0_3 => if x95 < x94 then (if x6.size + (vaa #[32]).size <= 9223372036854775807 then if 0 <= x95 /\ x95 < (y0_3.length : Int) then (qaD.f k (y0_3.getD x95.toNat 0)).bind fun t12 => if (x6 ++ (vaa #[32])).size + t12.size <= 9223372036854775807 then qap.l2 k n ((x6 ++ (vaa #[32])) ++ t12) x94 (iW.wrap (x95 + 1)) y0_0 y0_1 y0_2 y0_3 else none else none else none) else some x6
def qap.f (k : Nat) (a0_0 : LI) (a0_1 : ByteArray) (a0_2 : List LN) (a0_3 : LI) : Option (ByteArray × Int) := (qaq.f k a0_0 a0_1 a0_2 a0_3).bind fun t1 => if t1.1 = 0 then (if (a0_1.toList == vab.toList) = true then ((qap.l0 k k (vaa #[109,101,115,104,32,45]) (a0_0.length : Int) 0 a0_0 a0_1 a0_2 a0_3 t1.2).bind fun t14 => if t14.size + (vaa #[10]).size <= 9223372036854775807 then (qap.l1 k k (t14 ++ (vaa #[10])) a0_2 (a0_2.length : Int) 0 a0_0 a0_1 a0_2 a0_3 t1.2).bind fun t15 => if t15.size + (vaa #[111,117,116,115]).size <= 9223372036854775807 then (qap.l2 k k (t15 ++ (vaa #[111,117,116,115])) (a0_3.length : Int) 0 a0_0 a0_1 a0_2 a0_3).bind fun t16 => if t16.size + (vaa #[10]).size <= 9223372036854775807 then if 65536 < ((t16 ++ (vaa #[10])).size : Int) then (some (vab,3)) else some (t16 ++ (vaa #[10]),0) else none else none else none) else if (vaa #[109,101,115,104,32]).size + a0_1.size <= 9223372036854775807 then (qap.l0 k k ((vaa #[109,101,115,104,32]) ++ a0_1) (a0_0.length : Int) 0 a0_0 a0_1 a0_2 a0_3 t1.2).bind fun t3 => if t3.size + (vaa #[10]).size <= 9223372036854775807 then (qap.l1 k k (t3 ++ (vaa #[10])) a0_2 (a0_2.length : Int) 0 a0_0 a0_1 a0_2 a0_3 t1.2).bind fun t11 => if t11.size + (vaa #[111,117,116,115]).size <= 9223372036854775807 then (qap.l2 k k (t11 ++ (vaa #[111,117,116,115])) (a0_3.length : Int) 0 a0_0 a0_1 a0_2 a0_3).bind fun t13 => if t13.size + (vaa #[10]).size <= 9223372036854775807 then if 65536 < ((t13 ++ (vaa #[10])).size : Int) then (some (vab,3)) else some (t13 ++ (vaa #[10]),0) else none else none else none else none) else some (vab,t1.1)
end Go.Pf

namespace Go.Pf
open Go
def qaY.l0 : Nat -> ByteArray -> Int -> Int -> (List ByteArray) -> ByteArray -> Nat -> Option (Int × (List ByteArray))
 | 0,_,_,_,_,_,_ => none
 | n + 1,x0,x1,x6,y0,y1_0,y1_1 => if y1_1 < y1_0.size then (if (((Utf8.decode y1_0 y1_1).1 : Nat) : Int) = x1 then (if 0 <= x6 /\ x6 <= ((y1_1 : Nat) : Int) /\ ((y1_1 : Nat) : Int) <= (x0.size : Int) then if y0.length + [x0.extract x6.toNat ((y1_1 : Nat) : Int).toNat].length <= 281474976710656 /\ (y0.length + [x0.extract x6.toNat ((y1_1 : Nat) : Int).toNat].length) * 16 <= 140737488355328 then qaY.l0 n x0 x1 (iW.wrap (((y1_1 : Nat) : Int) + 1)) (y0 ++ [x0.extract x6.toNat ((y1_1 : Nat) : Int).toNat]) y1_0 (y1_1 + (Utf8.decode y1_0 y1_1).2) else none else none) else qaY.l0 n x0 x1 x6 y0 y1_0 (y1_1 + (Utf8.decode y1_0 y1_1).2)) else some (x6,y0)
def qaY.f (k : Nat) (a0 : ByteArray) (a1 : Int) : Option ((List ByteArray)) := (qaY.l0 k a0 a1 0 [] a0 0).bind fun t1 => if 0 <= t1.1 /\ t1.1 <= (a0.size : Int) /\ (a0.size : Int) <= (a0.size : Int) then if t1.2.length + [a0.extract t1.1.toNat (a0.size : Int).toNat].length <= 281474976710656 /\ (t1.2.length + [a0.extract t1.1.toNat (a0.size : Int).toNat].length) * 16 <= 140737488355328 then some (t1.2 ++ [a0.extract t1.1.toNat (a0.size : Int).toNat]) else none else none
def qcj.f (k : Nat) (a0 : ByteArray) : Option ((List ByteArray)) := (qaY.f k a0 32).bind fun t1 => some t1
def qbk.f (o0_0 : List ByteArray) (o0_1 : Bool) : Option (ByteArray × (List ByteArray) × Bool) := if (o0_0.length : Int) = 0 then (some (vab,o0_0,true)) else if (0 : Int) <= 0 /\ 0 < (o0_0.length : Int) then if ((o0_0.getD 0 vab).toList == vab.toList) = true then (some (vab,o0_0,true)) else if (0 : Int) <= 1 /\ 1 <= (o0_0.length : Int) /\ (o0_0.length : Int) <= (o0_0.length : Int) then some (o0_0.getD 0 vab,(o0_0.take o0_0.length).drop 1,o0_1) else none else none
def qbv.f (a1 : ByteArray) (o0_0 : List ByteArray) (o0_1 : Bool) : Option ((List ByteArray) × Bool) := (qbk.f o0_0 o0_1).bind fun t1 => if (t1.1.toList == a1.toList) = true then (some (t1.2.1,t1.2.2)) else some (t1.2.1,true)
def qcx.f (o0_0 : List ByteArray) (o0_1 : Bool) : Option (ByteArray × (List ByteArray) × Bool) := (qbk.f o0_0 o0_1).bind fun t1 => if (t1.1.toList == (vaa #[45]).toList) = true then (some (vab,t1.2.1,t1.2.2)) else some (t1.1,t1.2.1,t1.2.2)
def qdK.f (a0 : ByteArray) : Option (Int × Bool) := (strconv_ParseInt.f a0 10 64).bind fun t1 => if t1.2 = true then (some (0,false)) else (qcE.f t1.1).bind fun t2 => if (t2.toList == a0.toList) = true then (some (t1.1,true)) else some (0,false)
def qcq.f (a0 : ByteArray) : Option (Int × Bool) := (qdK.f a0).bind fun t1 => some (t1.1,t1.2)
def qcy.f (o0_0 : List ByteArray) (o0_1 : Bool) : Option (Int × (List ByteArray) × Bool) := (qbk.f o0_0 o0_1).bind fun t1 => (qcq.f t1.1).bind fun t2 => if t1.2.2 = true then (some (t2.1,t1.2.1,true)) else some (t2.1,t1.2.1,!t2.2)
def qbX.f (o0_0 : List ByteArray) (o0_1 : Bool) : Option (Int × (List ByteArray) × Bool) := (qcy.f o0_0 o0_1).bind fun t1 => if t1.2.2 = true then (some (t1.1,t1.2.1,true)) else some (t1.1,t1.2.1,!(decide (t1.1 = t1.1)))
def qaI.l0 : Nat -> (List ByteArray) -> Bool -> LI -> Option ((List ByteArray) × Bool × LI)
 | 0,_,_,_ => none
 | n + 1,y0_0,y0_1,y1 => if 0 < (y0_0.length : Int) then (if y0_1 = true then (some (y0_0,y0_1,y1)) else (qbX.f y0_0 y0_1).bind fun t1 => if y1.length + [t1.1].length <= 281474976710656 /\ (y1.length + [t1.1].length) * 8 <= 140737488355328 then qaI.l0 n t1.2.1 t1.2.2 (y1 ++ [t1.1]) else none) else some (y0_0,y0_1,y1)
def qaI.f (k : Nat) (o0_0 : List ByteArray) (o0_1 : Bool) : Option ((List ByteArray) × Bool × LI) := (qaI.l0 k o0_0 o0_1 []).bind fun t2 => some (t2.1,t2.2.1,t2.2.2)
def qbs.l0 : Nat -> ByteArray -> Int -> (List ByteArray) -> Bool -> Option (Unit ⊕ Int)
 | 0,_,_,_,_ => none
 | n + 1,x3,x4,y0_0,y0_1 => if x4 <= 20 then ((qec.f x4).bind fun t2 => if (t2.toList == x3.toList) = true then (some (.inr x4)) else qbs.l0 n x3 (iW.wrap (x4 + 1)) y0_0 y0_1) else some (.inl ())
def qbs.f (k : Nat) (o0_0 : List ByteArray) (o0_1 : Bool) : Option (Int × (List ByteArray) × Bool) := (qbk.f o0_0 o0_1).bind fun t1 => (qbs.l0 k t1.1 1 t1.2.1 t1.2.2).bind fun t3 => Sum.elim (fun t3 => some (0,t1.2.1,true)) (fun t3 => some (t3,t1.2.1,t1.2.2)) t3
def qaM.l0 : Nat -> (List ByteArray) -> Bool -> LI -> Option ((List ByteArray) × Bool × LI)
 | 0,_,_,_ => none
 | n + 1,y0_0,y0_1,y1 => if y0_1 = true then (some (y0_0,y0_1,y1)) else if 0 < (y0_0.length : Int) then (if (0 : Int) <= 0 /\ 0 < (y0_0.length : Int) then if ((y0_0.getD 0 vab).toList == (vaa #[41]).toList) = true then (some (y0_0,y0_1,y1)) else (qbX.f y0_0 y0_1).bind fun t2 => if y1.length + [t2.1].length <= 281474976710656 /\ (y1.length + [t2.1].length) * 8 <= 140737488355328 then qaM.l0 n t2.2.1 t2.2.2 (y1 ++ [t2.1]) else none else none) else some (y0_0,y0_1,y1)
def qaM.f (k : Nat) (o0_0 : List ByteArray) (o0_1 : Bool) : Option ((List ByteArray) × Bool × LI) := (qbv.f (vaa #[40]) o0_0 o0_1).bind fun t1 => (qaM.l0 k t1.1 t1.2 []).bind fun t3 => (qbv.f (vaa #[41]) t3.1 t3.2.1).bind fun t4 => some (t4.1,t4.2,t3.2.2)
def qcR.f (k : Nat) (o0_0 : List ByteArray) (o0_1 : Bool) : Option (Int × Int × Int × ByteArray × (List ByteArray) × Bool × LI × LI × LI) := (qbs.f k o0_0 o0_1).bind fun t1 => (qaM.f k t1.2.1 t1.2.2).bind fun t2 => (qaM.f k t2.1 t2.2.1).bind fun t3 => (qaM.f k t3.1 t3.2.1).bind fun t4 => (qcy.f t4.1 t4.2.1).bind fun t5 => (qbX.f t5.2.1 t5.2.2).bind fun t6 => (qcx.f t6.2.1 t6.2.2).bind fun t7 => if t7.2.2 = true then (some (t1.1,t5.1,t6.1,t7.1,t7.2.1,true,t2.2.2,t3.2.2,t4.2.2)) else some (t1.1,t5.1,t6.1,t7.1,t7.2.1,decide (0 < (t7.2.1.length : Int)),t2.2.2,t3.2.2,t4.2.2)
def qbr.l0 (k : Nat) : Nat -> Bool -> (List ByteArray) -> Int -> Int -> ByteArray -> ByteArray -> (List ByteArray) -> Bool -> (List ByteArray) -> Bool -> LI -> (List LN) -> Option (Bool × (List LN))
 | 0,_,_,_,_,_,_,_,_,_,_,_,_ => none
 | n + 1,x8,x68,x69,x70,y0,y1,y2_0,y2_1,y3_0,y3_1,y4,y5 => if x70 < x69 then (if 0 <= x70 /\ x70 < (x68.length : Int) then (qcj.f k (x68.getD x70.toNat vab)).bind fun t7 => (qcR.f k t7 false).bind fun t8 => if y5.length + [(t8.1,(t8.2.2.2.2.2.2.1,(t8.2.2.2.2.2.2.2.1,(t8.2.2.2.2.2.2.2.2,(t8.2.1,(t8.2.2.1,t8.2.2.2.1))))))].length <= 281474976710656 /\ (y5.length + [(t8.1,(t8.2.2.2.2.2.2.1,(t8.2.2.2.2.2.2.2.1,(t8.2.2.2.2.2.2.2.2,(t8.2.1,(t8.2.2.1,t8.2.2.2.1))))))].length) * 112 <= 140737488355328 then if x8 = true then (qbr.l0 k n true x68 x69 (iW.wrap (x70 + 1)) y0 y1 y2_0 y2_1 y3_0 y3_1 y4 (y5 ++ [(t8.1,(t8.2.2.2.2.2.2.1,(t8.2.2.2.2.2.2.2.1,(t8.2.2.2.2.2.2.2.2,(t8.2.1,(t8.2.2.1,t8.2.2.2.1))))))])) else qbr.l0 k n t8.2.2.2.2.2.1 x68 x69 (iW.wrap (x70 + 1)) y0 y1 y2_0 y2_1 y3_0 y3_1 y4 (y5 ++ [(t8.1,(t8.2.2.2.2.2.2.1,(t8.2.2.2.2.2.2.2.1,(t8.2.2.2.2.2.2.2.2,(t8.2.1,(t8.2.2.1,t8.2.2.2.1))))))]) else none else none) else some (x8,y5)
def qbr.f (k : Nat) (a0 : ByteArray) : Option (ByteArray × Bool × LI × (List LN) × LI) := (qaY.f k a0 10).bind fun t1 => if (t1.length : Int) < 3 then (some (vab,false,[],[],[])) else if 0 <= iW.wrap ((t1.length : Int) - 1) /\ iW.wrap ((t1.length : Int) - 1) < (t1.length : Int) then if ((t1.getD (iW.wrap ((t1.length : Int) - 1)).toNat vab).toList == vab.toList) = true then (if 0 <= ((0 : Nat) : Int) /\ ((0 : Nat) : Int) <= iW.wrap ((t1.length : Int) - 1) /\ iW.wrap ((t1.length : Int) - 1) <= (t1.length : Int) then if (0 : Int) <= 0 /\ 0 < (((t1.take (iW.wrap ((t1.length : Int) - 1)).toNat).drop 0).length : Int) then (qcj.f k (((t1.take (iW.wrap ((t1.length : Int) - 1)).toNat).drop 0).getD 0 vab)).bind fun t2 => if 0 <= iW.wrap ((((t1.take (iW.wrap ((t1.length : Int) - 1)).toNat).drop 0).length : Int) - 1) /\ iW.wrap ((((t1.take (iW.wrap ((t1.length : Int) - 1)).toNat).drop 0).length : Int) - 1) < (((t1.take (iW.wrap ((t1.length : Int) - 1)).toNat).drop 0).length : Int) then (qcj.f k (((t1.take (iW.wrap ((t1.length : Int) - 1)).toNat).drop 0).getD (iW.wrap ((((t1.take (iW.wrap ((t1.length : Int) - 1)).toNat).drop 0).length : Int) - 1)).toNat vab)).bind fun t3 => (qbv.f (vaa #[109,101,115,104]) t2 false).bind fun t4 => (qcx.f t4.1 t4.2).bind fun t5 => (qaI.f k t5.2.1 t5.2.2).bind fun t6 => if (t5.1.toList == vab.toList) = true then (if (0 : Int) <= 1 /\ 1 <= iW.wrap ((((t1.take (iW.wrap ((t1.length : Int) - 1)).toNat).drop 0).length : Int) - 1) /\ iW.wrap ((((t1.take (iW.wrap ((t1.length : Int) - 1)).toNat).drop 0).length : Int) - 1) <= (((t1.take (iW.wrap ((t1.length : Int) - 1)).toNat).drop 0).length : Int) then (qbr.l0 k k (decide (0 < (t6.2.2.length : Int))) ((((t1.take (iW.wrap ((t1.length : Int) - 1)).toNat).drop 0).take (iW.wrap ((((t1.take (iW.wrap ((t1.length : Int) - 1)).toNat).drop 0).length : Int) - 1)).toNat).drop 1) (((((t1.take (iW.wrap ((t1.length : Int) - 1)).toNat).drop 0).take (iW.wrap ((((t1.take (iW.wrap ((t1.length : Int) - 1)).toNat).drop 0).length : Int) - 1)).toNat).drop 1).length : Int) 0 vab t5.1 t6.1 t6.2.1 t3 false t6.2.2 []).bind fun t9 => (qbv.f (vaa #[111,117,116,115]) t3 false).bind fun t10 => (qaI.f k t10.1 t10.2).bind fun t11 => if t9.1 = true then (some (t5.1,false,t6.2.2,t9.2,t11.2.2)) else if t6.2.1 = true then (some (t5.1,false,t6.2.2,t9.2,t11.2.2)) else some (t5.1,!t11.2.1,t6.2.2,t9.2,t11.2.2) else none) else if (0 : Int) <= 1 /\ 1 <= iW.wrap ((((t1.take (iW.wrap ((t1.length : Int) - 1)).toNat).drop 0).length : Int) - 1) /\ iW.wrap ((((t1.take (iW.wrap ((t1.length : Int) - 1)).toNat).drop 0).length : Int) - 1) <= (((t1.take (iW.wrap ((t1.length : Int) - 1)).toNat).drop 0).length : Int) then (qbr.l0 k k false ((((t1.take (iW.wrap ((t1.length : Int) - 1)).toNat).drop 0).take (iW.wrap ((((t1.take (iW.wrap ((t1.length : Int) - 1)).toNat).drop 0).length : Int) - 1)).toNat).drop 1) (((((t1.take (iW.wrap ((t1.length : Int) - 1)).toNat).drop 0).take (iW.wrap ((((t1.take (iW.wrap ((t1.length : Int) - 1)).toNat).drop 0).length : Int) - 1)).toNat).drop 1).length : Int) 0 vab t5.1 t6.1 t6.2.1 t3 false t6.2.2 []).bind fun t12 => (qbv.f (vaa #[111,117,116,115]) t3 false).bind fun t13 => (qaI.f k t13.1 t13.2).bind fun t14 => if t12.1 = true then (some (t5.1,false,t6.2.2,t12.2,t14.2.2)) else if t6.2.1 = true then (some (t5.1,false,t6.2.2,t12.2,t14.2.2)) else some (t5.1,!t14.2.1,t6.2.2,t12.2,t14.2.2) else none else none else none else none) else some (vab,false,[],[],[]) else none
def qcY.f (k : Nat) (a0 : ByteArray) : Option (LI × ByteArray × (List LN) × LI × Int) := if 65536 < (a0.size : Int) then (some ([],vab,[],[],3)) else (qbr.f k a0).bind fun t1 => if t1.2.1 = true then ((qdW.f k t1.2.2.1 t1.1 t1.2.2.2.1 t1.2.2.2.2).bind fun t2 => if t2 = 0 then ((qbb.f k t1.2.2.1 t1.1 t1.2.2.2.1 t1.2.2.2.2).bind fun t3 => if t3.2 = 0 then (if (t3.1.toList == a0.toList) = true then (some (t1.2.2.1,t1.1,t1.2.2.2.1,t1.2.2.2.2,0)) else some ([],vab,[],[],12)) else some ([],vab,[],[],12)) else some ([],vab,[],[],t2)) else some ([],vab,[],[],12)
def qbJ.l0 : Nat -> ByteArray -> Int -> Int -> (List ByteArray) -> Option (Int × (List ByteArray))
 | 0,_,_,_,_ => none
 | n + 1,x0,x5,x6,y0 => if x6 < (x0.size : Int) then (if 0 <= x6 /\ x6 < (x0.size : Int) then if ((x0.data.getD x6.toNat 0).toNat : Int) = 10 then (if 0 <= x5 /\ x5 <= x6 /\ x6 <= (x0.size : Int) then if y0.length + [x0.extract x5.toNat x6.toNat].length <= 281474976710656 /\ (y0.length + [x0.extract x5.toNat x6.toNat].length) * 16 <= 140737488355328 then qbJ.l0 n x0 (iW.wrap (x6 + 1)) (iW.wrap (x6 + 1)) (y0 ++ [x0.extract x5.toNat x6.toNat]) else none else none) else qbJ.l0 n x0 x5 (iW.wrap (x6 + 1)) y0 else none) else some (x5,y0)
def qbJ.f (k : Nat) (a0 : ByteArray) : Option (Bool × (List ByteArray)) := (qbJ.l0 k a0 0 0 []).bind fun t1 => some (decide (t1.1 = (a0.size : Int)),t1.2)
def qa6.l0 : Nat -> ByteArray -> Int -> Int -> (List ByteArray) -> Option (Int × (List ByteArray))
 | 0,_,_,_,_ => none
 | n + 1,x0,x4,x5,y0 => if x5 < (x0.size : Int) then (if 0 <= x5 /\ x5 < (x0.size : Int) then if ((x0.data.getD x5.toNat 0).toNat : Int) = 32 then (if 0 <= x4 /\ x4 <= x5 /\ x5 <= (x0.size : Int) then if y0.length + [x0.extract x4.toNat x5.toNat].length <= 281474976710656 /\ (y0.length + [x0.extract x4.toNat x5.toNat].length) * 16 <= 140737488355328 then qa6.l0 n x0 (iW.wrap (x5 + 1)) (iW.wrap (x5 + 1)) (y0 ++ [x0.extract x4.toNat x5.toNat]) else none else none) else qa6.l0 n x0 x4 (iW.wrap (x5 + 1)) y0 else none) else some (x4,y0)
def qa6.f (k : Nat) (a0 : ByteArray) : Option ((List ByteArray)) := (qa6.l0 k a0 0 0 []).bind fun t1 => if 0 <= t1.1 /\ t1.1 <= (a0.size : Int) /\ (a0.size : Int) <= (a0.size : Int) then if t1.2.length + [a0.extract t1.1.toNat (a0.size : Int).toNat].length <= 281474976710656 /\ (t1.2.length + [a0.extract t1.1.toNat (a0.size : Int).toNat].length) * 16 <= 140737488355328 then some (t1.2 ++ [a0.extract t1.1.toNat (a0.size : Int).toNat]) else none else none
def qaB.f (o0_0 : List ByteArray) (o0_1 : Bool) : Option (ByteArray × (List ByteArray) × Bool) := if (o0_0.length : Int) = 0 then (some (vab,o0_0,true)) else if (0 : Int) <= 0 /\ 0 < (o0_0.length : Int) then if (0 : Int) <= 1 /\ 1 <= (o0_0.length : Int) /\ (o0_0.length : Int) <= (o0_0.length : Int) then some (o0_0.getD 0 vab,(o0_0.take o0_0.length).drop 1,o0_1) else none else none
def qaz.l0 : Nat -> ByteArray -> Int -> Int -> Option (Int ⊕ (Int × Bool))
 | 0,_,_,_ => none
 | n + 1,x0,x4,x5 => if x5 < (x0.size : Int) then (if x5 = 0 then (if (0 : Int) <= 0 /\ 0 < (x0.size : Int) then if ((x0.data.getD 0 0).toNat : Int) = 45 then (qaz.l0 n x0 x4 (iW.wrap (x5 + 1))) else if 0 <= x5 /\ x5 < (x0.size : Int) then if ((x0.data.getD x5.toNat 0).toNat : Int) < 48 then (some (.inr (0,false))) else if 57 < ((x0.data.getD x5.toNat 0).toNat : Int) then (some (.inr (0,false))) else qaz.l0 n x0 (iW.wrap ((iW.wrap (x4 * 10)) - (iW.wrap (IntKind.u8.wrap (((x0.data.getD x5.toNat 0).toNat : Int) - 48))))) (iW.wrap (x5 + 1)) else none else none) else if 0 <= x5 /\ x5 < (x0.size : Int) then if ((x0.data.getD x5.toNat 0).toNat : Int) < 48 then (some (.inr (0,false))) else if 57 < ((x0.data.getD x5.toNat 0).toNat : Int) then (some (.inr (0,false))) else qaz.l0 n x0 (iW.wrap ((iW.wrap (x4 * 10)) - (iW.wrap (IntKind.u8.wrap (((x0.data.getD x5.toNat 0).toNat : Int) - 48))))) (iW.wrap (x5 + 1)) else none) else some (.inl x4)
def qaz.f (k : Nat) (a0 : ByteArray) : Option (Int × Bool) := if (a0.size : Int) < 1 then (some (0,false)) else if 20 < (a0.size : Int) then (some (0,false)) else (qaz.l0 k a0 0 0).bind fun t1 => Sum.elim (fun t1 => if (0 : Int) <= 0 /\ 0 < (a0.size : Int) then if ((a0.data.getD 0 0).toNat : Int) = 45 then ((qaD.f k t1).bind fun t3 => if (t3.toList == a0.toList) = true then (some (t1,true)) else some (0,false)) else (qaD.f k (iW.wrap (0 - t1))).bind fun t2 => if (t2.toList == a0.toList) = true then (some (iW.wrap (0 - t1),true)) else some (0,false) else none) (fun t1 => some (t1.1,t1.2)) t1
def qbm.f (k : Nat) (o0_0 : List ByteArray) (o0_1 : Bool) : Option (Int × (List ByteArray) × Bool) := (qaB.f o0_0 o0_1).bind fun t1 => (qaz.f k t1.1).bind fun t2 => if t1.2.2 = true then (some (t2.1,t1.2.1,true)) else some (t2.1,t1.2.1,!t2.2)
def qao.l0 (k : Nat) : Nat -> (List ByteArray) -> Bool -> LI -> Option ((List ByteArray) × Bool × LI)
 | 0,_,_,_ => none
 | n + 1,y0_0,y0_1,y1 => if 0 < (y0_0.length : Int) then (if y0_1 = true then (some (y0_0,y0_1,y1)) else (qbm.f k y0_0 y0_1).bind fun t1 => if y1.length + [t1.1].length <= 281474976710656 /\ (y1.length + [t1.1].length) * 8 <= 140737488355328 then qao.l0 k n t1.2.1 t1.2.2 (y1 ++ [t1.1]) else none) else some (y0_0,y0_1,y1)
def qao.f (k : Nat) (o0_0 : List ByteArray) (o0_1 : Bool) : Option ((List ByteArray) × Bool × LI) := (qao.l0 k k o0_0 o0_1 []).bind fun t2 => some (t2.1,t2.2.1,t2.2.2)
def qcr.l0 : Nat -> ByteArray -> Int -> Int -> (List ByteArray) -> Option (Unit ⊕ Int)
 | 0,_,_,_,_ => none
 | n + 1,x0,x6,x7,y0 => if x7 < x6 then (if 0 <= x7 /\ x7 < (y0.length : Int) then if x7.toNat < y0.length then if 0 < x7 then (if ((y0.getD x7.toNat vab).toList == x0.toList) = true then (some (.inr x7)) else qcr.l0 n x0 x6 (iW.wrap (x7 + 1)) y0) else qcr.l0 n x0 x6 (iW.wrap (x7 + 1)) y0 else none else none) else some (.inl ())
def qcr.f (k : Nat) (a0 : ByteArray) : Option (Int) := (qcX.f).bind fun t1 => (qcr.l0 k a0 (t1.length : Int) 0 t1).bind fun t2 => Sum.elim (fun t2 => some 0) (fun t2 => some t2) t2
def qat.l0 (k : Nat) : Nat -> (List ByteArray) -> Bool -> LI -> Option ((List ByteArray) × Bool × LI)
 | 0,_,_,_ => none
 | n + 1,y0_0,y0_1,y1 => if y0_1 = true then (some (y0_0,y0_1,y1)) else (qaB.f y0_0 y0_1).bind fun t2 => if (t2.1.toList == (vaa #[41]).toList) = true then (some (t2.2.1,t2.2.2,y1)) else (qaz.f k t2.1).bind fun t3 => if t2.2.2 = true then (if y1.length + [t3.1].length <= 281474976710656 /\ (y1.length + [t3.1].length) * 8 <= 140737488355328 then qat.l0 k n t2.2.1 true (y1 ++ [t3.1]) else none) else if y1.length + [t3.1].length <= 281474976710656 /\ (y1.length + [t3.1].length) * 8 <= 140737488355328 then qat.l0 k n t2.2.1 (!t3.2) (y1 ++ [t3.1]) else none
def qat.f (k : Nat) (o0_0 : List ByteArray) (o0_1 : Bool) : Option ((List ByteArray) × Bool × LI) := (qaB.f o0_0 o0_1).bind fun t1 => if (t1.1.toList == (vaa #[40]).toList) = true then ((qat.l0 k k t1.2.1 t1.2.2 []).bind fun t5 => some (t5.1,t5.2.1,t5.2.2)) else (qat.l0 k k t1.2.1 true []).bind fun t4 => some (t4.1,t4.2.1,t4.2.2)
def qej.f (k : Nat) (a0 : ByteArray) : Option (Int × Int × Int × ByteArray × Bool × LI × LI × LI) := (qa6.f k a0).bind fun t1 => (qaB.f t1 false).bind fun t2 => (qcr.f k t2.1).bind fun t3 => (qat.f k t2.2.1 t2.2.2).bind fun t4 => (qat.f k t4.1 t4.2.1).bind fun t5 => (qat.f k t5.1 t5.2.1).bind fun t6 => (qbm.f k t6.1 t6.2.1).bind fun t7 => (qbm.f k t7.2.1 t7.2.2).bind fun t8 => (qaB.f t8.2.1 t8.2.2).bind fun t9 => if t9.2.2 = true then (if (t9.1.toList == (vaa #[45]).toList) = true then (if 0 < t3 then (some (t3,t7.1,t8.1,vab,false,t4.2.2,t5.2.2,t6.2.2)) else some (t3,t7.1,t8.1,vab,false,t4.2.2,t5.2.2,t6.2.2)) else if 0 < t3 then (some (t3,t7.1,t8.1,t9.1,false,t4.2.2,t5.2.2,t6.2.2)) else some (t3,t7.1,t8.1,t9.1,false,t4.2.2,t5.2.2,t6.2.2)) else if (t9.1.toList == (vaa #[45]).toList) = true then (if 0 < t3 then (if (t9.1.toList == vab.toList) = true then (some (t3,t7.1,t8.1,vab,false,t4.2.2,t5.2.2,t6.2.2)) else some (t3,t7.1,t8.1,vab,decide ((t9.2.1.length : Int) = 0),t4.2.2,t5.2.2,t6.2.2)) else some (t3,t7.1,t8.1,vab,false,t4.2.2,t5.2.2,t6.2.2)) else if 0 < t3 then (if (t9.1.toList == vab.toList) = true then (some (t3,t7.1,t8.1,t9.1,false,t4.2.2,t5.2.2,t6.2.2)) else some (t3,t7.1,t8.1,t9.1,decide ((t9.2.1.length : Int) = 0),t4.2.2,t5.2.2,t6.2.2)) else some (t3,t7.1,t8.1,t9.1,false,t4.2.2,t5.2.2,t6.2.2)
def qdd.f (k : Nat) (a0_0 : LI) (a0_1 : ByteArray) (a0_2 : List LN) (a0_3 : LI) : Option (Int) := (qaq.f k a0_0 a0_1 a0_2 a0_3).bind fun t1 => some t1.1
def qbd.l0 (k : Nat) : Nat -> ByteArray -> Int -> ByteArray -> (List ByteArray) -> ByteArray -> LI -> (List LN) -> Option ((List LN) ⊕ (Int × ByteArray))
 | 0,_,_,_,_,_,_,_ => none
 | n + 1,x0,x8,y0,y1,y2,y3,y4 => if x8 < iW.wrap ((y1.length : Int) - 1) then (if 0 <= x8 /\ x8 < (y1.length : Int) then if x8.toNat < y1.length then (qej.f k (y1.getD x8.toNat vab)).bind fun t6 => if t6.2.2.2.2.1 = true then (if y4.length + [(t6.1,(t6.2.2.2.2.2.1,(t6.2.2.2.2.2.2.1,(t6.2.2.2.2.2.2.2,(t6.2.1,(t6.2.2.1,t6.2.2.2.1))))))].length <= 281474976710656 /\ (y4.length + [(t6.1,(t6.2.2.2.2.2.1,(t6.2.2.2.2.2.2.1,(t6.2.2.2.2.2.2.2,(t6.2.1,(t6.2.2.1,t6.2.2.2.1))))))].length) * 112 <= 140737488355328 then qbd.l0 k n x0 (iW.wrap (x8 + 1)) y0 y1 y2 y3 (y4 ++ [(t6.1,(t6.2.2.2.2.2.1,(t6.2.2.2.2.2.2.1,(t6.2.2.2.2.2.2.2,(t6.2.1,(t6.2.2.1,t6.2.2.2.1))))))]) else none) else some (.inr (12,vab)) else none else none) else some (.inl y4)
def qbd.f (k : Nat) (a0 : ByteArray) : Option (ByteArray × Int × LI × (List LN) × LI) := if 65536 < (a0.size : Int) then (some (vab,3,[],[],[])) else (qbJ.f k a0).bind fun t1 => if t1.1 = true then (if (t1.2.length : Int) < 2 then (some (vab,12,[],[],[])) else if (0 : Int) <= 0 /\ 0 < (t1.2.length : Int) then if 0 < t1.2.length then (qa6.f k (t1.2.getD 0 vab)).bind fun t2 => (qaB.f t2 false).bind fun t3 => (qaB.f t3.2.1 t3.2.2).bind fun t4 => if (t3.1.toList == (vaa #[109,101,115,104]).toList) = true then ((qao.f k t4.2.1 t4.2.2).bind fun t5 => if (t4.1.toList == (vaa #[45]).toList) = true then (if (t4.1.toList == vab.toList) = true then (some (vab,12,[],[],[])) else if (t5.2.2.length : Int) = 0 then (if t5.2.1 = true then (some (vab,12,[],[],[])) else (qbd.l0 k k a0 1 vab t1.2 vab t5.2.2 []).bind fun t7 => Sum.elim (fun t7 => if 0 <= iW.wrap ((t1.2.length : Int) - 1) /\ iW.wrap ((t1.2.length : Int) - 1) < (t1.2.length : Int) then if (iW.wrap ((t1.2.length : Int) - 1)).toNat < t1.2.length then (qa6.f k (t1.2.getD (iW.wrap ((t1.2.length : Int) - 1)).toNat vab)).bind fun t8 => (qaB.f t8 false).bind fun t9 => if (t9.1.toList == (vaa #[111,117,116,115]).toList) = true then ((qao.f k t9.2.1 t9.2.2).bind fun t10 => if t10.2.1 = true then (some (vab,12,[],[],[])) else (qdd.f k t5.2.2 vab t7 t10.2.2).bind fun t11 => if t11 = 0 then ((qap.f k t5.2.2 vab t7 t10.2.2).bind fun t12 => if (t12.1.toList == a0.toList) = true then (some (vab,0,t5.2.2,t7,t10.2.2)) else some (vab,12,[],[],[])) else some (vab,t11,[],[],[])) else some (vab,12,[],[],[]) else none else none) (fun t7 => some (t7.2,t7.1,[],[],[])) t7) else some (vab,12,[],[],[])) else if (!(t4.1.toList == vab.toList)) = true then (if t5.2.1 = true then (some (vab,12,[],[],[])) else (qbd.l0 k k a0 1 vab t1.2 t4.1 t5.2.2 []).bind fun t13 => Sum.elim (fun t13 => if 0 <= iW.wrap ((t1.2.length : Int) - 1) /\ iW.wrap ((t1.2.length : Int) - 1) < (t1.2.length : Int) then if (iW.wrap ((t1.2.length : Int) - 1)).toNat < t1.2.length then (qa6.f k (t1.2.getD (iW.wrap ((t1.2.length : Int) - 1)).toNat vab)).bind fun t14 => (qaB.f t14 false).bind fun t15 => if (t15.1.toList == (vaa #[111,117,116,115]).toList) = true then ((qao.f k t15.2.1 t15.2.2).bind fun t16 => if t16.2.1 = true then (some (vab,12,[],[],[])) else (qdd.f k t5.2.2 t4.1 t13 t16.2.2).bind fun t17 => if t17 = 0 then ((qap.f k t5.2.2 t4.1 t13 t16.2.2).bind fun t18 => if (t18.1.toList == a0.toList) = true then (some (t4.1,0,t5.2.2,t13,t16.2.2)) else some (vab,12,[],[],[])) else some (vab,t17,[],[],[])) else some (vab,12,[],[],[]) else none else none) (fun t13 => some (t13.2,t13.1,[],[],[])) t13) else some (vab,12,[],[],[])) else (qao.f k t4.2.1 t4.2.2).bind fun t19 => if (t4.1.toList == (vaa #[45]).toList) = true then (some (vab,12,[],[],[])) else some (vab,12,[],[],[]) else none else none) else some (vab,12,[],[],[])
def qaA.f (k : Nat) (a0 : ByteArray) : Option (Bool) := (qcY.f k a0).bind fun t1 => (qbd.f k a0).bind fun t2 => if t1.2.2.2.2 = t2.2.1 then ((qb6.f k t1.1 t1.2.1 t1.2.2.1 t1.2.2.2.1 t2.2.2.1 t2.1 t2.2.2.2.1 t2.2.2.2.2).bind fun t3 => some t3) else some false
def qaR.l0 : Nat -> (List ByteArray) -> (List ByteArray) -> Int -> Int -> Option (Unit ⊕ Bool)
 | 0,_,_,_,_ => none
 | n + 1,x3,x4,x40,x41 => if x41 < x40 then (if 0 <= x41 /\ x41 < (x3.length : Int) then if 0 <= x41 /\ x41 < (x4.length : Int) then if ((x3.getD x41.toNat vab).toList == (x4.getD x41.toNat vab).toList) = true then (qaR.l0 n x3 x4 x40 (iW.wrap (x41 + 1))) else some (.inr false) else none else none) else some (.inl ())
def qaR.f (k : Nat) (a0 : ByteArray) : Option (Bool) := (qcj.f k a0).bind fun t1 => (qa6.f k a0).bind fun t2 => (qcq.f a0).bind fun t3 => (qaz.f k a0).bind fun t4 => if (t1.length : Int) = (t2.length : Int) then (if t3.1 = t4.1 then (if (t3.2 == t4.2) = true then ((qaR.l0 k t1 t2 (t1.length : Int) 0).bind fun t5 => Sum.elim (fun t5 => some true) (fun t5 => some t5) t5) else some false) else some false) else some false
def qct.f (k : Nat) : Option (Bool) := (qcY.f k (vaa #[109,101,115,104,32,45,10,111,117,116,115,10])).bind fun t1 => (qcY.f k vab).bind fun t2 => (qcq.f (vaa #[45,55])).bind fun t3 => (qcq.f (vaa #[48,49])).bind fun t4 => if t1.2.2.2.2 = 0 then (if (t1.2.2.1.length : Int) = 0 then (if t2.2.2.2.2 = 12 then (if t3.1 = -7 then (if t3.2 = true then (if t4.2 = true then (some false) else (qcj.f k (vaa #[97,32,32,98])).bind fun t5 => if (t5.length : Int) = 3 then ((qcj.f k vab).bind fun t6 => some (decide ((t6.length : Int) = 1))) else some false) else some false) else some false) else some false) else some false) else some false
def qcV.f (k : Nat) (a0 : LI) (a1 : List (Int × Int × Int × Int × ByteArray)) (a2 : Int) (a3 : Int) (a4 : ByteArray) (a5 : ByteArray) : Option (Bool) := (qar.f k a0).bind fun t1 => (qb3.f k t1.2.1 t1.1 t1.2.2.1 t1.2.2.2 a1).bind fun t2 => (qap.f k t2.1 t2.2.1 t2.2.2.1 t2.2.2.2).bind fun t3 => if 6 < (a4.size : Int) then (if 0 <= ((0 : Nat) : Int) /\ ((0 : Nat) : Int) <= 6 /\ 6 <= (a4.size : Int) then if 100 < (a5.size : Int) then (if 0 <= ((0 : Nat) : Int) /\ ((0 : Nat) : Int) <= 100 /\ 100 <= (a5.size : Int) then (qbo.f a2 0 (t3.1.size : Int)).bind fun t4 => (qaA.f k t3.1).bind fun t5 => if t5 = true then (if 0 <= ((0 : Nat) : Int) /\ ((0 : Nat) : Int) <= t4 /\ t4 <= (t3.1.size : Int) then if (t3.1.extract ((0 : Nat) : Int).toNat t4.toNat).size + (a4.extract ((0 : Nat) : Int).toNat 6).size <= 9223372036854775807 then if 0 <= (if (t3.1.size : Int) < iW.wrap (t4 + (bits .and .i64 a3 3)) then (t3.1.size : Int) else iW.wrap (t4 + (bits .and .i64 a3 3))) /\ (if (t3.1.size : Int) < iW.wrap (t4 + (bits .and .i64 a3 3)) then (t3.1.size : Int) else iW.wrap (t4 + (bits .and .i64 a3 3))) <= (t3.1.size : Int) /\ (t3.1.size : Int) <= (t3.1.size : Int) then if ((t3.1.extract ((0 : Nat) : Int).toNat t4.toNat) ++ (a4.extract ((0 : Nat) : Int).toNat 6)).size + (t3.1.extract (if (t3.1.size : Int) < iW.wrap (t4 + (bits .and .i64 a3 3)) then (t3.1.size : Int) else iW.wrap (t4 + (bits .and .i64 a3 3))).toNat (t3.1.size : Int).toNat).size <= 9223372036854775807 then (qaA.f k (((t3.1.extract ((0 : Nat) : Int).toNat t4.toNat) ++ (a4.extract ((0 : Nat) : Int).toNat 6)) ++ (t3.1.extract (if (t3.1.size : Int) < iW.wrap (t4 + (bits .and .i64 a3 3)) then (t3.1.size : Int) else iW.wrap (t4 + (bits .and .i64 a3 3))).toNat (t3.1.size : Int).toNat))).bind fun t6 => if t6 = true then (if (t3.1.extract ((0 : Nat) : Int).toNat t4.toNat).size + (t3.1.extract (if (t3.1.size : Int) < iW.wrap (t4 + (bits .and .i64 a3 3)) then (t3.1.size : Int) else iW.wrap (t4 + (bits .and .i64 a3 3))).toNat (t3.1.size : Int).toNat).size <= 9223372036854775807 then (qaA.f k ((t3.1.extract ((0 : Nat) : Int).toNat t4.toNat) ++ (t3.1.extract (if (t3.1.size : Int) < iW.wrap (t4 + (bits .and .i64 a3 3)) then (t3.1.size : Int) else iW.wrap (t4 + (bits .and .i64 a3 3))).toNat (t3.1.size : Int).toNat))).bind fun t7 => if t7 = true then ((qaA.f k (a5.extract ((0 : Nat) : Int).toNat 100)).bind fun t8 => if t8 = true then (if (vaa #[109,101,115,104,32,45,10]).size + (a5.extract ((0 : Nat) : Int).toNat 100).size <= 9223372036854775807 then (qaA.f k ((vaa #[109,101,115,104,32,45,10]) ++ (a5.extract ((0 : Nat) : Int).toNat 100))).bind fun t9 => if t9 = true then (if (vaa #[109,101,115,104,32,120,32,50,10]).size + (a5.extract ((0 : Nat) : Int).toNat 100).size <= 9223372036854775807 then if ((vaa #[109,101,115,104,32,120,32,50,10]) ++ (a5.extract ((0 : Nat) : Int).toNat 100)).size + (vaa #[10,111,117,116,115,10]).size <= 9223372036854775807 then (qaA.f k (((vaa #[109,101,115,104,32,120,32,50,10]) ++ (a5.extract ((0 : Nat) : Int).toNat 100)) ++ (vaa #[10,111,117,116,115,10]))).bind fun t10 => if t10 = true then ((qaR.f k (a5.extract ((0 : Nat) : Int).toNat 100)).bind fun t11 => if t11 = true then ((qaR.f k (a4.extract ((0 : Nat) : Int).toNat 6)).bind fun t12 => if t12 = true then ((qct.f k).bind fun t13 => some t13) else some false) else some false) else some false else none else none) else some false else none) else some false) else some false else none) else some false else none else none else none else none) else some false else none) else (qbo.f a2 0 (t3.1.size : Int)).bind fun t14 => (qaA.f k t3.1).bind fun t15 => if t15 = true then (if 0 <= ((0 : Nat) : Int) /\ ((0 : Nat) : Int) <= t14 /\ t14 <= (t3.1.size : Int) then if (t3.1.extract ((0 : Nat) : Int).toNat t14.toNat).size + (a4.extract ((0 : Nat) : Int).toNat 6).size <= 9223372036854775807 then if 0 <= (if (t3.1.size : Int) < iW.wrap (t14 + (bits .and .i64 a3 3)) then (t3.1.size : Int) else iW.wrap (t14 + (bits .and .i64 a3 3))) /\ (if (t3.1.size : Int) < iW.wrap (t14 + (bits .and .i64 a3 3)) then (t3.1.size : Int) else iW.wrap (t14 + (bits .and .i64 a3 3))) <= (t3.1.size : Int) /\ (t3.1.size : Int) <= (t3.1.size : Int) then if ((t3.1.extract ((0 : Nat) : Int).toNat t14.toNat) ++ (a4.extract ((0 : Nat) : Int).toNat 6)).size + (t3.1.extract (if (t3.1.size : Int) < iW.wrap (t14 + (bits .and .i64 a3 3)) then (t3.1.size : Int) else iW.wrap (t14 + (bits .and .i64 a3 3))).toNat (t3.1.size : Int).toNat).size <= 9223372036854775807 then (qaA.f k (((t3.1.extract ((0 : Nat) : Int).toNat t14.toNat) ++ (a4.extract ((0 : Nat) : Int).toNat 6)) ++ (t3.1.extract (if (t3.1.size : Int) < iW.wrap (t14 + (bits .and .i64 a3 3)) then (t3.1.size : Int) else iW.wrap (t14 + (bits .and .i64 a3 3))).toNat (t3.1.size : Int).toNat))).bind fun t16 => if t16 = true then (if (t3.1.extract ((0 : Nat) : Int).toNat t14.toNat).size + (t3.1.extract (if (t3.1.size : Int) < iW.wrap (t14 + (bits .and .i64 a3 3)) then (t3.1.size : Int) else iW.wrap (t14 + (bits .and .i64 a3 3))).toNat (t3.1.size : Int).toNat).size <= 9223372036854775807 then (qaA.f k ((t3.1.extract ((0 : Nat) : Int).toNat t14.toNat) ++ (t3.1.extract (if (t3.1.size : Int) < iW.wrap (t14 + (bits .and .i64 a3 3)) then (t3.1.size : Int) else iW.wrap (t14 + (bits .and .i64 a3 3))).toNat (t3.1.size : Int).toNat))).bind fun t17 => if t17 = true then ((qaA.f k a5).bind fun t18 => if t18 = true then (if (vaa #[109,101,115,104,32,45,10]).size + a5.size <= 9223372036854775807 then (qaA.f k ((vaa #[109,101,115,104,32,45,10]) ++ a5)).bind fun t19 => if t19 = true then (if (vaa #[109,101,115,104,32,120,32,50,10]).size + a5.size <= 9223372036854775807 then if ((vaa #[109,101,115,104,32,120,32,50,10]) ++ a5).size + (vaa #[10,111,117,116,115,10]).size <= 9223372036854775807 then (qaA.f k (((vaa #[109,101,115,104,32,120,32,50,10]) ++ a5) ++ (vaa #[10,111,117,116,115,10]))).bind fun t20 => if t20 = true then ((qaR.f k a5).bind fun t21 => if t21 = true then ((qaR.f k (a4.extract ((0 : Nat) : Int).toNat 6)).bind fun t22 => if t22 = true then ((qct.f k).bind fun t23 => some t23) else some false) else some false) else some false else none else none) else some false else none) else some false) else some false else none) else some false else none else none else none else none) else some false else none) else if 100 < (a5.size : Int) then (if 0 <= ((0 : Nat) : Int) /\ ((0 : Nat) : Int) <= 100 /\ 100 <= (a5.size : Int) then (qbo.f a2 0 (t3.1.size : Int)).bind fun t24 => (qaA.f k t3.1).bind fun t25 => if t25 = true then (if 0 <= ((0 : Nat) : Int) /\ ((0 : Nat) : Int) <= t24 /\ t24 <= (t3.1.size : Int) then if (t3.1.extract ((0 : Nat) : Int).toNat t24.toNat).size + a4.size <= 9223372036854775807 then if 0 <= (if (t3.1.size : Int) < iW.wrap (t24 + (bits .and .i64 a3 3)) then (t3.1.size : Int) else iW.wrap (t24 + (bits .and .i64 a3 3))) /\ (if (t3.1.size : Int) < iW.wrap (t24 + (bits .and .i64 a3 3)) then (t3.1.size : Int) else iW.wrap (t24 + (bits .and .i64 a3 3))) <= (t3.1.size : Int) /\ (t3.1.size : Int) <= (t3.1.size : Int) then if ((t3.1.extract ((0 : Nat) : Int).toNat t24.toNat) ++ a4).size + (t3.1.extract (if (t3.1.size : Int) < iW.wrap (t24 + (bits .and .i64 a3 3)) then (t3.1.size : Int) else iW.wrap (t24 + (bits .and .i64 a3 3))).toNat (t3.1.size : Int).toNat).size <= 9223372036854775807 then (qaA.f k (((t3.1.extract ((0 : Nat) : Int).toNat t24.toNat) ++ a4) ++ (t3.1.extract (if (t3.1.size : Int) < iW.wrap (t24 + (bits .and .i64 a3 3)) then (t3.1.size : Int) else iW.wrap (t24 + (bits .and .i64 a3 3))).toNat (t3.1.size : Int).toNat))).bind fun t26 => if t26 = true then (if (t3.1.extract ((0 : Nat) : Int).toNat t24.toNat).size + (t3.1.extract (if (t3.1.size : Int) < iW.wrap (t24 + (bits .and .i64 a3 3)) then (t3.1.size : Int) else iW.wrap (t24 + (bits .and .i64 a3 3))).toNat (t3.1.size : Int).toNat).size <= 9223372036854775807 then (qaA.f k ((t3.1.extract ((0 : Nat) : Int).toNat t24.toNat) ++ (t3.1.extract (if (t3.1.size : Int) < iW.wrap (t24 + (bits .and .i64 a3 3)) then (t3.1.size : Int) else iW.wrap (t24 + (bits .and .i64 a3 3))).toNat (t3.1.size : Int).toNat))).bind fun t27 => if t27 = true then ((qaA.f k (a5.extract ((0 : Nat) : Int).toNat 100)).bind fun t28 => if t28 = true then (if (vaa #[109,101,115,104,32,45,10]).size + (a5.extract ((0 : Nat) : Int).toNat 100).size <= 9223372036854775807 then (qaA.f k ((vaa #[109,101,115,104,32,45,10]) ++ (a5.extract ((0 : Nat) : Int).toNat 100))).bind fun t29 => if t29 = true then (if (vaa #[109,101,115,104,32,120,32,50,10]).size + (a5.extract ((0 : Nat) : Int).toNat 100).size <= 9223372036854775807 then if ((vaa #[109,101,115,104,32,120,32,50,10]) ++ (a5.extract ((0 : Nat) : Int).toNat 100)).size + (vaa #[10,111,117,116,115,10]).size <= 9223372036854775807 then (qaA.f k (((vaa #[109,101,115,104,32,120,32,50,10]) ++ (a5.extract ((0 : Nat) : Int).toNat 100)) ++ (vaa #[10,111,117,116,115,10]))).bind fun t30 => if t30 = true then ((qaR.f k (a5.extract ((0 : Nat) : Int).toNat 100)).bind fun t31 => if t31 = true then ((qaR.f k a4).bind fun t32 => if t32 = true then ((qct.f k).bind fun t33 => some t33) else some false) else some false) else some false else none else none) else some false else none) else some false) else some false else none) else some false else none else none else none else none) else some false else none) else (qbo.f a2 0 (t3.1.size : Int)).bind fun t34 => (qaA.f k t3.1).bind fun t35 => if t35 = true then (if 0 <= ((0 : Nat) : Int) /\ ((0 : Nat) : Int) <= t34 /\ t34 <= (t3.1.size : Int) then if (t3.1.extract ((0 : Nat) : Int).toNat t34.toNat).size + a4.size <= 9223372036854775807 then if 0 <= (if (t3.1.size : Int) < iW.wrap (t34 + (bits .and .i64 a3 3)) then (t3.1.size : Int) else iW.wrap (t34 + (bits .and .i64 a3 3))) /\ (if (t3.1.size : Int) < iW.wrap (t34 + (bits .and .i64 a3 3)) then (t3.1.size : Int) else iW.wrap (t34 + (bits .and .i64 a3 3))) <= (t3.1.size : Int) /\ (t3.1.size : Int) <= (t3.1.size : Int) then if ((t3.1.extract ((0 : Nat) : Int).toNat t34.toNat) ++ a4).size + (t3.1.extract (if (t3.1.size : Int) < iW.wrap (t34 + (bits .and .i64 a3 3)) then (t3.1.size : Int) else iW.wrap (t34 + (bits .and .i64 a3 3))).toNat (t3.1.size : Int).toNat).size <= 9223372036854775807 then (qaA.f k (((t3.1.extract ((0 : Nat) : Int).toNat t34.toNat) ++ a4) ++ (t3.1.extract (if (t3.1.size : Int) < iW.wrap (t34 + (bits .and .i64 a3 3)) then (t3.1.size : Int) else iW.wrap (t34 + (bits .and .i64 a3 3))).toNat (t3.1.size : Int).toNat))).bind fun t36 => if t36 = true then (if (t3.1.extract ((0 : Nat) : Int).toNat t34.toNat).size + (t3.1.extract (if (t3.1.size : Int) < iW.wrap (t34 + (bits .and .i64 a3 3)) then (t3.1.size : Int) else iW.wrap (t34 + (bits .and .i64 a3 3))).toNat (t3.1.size : Int).toNat).size <= 9223372036854775807 then (qaA.f k ((t3.1.extract ((0 : Nat) : Int).toNat t34.toNat) ++ (t3.1.extract (if (t3.1.size : Int) < iW.wrap (t34 + (bits .and .i64 a3 3)) then (t3.1.size : Int) else iW.wrap (t34 + (bits .and .i64 a3 3))).toNat (t3.1.size : Int).toNat))).bind fun t37 => if t37 = true then ((qaA.f k a5).bind fun t38 => if t38 = true then (if (vaa #[109,101,115,104,32,45,10]).size + a5.size <= 9223372036854775807 then (qaA.f k ((vaa #[109,101,115,104,32,45,10]) ++ a5)).bind fun t39 => if t39 = true then (if (vaa #[109,101,115,104,32,120,32,50,10]).size + a5.size <= 9223372036854775807 then if ((vaa #[109,101,115,104,32,120,32,50,10]) ++ a5).size + (vaa #[10,111,117,116,115,10]).size <= 9223372036854775807 then (qaA.f k (((vaa #[109,101,115,104,32,120,32,50,10]) ++ a5) ++ (vaa #[10,111,117,116,115,10]))).bind fun t40 => if t40 = true then ((qaR.f k a5).bind fun t41 => if t41 = true then ((qaR.f k a4).bind fun t42 => if t42 = true then ((qct.f k).bind fun t43 => some t43) else some false) else some false) else some false else none else none) else some false else none) else some false) else some false else none) else some false else none else none else none else none) else some false
end Go.Pf

namespace Go.Pf
open Go Go.Vm
theorem qah {n : Int} (h1 : -9223372036854775808 <= n) (h2 : n < 9223372036854775808) : iW.wrap n = n := by rw [IntKind.wrap_i64]; omega
theorem qkM (n : Int) : -9223372036854775808 <= iW.wrap n /\ iW.wrap n < 9223372036854775808 := by rw [IntKind.wrap_i64]; omega
theorem qkL {n : Int} (h : (Lit.int .i64 n).wf = true) : -9223372036854775808 <= n /\ n < 9223372036854775808 := by
 simp only [Lit.wf,bAt,decide_eq_true_eq] at h
 have h1 : IntKind.i64.min = -9223372036854775808 := by decide
 have h2 : IntKind.i64.max = 9223372036854775807 := by decide
 omega
theorem qqG {l : LI} (h : Fit (.sl (.int .i64)) l) : l.length <= 17592186043904 /\ ∀ x ∈ l,-9223372036854775808 <= x /\ x < 9223372036854775808 := by
 obtain ⟨h1,h2⟩ := h
 have h3 : l.length * 8 <= 140737488351232 := h1
 exact ⟨by omega,fun x hx => qkL (h2 x hx)⟩
theorem qaj {α : Type} {l : List α} {i : Nat} (h : i < l.length) (d : α) : l.drop i = l.getD i d :: l.drop (i + 1) := by
 rw [List.drop_eq_getElem_cons h,gDg,vag h]; rfl
theorem qak {α : Type} {l : List α} {i : Nat} (h : i < l.length) (d : α) : l.getD i d ∈ l := by
 rw [gDg,vag h]; exact List.getElem_mem h
end Go.Pf

namespace Go.Pf
open Go Go.Vm
def pd : LI -> Int
 | [] => 1
 | x :: r => x * pd r
def okD (x : Int) : Bool := decide (1 <= x) && decide (x <= 8)
def mR (l : LI) : Bool := decide (l.length <= 3) && l.all okD && decide (pd l <= 8)
theorem qfL {x : Int} : okD x = true ↔ 1 <= x /\ x <= 8 := by simp [okD]
theorem qq6 : ∀ (l : LI),l.all okD = true -> 1 <= pd l /\ pd l <= 8 ^ l.length
 | [],_ => by simp [pd]
 | x :: r,h => by
  simp only [List.all_cons,bAt,qfL] at h
  obtain ⟨⟨h1,h2⟩,h3⟩ := h
  obtain ⟨h4,h5⟩ := qq6 r h3
  show 1 <= x * pd r /\ x * pd r <= 8 ^ (r.length + 1)
  constructor
  ·have := vaf h1 h4 (by omega) (by omega); simpa using this
  ·have := vaf h2 h5 (by omega) (by omega)
   rw [vaj]; rw [vat] at this; simpa [vat] using this
theorem qgH {l : LI} (h : mR l = true) : l.length <= 3 /\ l.all okD = true /\ 1 <= pd l /\ pd l <= 8 := by
 unfold mR at h
 simp only [bAt,decide_eq_true_eq] at h
 exact ⟨h.1.1,h.1.2,(qq6 l h.1.2).1,h.2⟩
theorem p8 {i : Nat} (h : i <= 3) : (1 : Int) <= 8 ^ i /\ (8 : Int) ^ i <= 512 := by
 rcases (show i = 0 \/ i = 1 \/ i = 2 \/ i = 3 by omega) with e | e | e | e <;> subst e <;> decide
theorem qmi {p x : Int} {i : Nat} (h1 : 1 <= p) (h2 : p <= 8 ^ i) (hx : 1 <= x /\ x <= 8) : 1 <= p * x /\ p * x <= 8 ^ (i + 1) := by
 constructor
 ·have := vaf h1 hx.1 (by omega) (by omega); simpa using this
 ·rw [vaj]; exact vaf h2 hx.2 (by omega) (by omega)
theorem qoQ {a lo hi : Int} (ha : -9223372036854775808 <= a /\ a < 9223372036854775808) (h : lo <= hi) (h1 : -1000000 <= lo) (h2 : hi <= 1000000) : ∃ r,qbo.f a lo hi = some r /\ lo <= r /\ r <= hi := by
 unfold qbo.f
 rw [qah (n := hi - lo) (by omega) (by omega),qah (n := hi - lo + 1) (by omega) (by omega)]
 have t2 := vaD a (show 0 < hi - lo + 1 by omega)
 have t3 := vaC a (show 0 < hi - lo + 1 by omega)
 have key : ∃ r,(if hi - lo + 1 ≠ 0 then if a.tmod (hi - lo + 1) < 0 then some (iW.wrap (lo + (iW.wrap ((iW.wrap ((iW.wrap ((a.tmod (hi - lo + 1)) + hi)) - lo)) + 1)))) else some (iW.wrap (lo + (a.tmod (hi - lo + 1)))) else none) = some r /\ lo <= r /\ r <= hi := by
  rw [ifp]
  split
  ·rw [qah (n := a.tmod (hi - lo + 1) + hi) (by omega) (by omega),qah (n := a.tmod (hi - lo + 1) + hi - lo) (by omega) (by omega),qah (n := a.tmod (hi - lo + 1) + hi - lo + 1) (by omega) (by omega),qah (by omega) (by omega)]
   exact ⟨_,rfl,by omega,by omega⟩
  ·rw [qah (by omega) (by omega)]
   exact ⟨_,rfl,by omega,by omega⟩
 split
 ·split
  ·exact ⟨_,rfl,by omega,by omega⟩
  ·exact key
 ·exact key
end Go.Pf

namespace Go.Pf
open Go Go.Vm
theorem n0 : ((0 : Nat) : Int) = 0 := rfl
theorem drop0 {α : Type} (l : List α) : l.drop 0 = l := rfl
theorem qeN (xs : LI) (v : Int) (hl : xs.length <= 4611686018427387904) : ∀ (d i n : Nat),xs.length = i + d -> d < n ->
  ∃ r,qaZ.l0 n xs v xs.length i = some r /\ ((r = .inl () /\ v ∉ xs.drop i) \/ ∃ j : Int,r = .inr j /\ 0 <= j /\ v ∈ xs.drop i)
 | 0,i,n,hi,hn => by
  obtain ⟨n,rfl⟩ := sun (n := n)
  rw [qaZ.l0,ifq,dNl (by omega)]
  exact ⟨_,rfl,.inl ⟨rfl,by simp⟩⟩
 | d + 1,i,n,hi,hn => by
  obtain ⟨n,rfl⟩ := sun (n := n)
  rw [qaZ.l0,ifp,ifp,tNc,qaj (show i < xs.length by omega) 0]
  by_cases c : v = xs.getD i 0
  ·rw [if_pos c]
   exact ⟨_,rfl,.inr ⟨_,rfl,by omega,by rw [c]; simp⟩⟩
  ·rw [if_neg c,qah (by omega) (by omega),show (i : Int) + 1 = ((i + 1 : Nat) : Int) by omega]
   obtain ⟨r,h1,h2⟩ := qeN xs v hl d (i + 1) n (by omega) (by omega)
   refine ⟨r,h1,?_⟩
   rcases h2 with ⟨h2,h3⟩ | ⟨j,h2,h3,h4⟩
   ·exact .inl ⟨h2,by simp only [val]; exact fun h => h.elim c h3⟩
   ·exact .inr ⟨j,h2,h3,mCm _ h4⟩
theorem qgA (xs : LI) (v : Int) (hl : xs.length <= 4611686018427387904) (k : Nat) (hk : xs.length < k) : qb9.f k xs v = some (decide (v ∈ xs)) := by
 unfold qb9.f qaZ.f
 obtain ⟨r,h1,h2⟩ := qeN xs v hl xs.length 0 k (by omega) hk
 rw [n0] at h1
 rw [h1,obs]
 rw [drop0] at h2
 rcases h2 with ⟨rfl,h3⟩ | ⟨j,rfl,h3,h4⟩
 ·simp [h3]
 ·simp [h3,h4]
def okGo (m : Int) : LI -> LI -> Bool
 | _,[] => true
 | pre,k :: r => decide (-1 <= k) && decide (k < m) && (decide (k = -1) || !decide (k ∈ pre)) && okGo m (pre ++ [k]) r
theorem qdl {l : LI} {i : Nat} (h : i < l.length) : l.take (i + 1) = l.take i ++ [l.getD i 0] := by
 rw [vaA,gDg,vag h]; rfl
theorem qdk (n : Int) (L : LI) (hL : L.length <= 17592186044415) (hw : ∀ x ∈ L,-9223372036854775808 <= x /\ x < 9223372036854775808) (p : Int) (h0 : 0 <= p) (hp : p <= 17592186044415) (hn : 1 <= n) : ∃ r q,qac.f n L p = some (r,q) /\ 0 <= r /\ r < n /\ 0 <= q /\ q <= 17592186044415 /\ p <= q /\ q <= p + 1 := by
 unfold qac.f
 by_cases c : (L.length : Int) <= p
 ·rw [if_pos c]; exact ⟨_,_,rfl,by omega,by omega,h0,hp,by omega,by omega⟩
 rw [if_neg c,ifq,qah (n := p + 1) (by omega) (by omega),show p + 1 - 1 = p by omega,qah (n := p) (by omega) (by omega),if_pos ⟨h0,by omega⟩]
 have hx := hw _ (qak (show p.toNat < L.length by omega) 0)
 generalize L.getD p.toNat 0 = x at hx
 have key : ∃ r,qbo.f x 0 1073741824 = some r /\ 0 <= r := by
  unfold qbo.f
  rw [qah (n := 1073741824 - 0) (by omega) (by omega),qah (n := 1073741824 - 0 + 1) (by omega) (by omega)]
  have t2 := vaD x (show (0 : Int) < 1073741824 - 0 + 1 by omega)
  have t3 := vaC x (show (0 : Int) < 1073741824 - 0 + 1 by omega)
  have k2 : ∃ r,(if (1073741824 - 0 + 1 : Int) ≠ 0 then if x.tmod (1073741824 - 0 + 1) < 0 then some (iW.wrap (0 + (iW.wrap ((iW.wrap ((iW.wrap ((x.tmod (1073741824 - 0 + 1)) + 1073741824)) - 0)) + 1)))) else some (iW.wrap (0 + (x.tmod (1073741824 - 0 + 1)))) else none) = some r /\ 0 <= r := by
   rw [ifp]
   split
   ·rw [qah (n := x.tmod (1073741824 - 0 + 1) + 1073741824) (by omega) (by omega),qah (n := x.tmod (1073741824 - 0 + 1) + 1073741824 - 0) (by omega) (by omega),qah (n := x.tmod (1073741824 - 0 + 1) + 1073741824 - 0 + 1) (by omega) (by omega),qah (by omega) (by omega)]
    exact ⟨_,rfl,by omega⟩
   ·rw [qah (by omega) (by omega)]
    exact ⟨_,rfl,by omega⟩
  split
  ·split
   ·exact ⟨_,rfl,by omega⟩
   ·exact k2
  ·exact k2
 obtain ⟨r,hr,hr0⟩ := key
 rw [hr,obs,ifp]
 refine ⟨_,_,rfl,?_,?_,by omega,by omega,by omega,by omega⟩
 ·rw [vao hr0]; exact van _ (by omega)
 ·rw [vao hr0]; exact vah _ (by omega)
theorem qia {m : Int} (x : Int) : ∀ (r pre : LI),okGo m pre (r ++ [x]) = (okGo m pre r && (decide (-1 <= x) && decide (x < m) && (decide (x = -1) || !decide (x ∈ pre ++ r))))
 | [],pre => by simp [okGo]
 | k :: r,pre => by
  show (decide (-1 <= k) && decide (k < m) && (decide (k = -1) || !decide (k ∈ pre)) && okGo m (pre ++ [k]) (r ++ [x])) = (decide (-1 <= k) && decide (k < m) && (decide (k = -1) || !decide (k ∈ pre)) && okGo m (pre ++ [k]) r && _)
  rw [qia x r (pre ++ [k]),aAs]
  simp only [List.singleton_append,Bool.and_assoc]
theorem qkg (m : LI) (hm : m.length ≤ 3) (L : LI) (hL : L.length ≤ 17592186044415) (hw : ∀ x ∈ L,-9223372036854775808 ≤ x ∧ x < 9223372036854775808) (N : Nat) (hN : N ≤ 5) : ∀ (d i : Nat) (p : Int) (y1 : LI) (y2 : List Bool) (n : Nat),N = i + d → 0 ≤ p → p ≤ 17592186000000 - 2 * d → y1.length = N → y2.length = m.length → okGo m.length [] (y1.take i) = true → (∀ j : Nat,j < m.length → (y2.getD j false = true ↔ (j : Int) ∈ y1.take i)) → d < n →
    ∃ q s,qaN.l0 n m N i L p y1 y2 = some (q,s) ∧ s.length = N ∧ okGo m.length [] s = true ∧ 0 ≤ q ∧ q ≤ p + 2 * d := by
  intro d
  induction d with
  | zero =>
    intro i p y1 y2 n hi h0 hp h1 h2 hok hu hn
    obtain ⟨n,rfl⟩ := sun (n := n)
    rw [qaN.l0,ifq]
    rw [List.take_of_length_le (by omega)] at hok
    exact ⟨_,_,rfl,h1,hok,h0,by omega⟩
  | succ d IH =>
    intro i p y1 y2 n hi h0 hp h1 h2 hok hu hn
    obtain ⟨n,rfl⟩ := sun (n := n)
    have htake : ∀ x : Int,(y1.set i x).take (i + 1) = y1.take i ++ [x] := fun x => by
      rw [List.take_set,vaA,vag (by omega)]
      have : (y1.take i).length = i := by simp; omega
      rw [vaq,ifq,this,Nat.sub_self]; rfl
    have hidx : (i : Int) + 1 = ((i + 1 : Nat) : Int) := by omega
    rw [qaN.l0,ifp,ifp,tNc,ifp,qah (n := (i : Int) + 1) (by omega) (by omega),hidx]
    -- without an axis
    have stay : ∀ q,0 ≤ q → q ≤ p + 2 → ∃ q' s,qaN.l0 n m N ((i + 1 : Nat) : Int) L q (y1.set i (-1)) y2 = some (q',s) ∧ s.length = N ∧ okGo m.length [] s = true ∧ 0 ≤ q' ∧ q' ≤ q + 2 * d := fun q hq hq2 => by
      refine IH (i + 1) q (y1.set i (-1)) y2 n (by omega) hq (by omega) (by simpa using h1) h2 ?_ (fun j hj => ?_) (by omega)
      · rw [htake,qia,hok]; simp; omega
      · rw [htake,vau,hu j hj]; simp
    by_cases c0 : 0 < (m.length : Int)
    · rw [if_pos c0]
      obtain ⟨r,q,e1,r0,r1,q0,q1,q2,q3⟩ := qdk 2 L hL hw p h0 (by omega) (by omega)
      rw [e1,obs]
      dsimp only
      by_cases c1 : r = 0
      · rw [if_pos c1]
        obtain ⟨r',q',e1',r0',r1',q0',q1',q2',q3'⟩ := qdk m.length L hL hw q q0 (by omega) (by omega)
        rw [e1',obs]
        dsimp only
        rw [if_pos ⟨r0',by omega⟩,ifp]
        by_cases c2 : y2.getD r'.toNat false = true
        · rw [if_pos c2]
          obtain ⟨q'',s,g1,g2,g3,g4,g5⟩ := stay q' q0' (by omega)
          exact ⟨q'',s,g1,g2,g3,g4,by omega⟩
        · rw [if_neg c2,if_pos (by simp; omega),if_pos (by simp; omega),List.set_set]
          have hnot : r' ∉ y1.take i := fun h => c2 ((hu r'.toNat (by omega)).2 (by rw [show ((r'.toNat : Nat) : Int) = r' by omega]; exact h))
          obtain ⟨q'',s,g1,g2,g3,g4,g5⟩ := IH (i + 1) q' (y1.set i r') (y2.set r'.toNat true) n (by omega) q0' (by omega) (by simpa using h1) (by simpa using h2) (by
            rw [htake,qia,hok]; simp [hnot]; omega) (fun j hj => by
            rw [htake,vau,← hu j hj,gDg,gDg,vaB]
            by_cases hjr : r'.toNat = j
            · subst hjr
              rw [if_pos rfl,ifp]
              simp; omega
            · rw [if_neg hjr]
              simp
              omega) (by omega)
          exact ⟨q'',s,g1,g2,g3,g4,by omega⟩
      · rw [if_neg c1]
        obtain ⟨q'',s,g1,g2,g3,g4,g5⟩ := stay q q0 (by omega)
        exact ⟨q'',s,g1,g2,g3,g4,by omega⟩
    · rw [if_neg c0]
      obtain ⟨q'',s,g1,g2,g3,g4,g5⟩ := stay p h0 (by omega)
      exact ⟨q'',s,g1,g2,g3,g4,by omega⟩
theorem qnL (m : LI) (hm : m.length <= 3) (L : LI) (hL : L.length <= 17592186044415) (hw : ∀ x ∈ L,-9223372036854775808 <= x /\ x < 9223372036854775808) (N : Int) (hN0 : 0 <= N) (hN : N <= 5) (p : Int) (h0 : 0 <= p) (hp : p <= 17592185999000) (k : Nat) (hk : 10 <= k) :
  ∃ q s,qaN.f k m N L p = some (q,s) /\ (s.length : Int) = N /\ okGo m.length [] s = true /\ 0 <= q /\ q <= p + 10 := by
 unfold qaN.f
 obtain ⟨q,s,g1,g2,g3,g4,g5⟩ := qkg m hm L hL hw N.toNat (by omega) N.toNat 0 p (vac N.toNat 0) (vac m.length false) k (by omega) h0 (by omega) (by simp) (by simp) rfl (fun j hj => by
  rw [gDg,List.getElem?_replicate]; simp [hj]) (by omega)
 rw [n0] at g1
 rw [ifp,ifp,tNc,vai,g1,obs]
 exact ⟨q,s,rfl,by omega,g3,g4,by omega⟩
end Go.Pf

namespace Go.Pf
open Go Go.Vm
def pr : LI -> Int
 | [] => 1
 | x :: r => x * pr r
def sm : LI -> Int
 | [] => 0
 | x :: r => x + sm r
def okS (x : Int) : Bool := decide (0 <= x) && decide (x <= 32)
def mSR (l : LI) : Bool := decide (l.length <= 4) && l.all okS && decide (pr l <= 4096)
theorem qda {x : Int} : okS x = true ↔ 0 <= x /\ x <= 32 := by simp [okS]
theorem p32 {i : Nat} (h : i <= 4) : (1 : Int) <= 32 ^ i /\ (32 : Int) ^ i <= 1048576 := by
 rcases (show i = 0 \/ i = 1 \/ i = 2 \/ i = 3 \/ i = 4 by omega) with e | e | e | e | e <;> subst e <;> decide
theorem qfl (l : LI) (hl : l.length <= 4) : ∀ (d i : Nat) (p : Int) (n : Nat),l.length = i + d -> 0 <= p -> p <= 32 ^ i -> d < n ->
  qaS.l0 n p l l.length i = some (if (l.drop i).all okS = true then .inl (p * pr (l.drop i)) else .inr false)
 | 0,i,p,n,hi,h1,h2,hn => by
  obtain ⟨n,rfl⟩ := sun (n := n)
  rw [qaS.l0,ifq,dNl (by omega)]
  simp [pr]
 | d + 1,i,p,n,hi,h1,h2,hn => by
  obtain ⟨n,rfl⟩ := sun (n := n)
  rw [qaS.l0,ifp,ifp,tNc,qaj (show i < l.length by omega) 0]
  generalize l.getD i 0 = x
  by_cases c1 : x < 0
  ·rw [if_pos c1]; simp [qda]; omega
  by_cases c2 : 32 < x
  ·rw [if_neg c1,if_pos c2]; simp [qda]; omega
  have hx : okS x = true := qda.2 (by omega)
  have h8 := p32 (show i + 1 <= 4 by omega)
  have e8 : (32 : Int) ^ (i + 1) = 32 ^ i * 32 := vaj ..
  have hm : 0 <= p * x /\ p * x <= 32 ^ (i + 1) := ⟨vae h1 (by omega),by rw [e8]; exact vaf h2 (by omega) (by omega) (by omega)⟩
  rw [if_neg c1,if_neg c2,qah (n := p * x) (by omega) (by omega),qah (n := (i : Int) + 1) (by omega) (by omega)]
  have := qfl l hl d (i + 1) (p * x) n (by omega) hm.1 hm.2 (by omega)
  rw [show (i : Int) + 1 = ((i + 1 : Nat) : Int) by omega,this]
  simp [hx,pr,vam]
theorem qb0 (l : LI) (k : Nat) (hk : 10 <= k) : qaS.f k l = some (mSR l) := by
 unfold qaS.f
 by_cases h : 4 < (l.length : Int)
 ·rw [if_pos h]; simp [mSR]; omega
 ·have := qfl l (by omega) l.length 0 1 k (by omega) (by omega) (by simp) (by omega)
  rw [if_neg h,show (0 : Int) = ((0 : Nat) : Int) from rfl,this]
  have hl : l.length <= 4 := by omega
  by_cases ha : l.all okS = true
  ·simp [ha,mSR,hl]
  ·simp [ha,mSR]
theorem qal {l : LI} (h : mSR l = true) : l.length <= 4 /\ (∀ x ∈ l,0 <= x /\ x <= 32) /\ pr l <= 4096 := by
 unfold mSR at h
 simp only [bAt,decide_eq_true_eq] at h
 exact ⟨h.1.1,fun x hx => qda.1 (vaF.1 h.1.2 x hx),h.2⟩
def T8 : LI := [1,2,3,4,5,0,7,2]
theorem T8_bd : ∀ x ∈ T8,0 <= x /\ x <= 7 := by decide
theorem qji (L : LI) (hL : L.length <= 17592186044415) (hw : ∀ x ∈ L,-9223372036854775808 <= x /\ x < 9223372036854775808) : ∀ (d : Nat) (p : Int) (y : LI) (n : Nat),0 <= p -> p <= 17592186000000 - d -> y.length + d <= 3 -> (∀ x ∈ y,0 <= x /\ x <= 7) -> d < n ->
  ∃ q s,qav.l0 n d L p y = some (q,s) /\ s.length = y.length + d /\ (∀ x ∈ s,0 <= x /\ x <= 7) /\ 0 <= q /\ q <= p + d := by
 intro d
 induction d with
 | zero =>
  intro p y n h0 hp hy hb hn
  obtain ⟨n,rfl⟩ := sun (n := n)
  rw [qav.l0,ifq]
  exact ⟨_,_,rfl,rfl,hb,h0,by omega⟩
 | succ d ih =>
  intro p y n h0 hp hy hb hn
  obtain ⟨n,rfl⟩ := sun (n := n)
  obtain ⟨r,q,e,r0,r1,q0,_,_,q1⟩ := qdk 8 L hL hw p h0 (by omega) (by omega)
  have hl : T8.length = 8 := rfl
  rw [qav.l0,ifp,e,obs,show ([1,2,3,4,5,0,7,2] : LI) = T8 from rfl]
  dsimp only
  rw [ifp,ifp,if_pos (by simp only [lSi]; omega),qah (by omega) (by omega),show (((d + 1 : Nat) : Int) - 1) = (d : Int) by omega]
  have hx := T8_bd _ (qak (show r.toNat < T8.length by omega) 0)
  obtain ⟨q',s,e2,h1,h2,h3,h4⟩ := ih q (y ++ [T8.getD r.toNat 0]) n q0 (by omega) (by simp only [lAp,lSi]; omega) (fun x hx' => by
   rcases vau.1 hx' with h | h
   ·exact hb x h
   ·rw [List.mem_singleton.1 h]; exact hx) (by omega)
  exact ⟨q',s,e2,by simp only [lAp,lSi] at h1; omega,h2,h3,by omega⟩
theorem qmP (L : LI) (hL : L.length <= 17592186044415) (hw : ∀ x ∈ L,-9223372036854775808 <= x /\ x < 9223372036854775808) (p : Int) (h0 : 0 <= p) (hp : p <= 17592185990000) (k : Nat) (hk : 10 <= k) :
  ∃ q s,qav.f k L p = some (q,s) /\ s.length <= 3 /\ (∀ x ∈ s,0 <= x /\ x <= 7) /\ 0 <= q /\ q <= p + 4 := by
 unfold qav.f
 obtain ⟨r,q,e,r0,r1,q0,_,_,q1⟩ := qdk 4 L hL hw p h0 (by omega) (by omega)
 rw [e,obs]
 dsimp only
 obtain ⟨q',s,e2,h1,h2,h3,h4⟩ := qji L hL hw r.toNat q [] k q0 (by omega) (by simp only [vav]; omega) (fun x hx => by cases hx) (by omega)
 rw [show ((r.toNat : Nat) : Int) = r by omega] at e2
 rw [e2,obs]
 exact ⟨q',s,rfl,by simp only [vav] at h1; omega,h2,h3,by omega⟩
end Go.Pf

namespace Go.Pf
open Go Go.Vm
def zSz (s : LI) : Int := if mSR s = true then pr s else 0
theorem qpv {a b : Bool} (h : a = true ↔ b = true) : a = b := by cases a <;> cases b <;> simp_all
theorem qf9 (l : LI) : ∀ (d i : Nat) (p : Int) (n : Nat),l.length = i + d -> i <= 4 -> 0 <= p -> p <= 32 ^ i -> d < n ->
  qaE.l0 n l p i = some (if (l.drop i).all okS = true /\ l.length <= 4 then .inl (p * pr (l.drop i)) else .inr false)
 | 0,i,p,n,hi,h4,h1,h2,hn => by
  obtain ⟨n,rfl⟩ := sun (n := n)
  rw [qaE.l0,ifq,dNl (by omega)]
  simp [pr]; omega
 | d + 1,i,p,n,hi,h4,h1,h2,hn => by
  obtain ⟨n,rfl⟩ := sun (n := n)
  rw [qaE.l0,ifp,ifp,tNc,qaj (show i < l.length by omega) 0]
  generalize l.getD i 0 = x
  by_cases c1 : x < 0
  ·rw [if_pos c1]; simp [qda]; omega
  by_cases c2 : 32 < x
  ·rw [if_neg c1,if_pos c2]; simp [qda]; omega
  have hx : okS x = true := qda.2 (by omega)
  rw [if_neg c1,if_neg c2]
  by_cases c3 : 4 <= (i : Int)
  ·rw [if_pos c3]; simp; omega
  rw [if_neg c3]
  have h8 := p32 (show i + 1 <= 4 by omega)
  have e8 : (32 : Int) ^ (i + 1) = 32 ^ i * 32 := vaj ..
  have hm : 0 <= p * x /\ p * x <= 32 ^ (i + 1) := ⟨vae h1 (by omega),by rw [e8]; exact vaf h2 (by omega) (by omega) (by omega)⟩
  rw [qah (n := p * x) (by omega) (by omega),qah (n := (i : Int) + 1) (by omega) (by omega)]
  have := qf9 l d (i + 1) (p * x) n (by omega) (by omega) hm.1 hm.2 (by omega)
  rw [show (i : Int) + 1 = ((i + 1 : Nat) : Int) by omega,this]
  simp [hx,pr,vam]
theorem qeI (l : LI) : ∀ (d i : Nat) (p : Int) (n : Nat),4 = i + d -> 4 < l.length -> 0 <= p -> p <= 32 ^ i -> d < n ->
  qaE.l0 n l p i = some (.inr false)
 | 0,i,p,n,hi,h4,h1,h2,hn => by
  obtain ⟨n,rfl⟩ := sun (n := n)
  rw [qaE.l0,ifp,ifp]
  repeat' split
  all_goals first | rfl | omega
 | d + 1,i,p,n,hi,h4,h1,h2,hn => by
  obtain ⟨n,rfl⟩ := sun (n := n)
  rw [qaE.l0,ifp,ifp,tNc]
  generalize l.getD i 0 = x
  by_cases c1 : x < 0
  ·rw [if_pos c1]
  by_cases c2 : 32 < x
  ·rw [if_neg c1,if_pos c2]
  rw [if_neg c1,if_neg c2,ifq]
  have h8 := p32 (show i + 1 <= 4 by omega)
  have e8 : (32 : Int) ^ (i + 1) = 32 ^ i * 32 := vaj ..
  have hm : 0 <= p * x /\ p * x <= 32 ^ (i + 1) := ⟨vae h1 (by omega),by rw [e8]; exact vaf h2 (by omega) (by omega) (by omega)⟩
  rw [qah (n := p * x) (by omega) (by omega),qah (n := (i : Int) + 1) (by omega) (by omega)]
  have := qeI l d (i + 1) (p * x) n (by omega) (by omega) hm.1 hm.2 (by omega)
  rw [show (i : Int) + 1 = ((i + 1 : Nat) : Int) by omega,this]
theorem qbg (l : LI) (k : Nat) (hk : 10 <= k) : qaE.f k l = some (mSR l) := by
 unfold qaE.f
 by_cases h4 : l.length <= 4
 ·have := qf9 l l.length 0 1 k (by omega) (by omega) (by omega) (by simp) (by omega)
  rw [show (0 : Int) = ((0 : Nat) : Int) from rfl,this]
  by_cases ha : l.all okS = true
  ·simp [ha,mSR,h4]
  ·simp [ha,mSR]
 ·have := qeI l 4 0 1 k (by omega) (by omega) (by omega) (by simp) (by omega)
  rw [show (0 : Int) = ((0 : Nat) : Int) from rfl,this]
  simp [mSR]; omega
theorem qcI : ∀ {l : LI},(∀ x ∈ l,0 <= x) -> 0 <= pr l
 | [],_ => by decide
 | x :: r,h => vae (h x (vad ..)) (qcI fun y hy => h y (mCm _ hy))
theorem qg7 (l : LI) (h : ∀ x ∈ l,0 <= x /\ x <= 32) (hl : l.length <= 4) : ∀ (d i : Nat) (p : Int) (n : Nat),l.length = i + d -> 0 <= p -> p <= 32 ^ i -> d < n ->
  qbT.l0 n l p i = some (p * pr (l.drop i))
 | 0,i,p,n,hi,h1,h2,hn => by
  obtain ⟨n,rfl⟩ := sun (n := n)
  rw [qbT.l0,ifq,dNl (by omega)]
  simp [pr]
 | d + 1,i,p,n,hi,h1,h2,hn => by
  obtain ⟨n,rfl⟩ := sun (n := n)
  have hx := h _ (qak (show i < l.length by omega) 0)
  rw [qbT.l0,ifp,ifp,tNc,qaj (show i < l.length by omega) 0]
  generalize l.getD i 0 = x at hx ⊢
  have h8 := p32 (show i + 1 <= 4 by omega)
  have e8 : (32 : Int) ^ (i + 1) = 32 ^ i * 32 := vaj ..
  have hm : 0 <= p * x /\ p * x <= 32 ^ (i + 1) := ⟨vae h1 (by omega),by rw [e8]; exact vaf h2 (by omega) (by omega) (by omega)⟩
  rw [qah (n := p * x) (by omega) (by omega),qah (n := (i : Int) + 1) (by omega) (by omega)]
  have := qg7 l h hl d (i + 1) (p * x) n (by omega) hm.1 hm.2 (by omega)
  rw [show (i : Int) + 1 = ((i + 1 : Nat) : Int) by omega,this]
  simp [pr,vam]
theorem qdc (l : LI) (k : Nat) (hk : 10 <= k) : qbT.f k l = some (zSz l) := by
 unfold qbT.f zSz
 rw [qbg l k hk,obs]
 by_cases h : mSR l = true
 ·obtain ⟨h1,h2,_⟩ := qal h
  have := qg7 l h2 h1 l.length 0 1 k (by omega) (by omega) (by simp) (by omega)
  rw [if_pos h,if_pos h,show (0 : Int) = ((0 : Nat) : Int) from rfl,this]
  simp
 ·rw [if_neg h,if_neg h]
def zT (s d : LI) : Bool := mSR s && decide ((d.length : Int) = pr s)
theorem qbR (s d : LI) (k : Nat) (hk : 10 <= k) : qby.f k s d = some (zT s d) := by
 unfold qby.f zT
 rw [qbg s k hk,obs,qdc s k hk,obs]
 by_cases h : mSR s = true
 ·simp [h,zSz]
 ·simp [h]
theorem qbl {s d : LI} (h : zT s d = true) : mSR s = true /\ (d.length : Int) = pr s := by
 unfold zT at h
 simpa using h
def pl : LI -> Int -> LI
 | [],_ => []
 | a :: r,x => (x / pr r) % a :: pl r x
theorem qc2 : ∀ (s : LI) (x : Int),(pl s x).length = s.length
 | [],_ => rfl
 | _ :: r,x => by simp [pl,qc2 r x]
def ix : LI -> LI -> Int
 | a :: s,b :: p => b * pr s + ix s p
 | _,_ => 0
def mIn : LI -> LI -> Bool
 | [],[] => true
 | a :: s,b :: p => decide (0 <= b) && decide (b < a) && mIn s p
 | _,_ => false
theorem qeX : ∀ {s p : LI},mIn s p = true -> p.length = s.length
 | [],[],_ => rfl
 | _ :: s,_ :: p,h => by
  simp only [mIn,bAt] at h
  simp [qeX h.2]
 | [],_ :: _,h => by simp [mIn] at h
 | _ :: _,[],h => by simp [mIn] at h
theorem qiK : ∀ {s p : LI},mIn s p = true -> 0 <= ix s p /\ ix s p < pr s
 | [],[],_ => by decide
 | a :: s,b :: p,h => by
  simp only [mIn,bAt,decide_eq_true_eq] at h
  obtain ⟨h1,h2⟩ := qiK h.2
  have h3 : b * pr s + pr s <= a * pr s := by
   have := vak (show b + 1 <= a by omega) (show 0 <= pr s by omega)
   rw [var,vaz] at this; exact this
  have h4 : 0 <= b * pr s := vae h.1.1 (by omega)
  exact ⟨by show 0 <= b * pr s + ix s p; omega,by show b * pr s + ix s p < a * pr s; omega⟩
 | [],_ :: _,h => by simp [mIn] at h
 | _ :: _,[],h => by simp [mIn] at h
theorem qiI : ∀ {s : LI},(∀ a ∈ s,0 < a) -> ∀ (x : Int),mIn s (pl s x) = true
 | [],_,_ => rfl
 | a :: s,h,x => by
  have ha := h a (vad ..)
  have := qiI (s := s) (fun b hb => h b (mCm _ hb)) x
  simp only [pl,mIn,bAt,decide_eq_true_eq]
  exact ⟨⟨van _ (by omega),vah _ ha⟩,this⟩
theorem qmd : ∀ {l : LI},(∀ x ∈ l,0 < x) -> 0 < pr l
 | [],_ => by decide
 | x :: r,h => Int.mul_pos (h x (vad ..)) (qmd fun y hy => h y (mCm _ hy))
theorem qh8 : ∀ {l : LI},(∀ x ∈ l,0 <= x) -> 0 < pr l -> ∀ x ∈ l,0 < x
 | [],_,_,_,h => by cases h
 | y :: r,h0,hp,x,hx => by
  have h1 := h0 y (vad ..)
  have hr := qcI (l := r) fun z hz => h0 z (mCm _ hz)
  have hp : 0 < y * pr r := hp
  have hy : y ≠ 0 := fun e => by rw [e,Int.zero_mul] at hp; omega
  have hr' : pr r ≠ 0 := fun e => by rw [e,Int.mul_zero] at hp; omega
  rcases val.1 hx with e | hx
  ·omega
  ·exact qh8 (fun z hz => h0 z (mCm _ hz)) (by omega) x hx
theorem qkK : ∀ {s : LI},(∀ a ∈ s,0 < a) -> ∀ (x : Int),ix s (pl s x) = x % pr s
 | [],_,x => by show (0 : Int) = x % 1; omega
 | a :: s,h,x => by
  have ha := h a (vad ..)
  have hs : ∀ b ∈ s,0 < b := fun b hb => h b (mCm _ hb)
  have hp := qmd hs
  show (x / pr s) % a * pr s + ix s (pl s x) = x % (a * pr s)
  rw [qkK hs x]
  have e1 := vay x (pr s)
  have e2 := vay (x / pr s) a
  have m1 := van x (show pr s ≠ 0 by omega)
  have m2 := vah x hp
  have m3 := van (x / pr s) (show a ≠ 0 by omega)
  have m4 := vah (x / pr s) ha
  generalize x / pr s = q at *
  generalize x % pr s = r at *
  generalize q / a = q2 at *
  generalize q % a = r2 at *
  generalize pr s = p at *
  have e3 : x = (r2 * p + r) + (a * p) * q2 := by
   rw [<- e1,<- e2]
   simp only [Int.mul_add,var,vat,Int.mul_left_comm,vam,Int.add_comm,Int.add_left_comm]
  have h5 : 0 <= r2 * p := vae m3 (by omega)
  have h6 : r2 * p + p <= a * p := by
   have := vak (show r2 + 1 <= a by omega) (show 0 <= p by omega)
   rw [var,vaz] at this; exact this
  rw [e3,Int.add_mul_emod_self_left]
  exact (vas (by omega) (by omega)).symm
theorem qpi {s : LI} (h : ∀ a ∈ s,0 <= a) {x : Int} (h0 : 0 <= x) (h1 : x < pr s) : ix s (pl s x) = x := by
 rw [qkK (qh8 h (by omega))]
 exact vas h0 h1
end Go.Pf

namespace Go.Pf
open Go Go.Vm
theorem qpN : ∀ {s : LI},(∀ a ∈ s,0 < a) -> ∀ (x m : Int),pl s (x + m * pr s) = pl s x
 | [],_,_,_ => rfl
 | a :: s,h,x,m => by
  have hs : ∀ b ∈ s,0 < b := fun b hb => h b (mCm _ hb)
  have hp := qmd hs
  have e : x + m * pr (a :: s) = x + (m * a) * pr s := by show x + m * (a * pr s) = _; rw [vam]
  rw [e]
  show ((x + m * a * pr s) / pr s) % a :: pl s (x + m * a * pr s) = (x / pr s) % a :: pl s x
  rw [qpN hs,vaw _ _ (by omega),Int.add_mul_emod_self_right]
theorem qn7 : ∀ {s p : LI},mIn s p = true -> pl s (ix s p) = p
 | [],[],_ => rfl
 | a :: s,b :: p,h => by
  have h' := h
  simp only [mIn,bAt,decide_eq_true_eq] at h
  have hb := qiK h.2
  have hs : ∀ x ∈ s,0 < x := by
   have : ∀ {s p : LI},mIn s p = true -> ∀ x ∈ s,0 < x := fun {s} => by
    induction s with
    | nil => intro p _ x hx; cases hx
    | cons y s ih =>
     intro p hh x hx
     cases p with
     | nil => simp [mIn] at hh
     | cons z p =>
      simp only [mIn,bAt,decide_eq_true_eq] at hh
      rcases val.1 hx with e | hx
      ·omega
      ·exact ih hh.2 x hx
   exact this h.2
  show ((b * pr s + ix s p) / pr s) % a :: pl s (b * pr s + ix s p) = b :: p
  rw [Int.add_comm (b * pr s),qpN hs,qn7 h.2,vaw _ _ (by omega),Int.ediv_eq_zero_of_lt hb.1 hb.2,Int.zero_add,vas h.1.1 h.1.2]
 | [],_ :: _,h => by simp [mIn] at h
 | _ :: _,[],h => by simp [mIn] at h
theorem qeE {α : Type} (l : List α) (i j : Nat) (x d : α) : (l.set i x).getD j d = if i = j /\ i < l.length then x else l.getD j d := by
 simp only [gDg,vaB]
 by_cases h : i = j
 ·subst h
  by_cases h2 : i < l.length
  ·simp [h2]
  ·simp [h2]
 ·simp [h]
theorem qqk {i : Nat} {x : Int} {r : LI} : (vac (i + 1) (0 : Int) ++ r).set i x = vac i 0 ++ x :: r := by
 rw [vaq,if_pos (by simp)]
 have : vac (i + 1) (0 : Int) = vac i 0 ++ [0] := vax
 rw [this,vaq,if_neg (by simp)]
 simp
theorem qga (s : LI) (hs : ∀ a ∈ s,0 < a /\ a <= 32) (hl : s.length <= 4) (x : Int) (hx : 0 <= x) (hx2 : x <= 1048576) : ∀ (i n : Nat),i <= s.length -> i < n ->
  qa5.l0 n s (x / pr (s.drop i)) ((i : Int) - 1) (vac i 0 ++ pl (s.drop i) x) = some (pl s x)
 | 0,n,hi,hn => by
  obtain ⟨n,rfl⟩ := sun (n := n)
  rw [qa5.l0,ifq]; simp
 | i + 1,n,hi,hn => by
  obtain ⟨n,rfl⟩ := sun (n := n)
  have ha := hs _ (qak (show i < s.length by omega) 0)
  have hd := qaj (show i < s.length by omega) (0 : Int)
  have hp : 0 < pr (s.drop (i + 1)) := qmd fun b hb => (hs b (List.mem_of_mem_drop hb)).1
  have ih := qga s hs hl x hx hx2 i n (by omega) (by omega)
  rw [hd] at ih
  have hlen : (vac (i + 1) (0 : Int) ++ pl (s.drop (i + 1)) x).length = s.length := by
   rw [lAp,qc2,vai,vaE]; omega
  have hq : 0 <= x / pr (s.drop (i + 1)) := Int.ediv_nonneg hx (by omega)
  have hq2 : x / pr (s.drop (i + 1)) <= x := vaG _ hx
  rw [qa5.l0,show ((i + 1 : Nat) : Int) - 1 = (i : Int) by omega,ifp,ifp,tNc,ifp,if_pos (by rw [hlen]; omega),if_pos (by rw [hlen]; omega),qah (n := (i : Int) - 1) (by omega) (by omega),qqk]
  generalize s.getD i 0 = a at ha ih ⊢
  rw [Int.tdiv_eq_ediv_of_nonneg hq,vao hq]
  have hq3 : 0 <= x / pr (s.drop (i + 1)) / a := Int.ediv_nonneg hq (by omega)
  have hq4 : x / pr (s.drop (i + 1)) / a <= x / pr (s.drop (i + 1)) := vaG _ hq
  rw [qah (by omega) (by omega),Int.ediv_ediv_of_nonneg (by omega)]
  rw [show pr (a :: s.drop (i + 1)) = a * pr (s.drop (i + 1)) from rfl,vat] at ih
  exact ih
theorem qdf {s : LI} (h : mSR s = true) (hp : 0 < pr s) : ∀ a ∈ s,0 < a /\ a <= 32 := fun a ha =>
 ⟨qh8 (fun b hb => ((qal h).2.1 b hb).1) hp a ha,((qal h).2.1 a ha).2⟩
theorem qcf {s : LI} (h : mSR s = true) {x : Int} (h0 : 0 <= x) (h1 : x < pr s) (k : Nat) (hk : 20 <= k) : qa5.f k s x = some (pl s x) := by
 obtain ⟨hl,_,hb⟩ := qal h
 have := qga s (qdf h (by omega)) hl x h0 (by omega) s.length k (Nat.le_refl _) (by omega)
 rw [List.drop_length] at this
 unfold qa5.f
 rw [ifq,qdc s k (by omega),obs,zSz,if_pos h,ifq,ifp,qah (n := (s.length : Int) - 1) (by omega) (by omega),tNc]
 rw [show x / pr ([] : LI) = x from Int.ediv_one x,show pl ([] : LI) x = [] from rfl,List.append_nil] at this
 rw [this,obs]
def zIx (s p : LI) : Int := if mSR s = true /\ mIn s p = true then ix s p else -1
theorem qbG {a b : Int} {s p : LI} : mIn (a :: s) (b :: p) = true ↔ (0 <= b /\ b < a) /\ mIn s p = true := by
 simp only [mIn,bAt,decide_eq_true_eq]
theorem qgb (s p : LI) (hs : ∀ a ∈ s,0 <= a /\ a <= 32) (hl : s.length <= 4) (hp : p.length = s.length) : ∀ (d i : Nat) (q : Int) (n : Nat),s.length = i + d -> 0 <= q -> q < 32 ^ i -> d < n ->
  qbC.l0 n s p q i = some (if mIn (s.drop i) (p.drop i) = true then .inl (q * pr (s.drop i) + ix (s.drop i) (p.drop i)) else .inr (-1))
 | 0,i,q,n,hi,h0,h1,hn => by
  obtain ⟨n,rfl⟩ := sun (n := n)
  rw [qbC.l0,ifq,dNl (by omega),dNl (by omega)]
  simp [mIn,pr,ix]
 | d + 1,i,q,n,hi,h0,h1,hn => by
  obtain ⟨n,rfl⟩ := sun (n := n)
  have ha := hs _ (qak (show i < s.length by omega) 0)
  rw [qbC.l0,ifp,ifp,tNc,qaj (show i < s.length by omega) (0 : Int),qaj (show i < p.length by omega) (0 : Int)]
  generalize s.getD i 0 = a at ha ⊢
  generalize p.getD i 0 = b
  by_cases c1 : b < 0
  ·rw [if_pos c1,if_neg (by rw [qbG]; omega)]
  rw [if_neg c1,ifp]
  by_cases c2 : a <= b
  ·rw [if_pos c2,if_neg (by rw [qbG]; omega)]
  rw [if_neg c2]
  have h8 := p32 (show i + 1 <= 4 by omega)
  have e8 : (32 : Int) ^ (i + 1) = 32 ^ i * 32 := vaj ..
  have hm0 : 0 <= q * a := vae h0 (by omega)
  have hm1 : q * a + a <= 32 ^ (i + 1) := by
   have := vak (show q + 1 <= 32 ^ i by omega) (show 0 <= a by omega)
   rw [var,vaz] at this
   have h3 : (32 : Int) ^ i * a <= 32 ^ i * 32 := Int.mul_le_mul_of_nonneg_left (by omega) (by omega)
   omega
  rw [qah (n := q * a) (by omega) (by omega),qah (n := q * a + b) (by omega) (by omega),qah (n := (i : Int) + 1) (by omega) (by omega)]
  have := qgb s p hs hl hp d (i + 1) (q * a + b) n (by omega) (by omega) (by omega) (by omega)
  rw [show (i : Int) + 1 = ((i + 1 : Nat) : Int) by omega,this]
  by_cases c : mIn (s.drop (i + 1)) (p.drop (i + 1)) = true
  ·rw [if_pos c,if_pos (qbG.2 ⟨by omega,c⟩)]
   show some (Sum.inl ((q * a + b) * pr (s.drop (i + 1)) + ix (s.drop (i + 1)) (p.drop (i + 1)))) = some (Sum.inl (q * (a * pr (s.drop (i + 1))) + (b * pr (s.drop (i + 1)) + ix (s.drop (i + 1)) (p.drop (i + 1)))))
   rw [var,vam,Int.add_assoc]
  ·rw [if_neg c,if_neg (by rw [qbG]; exact fun h => c h.2)]
theorem qd2 (s p : LI) (k : Nat) (hk : 20 <= k) : qbC.f k s p = some (zIx s p) := by
 unfold qbC.f zIx
 rw [qbg s k (by omega),obs]
 by_cases h : mSR s = true
 ·obtain ⟨hl,h2,_⟩ := qal h
  rw [if_pos h]
  by_cases hp : p.length = s.length
  ·have := qgb s p h2 hl hp s.length 0 0 k (by omega) (by omega) (by simp) (by omega)
   rw [n0,dZr,dZr] at this
   rw [ifp,this]
   by_cases c : mIn s p = true
   ·rw [if_pos c,if_pos ⟨h,c⟩]; simp
   ·rw [if_neg c,if_neg (fun hh => c hh.2)]; simp
  ·rw [ifq,if_neg (fun hh => hp (qeX hh.2))]
 ·rw [if_neg h,if_neg (fun hh => h hh.1)]
theorem qcL {s d p : LI} (h : zT s d = true) (c : mIn s p = true) (k : Nat) (hk : 20 <= k) : qci.f k s d p = some (d.getD (ix s p).toNat 0) := by
 obtain ⟨h1,h2⟩ := qbl h
 have hb := qiK c
 unfold qci.f
 have hz : zIx s p = ix s p := if_pos ⟨h1,c⟩
 rw [qd2 s p k hk,obs,hz,ifp]
end Go.Pf

namespace Go.Pf
open Go Go.Vm
theorem setL {α : Type} (L r : List α) (x v : α) : (L ++ x :: r).set L.length v = (L ++ [v]) ++ r := by
 rw [vaq,ifq,Nat.sub_self]; simp
theorem getL {α : Type} (L r : List α) (x d : α) : (L ++ x :: r).getD L.length d = x := by
 simp [gDg]
theorem qhC (g : Nat -> Int) (i d : Nat) (c : Int) : ((vap i).map g ++ vac (d + 1) c).set i (g i) = (vap (i + 1)).map g ++ vac d c := by
 have := setL ((vap i).map g) (vac d c) c (g i)
 rw [List.length_map,List.length_range] at this
 rw [List.replicate_succ,this,List.range_succ,List.map_append]; rfl
theorem qg8 (s : LI) (c : Int) (k : Nat) (hk : 10 <= k) (hz : zSz s <= 4096) : ∀ (d i n : Nat),(zSz s).toNat = i + d -> d < n ->
  qa0.l0 k n s c i ([] ++ s) (vac i c) = some (vac (i + d) c)
 | 0,i,n,hi,hn => by
  obtain ⟨n,rfl⟩ := sun (n := n)
  rw [qa0.l0,qdc s k hk,obs,ifq]; rfl
 | d + 1,i,n,hi,hn => by
  obtain ⟨n,rfl⟩ := sun (n := n)
  rw [qa0.l0,qdc s k hk,obs,ifp,if_pos (by simp only [vai,lSi]; omega),qah (n := (i : Int) + 1) (by omega) (by omega)]
  have := qg8 s c k hk hz d (i + 1) n (by omega) (by omega)
  rw [show (i : Int) + 1 = ((i + 1 : Nat) : Int) by omega,show vac i c ++ [c] = vac (i + 1) c from vax.symm,this]
  congr 2; omega
theorem qqV (s : LI) : 0 <= zSz s /\ zSz s <= 4096 := by
 unfold zSz
 by_cases h : mSR s = true
 ·rw [if_pos h]; exact ⟨qcI fun x hx => ((qal h).2.1 x hx).1,(qal h).2.2⟩
 ·rw [if_neg h]; omega
theorem qbz (s : LI) (c : Int) (h : s.length <= 1000) (k : Nat) (hk : 120000 <= k) : qa0.f k s c = some (s,vac (zSz s).toNat c) := by
 have hz := qqV s
 have := qg8 s c k (by omega) hz.2 (zSz s).toNat 0 k (by omega) (by omega)
 unfold qa0.f
 rw [n0,Nat.zero_add] at this
 rw [ifp,show ([] : LI) = vac 0 c from rfl,show (vac 0 c ++ s) = [] ++ s from rfl,this,obs]
 rfl
theorem qc5 (s : LI) (h : s.length <= 1000000) : qbE.f s = some s := by
 unfold qbE.f
 rw [ifp]; rfl
def made (s : LI) (f : LI -> Int) : LI := (vap (pr s).toNat).map fun (i : Nat) => f (pl s i)
theorem qm3 {s : LI} (h : mSR s = true) {f g : LI -> Int} (hfg : ∀ p,mIn s p = true -> f p = g p) : made s f = made s g := by
 unfold made
 apply List.map_congr_left
 intro i hi
 rw [List.mem_range] at hi
 exact hfg _ (qiI (fun a ha => (qdf h (by omega) a ha).1) _)
def zAdd : LI -> LI -> LI := List.zipWith (· + ·)
def zSl : LI -> LI -> LI -> Bool
 | [],[],[] => true
 | a :: s,f :: fr,z :: sz => decide (0 <= f /\ f <= a /\ 0 <= z /\ z <= a - f) && zSl s fr sz
 | _,_,_ => false
theorem qca {a f z : Int} {s fr sz : LI} : zSl (a :: s) (f :: fr) (z :: sz) = true ↔ (0 <= f /\ f <= a /\ 0 <= z /\ z <= a - f) /\ zSl s fr sz = true := by
 simp only [zSl,bAt,decide_eq_true_eq]
theorem qfC : ∀ {s f z : LI},zSl s f z = true -> f.length = s.length /\ z.length = s.length
 | [],[],[],_ => ⟨rfl,rfl⟩
 | _ :: s,_ :: f,_ :: z,h => by
  have := qfC (qca.1 h).2
  simp [this.1,this.2]
 | [],_ :: _,_,h => by simp [zSl] at h
 | [],[],_ :: _,h => by simp [zSl] at h
 | _ :: _,[],_,h => by simp [zSl] at h
 | _ :: _,_ :: _,[],h => by simp [zSl] at h
theorem qfx (s f z : LI) (hs : ∀ a ∈ s,0 <= a /\ a <= 32) (hl : s.length <= 4) (hf : f.length = s.length) (hz : z.length = s.length) : ∀ (d i n : Nat),s.length = i + d -> d < n ->
  qbN.l0 n f z s s.length i = some (if zSl (s.drop i) (f.drop i) (z.drop i) = true then .inl () else .inr 1)
 | 0,i,n,hi,hn => by
  obtain ⟨n,rfl⟩ := sun (n := n)
  rw [qbN.l0,ifq,dNl (by omega),dNl (by omega),dNl (by omega)]; rfl
 | d + 1,i,n,hi,hn => by
  obtain ⟨n,rfl⟩ := sun (n := n)
  have ha := hs _ (qak (show i < s.length by omega) 0)
  have ih := qfx s f z hs hl hf hz d (i + 1) n (by omega) (by omega)
  rw [qbN.l0,ifp,ifp,ifp,if_pos (show 0 <= (i : Int) /\ (i : Int) < (z.length : Int) by omega),tNc,qaj (show i < s.length by omega) (0 : Int),qaj (show i < f.length by omega) (0 : Int),qaj (show i < z.length by omega) (0 : Int)]
  generalize s.getD i 0 = a at ha ⊢
  generalize f.getD i 0 = b
  generalize z.getD i 0 = c
  by_cases c1 : b < 0
  ·rw [if_pos c1,if_neg (by rw [qca]; omega)]
  by_cases c2 : a < b
  ·rw [if_neg c1,if_pos c2,if_neg (by rw [qca]; omega)]
  by_cases c3 : c < 0
  ·rw [if_neg c1,if_neg c2,if_pos c3,if_neg (by rw [qca]; omega)]
  rw [if_neg c1,if_neg c2,if_neg c3,qah (n := a - b) (by omega) (by omega)]
  by_cases c4 : a - b < c
  ·rw [if_pos c4,if_neg (by rw [qca]; omega)]
  rw [if_neg c4,qah (n := (i : Int) + 1) (by omega) (by omega),show (i : Int) + 1 = ((i + 1 : Nat) : Int) by omega,ih]
  by_cases c : zSl (s.drop (i + 1)) (f.drop (i + 1)) (z.drop (i + 1)) = true
  ·rw [if_pos c,if_pos (qca.2 ⟨by omega,c⟩)]
  ·rw [if_neg c,if_neg (fun hh => c (qca.1 hh).2)]
theorem qjY {s : LI} (h : mSR s = true) (f z : LI) (k : Nat) (hk : 10 <= k) : qbN.f k s f z = some (if zSl s f z = true then 0 else 1) := by
 obtain ⟨hl,hs,_⟩ := qal h
 unfold qbN.f
 by_cases hf : f.length = s.length
 ·by_cases hz : z.length = s.length
  ·have := qfx s f z hs hl hf hz s.length 0 k (by omega) (by omega)
   rw [n0,dZr,dZr,dZr] at this
   rw [ifp,ifp,this]
   by_cases c : zSl s f z = true
   ·rw [if_pos c,if_pos c]; rfl
   ·rw [if_neg c,if_neg c]; rfl
  ·rw [ifp,ifq,if_neg (fun hh => hz (qfC hh).2)]
 ·rw [ifq,if_neg (fun hh => hf (qfC hh).1)]
theorem qf6 (f : LI) (p : LI) (hf : ∀ a ∈ f,0 <= a /\ a <= 32) (hp : ∀ a ∈ p,0 <= a /\ a <= 32) (hl : f.length <= 4) (hlen : p.length = f.length) (x2 : LI) (x10 x84 x85 : Int) (y1 y2 y4 y5 : LI) : ∀ (d : Nat) (L : LI) (n : Nat),f.length = L.length + d -> d < n ->
  qaH.l2 n f x2 x10 x84 x85 p.length L.length y1 y2 (L ++ p.drop L.length) y4 y5 = some (L ++ zAdd (p.drop L.length) (f.drop L.length))
 | 0,L,n,hi,hn => by
  obtain ⟨n,rfl⟩ := sun (n := n)
  rw [qaH.l2,ifq,dNl (by omega)]; rfl
 | d + 1,L,n,hi,hn => by
  obtain ⟨n,rfl⟩ := sun (n := n)
  have ha := hf _ (qak (show L.length < f.length by omega) 0)
  have hb := hp _ (qak (show L.length < p.length by omega) 0)
  have ih := qf6 f p hf hp hl hlen x2 x10 x84 x85 y1 y2 y4 y5 d (L ++ [p.getD L.length 0 + f.getD L.length 0]) n (by simp; omega) (by omega)
  have hL : (L ++ p.drop L.length).length = f.length := by rw [lAp,vaE]; omega
  rw [qaH.l2,ifp,if_pos (by rw [hL]; omega),if_pos (by rw [hL]; omega),ifp,tNc,qaj (show L.length < p.length by omega) (0 : Int),qaj (show L.length < f.length by omega) (0 : Int),getL,setL,qah (n := p.getD L.length 0 + f.getD L.length 0) (by omega) (by omega),qah (n := (L.length : Int) + 1) (by omega) (by omega)]
  rw [lAp,lSi] at ih
  rw [show (L.length : Int) + 1 = ((L.length + 1 : Nat) : Int) by omega,ih]
  simp [zAdd]
theorem qq5 {s : LI} (h : mSR s = true) (hp : 0 < pr s) (x : Int) : ∀ a ∈ pl s x,0 <= a /\ a <= 32 := by
 have hs := qdf h hp
 clear h hp
 induction s with
 | nil => intro a ha; cases ha
 | cons b s ih =>
  have hb := hs b (vad ..)
  intro a ha
  rcases val.1 ha with e | ha
  ·have h1 := van (x / pr s) (show b ≠ 0 by omega)
   have h2 := vah (x / pr s) hb.1
   omega
  ·exact ih (fun c hc => hs c (mCm _ hc)) a ha
theorem qlS : ∀ {s f z : LI},(∀ a ∈ s,0 <= a /\ a <= 32) -> zSl s f z = true -> (∀ a ∈ f,0 <= a /\ a <= 32) /\ (∀ a ∈ z,0 <= a /\ a <= 32) /\ 0 <= pr z /\ pr z <= pr s
 | [],[],[],_,_ => ⟨(by intro a ha; cases ha),(by intro a ha; cases ha),by decide,by decide⟩
 | a :: s,f :: fr,z :: sz,hs,h => by
  obtain ⟨h1,h2⟩ := qca.1 h
  have ha := hs a (vad ..)
  obtain ⟨i1,i2,i3,i4⟩ := qlS (fun b hb => hs b (mCm _ hb)) h2
  refine ⟨fun b hb => ?_,fun b hb => ?_,vae (by omega) i3,?_⟩
  ·rcases val.1 hb with e | hb
   ·omega
   ·exact i1 b hb
  ·rcases val.1 hb with e | hb
   ·omega
   ·exact i2 b hb
  ·show z * pr sz <= a * pr s
   exact vaf (by omega) i4 i3 (by omega)
 | [],_ :: _,_,_,h => by simp [zSl] at h
 | [],[],_ :: _,_,h => by simp [zSl] at h
 | _ :: _,[],_,_,h => by simp [zSl] at h
 | _ :: _,_ :: _,[],_,h => by simp [zSl] at h
theorem qoO {s f z : LI} (h : mSR s = true) (hc : zSl s f z = true) : mSR z = true := by
 obtain ⟨h1,h2,h3⟩ := qal h
 obtain ⟨_,i2,_,i4⟩ := qlS h2 hc
 have hl := (qfC hc).2
 unfold mSR
 simp only [bAt,decide_eq_true_eq,vaF]
 exact ⟨⟨by omega,fun x hx => qda.2 (i2 x hx)⟩,by omega⟩
theorem qpD : ∀ {s f z p : LI},zSl s f z = true -> mIn z p = true -> mIn s (zAdd p f) = true
 | [],[],[],[],_,_ => rfl
 | a :: s,f :: fr,z :: sz,b :: p,h,hp => by
  obtain ⟨h1,h2⟩ := qca.1 h
  obtain ⟨h3,h4⟩ := qbG.1 hp
  exact qbG.2 ⟨by show 0 <= b + f /\ b + f < a; omega,qpD h2 h4⟩
 | [],_ :: _,_,_,h,_ => by simp [zSl] at h
 | [],[],_ :: _,_,h,_ => by simp [zSl] at h
 | _ :: _,[],_,_,h,_ => by simp [zSl] at h
 | _ :: _,_ :: _,[],_,h,_ => by simp [zSl] at h
 | [],[],[],_ :: _,_,h => by simp [mIn] at h
 | _ :: _,_ :: _,_ :: _,[],_,h => by simp [mIn] at h
def zCut (s d f z : LI) : LI := made z fun p => d.getD (ix s (zAdd p f)).toNat 0
end Go.Pf

namespace Go.Pf
open Go Go.Vm
theorem qf8 (s d f z : LI) (hs : ∀ a ∈ s,0 <= a /\ a <= 32) (hl : s.length <= 4) (hf : f.length = s.length) (hz : z.length = s.length) : ∀ (e i n : Nat),s.length = i + e -> e < n ->
  qaH.l0 n f z f.length i s d = some (if zSl (s.drop i) (f.drop i) (z.drop i) = true then .inl () else .inr 1)
 | 0,i,n,hi,hn => by
  obtain ⟨n,rfl⟩ := sun (n := n)
  rw [qaH.l0,ifq,dNl (by omega),dNl (by omega),dNl (by omega)]; rfl
 | e + 1,i,n,hi,hn => by
  obtain ⟨n,rfl⟩ := sun (n := n)
  have ha := hs _ (qak (show i < s.length by omega) 0)
  have ih := qf8 s d f z hs hl hf hz e (i + 1) n (by omega) (by omega)
  rw [qaH.l0,ifp,ifp,if_pos (show 0 <= (i : Int) /\ (i : Int) < (z.length : Int) by omega),if_pos (show 0 <= (i : Int) /\ (i : Int) < (s.length : Int) by omega),tNc,qaj (show i < s.length by omega) (0 : Int),qaj (show i < f.length by omega) (0 : Int),qaj (show i < z.length by omega) (0 : Int)]
  generalize s.getD i 0 = a at ha ⊢
  generalize f.getD i 0 = b
  generalize z.getD i 0 = c
  by_cases c1 : b < 0
  ·rw [if_pos c1,if_neg (by rw [qca]; omega)]
  by_cases c3 : c < 0
  ·rw [if_neg c1,if_pos c3,if_neg (by rw [qca]; omega)]
  by_cases c2 : a < b
  ·rw [if_neg c1,if_neg c3,if_pos c2,if_neg (by rw [qca]; omega)]
  rw [if_neg c1,if_neg c3,if_neg c2,qah (n := a - b) (by omega) (by omega)]
  by_cases c4 : a - b < c
  ·rw [if_pos c4,if_neg (by rw [qca]; omega)]
  rw [if_neg c4,qah (n := (i : Int) + 1) (by omega) (by omega),show (i : Int) + 1 = ((i + 1 : Nat) : Int) by omega,ih]
  by_cases c : zSl (s.drop (i + 1)) (f.drop (i + 1)) (z.drop (i + 1)) = true
  ·rw [if_pos c,if_pos (qca.2 ⟨by omega,c⟩)]
  ·rw [if_neg c,if_neg (fun hh => c (qca.1 hh).2)]
theorem qf7 {s d f z : LI} (h : zT s d = true) (hc : zSl s f z = true) (k : Nat) (hk : 20 <= k) (y3 : LI) : ∀ (e i n : Nat),(pr z).toNat = i + e -> e + 10 < n ->
  qaH.l1 k n f z (pr z) i s d y3 ((vap i).map (fun (i : Nat) => d.getD (ix s (zAdd (pl z i) f)).toNat 0) ++ vac e 0) = some (zCut s d f z)
 | 0,i,n,hi,hn => by
  obtain ⟨n,rfl⟩ := sun (n := n)
  have hz := (qlS (qal (qbl h).1).2.1 hc).2.2.1
  rw [qaH.l1,ifq]
  unfold zCut made
  rw [hi]; simp
 | e + 1,i,n,hi,hn => by
  obtain ⟨n,rfl⟩ := sun (n := n)
  have hr := qoO (qbl h).1 hc
  have hb := (qal hr).2.2
  have hl := qfC hc
  have h4 := (qal (qbl h).1).1
  have ih := qf7 h hc k hk y3 e (i + 1) n (by omega) (by omega)
  have l2 := qf6 f (pl z i) (qlS (qal (qbl h).1).2.1 hc).1 (qq5 hr (by omega) i) (by omega) (by rw [qc2]; omega) z i (pr z) i s d y3 ((vap i).map (fun (i : Nat) => d.getD (ix s (zAdd (pl z i) f)).toNat 0) ++ vac (e + 1) 0) f.length [] n (by simp) (by omega)
  rw [vav,n0,dZr,dZr,nAp,nAp] at l2
  rw [qaH.l1,ifp,qcf hr (by omega) (by omega) k hk,obs,l2,obs,qcL h (qpD hc (qiI (fun a ha => (qdf hr (by omega) a ha).1) i)) k hk,obs,
   if_pos (by simp; omega),if_pos (by simp),tNc,qhC (fun (i : Nat) => d.getD (ix s (zAdd (pl z i) f)).toNat 0),qah (n := (i : Int) + 1) (by omega) (by omega),show (i : Int) + 1 = ((i + 1 : Nat) : Int) by omega]
  exact ih
theorem qks (s d f z : LI) (k : Nat) (hk : 120000 <= k) : qaH.f k s d f z = some (if zT s d = true then (if zSl s f z = true then (0,z,zCut s d f z) else (1,[],[])) else (13,[],[])) := by
 unfold qaH.f
 rw [qbR s d k (by omega),obs]
 by_cases h : zT s d = true
 ·obtain ⟨hr,_⟩ := qbl h
  obtain ⟨hl,hs,_⟩ := qal hr
  rw [if_pos h,if_pos h]
  by_cases hf : f.length = s.length
  ·by_cases hz : z.length = s.length
   ·have l0 := qf8 s d f z hs hl hf hz s.length 0 k (by omega) (by omega)
    rw [n0,dZr,dZr,dZr] at l0
    rw [ifp,ifp,l0,obs]
    by_cases hc : zSl s f z = true
    ·have hz := qoO hr hc
     have hb := qal hz
     have h0 := qcI fun x hx => (hb.2.1 x hx).1
     have := qf7 h hc k (by omega) z (pr z).toNat 0 k (by omega) (by omega)
     rw [if_pos hc,if_pos hc,Sum.elim_inl,qbz z 0 (by omega) k hk,obs,zSz,if_pos hz,vai,show (((pr z).toNat : Nat) : Int) = pr z by omega]
     rw [n0] at this
     rw [show vac (pr z).toNat (0 : Int) = (vap 0).map (fun (i : Nat) => d.getD (ix s (zAdd (pl z i) f)).toNat 0) ++ vac (pr z).toNat 0 from rfl,this]
     rfl
    ·rw [if_neg hc,if_neg hc]; rfl
   ·rw [ifp,ifq,if_neg (fun hh => hz (qfC hh).2)]
  ·rw [ifq,if_neg (fun hh => hf (qfC hh).1)]
 ·rw [if_neg h,if_neg h]
end Go.Pf
