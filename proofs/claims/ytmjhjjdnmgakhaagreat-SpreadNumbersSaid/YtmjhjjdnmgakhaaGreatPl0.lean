/- Own texts put together: P14, P16, P5 .. -/
import Derived.Test.YtmjhjjdnmgakhaaGreatVm2
import Derived.Lib.ItoaNum
import Derived.Lib.Join
import Derived.Lib.ParseIntB
import Derived.Laws.BytesArg
import Derived.Test.YtmjhjjdnmgakhaaGreatVm0
open ByteArray renaming empty→vaa, mk→vac
open List renaming replicate→vab, mem_cons_self→vad, getElem?_eq_getElem→vae, mem_cons→vaf, length_replicate→vai, range→vaj, nodup_cons→vao, set_append→var, length_nil→vas, mem_append→vax, length_map→vay, replicate_succ'→vaA, take_add_one→vaD, getElem?_set→vaE, length_drop→vaF, all_eq_true→vaG
open Int renaming mul_nonneg→vag, mul_le_mul→vah, mul_assoc→vak, emod_lt_of_pos→val, pow_succ→vam, mul_le_mul_of_nonneg_right→van, emod_nonneg→vap, tmod_eq_emod_of_nonneg→vaq, add_mul→vat, emod_eq_of_lt→vau, mul_comm→vaw, add_mul_ediv_right→vaz, mul_ediv_add_emod→vaB, one_mul→vaC, ediv_le_self→vaH
open Sum renaming elim_inl→vav
open Go.IntKind renaming i64→iW
namespace Go.Pf
abbrev LI := List Int
abbrev LN := Int × LI × LI × LI × Int × Int × ByteArray
abbrev ln0 : LN := (0,([],([],([],(0,(0,vaa))))))
abbrev LT := LI × LI
theorem obs {α β : Type} (a : α) (f : α → Option β) : (some a).bind f = f a := rfl
theorem ifp {c : Prop} [Decidable c] {α : Type} {a b : α} (h : c := by omega) : (if c then a else b) = a := if_pos h
theorem ifq {c : Prop} [Decidable c] {α : Type} {a b : α} (h : ¬ c := by omega) : (if c then a else b) = b := if_neg h
theorem sun {n : Nat} (h : 0 < n := by omega) : ∃ m, n = m + 1 := ⟨n - 1,by omega⟩
theorem lSi {α : Type} {a : α} : [a].length = 1 := rfl
theorem tNc (n : Nat) : (n : Int).toNat = n := Int.toNat_natCast n
theorem dNl {α : Type} {l : List α} {i : Nat} (h : l.length ≤ i) : l.drop i = [] := List.drop_eq_nil_of_le h
theorem lAp {α : Type} {a b : List α} : (a ++ b).length = a.length + b.length := List.length_append
theorem gDg {α : Type} {l : List α} {i : Nat} {a : α} : l.getD i a = l[i]?.getD a := List.getD_eq_getElem?_getD
theorem dZr {α : Type} {l : List α} : l.drop 0 = l := rfl
theorem lCo {α : Type} {a : α} {l : List α} : (a :: l).length = l.length + 1 := rfl
theorem mCm {α : Type} (y : α) {a : α} {l : List α} (h : a ∈ l) : a ∈ y :: l := List.mem_cons_of_mem y h
theorem lTk {α : Type} {i : Nat} {l : List α} : (l.take i).length = min i l.length := List.length_take
theorem nAp {α : Type} (a : List α) : [] ++ a = a := rfl
theorem aAs {α : Type} (a b c : List α) : a ++ b ++ c = a ++ (b ++ c) := List.append_assoc a b c
theorem bAt (a b : Bool) : ((a && b) = true) = (a = true ∧ b = true) := Bool.and_eq_true a b
end Go.Pf

set_option linter.unusedVariables false
set_option linter.unusedSimpArgs false
namespace Go.Pf
open Go
def qbE.l0 : Nat -> LI -> Int -> Int -> Int -> Option (Int ⊕ Bool)
 | 0,_,_,_,_ => none
 | n + 1,x0,x3,x6,x7 => if x7 < x6 then (if 3 <= x7 then (some (.inr false)) else if 0 <= x7 /\ x7 < (x0.length : Int) then if x0.getD x7.toNat 0 < 1 then (some (.inr false)) else if 8 < x0.getD x7.toNat 0 then (some (.inr false)) else qbE.l0 n x0 (iW.wrap (x3 * (x0.getD x7.toNat 0))) x6 (iW.wrap (x7 + 1)) else none) else some (.inl x3)
def qbE.f (k : Nat) (a0 : LI) : Option (Bool) := (qbE.l0 k a0 1 (a0.length : Int) 0).bind fun t1 => Sum.elim (fun t1 => some (decide (t1 <= 8))) (fun t1 => some t1) t1
def qao.l0 : Nat -> LI -> LI -> Int -> Option (Unit ⊕ Bool)
 | 0,_,_,_ => none
 | n + 1,x0,x1,x5 => if x5 < (x0.length : Int) then (if 0 <= x5 /\ x5 < (x0.length : Int) then if 0 <= x5 /\ x5 < (x1.length : Int) then if x0.getD x5.toNat 0 = x1.getD x5.toNat 0 then (qao.l0 n x0 x1 (iW.wrap (x5 + 1))) else some (.inr false) else none else none) else some (.inl ())
def qao.f (k : Nat) (a0 : LI) (a1 : LI) : Option (Bool) := if (a0.length : Int) = (a1.length : Int) then ((qao.l0 k a0 a1 0).bind fun t1 => Sum.elim (fun t1 => some true) (fun t1 => some t1) t1) else some false
def qdB.f (a0 : Int) (a1 : Int) (a2 : Int) : Option (Int) := if a1 <= a0 then (if a0 <= a2 then (some a0) else if iW.wrap ((iW.wrap (a2 - a1)) + 1) ≠ 0 then if a0.tmod (iW.wrap ((iW.wrap (a2 - a1)) + 1)) < 0 then (some (iW.wrap (a1 + (iW.wrap ((iW.wrap ((iW.wrap ((a0.tmod (iW.wrap ((iW.wrap (a2 - a1)) + 1))) + a2)) - a1)) + 1))))) else some (iW.wrap (a1 + (a0.tmod (iW.wrap ((iW.wrap (a2 - a1)) + 1))))) else none) else if iW.wrap ((iW.wrap (a2 - a1)) + 1) ≠ 0 then if a0.tmod (iW.wrap ((iW.wrap (a2 - a1)) + 1)) < 0 then (some (iW.wrap (a1 + (iW.wrap ((iW.wrap ((iW.wrap ((a0.tmod (iW.wrap ((iW.wrap (a2 - a1)) + 1))) + a2)) - a1)) + 1))))) else some (iW.wrap (a1 + (a0.tmod (iW.wrap ((iW.wrap (a2 - a1)) + 1))))) else none
end Go.Pf

namespace Go.Pf
open Go
def qaW.l0 : Nat -> Int -> LI -> Int -> Int -> Option (Int ⊕ Bool)
 | 0,_,_,_,_ => none
 | n + 1,x3,x9,x10,x11 => if x11 < x10 then (if 0 <= x11 /\ x11 < (x9.length : Int) then if x9.getD x11.toNat 0 < 0 then (some (.inr false)) else if 32 < x9.getD x11.toNat 0 then (some (.inr false)) else qaW.l0 n (iW.wrap (x3 * (x9.getD x11.toNat 0))) x9 x10 (iW.wrap (x11 + 1)) else none) else some (.inl x3)
def qaW.f (k : Nat) (a0 : LI) : Option (Bool) := if 4 < (a0.length : Int) then (some false) else (qaW.l0 k 1 a0 (a0.length : Int) 0).bind fun t1 => Sum.elim (fun t1 => some (decide (t1 <= 4096))) (fun t1 => some t1) t1
def qa3.l0 : Nat -> LI -> Int -> Int -> Int -> Option (Unit ⊕ Int)
 | 0,_,_,_,_ => none
 | n + 1,x0,x1,x7,x8 => if x8 < x7 then (if 0 <= x8 /\ x8 < (x0.length : Int) then if x1 = x0.getD x8.toNat 0 then (some (.inr x8)) else qa3.l0 n x0 x1 x7 (iW.wrap (x8 + 1)) else none) else some (.inl ())
def qa3.f (k : Nat) (a0 : LI) (a1 : Int) : Option (Int) := (qa3.l0 k a0 a1 (a0.length : Int) 0).bind fun t1 => Sum.elim (fun t1 => some (-1)) (fun t1 => some t1) t1
def qb3.f (k : Nat) (a0 : LI) (a1 : Int) : Option (Bool) := (qa3.f k a0 a1).bind fun t1 => some (decide (0 <= t1))
def qae.f (a1 : Int) (o0_0 : LI) (o0_1 : Int) : Option (Int × Int) := if (o0_0.length : Int) <= o0_1 then (some (0,o0_1)) else if a1 < 1 then (some (0,o0_1)) else if 0 <= iW.wrap ((iW.wrap (o0_1 + 1)) - 1) /\ iW.wrap ((iW.wrap (o0_1 + 1)) - 1) < (o0_0.length : Int) then (qdB.f (o0_0.getD (iW.wrap ((iW.wrap (o0_1 + 1)) - 1)).toNat 0) 0 1073741824).bind fun t1 => if a1 ≠ 0 then some (t1.tmod a1,iW.wrap (o0_1 + 1)) else none else none
def qaA.l0 : Nat -> Int -> LI -> Int -> LI -> Option (Int × LI)
 | 0,_,_,_,_ => none
 | n + 1,x4,y0_0,y0_1,y1 => if 0 < x4 then ((qae.f 8 y0_0 y0_1).bind fun t2 => if 0 <= t2.1 /\ t2.1 < (([1,2,3,4,5,0,7,2] : LI).length : Int) then if t2.1.toNat < ([1,2,3,4,5,0,7,2] : LI).length then if y1.length + [([1,2,3,4,5,0,7,2] : LI).getD t2.1.toNat 0].length <= 281474976710656 /\ (y1.length + [([1,2,3,4,5,0,7,2] : LI).getD t2.1.toNat 0].length) * 8 <= 140737488355328 then qaA.l0 n (iW.wrap (x4 - 1)) y0_0 t2.2 (y1 ++ [([1,2,3,4,5,0,7,2] : LI).getD t2.1.toNat 0]) else none else none else none) else some (y0_1,y1)
def qaA.f (k : Nat) (o0_0 : LI) (o0_1 : Int) : Option (Int × LI) := (qae.f 4 o0_0 o0_1).bind fun t1 => (qaA.l0 k t1.1 o0_0 t1.2 []).bind fun t3 => some (t3.1,t3.2)
def qaS.l0 : Nat -> LI -> Int -> Int -> LI -> Int -> LI -> (List Bool) -> Option (Int × LI)
 | 0,_,_,_,_,_,_,_ => none
 | n + 1,x1,x17,x18,y0_0,y0_1,y1,y2 => if x18 < x17 then (if 0 <= x18 /\ x18 < (y1.length : Int) then if x18.toNat < y1.length then if 0 < (x1.length : Int) then ((qae.f 2 y0_0 y0_1).bind fun t1 => if t1.1 = 0 then ((qae.f (x1.length : Int) y0_0 t1.2).bind fun t2 => if 0 <= t2.1 /\ t2.1 < (y2.length : Int) then if t2.1.toNat < y2.length then if (y2.getD t2.1.toNat false) = true then (qaS.l0 n x1 x17 (iW.wrap (x18 + 1)) y0_0 t2.2 (y1.set x18.toNat (-1)) y2) else if 0 <= x18 /\ x18 < ((y1.set x18.toNat (-1)).length : Int) then if x18.toNat < (y1.set x18.toNat (-1)).length then qaS.l0 n x1 x17 (iW.wrap (x18 + 1)) y0_0 t2.2 ((y1.set x18.toNat (-1)).set x18.toNat t2.1) (y2.set t2.1.toNat true) else none else none else none else none) else qaS.l0 n x1 x17 (iW.wrap (x18 + 1)) y0_0 t1.2 (y1.set x18.toNat (-1)) y2) else qaS.l0 n x1 x17 (iW.wrap (x18 + 1)) y0_0 y0_1 (y1.set x18.toNat (-1)) y2 else none else none) else some (y0_1,y1)
def qaS.f (k : Nat) (a1 : LI) (a2 : Int) (o0_0 : LI) (o0_1 : Int) : Option (Int × LI) := if 0 <= a2 /\ a2 <= 281474976710656 /\ ((8 : Nat) : Int) * a2 <= 140737488355328 then if 0 <= (a1.length : Int) /\ (a1.length : Int) <= 281474976710656 /\ ((1 : Nat) : Int) * (a1.length : Int) <= 140737488355328 then (qaS.l0 k a1 ((vab a2.toNat (0 : Int)).length : Int) 0 o0_0 o0_1 (vab a2.toNat (0 : Int)) (vab (a1.length : Int).toNat (false : Bool))).bind fun t3 => some (t3.1,t3.2) else none else none
def qaQ.l1 : Nat -> LI -> LI -> Int -> Int -> Int -> Int -> Option (Unit ⊕ Bool)
 | 0,_,_,_,_,_,_ => none
 | n + 1,x0,x1,x7,x8,x19,x20 => if x8 < x7 then (if 0 <= x8 /\ x8 < (x1.length : Int) then if 0 <= x7 /\ x7 < (x1.length : Int) then if x1.getD x8.toNat 0 = x1.getD x7.toNat 0 then (if 0 <= x1.getD x7.toNat 0 then (some (.inr false)) else qaQ.l1 n x0 x1 x7 (iW.wrap (x8 + 1)) x19 x20) else qaQ.l1 n x0 x1 x7 (iW.wrap (x8 + 1)) x19 x20 else none else none) else some (.inl ())
def qaQ.l0 (k : Nat) : Nat -> LI -> LI -> Int -> Int -> Option (Unit ⊕ Bool)
 | 0,_,_,_,_ => none
 | n + 1,x0,x1,x19,x20 => if x20 < x19 then (if 0 <= x20 /\ x20 < (x1.length : Int) then if x1.getD x20.toNat 0 < -1 then (some (.inr false)) else if (x0.length : Int) <= x1.getD x20.toNat 0 then (some (.inr false)) else (qaQ.l1 n x0 x1 x20 0 x19 x20).bind fun t2 => Sum.elim (fun t2 => qaQ.l0 k n x0 x1 x19 (iW.wrap (x20 + 1))) (fun t2 => some (.inr t2)) t2 else none) else some (.inl ())
def qaQ.f (k : Nat) (a0 : LI) (a1 : LI) (a2 : Int) : Option (Bool) := (qbE.f k a0).bind fun t1 => if t1 = true then (if (a1.length : Int) = a2 then ((qaQ.l0 k k a0 a1 (a1.length : Int) 0).bind fun t3 => Sum.elim (fun t3 => some true) (fun t3 => some t3) t3) else some false) else some false
end Go.Pf

namespace Go.Pf
open Go
def qaL.l0 : Nat -> LI -> Int -> Int -> Option (Int ⊕ Bool)
 | 0,_,_,_ => none
 | n + 1,x0,x3,x4 => if x4 < (x0.length : Int) then (if 0 <= x4 /\ x4 < (x0.length : Int) then if x0.getD x4.toNat 0 < 0 then (some (.inr false)) else if 32 < x0.getD x4.toNat 0 then (some (.inr false)) else if 4 <= x4 then (some (.inr false)) else qaL.l0 n x0 (iW.wrap (x3 * (x0.getD x4.toNat 0))) (iW.wrap (x4 + 1)) else none) else some (.inl x3)
def qaL.f (k : Nat) (a0 : LI) : Option (Bool) := (qaL.l0 k a0 1 0).bind fun t1 => Sum.elim (fun t1 => some (decide (t1 <= 4096))) (fun t1 => some t1) t1
def qbM.l0 : Nat -> LI -> Int -> Int -> Option (Int)
 | 0,_,_,_ => none
 | n + 1,x0,x3,x4 => if x4 < (x0.length : Int) then (if 0 <= x4 /\ x4 < (x0.length : Int) then qbM.l0 n x0 (iW.wrap (x3 * (x0.getD x4.toNat 0))) (iW.wrap (x4 + 1)) else none) else some x3
def qbM.f (k : Nat) (a0 : LI) : Option (Int) := (qaL.f k a0).bind fun t1 => if t1 = true then ((qbM.l0 k a0 1 0).bind fun t2 => some t2) else some 0
def qa4.l0 (k : Nat) : Nat -> LI -> Int -> Int -> LI -> LI -> Option (LI)
 | 0,_,_,_,_,_ => none
 | n + 1,x0,x1,x6,y2,y3 => (qbM.f k x0).bind fun t1 => if x6 < t1 then (if y3.length + [x1].length <= 281474976710656 /\ (y3.length + [x1].length) * 8 <= 140737488355328 then qa4.l0 k n x0 x1 (iW.wrap (x6 + 1)) y2 (y3 ++ [x1]) else none) else some y3
def qa4.f (k : Nat) (a0 : LI) (a1 : Int) : Option LT := if 0 + a0.length <= 281474976710656 /\ (0 + a0.length) * 8 <= 140737488355328 then (qa4.l0 k k a0 a1 0 ([] ++ a0) []).bind fun t2 => some ([] ++ a0,t2) else none
def qbA.f (o0_0 : LI) (o0_1 : Int) : Option (Int × Int) := (qae.f 9 o0_0 o0_1).bind fun t1 => if t1.1 = 0 then ((qae.f 6 o0_0 t1.2).bind fun t2 => if 0 <= t2.1 /\ t2.1 < (([9223372036854775807,-9223372036854775808,4611686018427387904,-1099511627776,8589934592,3037000500] : LI).length : Int) then if t2.1.toNat < ([9223372036854775807,-9223372036854775808,4611686018427387904,-1099511627776,8589934592,3037000500] : LI).length then some (([9223372036854775807,-9223372036854775808,4611686018427387904,-1099511627776,8589934592,3037000500] : LI).getD t2.1.toNat 0,t2.2) else none else none) else if t1.1 = 1 then (some (0,t1.2)) else (qae.f 19 o0_0 t1.2).bind fun t3 => some (iW.wrap (t3.1 - 9),t3.2)
def qaZ.f (a0 : LI) : Option (LI) := if 0 + a0.length <= 281474976710656 /\ (0 + a0.length) * 8 <= 140737488355328 then some ([] ++ a0) else none
def qaY.l1 : Nat -> Int -> LI -> (List LI) -> Int -> Int -> LI -> Int -> Int -> LI -> Option (Unit ⊕ Int)
 | 0,_,_,_,_,_,_,_,_,_ => none
 | n + 1,x0,x8,x33,x34,x35,x44,x45,x46,y0 => if x46 < x45 then (if 0 <= x46 /\ x46 < (x44.length : Int) then if x46 = x0 then (qaY.l1 n x0 x8 x33 x34 x35 x44 x45 (iW.wrap (x46 + 1)) y0) else if 0 <= x46 /\ x46 < (y0.length : Int) then if x46.toNat < y0.length then if x44.getD x46.toNat 0 = y0.getD x46.toNat 0 then (qaY.l1 n x0 x8 x33 x34 x35 x44 x45 (iW.wrap (x46 + 1)) y0) else some (.inr 13) else none else none else none) else some (.inl ())
def qaY.l0 (k : Nat) : Nat -> Int -> (List LI) -> Int -> Int -> LI -> Option (LI ⊕ Int)
 | 0,_,_,_,_,_ => none
 | n + 1,x0,x33,x34,x35,y0 => if x35 < x34 then (if 0 <= x35 /\ x35 < (x33.length : Int) then if ((x33.getD x35.toNat []).length : Int) = (y0.length : Int) then ((qaY.l1 n x0 (x33.getD x35.toNat []) x33 x34 x35 (x33.getD x35.toNat []) ((x33.getD x35.toNat []).length : Int) 0 y0).bind fun t2 => Sum.elim (fun t2 => if 0 <= x0 /\ x0 < (y0.length : Int) then if x0.toNat < y0.length then if 0 <= x0 /\ x0 < ((x33.getD x35.toNat []).length : Int) then if 0 <= x0 /\ x0 < ((y0.set x0.toNat (iW.wrap ((y0.getD x0.toNat 0) + ((x33.getD x35.toNat []).getD x0.toNat 0)))).length : Int) then if x0.toNat < (y0.set x0.toNat (iW.wrap ((y0.getD x0.toNat 0) + ((x33.getD x35.toNat []).getD x0.toNat 0)))).length then if 32 < (y0.set x0.toNat (iW.wrap ((y0.getD x0.toNat 0) + ((x33.getD x35.toNat []).getD x0.toNat 0)))).getD x0.toNat 0 then (some (.inr 13)) else qaY.l0 k n x0 x33 x34 (iW.wrap (x35 + 1)) (y0.set x0.toNat (iW.wrap ((y0.getD x0.toNat 0) + ((x33.getD x35.toNat []).getD x0.toNat 0)))) else none else none else none else none else none) (fun t2 => some (.inr t2)) t2) else some (.inr 13) else none) else some (.inl y0)
def qaY.f (k : Nat) (a0 : Int) (a1 : List LI) : Option (Int × LI) := if (a1.length : Int) = 0 then (some (1,[])) else if a0 < 0 then (some (1,[])) else if (0 : Int) <= 0 /\ 0 < (a1.length : Int) then if ((a1.getD 0 []).length : Int) <= a0 then (some (1,[])) else (qaZ.f (a1.getD 0 [])).bind fun t1 => if 0 <= a0 /\ a0 < (t1.length : Int) then if a0.toNat < t1.length then (qaY.l0 k k a0 a1 (a1.length : Int) 0 (t1.set a0.toNat 0)).bind fun t3 => Sum.elim (fun t3 => (qaW.f k t3).bind fun t4 => if t4 = true then (some (0,t3)) else some (13,[])) (fun t3 => some (t3,[])) t3 else none else none else none
def qkv.l0 : Nat -> LI -> Int -> Int -> LI -> Option (LI)
 | 0,_,_,_,_ => none
 | n + 1,x0,x1,x6,y0 => if 0 <= x6 then (if 0 <= x6 /\ x6 < (x0.length : Int) then if x0.getD x6.toNat 0 ≠ 0 then if 0 <= x6 /\ x6 < (y0.length : Int) then if x6.toNat < y0.length then qkv.l0 n x0 (iW.wrap (x1.tdiv (x0.getD x6.toNat 0))) (iW.wrap (x6 - 1)) (y0.set x6.toNat (x1.tmod (x0.getD x6.toNat 0))) else none else none else none else none) else some y0
def qbG.l0 : Nat -> LI -> LI -> Int -> Int -> LI -> (List Bool) -> Option (LI ⊕ Int)
 | 0,_,_,_,_,_,_ => none
 | n + 1,x0,x21,x22,x23,y0,y1 => if x23 < x22 then (if 0 <= x23 /\ x23 < (x21.length : Int) then if x21.getD x23.toNat 0 < 0 then (some (.inr 1)) else if (x0.length : Int) <= x21.getD x23.toNat 0 then (some (.inr 1)) else if 0 <= x21.getD x23.toNat 0 /\ x21.getD x23.toNat 0 < (y1.length : Int) then if (x21.getD x23.toNat 0).toNat < y1.length then if (y1.getD (x21.getD x23.toNat 0).toNat false) = true then (some (.inr 1)) else if 0 <= x21.getD x23.toNat 0 /\ x21.getD x23.toNat 0 < (x0.length : Int) then if 0 <= x23 /\ x23 < (y0.length : Int) then if x23.toNat < y0.length then qbG.l0 n x0 x21 x22 (iW.wrap (x23 + 1)) (y0.set x23.toNat (x0.getD (x21.getD x23.toNat 0).toNat 0)) (y1.set (x21.getD x23.toNat 0).toNat true) else none else none else none else none else none else none) else some (.inl y0)
def qbG.f (k : Nat) (a0 : LI) (a1 : LI) : Option (Int × LI) := if (a1.length : Int) = (a0.length : Int) then (if 0 <= (a0.length : Int) /\ (a0.length : Int) <= 281474976710656 /\ ((8 : Nat) : Int) * (a0.length : Int) <= 140737488355328 then if 0 <= (a0.length : Int) /\ (a0.length : Int) <= 281474976710656 /\ ((1 : Nat) : Int) * (a0.length : Int) <= 140737488355328 then (qbG.l0 k a0 a1 (a1.length : Int) 0 (vab (a0.length : Int).toNat (0 : Int)) (vab (a0.length : Int).toNat (false : Bool))).bind fun t1 => Sum.elim (fun t1 => some (0,t1)) (fun t1 => some (t1,[])) t1 else none else none) else some (1,[])
def qkZ.l0 : Nat -> LI -> Int -> Int -> LI -> LI -> LI -> LI -> LI -> Option (LI)
 | 0,_,_,_,_,_,_,_,_ => none
 | n + 1,x8,x9,x10,y0,y1,y3_0,y3_1,y4 => if x10 < x9 then (if 0 <= x10 /\ x10 < (x8.length : Int) then if 0 <= x10 /\ x10 < (y0.length : Int) then if x10.toNat < y0.length then if 0 <= x8.getD x10.toNat 0 /\ x8.getD x10.toNat 0 < (y4.length : Int) then if (x8.getD x10.toNat 0).toNat < y4.length then qkZ.l0 n x8 x9 (iW.wrap (x10 + 1)) y0 y1 y3_0 y3_1 (y4.set (x8.getD x10.toNat 0).toNat (y0.getD x10.toNat 0)) else none else none else none else none else none) else some y4
def qbH.l0 : Nat -> LI -> LI -> LI -> Int -> Int -> Option (Unit ⊕ Int)
 | 0,_,_,_,_,_ => none
 | n + 1,x1,x2,x21,x22,x23 => if x23 < x22 then (if 0 <= x23 /\ x23 < (x21.length : Int) then if 0 <= x23 /\ x23 < (x1.length : Int) then if x1.getD x23.toNat 0 < 0 then (some (.inr 1)) else if x21.getD x23.toNat 0 < x1.getD x23.toNat 0 then (some (.inr 1)) else if 0 <= x23 /\ x23 < (x2.length : Int) then if x2.getD x23.toNat 0 < 0 then (some (.inr 1)) else if iW.wrap ((x21.getD x23.toNat 0) - (x1.getD x23.toNat 0)) < x2.getD x23.toNat 0 then (some (.inr 1)) else qbH.l0 n x1 x2 x21 x22 (iW.wrap (x23 + 1)) else none else none else none) else some (.inl ())
def qbH.f (k : Nat) (a0 : LI) (a1 : LI) (a2 : LI) : Option (Int) := if (a1.length : Int) = (a0.length : Int) then (if (a2.length : Int) = (a0.length : Int) then ((qbH.l0 k a1 a2 a0 (a0.length : Int) 0).bind fun t1 => Sum.elim (fun t1 => some 0) (fun t1 => some t1) t1) else some 1) else some 1
def qkm.l0 : Nat -> LI -> Int -> Int -> LI -> LI -> LI -> LI -> Option (LI)
 | 0,_,_,_,_,_,_,_ => none
 | n + 1,x7,x8,x9,y0,y1,y2_0,y2_1 => if x9 < x8 then (if 0 <= x9 /\ x9 < (x7.length : Int) then if 0 <= x9 /\ x9 < (y0.length : Int) then if x9.toNat < y0.length then qkm.l0 n x7 x8 (iW.wrap (x9 + 1)) (y0.set x9.toNat (iW.wrap ((y0.getD x9.toNat 0) + (x7.getD x9.toNat 0)))) y1 y2_0 y2_1 else none else none else none) else some y0
def qbr.l0 : Nat -> LI -> LI -> Int -> Option (Unit ⊕ Bool)
 | 0,_,_,_ => none
 | n + 1,x0,x1,x5 => if x5 < (x0.length : Int) then (if 0 <= x5 /\ x5 < (x0.length : Int) then if 0 <= x5 /\ x5 < (x1.length : Int) then if x0.getD x5.toNat 0 = x1.getD x5.toNat 0 then (qbr.l0 n x0 x1 (iW.wrap (x5 + 1))) else some (.inr false) else none else none) else some (.inl ())
def qbr.f (k : Nat) (a0 : LI) (a1 : LI) : Option (Bool) := if (a0.length : Int) = (a1.length : Int) then ((qbr.l0 k a0 a1 0).bind fun t1 => Sum.elim (fun t1 => some true) (fun t1 => some t1) t1) else some false
def qcD.f (a0 : Int) : Option (Bool) := if 0 <= a0 then (some (decide (a0 <= 32))) else some false
def qbI.l0 : Nat -> LI -> LI -> LI -> Int -> Int -> LI -> Option (LI ⊕ Int)
 | 0,_,_,_,_,_,_ => none
 | n + 1,x1,x2,x27,x28,x29,y0 => if x29 < x28 then (if 0 <= x29 /\ x29 < (x27.length : Int) then if 0 <= x29 /\ x29 < (x1.length : Int) then (qcD.f (x1.getD x29.toNat 0)).bind fun t1 => if t1 = true then (if 0 <= x29 /\ x29 < (x2.length : Int) then (qcD.f (x2.getD x29.toNat 0)).bind fun t2 => if t2 = true then (if 0 <= x29 /\ x29 < (y0.length : Int) then if x29.toNat < y0.length then qbI.l0 n x1 x2 x27 x28 (iW.wrap (x29 + 1)) (y0.set x29.toNat (iW.wrap ((iW.wrap ((x1.getD x29.toNat 0) + (x27.getD x29.toNat 0))) + (x2.getD x29.toNat 0)))) else none else none) else some (.inr 1) else none) else some (.inr 1) else none else none) else some (.inl y0)
def qbI.f (k : Nat) (a0 : LI) (a1 : LI) (a2 : LI) : Option (Int × LI) := if (a1.length : Int) = (a0.length : Int) then (if (a2.length : Int) = (a0.length : Int) then (if 0 <= (a0.length : Int) /\ (a0.length : Int) <= 281474976710656 /\ ((8 : Nat) : Int) * (a0.length : Int) <= 140737488355328 then (qbI.l0 k a1 a2 a0 (a0.length : Int) 0 (vab (a0.length : Int).toNat (0 : Int))).bind fun t3 => Sum.elim (fun t3 => (qaW.f k t3).bind fun t4 => if t4 = true then (some (0,t3)) else some (13,[])) (fun t3 => some (t3,[])) t3 else none) else some (1,[])) else some (1,[])
def qa8.l0 : Nat -> Int -> Int -> LI -> Int -> Int -> Option (Unit ⊕ Bool)
 | 0,_,_,_,_,_ => none
 | n + 1,x1,x5,x8,x9,x10 => if x10 < x9 then (if 0 <= x10 /\ x10 < (x8.length : Int) then if x8.getD x10.toNat 0 <= x5 then (some (.inr false)) else if x1 <= x8.getD x10.toNat 0 then (some (.inr false)) else qa8.l0 n x1 (x8.getD x10.toNat 0) x8 x9 (iW.wrap (x10 + 1)) else none) else some (.inl ())
def qa8.f (k : Nat) (a0 : LI) (a1 : Int) : Option (Bool) := (qa8.l0 k a1 (-1) a0 (a0.length : Int) 0).bind fun t1 => Sum.elim (fun t1 => some true) (fun t1 => some t1) t1
def qb2.l0 : Nat -> LI -> LI -> LI -> Int -> Int -> Option (Unit ⊕ Int)
 | 0,_,_,_,_,_ => none
 | n + 1,x0,x1,x24,x25,x26 => if x26 < x25 then (if 0 <= x26 /\ x26 < (x24.length : Int) then if 0 <= x24.getD x26.toNat 0 /\ x24.getD x26.toNat 0 < (x1.length : Int) then if 0 <= x26 /\ x26 < (x0.length : Int) then if x1.getD (x24.getD x26.toNat 0).toNat 0 = x0.getD x26.toNat 0 then (qb2.l0 n x0 x1 x24 x25 (iW.wrap (x26 + 1))) else some (.inr 1) else none else none else none) else some (.inl ())
def qb2.f (k : Nat) (a0 : LI) (a1 : LI) (a2 : LI) : Option (Int) := (qaW.f k a1).bind fun t1 => if t1 = true then (if (a2.length : Int) = (a0.length : Int) then ((qa8.f k a2 (a1.length : Int)).bind fun t2 => if t2 = true then ((qb2.l0 k a0 a1 a2 (a2.length : Int) 0).bind fun t3 => Sum.elim (fun t3 => some 0) (fun t3 => some t3) t3) else some 1) else some 1) else some 13
def qbu.f (k : Nat) (a0_0 : LI) (a0_1 : LI) : Option (Bool) := (qaL.f k a0_0).bind fun t1 => if t1 = true then ((qbM.f k a0_0).bind fun t2 => some (decide ((a0_1.length : Int) = t2))) else some false
def qa9.l0 : Nat -> LI -> Int -> Int -> LI -> Option (LI)
 | 0,_,_,_,_ => none
 | n + 1,x0,x1,x6,y0 => if 0 <= x6 then (if 0 <= x6 /\ x6 < (x0.length : Int) then if x0.getD x6.toNat 0 ≠ 0 then if 0 <= x6 /\ x6 < (y0.length : Int) then if x6.toNat < y0.length then qa9.l0 n x0 (iW.wrap (x1.tdiv (x0.getD x6.toNat 0))) (iW.wrap (x6 - 1)) (y0.set x6.toNat (x1.tmod (x0.getD x6.toNat 0))) else none else none else none else none) else some y0
def qa9.f (k : Nat) (a0 : LI) (a1 : Int) : Option (LI) := if a1 < 0 then (some []) else (qbM.f k a0).bind fun t1 => if t1 <= a1 then (some []) else if 0 <= (a0.length : Int) /\ (a0.length : Int) <= 281474976710656 /\ ((8 : Nat) : Int) * (a0.length : Int) <= 140737488355328 then (qa9.l0 k a0 a1 (iW.wrap ((a0.length : Int) - 1)) (vab (a0.length : Int).toNat (0 : Int))).bind fun t2 => some t2 else none
def qbz.l0 : Nat -> LI -> LI -> Int -> Int -> Option (Int ⊕ Int)
 | 0,_,_,_,_ => none
 | n + 1,x0,x1,x5,x6 => if x6 < (x0.length : Int) then (if 0 <= x6 /\ x6 < (x1.length : Int) then if x1.getD x6.toNat 0 < 0 then (some (.inr (-1))) else if 0 <= x6 /\ x6 < (x0.length : Int) then if x0.getD x6.toNat 0 <= x1.getD x6.toNat 0 then (some (.inr (-1))) else qbz.l0 n x0 x1 (iW.wrap ((iW.wrap (x5 * (x0.getD x6.toNat 0))) + (x1.getD x6.toNat 0))) (iW.wrap (x6 + 1)) else none else none) else some (.inl x5)
def qbz.f (k : Nat) (a0 : LI) (a1 : LI) : Option (Int) := (qaL.f k a0).bind fun t1 => if t1 = true then (if (a1.length : Int) = (a0.length : Int) then ((qbz.l0 k a0 a1 0 0).bind fun t2 => Sum.elim (fun t2 => some t2) (fun t2 => some t2) t2) else some (-1)) else some (-1)
def qca.f (k : Nat) (a0_0 : LI) (a0_1 : LI) (a1 : LI) : Option (Int) := (qbz.f k a0_0 a1).bind fun t1 => if 0 <= t1 /\ t1 < (a0_1.length : Int) then some (a0_1.getD t1.toNat 0) else none
def qa0.l0 : Nat -> LI -> Int -> Int -> LI -> LI -> LI -> LI -> Option (LI ⊕ Int)
 | 0,_,_,_,_,_,_,_ => none
 | n + 1,x1,x29,x30,y0_0,y0_1,y2,y3 => if x30 < x29 then (if 0 <= x30 /\ x30 < (x1.length : Int) then if x1.getD x30.toNat 0 < 0 then (some (.inr 1)) else if (y2.length : Int) <= x1.getD x30.toNat 0 then (some (.inr 1)) else if 0 <= x1.getD x30.toNat 0 /\ x1.getD x30.toNat 0 < (y2.length : Int) then if (x1.getD x30.toNat 0).toNat < y2.length then if 0 < y2.getD (x1.getD x30.toNat 0).toNat 0 then (some (.inr 1)) else if 0 <= x1.getD x30.toNat 0 /\ x1.getD x30.toNat 0 < (y0_0.length : Int) then if y3.length + [y0_0.getD (x1.getD x30.toNat 0).toNat 0].length <= 281474976710656 /\ (y3.length + [y0_0.getD (x1.getD x30.toNat 0).toNat 0].length) * 8 <= 140737488355328 then qa0.l0 n x1 x29 (iW.wrap (x30 + 1)) y0_0 y0_1 (y2.set (x1.getD x30.toNat 0).toNat (iW.wrap ((y2.getD (x1.getD x30.toNat 0).toNat 0) + 1))) (y3 ++ [y0_0.getD (x1.getD x30.toNat 0).toNat 0]) else none else none else none else none else none) else some (.inl y3)
def qa0.l2 : Nat -> LI -> Int -> Int -> Int -> Int -> Int -> LI -> LI -> LI -> LI -> LI -> LI -> LI -> Option (LI)
 | 0,_,_,_,_,_,_,_,_,_,_,_,_,_ => none
 | n + 1,x1,x10,x83,x84,x94,x95,y0_0,y0_1,y2,y4,y5,y6,y7 => if x95 < x94 then (if 0 <= x95 /\ x95 < (x1.length : Int) then if 0 <= x95 /\ x95 < (y4.length : Int) then if x95.toNat < y4.length then if 0 <= x1.getD x95.toNat 0 /\ x1.getD x95.toNat 0 < (y5.length : Int) then if (x1.getD x95.toNat 0).toNat < y5.length then qa0.l2 n x1 x10 x83 x84 x94 (iW.wrap (x95 + 1)) y0_0 y0_1 y2 y4 (y5.set (x1.getD x95.toNat 0).toNat (y4.getD x95.toNat 0)) y6 y7 else none else none else none else none else none) else some y5
def qa0.l1 (k : Nat) : Nat -> LI -> Int -> Int -> LI -> LI -> LI -> LI -> LI -> Option (LI)
 | 0,_,_,_,_,_,_,_,_ => none
 | n + 1,x1,x83,x84,y0_0,y0_1,y2,y4,y5 => if x84 < x83 then ((qa9.f k y2 x84).bind fun t4 => if 0 <= (t4.length : Int) /\ (t4.length : Int) <= 281474976710656 /\ ((8 : Nat) : Int) * (t4.length : Int) <= 140737488355328 then (qa0.l2 n x1 x84 x83 x84 (t4.length : Int) 0 y0_0 y0_1 y2 t4 (vab (t4.length : Int).toNat (0 : Int)) y4 y5).bind fun t5 => (qca.f k y0_0 y0_1 t5).bind fun t6 => if 0 <= x84 /\ x84 < (y5.length : Int) then if x84.toNat < y5.length then qa0.l1 k n x1 x83 (iW.wrap (x84 + 1)) y0_0 y0_1 y2 y4 (y5.set x84.toNat t6) else none else none else none) else some y5
def qa0.f (k : Nat) (a0_0 : LI) (a0_1 : LI) (a1 : LI) : Option (Int × LI × LI) := (qbu.f k a0_0 a0_1).bind fun t1 => if t1 = true then (if 0 <= (a0_0.length : Int) /\ (a0_0.length : Int) <= 281474976710656 /\ ((8 : Nat) : Int) * (a0_0.length : Int) <= 140737488355328 then if (a1.length : Int) = ((vab (a0_0.length : Int).toNat (0 : Int)).length : Int) then ((qa0.l0 k a1 (a1.length : Int) 0 a0_0 a0_1 (vab (a0_0.length : Int).toNat (0 : Int)) []).bind fun t2 => Sum.elim (fun t2 => (qa4.f k t2 0).bind fun t3 => (qa0.l1 k k a1 (t3.2.length : Int) 0 a0_0 a0_1 t2 t3.1 t3.2).bind fun t7 => some (0,t3.1,t7)) (fun t2 => some (t2,[],[])) t2) else some (1,[],[]) else none) else some (13,[],[])
def qaC.l0 : Nat -> LI -> LI -> Int -> Int -> LI -> LI -> Option (Unit ⊕ Int)
 | 0,_,_,_,_,_,_ => none
 | n + 1,x1,x2,x31,x32,y0_0,y0_1 => if x32 < x31 then (if 0 <= x32 /\ x32 < (x2.length : Int) then if x2.getD x32.toNat 0 < 0 then (some (.inr 1)) else if (x1.length : Int) <= x2.getD x32.toNat 0 then (some (.inr 1)) else if 0 < x32 then (if 0 <= iW.wrap (x32 - 1) /\ iW.wrap (x32 - 1) < (x2.length : Int) then if x2.getD x32.toNat 0 <= x2.getD (iW.wrap (x32 - 1)).toNat 0 then (some (.inr 1)) else if 0 <= x2.getD x32.toNat 0 /\ x2.getD x32.toNat 0 < (x1.length : Int) then if 0 <= x32 /\ x32 < (y0_0.length : Int) then if x1.getD (x2.getD x32.toNat 0).toNat 0 = y0_0.getD x32.toNat 0 then (qaC.l0 n x1 x2 x31 (iW.wrap (x32 + 1)) y0_0 y0_1) else some (.inr 1) else none else none else none) else if 0 <= x2.getD x32.toNat 0 /\ x2.getD x32.toNat 0 < (x1.length : Int) then if 0 <= x32 /\ x32 < (y0_0.length : Int) then if x1.getD (x2.getD x32.toNat 0).toNat 0 = y0_0.getD x32.toNat 0 then (qaC.l0 n x1 x2 x31 (iW.wrap (x32 + 1)) y0_0 y0_1) else some (.inr 1) else none else none else none) else some (.inl ())
def qaC.l2 : Nat -> LI -> LI -> Int -> Int -> Int -> Int -> Int -> LI -> LI -> LI -> LI -> LI -> LI -> Option (LI)
 | 0,_,_,_,_,_,_,_,_,_,_,_,_,_ => none
 | n + 1,x1,x2,x10,x86,x87,x94,x95,y0_0,y0_1,y3,y4,y5,y6 => if x95 < x94 then (if 0 <= x95 /\ x95 < (x2.length : Int) then if 0 <= x2.getD x95.toNat 0 /\ x2.getD x95.toNat 0 < (y3.length : Int) then if (x2.getD x95.toNat 0).toNat < y3.length then if y4.length + [y3.getD (x2.getD x95.toNat 0).toNat 0].length <= 281474976710656 /\ (y4.length + [y3.getD (x2.getD x95.toNat 0).toNat 0].length) * 8 <= 140737488355328 then qaC.l2 n x1 x2 x10 x86 x87 x94 (iW.wrap (x95 + 1)) y0_0 y0_1 y3 (y4 ++ [y3.getD (x2.getD x95.toNat 0).toNat 0]) y5 y6 else none else none else none else none) else some y4
def qaC.l1 (k : Nat) : Nat -> LI -> LI -> Int -> Int -> LI -> LI -> LI -> LI -> Option (LI)
 | 0,_,_,_,_,_,_,_,_ => none
 | n + 1,x1,x2,x86,x87,y0_0,y0_1,y3,y4 => if x87 < x86 then ((qa9.f k x1 x87).bind fun t5 => (qaC.l2 n x1 x2 x87 x86 x87 (x2.length : Int) 0 y0_0 y0_1 t5 [] y3 y4).bind fun t6 => (qca.f k y0_0 y0_1 t6).bind fun t7 => if 0 <= x87 /\ x87 < (y4.length : Int) then if x87.toNat < y4.length then qaC.l1 k n x1 x2 x86 (iW.wrap (x87 + 1)) y0_0 y0_1 y3 (y4.set x87.toNat t7) else none else none) else some y4
def qaC.f (k : Nat) (a0_0 : LI) (a0_1 : LI) (a1 : LI) (a2 : LI) : Option (Int × LI × LI) := (qbu.f k a0_0 a0_1).bind fun t1 => if t1 = true then ((qaL.f k a1).bind fun t2 => if t2 = true then (if (a2.length : Int) = (a0_0.length : Int) then ((qaC.l0 k a1 a2 (a2.length : Int) 0 a0_0 a0_1).bind fun t3 => Sum.elim (fun t3 => (qa4.f k a1 0).bind fun t4 => (qaC.l1 k k a1 a2 (t4.2.length : Int) 0 a0_0 a0_1 t4.1 t4.2).bind fun t8 => some (0,t4.1,t8)) (fun t3 => some (t3,[],[])) t3) else some (1,[],[])) else some (13,[],[])) else some (13,[],[])
def qaP.l0 : Nat -> LI -> LI -> Int -> Int -> LI -> LI -> Option (Unit ⊕ Int)
 | 0,_,_,_,_,_,_ => none
 | n + 1,x1,x2,x33,x34,y0_0,y0_1 => if x34 < x33 then (if 0 <= x34 /\ x34 < (x1.length : Int) then if x1.getD x34.toNat 0 < 0 then (some (.inr 1)) else if 0 <= x34 /\ x34 < (x2.length : Int) then if x2.getD x34.toNat 0 < 0 then (some (.inr 1)) else if 0 <= x34 /\ x34 < (y0_0.length : Int) then if y0_0.getD x34.toNat 0 < x1.getD x34.toNat 0 then (some (.inr 1)) else if iW.wrap ((y0_0.getD x34.toNat 0) - (x1.getD x34.toNat 0)) < x2.getD x34.toNat 0 then (some (.inr 1)) else qaP.l0 n x1 x2 x33 (iW.wrap (x34 + 1)) y0_0 y0_1 else none else none else none) else some (.inl ())
def qaP.l2 : Nat -> LI -> LI -> Int -> Int -> Int -> Int -> Int -> LI -> LI -> LI -> LI -> LI -> Option (LI)
 | 0,_,_,_,_,_,_,_,_,_,_,_,_ => none
 | n + 1,x1,x2,x10,x84,x85,x92,x93,y0_0,y0_1,y3,y4,y5 => if x93 < x92 then (if 0 <= x93 /\ x93 < (y3.length : Int) then if x93.toNat < y3.length then if 0 <= x93 /\ x93 < (x1.length : Int) then qaP.l2 n x1 x2 x10 x84 x85 x92 (iW.wrap (x93 + 1)) y0_0 y0_1 (y3.set x93.toNat (iW.wrap ((y3.getD x93.toNat 0) + (x1.getD x93.toNat 0)))) y4 y5 else none else none else none) else some y3
def qaP.l1 (k : Nat) : Nat -> LI -> LI -> Int -> Int -> LI -> LI -> LI -> LI -> Option (LI)
 | 0,_,_,_,_,_,_,_,_ => none
 | n + 1,x1,x2,x84,x85,y0_0,y0_1,y3,y4 => if x85 < x84 then ((qa9.f k x2 x85).bind fun t4 => (qaP.l2 n x1 x2 x85 x84 x85 (t4.length : Int) 0 y0_0 y0_1 t4 y3 y4).bind fun t5 => (qca.f k y0_0 y0_1 t5).bind fun t6 => if 0 <= x85 /\ x85 < (y4.length : Int) then if x85.toNat < y4.length then qaP.l1 k n x1 x2 x84 (iW.wrap (x85 + 1)) y0_0 y0_1 y3 (y4.set x85.toNat t6) else none else none) else some y4
def qaP.f (k : Nat) (a0_0 : LI) (a0_1 : LI) (a1 : LI) (a2 : LI) : Option (Int × LI × LI) := (qbu.f k a0_0 a0_1).bind fun t1 => if t1 = true then (if (a1.length : Int) = (a0_0.length : Int) then (if (a2.length : Int) = (a0_0.length : Int) then ((qaP.l0 k a1 a2 (a1.length : Int) 0 a0_0 a0_1).bind fun t2 => Sum.elim (fun t2 => (qa4.f k a2 0).bind fun t3 => (qaP.l1 k k a1 a2 (t3.2.length : Int) 0 a0_0 a0_1 t3.1 t3.2).bind fun t7 => some (0,t3.1,t7)) (fun t2 => some (t2,[],[])) t2) else some (1,[],[])) else some (1,[],[])) else some (13,[],[])
def qbc.l0 : Nat -> LI -> LI -> Int -> Int -> Int -> LI -> LI -> LI -> Option (LI ⊕ Int)
 | 0,_,_,_,_,_,_,_,_ => none
 | n + 1,x1,x2,x3,x36,x37,y0_0,y0_1,y2 => if x37 < x36 then (if 0 <= x37 /\ x37 < (x1.length : Int) then if x1.getD x37.toNat 0 < 0 then (some (.inr 1)) else if 0 <= x37 /\ x37 < (x2.length : Int) then if x2.getD x37.toNat 0 < 0 then (some (.inr 1)) else if 32 < x1.getD x37.toNat 0 then (some (.inr 1)) else if 32 < x2.getD x37.toNat 0 then (some (.inr 1)) else if 0 <= x37 /\ x37 < (y0_0.length : Int) then if y2.length + [iW.wrap ((iW.wrap ((x1.getD x37.toNat 0) + (y0_0.getD x37.toNat 0))) + (x2.getD x37.toNat 0))].length <= 281474976710656 /\ (y2.length + [iW.wrap ((iW.wrap ((x1.getD x37.toNat 0) + (y0_0.getD x37.toNat 0))) + (x2.getD x37.toNat 0))].length) * 8 <= 140737488355328 then qbc.l0 n x1 x2 x3 x36 (iW.wrap (x37 + 1)) y0_0 y0_1 (y2 ++ [iW.wrap ((iW.wrap ((x1.getD x37.toNat 0) + (y0_0.getD x37.toNat 0))) + (x2.getD x37.toNat 0))]) else none else none else none else none) else some (.inl y2)
def qbc.l2 : Nat -> LI -> Int -> Int -> Int -> Int -> Int -> LI -> LI -> LI -> LI -> LI -> LI -> Option (LI)
 | 0,_,_,_,_,_,_,_,_,_,_,_,_ => none
 | n + 1,x1,x13,x95,x96,x104,x105,y0_0,y0_1,y2,y4,y5,y6 => if x105 < x104 then (if 0 <= x105 /\ x105 < (y4.length : Int) then if x105.toNat < y4.length then if 0 <= x105 /\ x105 < (x1.length : Int) then qbc.l2 n x1 x13 x95 x96 x104 (iW.wrap (x105 + 1)) y0_0 y0_1 y2 (y4.set x105.toNat (iW.wrap ((y4.getD x105.toNat 0) + (x1.getD x105.toNat 0)))) y5 y6 else none else none else none) else some y4
def qbc.l1 (k : Nat) : Nat -> LI -> Int -> Int -> LI -> LI -> LI -> LI -> LI -> Option (LI)
 | 0,_,_,_,_,_,_,_,_ => none
 | n + 1,x1,x95,x96,y0_0,y0_1,y2,y4,y5 => if x96 < x95 then ((qa9.f k y0_0 x96).bind fun t5 => (qbc.l2 n x1 x96 x95 x96 (t5.length : Int) 0 y0_0 y0_1 y2 t5 y4 y5).bind fun t6 => (qbz.f k y2 t6).bind fun t7 => if 0 <= x96 /\ x96 < (y0_1.length : Int) then if 0 <= t7 /\ t7 < (y5.length : Int) then if t7.toNat < y5.length then qbc.l1 k n x1 x95 (iW.wrap (x96 + 1)) y0_0 y0_1 y2 y4 (y5.set t7.toNat (y0_1.getD x96.toNat 0)) else none else none else none) else some y5
def qbc.f (k : Nat) (a0_0 : LI) (a0_1 : LI) (a1 : LI) (a2 : LI) (a3 : Int) : Option (Int × LI × LI) := (qbu.f k a0_0 a0_1).bind fun t1 => if t1 = true then (if (a1.length : Int) = (a0_0.length : Int) then (if (a2.length : Int) = (a0_0.length : Int) then ((qbc.l0 k a1 a2 a3 (a1.length : Int) 0 a0_0 a0_1 []).bind fun t2 => Sum.elim (fun t2 => (qaL.f k t2).bind fun t3 => if t3 = true then ((qa4.f k t2 a3).bind fun t4 => (qbc.l1 k k a1 (a0_1.length : Int) 0 a0_0 a0_1 t2 t4.1 t4.2).bind fun t8 => some (0,t4.1,t8)) else some (13,[],[])) (fun t2 => some (t2,[],[])) t2) else some (1,[],[])) else some (1,[],[])) else some (13,[],[])
def qay.l0 (k : Nat) : Nat -> Int -> (List LT) -> Int -> Int -> Option (Unit ⊕ Int)
 | 0,_,_,_,_ => none
 | n + 1,x0,x1,x16,x17 => if x17 < x16 then (if 0 <= x17 /\ x17 < (x1.length : Int) then (qbu.f k (x1.getD x17.toNat ([],[])).1 (x1.getD x17.toNat ([],[])).2).bind fun t1 => if t1 = true then (qay.l0 k n x0 x1 x16 (iW.wrap (x17 + 1))) else some (.inr 13) else none) else some (.inl ())
def qay.l2 : Nat -> Int -> (List LT) -> Int -> Int -> Int -> Int -> Int -> LI -> Option (Unit ⊕ Int)
 | 0,_,_,_,_,_,_,_,_ => none
 | n + 1,x0,x1,x8,x55,x56,x70,x71,y1 => if x71 < x70 then (if x71 = x0 then (qay.l2 n x0 x1 x8 x55 x56 x70 (iW.wrap (x71 + 1)) y1) else if 0 <= x8 /\ x8 < (x1.length : Int) then if 0 <= x71 /\ x71 < ((x1.getD x8.toNat ([],[])).1.length : Int) then if 0 <= x71 /\ x71 < (y1.length : Int) then if x71.toNat < y1.length then if (x1.getD x8.toNat ([],[])).1.getD x71.toNat 0 = y1.getD x71.toNat 0 then (qay.l2 n x0 x1 x8 x55 x56 x70 (iW.wrap (x71 + 1)) y1) else some (.inr 13) else none else none else none else none) else some (.inl ())
def qay.l1 (k : Nat) : Nat -> Int -> (List LT) -> Int -> Int -> LI -> Option (LI ⊕ Int)
 | 0,_,_,_,_,_ => none
 | n + 1,x0,x1,x55,x56,y1 => if x56 < x55 then (if 0 <= x56 /\ x56 < (x1.length : Int) then if ((x1.getD x56.toNat ([],[])).1.length : Int) = (y1.length : Int) then ((qay.l2 n x0 x1 x56 x55 x56 (y1.length : Int) 0 y1).bind fun t3 => Sum.elim (fun t3 => if 0 <= x0 /\ x0 < (y1.length : Int) then if x0.toNat < y1.length then if 0 <= x0 /\ x0 < ((x1.getD x56.toNat ([],[])).1.length : Int) then if 0 <= x0 /\ x0 < ((y1.set x0.toNat (iW.wrap ((y1.getD x0.toNat 0) + ((x1.getD x56.toNat ([],[])).1.getD x0.toNat 0)))).length : Int) then if x0.toNat < (y1.set x0.toNat (iW.wrap ((y1.getD x0.toNat 0) + ((x1.getD x56.toNat ([],[])).1.getD x0.toNat 0)))).length then if 32 < (y1.set x0.toNat (iW.wrap ((y1.getD x0.toNat 0) + ((x1.getD x56.toNat ([],[])).1.getD x0.toNat 0)))).getD x0.toNat 0 then (some (.inr 13)) else qay.l1 k n x0 x1 x55 (iW.wrap (x56 + 1)) (y1.set x0.toNat (iW.wrap ((y1.getD x0.toNat 0) + ((x1.getD x56.toNat ([],[])).1.getD x0.toNat 0)))) else none else none else none else none else none) (fun t3 => some (.inr t3)) t3) else some (.inr 13) else none) else some (.inl y1)
def qay.l4 (k : Nat) : Nat -> Int -> (List LT) -> Int -> Int -> Int -> Int -> Int -> Int -> LI -> LI -> LI -> Option (LI)
 | 0,_,_,_,_,_,_,_,_,_,_,_ => none
 | n + 1,x0,x1,x11,x12,x124,x125,x133,x134,y1,y3,y4 => if x134 < x133 then (if 0 <= x12 /\ x12 < (x1.length : Int) then (qa9.f k (x1.getD x12.toNat ([],[])).1 x134).bind fun t7 => if 0 <= x0 /\ x0 < (t7.length : Int) then if x0.toNat < t7.length then (qbz.f k y1 (t7.set x0.toNat (iW.wrap ((t7.getD x0.toNat 0) + x11)))).bind fun t8 => if 0 <= x134 /\ x134 < ((x1.getD x12.toNat ([],[])).2.length : Int) then if 0 <= t8 /\ t8 < (y4.length : Int) then if t8.toNat < y4.length then qay.l4 k n x0 x1 x11 x12 x124 x125 x133 (iW.wrap (x134 + 1)) y1 y3 (y4.set t8.toNat ((x1.getD x12.toNat ([],[])).2.getD x134.toNat 0)) else none else none else none else none else none else none) else some y4
def qay.l3 (k : Nat) : Nat -> Int -> (List LT) -> Int -> Int -> Int -> LI -> LI -> LI -> Option (LI)
 | 0,_,_,_,_,_,_,_,_ => none
 | n + 1,x0,x1,x11,x124,x125,y1,y3,y4 => if x125 < x124 then (if 0 <= x125 /\ x125 < (x1.length : Int) then (qay.l4 k n x0 x1 x11 x125 x124 x125 ((x1.getD x125.toNat ([],[])).2.length : Int) 0 y1 y3 y4).bind fun t9 => if 0 <= x0 /\ x0 < ((x1.getD x125.toNat ([],[])).1.length : Int) then qay.l3 k n x0 x1 (iW.wrap (x11 + ((x1.getD x125.toNat ([],[])).1.getD x0.toNat 0))) x124 (iW.wrap (x125 + 1)) y1 y3 t9 else none else none) else some y4
def qay.f (k : Nat) (a0 : Int) (a1 : List LT) : Option (Int × LI × LI) := (qay.l0 k k a0 a1 (a1.length : Int) 0).bind fun t2 => Sum.elim (fun t2 => if (a1.length : Int) = 0 then (some (1,[],[])) else if a0 < 0 then (some (1,[],[])) else if (0 : Int) <= 0 /\ 0 < (a1.length : Int) then if ((a1.getD 0 ([],[])).1.length : Int) <= a0 then (some (1,[],[])) else if 0 + (a1.getD 0 ([],[])).1.length <= 281474976710656 /\ (0 + (a1.getD 0 ([],[])).1.length) * 8 <= 140737488355328 then if 0 <= a0 /\ a0 < (([] ++ (a1.getD 0 ([],[])).1).length : Int) then if a0.toNat < ([] ++ (a1.getD 0 ([],[])).1).length then (qay.l1 k k a0 a1 (a1.length : Int) 0 (([] ++ (a1.getD 0 ([],[])).1).set a0.toNat 0)).bind fun t4 => Sum.elim (fun t4 => (qaL.f k t4).bind fun t5 => if t5 = true then ((qa4.f k t4 0).bind fun t6 => (qay.l3 k k a0 a1 0 (a1.length : Int) 0 t4 t6.1 t6.2).bind fun t10 => some (0,t6.1,t10)) else some (13,[],[])) (fun t4 => some (t4,[],[])) t4 else none else none else none else none) (fun t2 => some (t2,[],[])) t2
end Go.Pf

namespace Go.Pf
open Go
def qdu.f (a0 : Int) (a1 : Int) : Option (Int × Int) := if 0 <= (32 : Int) then some (IntKind.u64.wrap ((IntKind.u64.wrap ((IntKind.u64.wrap ((a0.fdiv (2 ^ (min 32 64))) * (a1.fdiv (2 ^ (min 32 64))))) + ((IntKind.u64.wrap ((IntKind.u64.wrap ((a0.fdiv (2 ^ (min 32 64))) * (bits .and .u64 a1 4294967295))) + ((IntKind.u64.wrap ((bits .and .u64 a0 4294967295) * (bits .and .u64 a1 4294967295))).fdiv (2 ^ (min 32 64))))).fdiv (2 ^ (min 32 64))))) + ((IntKind.u64.wrap ((bits .and .u64 (IntKind.u64.wrap ((IntKind.u64.wrap ((a0.fdiv (2 ^ (min 32 64))) * (bits .and .u64 a1 4294967295))) + ((IntKind.u64.wrap ((bits .and .u64 a0 4294967295) * (bits .and .u64 a1 4294967295))).fdiv (2 ^ (min 32 64))))) 4294967295) + (IntKind.u64.wrap ((bits .and .u64 a0 4294967295) * (a1.fdiv (2 ^ (min 32 64))))))).fdiv (2 ^ (min 32 64)))),IntKind.u64.wrap (a0 * a1)) else none
def qed.f (a0 : Int) (a1 : Int) : Option (Int × Int) := (qdu.f a0 a1).bind fun t1 => some (t1.1,t1.2)
def qbq.l0 : Nat -> Int -> LI -> Option (LI)
 | 0,_,_ => none
 | n + 1,x8,y0 => if x8 < (y0.length : Int) then (if 0 <= x8 /\ x8 <= (y0.length : Int) /\ (y0.length : Int) <= (y0.length : Int) then if 0 <= ((0 : Nat) : Int) /\ ((0 : Nat) : Int) <= x8 /\ x8 <= (y0.length : Int) then qbq.l0 n (iW.wrap (x8 + ((min ((y0.take x8.toNat).drop 0).length (y0.length - x8.toNat) : Nat) : Int))) (y0.take x8.toNat ++ ((y0.take x8.toNat).drop 0).take (y0.length - x8.toNat) ++ y0.drop (x8.toNat + min ((y0.take x8.toNat).drop 0).length (y0.length - x8.toNat))) else none else none) else some y0
def qbq.f (k : Nat) (a0 : LI) (a1 : Int) : Option (LI) := if a1 < 0 then (none) else (qed.f (IntKind.u64.wrap (a0.length : Int)) (IntKind.u64.wrap a1)).bind fun t1 => if 0 < t1.1 then (none) else if 9223372036854775807 < t1.2 then (none) else if 0 <= iW.wrap t1.2 /\ iW.wrap t1.2 <= 281474976710656 /\ ((8 : Nat) : Int) * (iW.wrap t1.2) <= 140737488355328 then (qbq.l0 k ((min a0.length (vab (iW.wrap t1.2).toNat (0 : Int)).length : Nat) : Int) (a0.take (vab (iW.wrap t1.2).toNat (0 : Int)).length ++ (vab (iW.wrap t1.2).toNat (0 : Int)).drop a0.length)).bind fun t2 => some t2 else none
def qc1.f (k : Nat) (a0 : Int) : Option (LI) := if a0 < 0 then (some []) else if 4 < a0 then (some []) else (qbq.f k ([-1] : LI) a0).bind fun t1 => some t1
def qaE.l0 : Nat -> LI -> LI -> Int -> Int -> Option (Unit ⊕ Bool)
 | 0,_,_,_,_ => none
 | n + 1,x0,x1,x12,x13 => if x13 < x12 then (if 0 <= x13 /\ x13 < (x0.length : Int) then if 0 <= x13 /\ x13 < (x1.length : Int) then if x0.getD x13.toNat 0 = x1.getD x13.toNat 0 then (qaE.l0 n x0 x1 x12 (iW.wrap (x13 + 1))) else some (.inr false) else none else none) else some (.inl ())
def qaE.f (k : Nat) (a0 : LI) (a1 : LI) : Option (Bool) := if (a0.length : Int) = (a1.length : Int) then ((qaE.l0 k a0 a1 (a0.length : Int) 0).bind fun t1 => Sum.elim (fun t1 => some true) (fun t1 => some t1) t1) else some false
end Go.Pf

namespace Go.Pf
open Go
def qdm.f (k : Nat) (a0 : LI) (a1 : LI) : Option (Bool) := (qaE.f k a0 a1).bind fun t1 => some t1
end Go.Pf

namespace Go.Pf
open Go
def qcF.f (o0_0 : LI) (o0_1 : Int) : Option (ByteArray × Int × LI) := (qae.f 10 o0_0 o0_1).bind fun t1 => if 0 <= t1.1 /\ t1.1 < ([([2] : LI),([3] : LI),([2,2] : LI),([4] : LI),([2,3] : LI),[],([2,2,2] : LI),([5] : LI),([1,3] : LI),([8] : LI)].length : Int) then if t1.1.toNat < [([2] : LI),([3] : LI),([2,2] : LI),([4] : LI),([2,3] : LI),[],([2,2,2] : LI),([5] : LI),([1,3] : LI),([8] : LI)].length then if 0 <= (if iW.wrap ((([([2] : LI),([3] : LI),([2,2] : LI),([4] : LI),([2,3] : LI),[],([2,2,2] : LI),([5] : LI),([1,3] : LI),([8] : LI)].getD t1.1.toNat []).length : Int) - 1) < 0 then 0 else iW.wrap ((([([2] : LI),([3] : LI),([2,2] : LI),([4] : LI),([2,3] : LI),[],([2,2,2] : LI),([5] : LI),([1,3] : LI),([8] : LI)].getD t1.1.toNat []).length : Int) - 1)) /\ (if iW.wrap ((([([2] : LI),([3] : LI),([2,2] : LI),([4] : LI),([2,3] : LI),[],([2,2,2] : LI),([5] : LI),([1,3] : LI),([8] : LI)].getD t1.1.toNat []).length : Int) - 1) < 0 then 0 else iW.wrap ((([([2] : LI),([3] : LI),([2,2] : LI),([4] : LI),([2,3] : LI),[],([2,2,2] : LI),([5] : LI),([1,3] : LI),([8] : LI)].getD t1.1.toNat []).length : Int) - 1)) < ([(vac #[120]),(vac #[121,195,169]),(vac #[97,98,228,184,150])].length : Int) then if (if iW.wrap ((([([2] : LI),([3] : LI),([2,2] : LI),([4] : LI),([2,3] : LI),[],([2,2,2] : LI),([5] : LI),([1,3] : LI),([8] : LI)].getD t1.1.toNat []).length : Int) - 1) < 0 then 0 else iW.wrap ((([([2] : LI),([3] : LI),([2,2] : LI),([4] : LI),([2,3] : LI),[],([2,2,2] : LI),([5] : LI),([1,3] : LI),([8] : LI)].getD t1.1.toNat []).length : Int) - 1)).toNat < [(vac #[120]),(vac #[121,195,169]),(vac #[97,98,228,184,150])].length then if (([([2] : LI),([3] : LI),([2,2] : LI),([4] : LI),([2,3] : LI),[],([2,2,2] : LI),([5] : LI),([1,3] : LI),([8] : LI)].getD t1.1.toNat []).length : Int) = 0 then (if (([([2] : LI),([3] : LI),([2,2] : LI),([4] : LI),([2,3] : LI),[],([2,2,2] : LI),([5] : LI),([1,3] : LI),([8] : LI)].getD t1.1.toNat []).length : Int) = 2 then (if 0 + ([([2] : LI),([3] : LI),([2,2] : LI),([4] : LI),([2,3] : LI),[],([2,2,2] : LI),([5] : LI),([1,3] : LI),([8] : LI)].getD t1.1.toNat []).length <= 281474976710656 /\ (0 + ([([2] : LI),([3] : LI),([2,2] : LI),([4] : LI),([2,3] : LI),[],([2,2,2] : LI),([5] : LI),([1,3] : LI),([8] : LI)].getD t1.1.toNat []).length) * 8 <= 140737488355328 then some ((vac #[121,195,169]),t1.2,[] ++ ([([2] : LI),([3] : LI),([2,2] : LI),([4] : LI),([2,3] : LI),[],([2,2,2] : LI),([5] : LI),([1,3] : LI),([8] : LI)].getD t1.1.toNat [])) else none) else if 0 + ([([2] : LI),([3] : LI),([2,2] : LI),([4] : LI),([2,3] : LI),[],([2,2,2] : LI),([5] : LI),([1,3] : LI),([8] : LI)].getD t1.1.toNat []).length <= 281474976710656 /\ (0 + ([([2] : LI),([3] : LI),([2,2] : LI),([4] : LI),([2,3] : LI),[],([2,2,2] : LI),([5] : LI),([1,3] : LI),([8] : LI)].getD t1.1.toNat []).length) * 8 <= 140737488355328 then some (vaa,t1.2,[] ++ ([([2] : LI),([3] : LI),([2,2] : LI),([4] : LI),([2,3] : LI),[],([2,2,2] : LI),([5] : LI),([1,3] : LI),([8] : LI)].getD t1.1.toNat [])) else none) else if (([([2] : LI),([3] : LI),([2,2] : LI),([4] : LI),([2,3] : LI),[],([2,2,2] : LI),([5] : LI),([1,3] : LI),([8] : LI)].getD t1.1.toNat []).length : Int) = 2 then (if 0 + ([([2] : LI),([3] : LI),([2,2] : LI),([4] : LI),([2,3] : LI),[],([2,2,2] : LI),([5] : LI),([1,3] : LI),([8] : LI)].getD t1.1.toNat []).length <= 281474976710656 /\ (0 + ([([2] : LI),([3] : LI),([2,2] : LI),([4] : LI),([2,3] : LI),[],([2,2,2] : LI),([5] : LI),([1,3] : LI),([8] : LI)].getD t1.1.toNat []).length) * 8 <= 140737488355328 then some ((vac #[121,195,169]),t1.2,[] ++ ([([2] : LI),([3] : LI),([2,2] : LI),([4] : LI),([2,3] : LI),[],([2,2,2] : LI),([5] : LI),([1,3] : LI),([8] : LI)].getD t1.1.toNat [])) else none) else if 0 + ([([2] : LI),([3] : LI),([2,2] : LI),([4] : LI),([2,3] : LI),[],([2,2,2] : LI),([5] : LI),([1,3] : LI),([8] : LI)].getD t1.1.toNat []).length <= 281474976710656 /\ (0 + ([([2] : LI),([3] : LI),([2,2] : LI),([4] : LI),([2,3] : LI),[],([2,2,2] : LI),([5] : LI),([1,3] : LI),([8] : LI)].getD t1.1.toNat []).length) * 8 <= 140737488355328 then some ([(vac #[120]),(vac #[121,195,169]),(vac #[97,98,228,184,150])].getD (if iW.wrap ((([([2] : LI),([3] : LI),([2,2] : LI),([4] : LI),([2,3] : LI),[],([2,2,2] : LI),([5] : LI),([1,3] : LI),([8] : LI)].getD t1.1.toNat []).length : Int) - 1) < 0 then 0 else iW.wrap ((([([2] : LI),([3] : LI),([2,2] : LI),([4] : LI),([2,3] : LI),[],([2,2,2] : LI),([5] : LI),([1,3] : LI),([8] : LI)].getD t1.1.toNat []).length : Int) - 1)).toNat vaa,t1.2,[] ++ ([([2] : LI),([3] : LI),([2,2] : LI),([4] : LI),([2,3] : LI),[],([2,2,2] : LI),([5] : LI),([1,3] : LI),([8] : LI)].getD t1.1.toNat [])) else none else none else none else none else none
def qbD.l0 (k : Nat) : Nat -> (List LI) -> LI -> Int -> Int -> LI -> Option (LI)
 | 0,_,_,_,_,_ => none
 | n + 1,x0,x1,x8,x9,y0 => if x9 < x8 then (if 0 <= x9 /\ x9 < (x0.length : Int) then (qbr.f k (x0.getD x9.toNat []) x1).bind fun t1 => if t1 = true then (if y0.length + [x9].length <= 281474976710656 /\ (y0.length + [x9].length) * 8 <= 140737488355328 then qbD.l0 k n x0 x1 x8 (iW.wrap (x9 + 1)) (y0 ++ [x9]) else none) else qbD.l0 k n x0 x1 x8 (iW.wrap (x9 + 1)) y0 else none) else some y0
def qbD.f (k : Nat) (a0 : List LI) (a1 : LI) : Option (LI) := (qbD.l0 k k a0 a1 (a0.length : Int) 0 []).bind fun t2 => some t2
def qdq.f (a0 : Int) : Option (Int × Bool × Bool × Bool × Bool) := if a0 = 1 then (some (0,true,false,false,false)) else if a0 = 2 then (some (0,true,false,true,false)) else if a0 = 3 then (some (0,true,true,false,false)) else if a0 = 4 then (some (1,false,false,false,false)) else if a0 = 5 then (some (1,false,false,false,false)) else if 6 <= a0 then (if a0 <= 11 then (some (2,false,false,false,false)) else if a0 = 12 then (some (3,false,false,false,false)) else if a0 = 13 then (some (1,false,true,false,false)) else if a0 = 15 then (some (1,false,true,false,false)) else if a0 = 14 then (some (1,true,true,false,false)) else if a0 = 16 then (some (1,false,true,true,false)) else if a0 = 17 then (some (-1,false,true,false,false)) else if a0 = 18 then (some (1,false,true,false,true)) else if a0 = 20 then (some (1,false,true,false,true)) else if a0 = 19 then (some (2,false,true,false,false)) else some (-2,false,false,false,false)) else if a0 = 12 then (some (3,false,false,false,false)) else if a0 = 13 then (some (1,false,true,false,false)) else if a0 = 15 then (some (1,false,true,false,false)) else if a0 = 14 then (some (1,true,true,false,false)) else if a0 = 16 then (some (1,false,true,true,false)) else if a0 = 17 then (some (-1,false,true,false,false)) else if a0 = 18 then (some (1,false,true,false,true)) else if a0 = 20 then (some (1,false,true,false,true)) else if a0 = 19 then (some (2,false,true,false,false)) else some (-2,false,false,false,false)
def qdU.f (a0_0 : Int) (a0_1 : LI) (a0_2 : LI) (a0_3 : LI) (a0_4 : Int) (a0_5 : Int) (a0_6 : ByteArray) (a1 : Int) : Option (Bool) := (qdq.f a0_0).bind fun t1 => if t1.1 = -2 then (some false) else if 0 <= t1.1 then (if a1 = t1.1 then (if t1.1 = -1 then (if a1 < 2 then (some false) else if t1.2.1 = true then (if t1.2.2.1 = true then (if t1.2.2.2.1 = true then (if t1.2.2.2.2 = true then (some true) else some (decide (a0_5 = 0))) else if a0_4 = 0 then (if t1.2.2.2.2 = true then (some true) else some (decide (a0_5 = 0))) else some false) else if (a0_3.length : Int) = 0 then (if t1.2.2.2.1 = true then (if t1.2.2.2.2 = true then (some true) else some (decide (a0_5 = 0))) else if a0_4 = 0 then (if t1.2.2.2.2 = true then (some true) else some (decide (a0_5 = 0))) else some false) else some false) else if (a0_2.length : Int) = 0 then (if t1.2.2.1 = true then (if t1.2.2.2.1 = true then (if t1.2.2.2.2 = true then (some true) else some (decide (a0_5 = 0))) else if a0_4 = 0 then (if t1.2.2.2.2 = true then (some true) else some (decide (a0_5 = 0))) else some false) else if (a0_3.length : Int) = 0 then (if t1.2.2.2.1 = true then (if t1.2.2.2.2 = true then (some true) else some (decide (a0_5 = 0))) else if a0_4 = 0 then (if t1.2.2.2.2 = true then (some true) else some (decide (a0_5 = 0))) else some false) else some false) else some false) else if t1.2.1 = true then (if t1.2.2.1 = true then (if t1.2.2.2.1 = true then (if t1.2.2.2.2 = true then (some true) else some (decide (a0_5 = 0))) else if a0_4 = 0 then (if t1.2.2.2.2 = true then (some true) else some (decide (a0_5 = 0))) else some false) else if (a0_3.length : Int) = 0 then (if t1.2.2.2.1 = true then (if t1.2.2.2.2 = true then (some true) else some (decide (a0_5 = 0))) else if a0_4 = 0 then (if t1.2.2.2.2 = true then (some true) else some (decide (a0_5 = 0))) else some false) else some false) else if (a0_2.length : Int) = 0 then (if t1.2.2.1 = true then (if t1.2.2.2.1 = true then (if t1.2.2.2.2 = true then (some true) else some (decide (a0_5 = 0))) else if a0_4 = 0 then (if t1.2.2.2.2 = true then (some true) else some (decide (a0_5 = 0))) else some false) else if (a0_3.length : Int) = 0 then (if t1.2.2.2.1 = true then (if t1.2.2.2.2 = true then (some true) else some (decide (a0_5 = 0))) else if a0_4 = 0 then (if t1.2.2.2.2 = true then (some true) else some (decide (a0_5 = 0))) else some false) else some false) else some false) else some false) else if t1.1 = -1 then (if a1 < 2 then (some false) else if t1.2.1 = true then (if t1.2.2.1 = true then (if t1.2.2.2.1 = true then (if t1.2.2.2.2 = true then (some true) else some (decide (a0_5 = 0))) else if a0_4 = 0 then (if t1.2.2.2.2 = true then (some true) else some (decide (a0_5 = 0))) else some false) else if (a0_3.length : Int) = 0 then (if t1.2.2.2.1 = true then (if t1.2.2.2.2 = true then (some true) else some (decide (a0_5 = 0))) else if a0_4 = 0 then (if t1.2.2.2.2 = true then (some true) else some (decide (a0_5 = 0))) else some false) else some false) else if (a0_2.length : Int) = 0 then (if t1.2.2.1 = true then (if t1.2.2.2.1 = true then (if t1.2.2.2.2 = true then (some true) else some (decide (a0_5 = 0))) else if a0_4 = 0 then (if t1.2.2.2.2 = true then (some true) else some (decide (a0_5 = 0))) else some false) else if (a0_3.length : Int) = 0 then (if t1.2.2.2.1 = true then (if t1.2.2.2.2 = true then (some true) else some (decide (a0_5 = 0))) else if a0_4 = 0 then (if t1.2.2.2.2 = true then (some true) else some (decide (a0_5 = 0))) else some false) else some false) else some false) else if t1.2.1 = true then (if t1.2.2.1 = true then (if t1.2.2.2.1 = true then (if t1.2.2.2.2 = true then (some true) else some (decide (a0_5 = 0))) else if a0_4 = 0 then (if t1.2.2.2.2 = true then (some true) else some (decide (a0_5 = 0))) else some false) else if (a0_3.length : Int) = 0 then (if t1.2.2.2.1 = true then (if t1.2.2.2.2 = true then (some true) else some (decide (a0_5 = 0))) else if a0_4 = 0 then (if t1.2.2.2.2 = true then (some true) else some (decide (a0_5 = 0))) else some false) else some false) else if (a0_2.length : Int) = 0 then (if t1.2.2.1 = true then (if t1.2.2.2.1 = true then (if t1.2.2.2.2 = true then (some true) else some (decide (a0_5 = 0))) else if a0_4 = 0 then (if t1.2.2.2.2 = true then (some true) else some (decide (a0_5 = 0))) else some false) else if (a0_3.length : Int) = 0 then (if t1.2.2.2.1 = true then (if t1.2.2.2.2 = true then (some true) else some (decide (a0_5 = 0))) else if a0_4 = 0 then (if t1.2.2.2.2 = true then (some true) else some (decide (a0_5 = 0))) else some false) else some false) else some false
def qcj.f (a0_0 : Int) (a0_1 : LI) (a0_2 : LI) (a0_3 : LI) (a0_4 : Int) (a0_5 : Int) (a0_6 : ByteArray) (a1 : Int) : Option (Bool) := some (decide ((a0_3.length : Int) = a1))
def qb7.l0 (k : Nat) : Nat -> LI -> Int -> Int -> LI -> LI -> Option (LI)
 | 0,_,_,_,_,_ => none
 | n + 1,x0,x1,x6,y2,y3 => if x6 < (y3.length : Int) then ((qa9.f k x0 x6).bind fun t2 => if 0 <= x1 /\ x1 < (t2.length : Int) then if x1.toNat < t2.length then if 0 <= x6 /\ x6 < (y3.length : Int) then if x6.toNat < y3.length then qb7.l0 k n x0 x1 (iW.wrap (x6 + 1)) y2 (y3.set x6.toNat (t2.getD x1.toNat 0)) else none else none else none else none) else some y3
def qb7.f (k : Nat) (a0 : LI) (a1 : Int) : Option LT := (qa4.f k a0 0).bind fun t1 => (qb7.l0 k k a0 a1 0 t1.1 t1.2).bind fun t3 => some (t1.1,t3)
def qbJ.l0 (k : Nat) : Nat -> (List LT) -> Int -> Option (Unit ⊕ Int)
 | 0,_,_ => none
 | n + 1,x0,x3 => if x3 < (x0.length : Int) then (if 0 <= x3 /\ x3 < (x0.length : Int) then (qbu.f k (x0.getD x3.toNat ([],[])).1 (x0.getD x3.toNat ([],[])).2).bind fun t1 => if t1 = true then (if (0 : Int) <= 0 /\ 0 < (x0.length : Int) then (qbr.f k (x0.getD x3.toNat ([],[])).1 (x0.getD 0 ([],[])).1).bind fun t2 => if t2 = true then (qbJ.l0 k n x0 (iW.wrap (x3 + 1))) else some (.inr 13) else none) else some (.inr 13) else none) else some (.inl ())
def qbJ.f (k : Nat) (a0 : List LT) : Option (Int) := (qbJ.l0 k k a0 0).bind fun t3 => Sum.elim (fun t3 => some 0) (fun t3 => some t3) t3
def qft.f (a0 : Bool) : Option (Int) := if a0 = true then (some 1) else some 0
def qdS.f (a0 : Int) (a1 : Int) (a2 : Int) : Option (Int) := if a0 = 4 then (some (iW.wrap (0 - a1))) else if a0 = 5 then ((qft.f (decide (a1 = 0))).bind fun t1 => some t1) else if a0 = 6 then (some (iW.wrap (a1 + a2))) else if a0 = 7 then (some (iW.wrap (a1 - a2))) else if a0 = 8 then (some (iW.wrap (a1 * a2))) else if a0 = 9 then (some (if a2 < a1 then a2 else a1)) else if a0 = 10 then (some (if a1 < a2 then a2 else a1)) else if a0 = 11 then ((qft.f (decide (a1 < a2))).bind fun t2 => some t2) else some 0
def qce.l0 : Nat -> Int -> Int -> Int -> LI -> LI -> LI -> LI -> Option (LI)
 | 0,_,_,_,_,_,_,_ => none
 | n + 1,x0,x28,x29,y0_0,y0_1,y3,y4 => if x29 < x28 then (if 0 <= x29 /\ x29 < (y0_1.length : Int) then (qdS.f x0 (y0_1.getD x29.toNat 0) 0).bind fun t3 => if 0 <= x29 /\ x29 < (y4.length : Int) then if x29.toNat < y4.length then qce.l0 n x0 x28 (iW.wrap (x29 + 1)) y0_0 y0_1 y3 (y4.set x29.toNat t3) else none else none else none) else some y4
def qce.f (k : Nat) (a0 : Int) (a1_0 : LI) (a1_1 : LI) : Option (Int × LI × LI) := if a0 = 4 then ((qbJ.f k [(a1_0,a1_1)]).bind fun t5 => if t5 = 0 then ((qa4.f k a1_0 0).bind fun t6 => (qce.l0 k a0 (t6.2.length : Int) 0 a1_0 a1_1 t6.1 t6.2).bind fun t7 => some (0,t6.1,t7)) else some (t5,[],[])) else if a0 = 5 then ((qbJ.f k [(a1_0,a1_1)]).bind fun t1 => if t1 = 0 then ((qa4.f k a1_0 0).bind fun t2 => (qce.l0 k a0 (t2.2.length : Int) 0 a1_0 a1_1 t2.1 t2.2).bind fun t4 => some (0,t2.1,t4)) else some (t1,[],[])) else some (1,[],[])
def qb5.l0 : Nat -> Int -> Int -> LI -> LI -> LI -> LI -> LI -> LI -> LI -> LI -> Option (LI)
 | 0,_,_,_,_,_,_,_,_,_,_ => none
 | n + 1,x25,x26,y0_0,y0_1,y1_0,y1_1,y2_0,y2_1,y5,y6 => if x26 < x25 then (if 0 <= x26 /\ x26 < (y2_1.length : Int) then if 0 <= x26 /\ x26 < (y6.length : Int) then if x26.toNat < y6.length then if 0 <= x26 /\ x26 < (y0_1.length : Int) then if y0_1.getD x26.toNat 0 = 0 then (qb5.l0 n x25 (iW.wrap (x26 + 1)) y0_0 y0_1 y1_0 y1_1 y2_0 y2_1 y5 (y6.set x26.toNat (y2_1.getD x26.toNat 0))) else if 0 <= x26 /\ x26 < (y1_1.length : Int) then if 0 <= x26 /\ x26 < ((y6.set x26.toNat (y2_1.getD x26.toNat 0)).length : Int) then if x26.toNat < (y6.set x26.toNat (y2_1.getD x26.toNat 0)).length then qb5.l0 n x25 (iW.wrap (x26 + 1)) y0_0 y0_1 y1_0 y1_1 y2_0 y2_1 y5 ((y6.set x26.toNat (y2_1.getD x26.toNat 0)).set x26.toNat (y1_1.getD x26.toNat 0)) else none else none else none else none else none else none else none) else some y6
def qb5.f (k : Nat) (a0_0 : LI) (a0_1 : LI) (a1_0 : LI) (a1_1 : LI) (a2_0 : LI) (a2_1 : LI) : Option (Int × LI × LI) := (qbJ.f k [(a0_0,a0_1),(a1_0,a1_1),(a2_0,a2_1)]).bind fun t1 => if t1 = 0 then ((qa4.f k a1_0 0).bind fun t2 => (qb5.l0 k (t2.2.length : Int) 0 a0_0 a0_1 a1_0 a1_1 a2_0 a2_1 t2.1 t2.2).bind fun t3 => some (0,t2.1,t3)) else some (t1,[],[])
def qcY.f (k : Nat) (a0 : LI) (a1 : LI) (a2 : Int) : Option (Int × LI) := if a2 < 0 then (some (1,[])) else if (a0.length : Int) <= a2 then (some (1,[])) else if (a1.length : Int) <= a2 then (some (1,[])) else (qaL.f k a0).bind fun t1 => if t1 = true then ((qaL.f k a1).bind fun t2 => if t2 = true then (if 0 <= ((0 : Nat) : Int) /\ ((0 : Nat) : Int) <= a2 /\ a2 <= (a0.length : Int) then if 0 <= ((0 : Nat) : Int) /\ ((0 : Nat) : Int) <= a2 /\ a2 <= (a1.length : Int) then (qbr.f k ((a0.take a2.toNat).drop 0) ((a1.take a2.toNat).drop 0)).bind fun t3 => if t3 = true then (if 0 <= iW.wrap ((a0.length : Int) - 1) /\ iW.wrap ((a0.length : Int) - 1) < (a0.length : Int) then if 0 <= a2 /\ a2 < (a1.length : Int) then if a0.getD (iW.wrap ((a0.length : Int) - 1)).toNat 0 = a1.getD a2.toNat 0 then (if 0 <= ((0 : Nat) : Int) /\ ((0 : Nat) : Int) <= iW.wrap ((a0.length : Int) - 1) /\ iW.wrap ((a0.length : Int) - 1) <= (a0.length : Int) then if 0 + ((a0.take (iW.wrap ((a0.length : Int) - 1)).toNat).drop 0).length <= 281474976710656 /\ (0 + ((a0.take (iW.wrap ((a0.length : Int) - 1)).toNat).drop 0).length) * 8 <= 140737488355328 then if 0 <= iW.wrap (a2 + 1) /\ iW.wrap (a2 + 1) <= (a1.length : Int) /\ (a1.length : Int) <= (a1.length : Int) then if ([] ++ ((a0.take (iW.wrap ((a0.length : Int) - 1)).toNat).drop 0)).length + ((a1.take a1.length).drop (iW.wrap (a2 + 1)).toNat).length <= 281474976710656 /\ (([] ++ ((a0.take (iW.wrap ((a0.length : Int) - 1)).toNat).drop 0)).length + ((a1.take a1.length).drop (iW.wrap (a2 + 1)).toNat).length) * 8 <= 140737488355328 then (qaL.f k (([] ++ ((a0.take (iW.wrap ((a0.length : Int) - 1)).toNat).drop 0)) ++ ((a1.take a1.length).drop (iW.wrap (a2 + 1)).toNat))).bind fun t4 => if t4 = true then (some (0,([] ++ ((a0.take (iW.wrap ((a0.length : Int) - 1)).toNat).drop 0)) ++ ((a1.take a1.length).drop (iW.wrap (a2 + 1)).toNat))) else some (13,[]) else none else none else none else none) else some (13,[]) else none else none) else some (13,[]) else none else none) else some (13,[])) else some (13,[])
def qbB.l1 (k : Nat) : Nat -> Int -> Int -> Int -> Int -> Int -> Int -> LI -> LI -> LI -> LI -> LI -> LI -> LI -> LI -> Option (LI)
 | 0,_,_,_,_,_,_,_,_,_,_,_,_,_,_ => none
 | n + 1,x2,x11,x12,x14,x47,x48,y0_0,y0_1,y1_0,y1_1,y3,y5,y6,y7 => if 0 <= x2 /\ x2 < (y1_0.length : Int) then if x14 < y1_0.getD x2.toNat 0 then (if 0 <= ((0 : Nat) : Int) /\ ((0 : Nat) : Int) <= x11 /\ x11 <= (y5.length : Int) then if 0 + ((y5.take x11.toNat).drop 0).length <= 281474976710656 /\ (0 + ((y5.take x11.toNat).drop 0).length) * 8 <= 140737488355328 then if ([] ++ ((y5.take x11.toNat).drop 0)).length + [x14].length <= 281474976710656 /\ (([] ++ ((y5.take x11.toNat).drop 0)).length + [x14].length) * 8 <= 140737488355328 then if 0 <= ((0 : Nat) : Int) /\ ((0 : Nat) : Int) <= x2 /\ x2 <= (y5.length : Int) then if 0 + ((y5.take x2.toNat).drop 0).length <= 281474976710656 /\ (0 + ((y5.take x2.toNat).drop 0).length) * 8 <= 140737488355328 then if ([] ++ ((y5.take x2.toNat).drop 0)).length + [x14].length <= 281474976710656 /\ (([] ++ ((y5.take x2.toNat).drop 0)).length + [x14].length) * 8 <= 140737488355328 then if 0 <= x11 /\ x11 <= (y5.length : Int) /\ (y5.length : Int) <= (y5.length : Int) then if (([] ++ ((y5.take x2.toNat).drop 0)) ++ [x14]).length + ((y5.take y5.length).drop x11.toNat).length <= 281474976710656 /\ ((([] ++ ((y5.take x2.toNat).drop 0)) ++ [x14]).length + ((y5.take y5.length).drop x11.toNat).length) * 8 <= 140737488355328 then if 0 <= x12 /\ x12 < (y7.length : Int) then if x12.toNat < y7.length then (qca.f k y0_0 y0_1 (([] ++ ((y5.take x11.toNat).drop 0)) ++ [x14])).bind fun t6 => (qca.f k y1_0 y1_1 ((([] ++ ((y5.take x2.toNat).drop 0)) ++ [x14]) ++ ((y5.take y5.length).drop x11.toNat))).bind fun t7 => qbB.l1 k n x2 x11 x12 (iW.wrap (x14 + 1)) x47 x48 y0_0 y0_1 y1_0 y1_1 y3 y5 y6 (y7.set x12.toNat (iW.wrap ((y7.getD x12.toNat 0) + (iW.wrap (t6 * t7))))) else none else none else none else none else none else none else none else none else none else none) else some y7 else none
def qbB.l0 (k : Nat) : Nat -> Int -> Int -> Int -> Int -> LI -> LI -> LI -> LI -> LI -> LI -> LI -> Option (LI)
 | 0,_,_,_,_,_,_,_,_,_,_,_ => none
 | n + 1,x2,x11,x47,x48,y0_0,y0_1,y1_0,y1_1,y3,y5,y6 => if x48 < x47 then ((qa9.f k y3 x48).bind fun t5 => (qbB.l1 k n x2 x11 x48 0 x47 x48 y0_0 y0_1 y1_0 y1_1 y3 t5 y5 y6).bind fun t8 => qbB.l0 k n x2 x11 x47 (iW.wrap (x48 + 1)) y0_0 y0_1 y1_0 y1_1 y3 y5 t8) else some y6
def qbB.f (k : Nat) (a0_0 : LI) (a0_1 : LI) (a1_0 : LI) (a1_1 : LI) (a2 : Int) : Option (Int × LI × LI) := (qbu.f k a0_0 a0_1).bind fun t1 => if t1 = true then ((qbu.f k a1_0 a1_1).bind fun t2 => if t2 = true then ((qcY.f k a0_0 a1_0 a2).bind fun t3 => if t3.1 = 0 then ((qa4.f k t3.2 0).bind fun t4 => (qbB.l0 k k a2 (iW.wrap ((a0_0.length : Int) - 1)) (t4.2.length : Int) 0 a0_0 a0_1 a1_0 a1_1 t3.2 t4.1 t4.2).bind fun t9 => some (0,t4.1,t9)) else some (t3.1,[],[])) else some (13,[],[])) else some (13,[],[])
def qeK.f (a0 : Int) : Option (Bool) := if 1 <= a0 then (some (decide (a0 <= 4))) else some false
def qbt.l0 : Nat -> LI -> Int -> Int -> Int -> Option (Unit ⊕ Bool)
 | 0,_,_,_,_ => none
 | n + 1,x0,x1,x7,x8 => if x8 < x7 then (if 0 <= x8 /\ x8 < (x0.length : Int) then if x0.getD x8.toNat 0 < 0 then (some (.inr false)) else if x1 <= x0.getD x8.toNat 0 then (some (.inr false)) else if 0 < x8 then (if 0 <= iW.wrap (x8 - 1) /\ iW.wrap (x8 - 1) < (x0.length : Int) then if x0.getD x8.toNat 0 <= x0.getD (iW.wrap (x8 - 1)).toNat 0 then (some (.inr false)) else qbt.l0 n x0 x1 x7 (iW.wrap (x8 + 1)) else none) else qbt.l0 n x0 x1 x7 (iW.wrap (x8 + 1)) else none) else some (.inl ())
def qbt.f (k : Nat) (a0 : LI) (a1 : Int) : Option (Bool) := (qbt.l0 k a0 a1 (a0.length : Int) 0).bind fun t1 => Sum.elim (fun t1 => some true) (fun t1 => some t1) t1
def qcn.l0 : Nat -> LI -> Int -> Int -> Int -> Option (Unit ⊕ Bool)
 | 0,_,_,_,_ => none
 | n + 1,x0,x1,x7,x8 => if x8 < x7 then (if 0 <= x8 /\ x8 < (x0.length : Int) then if x0.getD x8.toNat 0 = x1 then (some (.inr true)) else qcn.l0 n x0 x1 x7 (iW.wrap (x8 + 1)) else none) else some (.inl ())
def qcn.f (k : Nat) (a0 : LI) (a1 : Int) : Option (Bool) := (qcn.l0 k a0 a1 (a0.length : Int) 0).bind fun t1 => Sum.elim (fun t1 => some false) (fun t1 => some t1) t1
def qdT.f (a0 : Int) : Option (Int) := if a0 = 2 then (some 1) else if a0 = 3 then (some 9223372036854775807) else if a0 = 4 then (some (-9223372036854775808)) else some 0
def qeJ.f (a0 : Int) (a1 : Int) (a2 : Int) : Option (Int) := if a0 = 1 then (some (iW.wrap (a1 + a2))) else if a0 = 2 then (some (iW.wrap (a1 * a2))) else if a0 = 3 then (some (if a2 < a1 then a2 else a1)) else if a0 = 4 then (some (if a1 < a2 then a2 else a1)) else some 0
def qaU.l0 (k : Nat) : Nat -> Int -> LI -> Int -> Int -> LI -> LI -> LI -> Option (LI)
 | 0,_,_,_,_,_,_,_ => none
 | n + 1,x0,x2,x33,x34,y0_0,y0_1,y2 => if x34 < x33 then ((qcn.f k x2 x34).bind fun t4 => if t4 = true then (qaU.l0 k n x0 x2 x33 (iW.wrap (x34 + 1)) y0_0 y0_1 y2) else if 0 <= x34 /\ x34 < (y0_0.length : Int) then if y2.length + [y0_0.getD x34.toNat 0].length <= 281474976710656 /\ (y2.length + [y0_0.getD x34.toNat 0].length) * 8 <= 140737488355328 then qaU.l0 k n x0 x2 x33 (iW.wrap (x34 + 1)) y0_0 y0_1 (y2 ++ [y0_0.getD x34.toNat 0]) else none else none) else some y2
def qaU.l2 (k : Nat) : Nat -> Int -> LI -> Int -> Int -> Int -> Int -> Int -> LI -> LI -> LI -> LI -> LI -> LI -> LI -> Option (LI)
 | 0,_,_,_,_,_,_,_,_,_,_,_,_,_,_ => none
 | n + 1,x0,x2,x11,x60,x61,x68,x69,y0_0,y0_1,y2,y4,y5,y6,y7 => if x69 < x68 then (if 0 <= x69 /\ x69 < (y5.length : Int) then if x69.toNat < y5.length then (qcn.f k x2 x69).bind fun t10 => if t10 = true then (qaU.l2 k n x0 x2 x11 x60 x61 x68 (iW.wrap (x69 + 1)) y0_0 y0_1 y2 y4 y5 y6 y7) else if y4.length + [y5.getD x69.toNat 0].length <= 281474976710656 /\ (y4.length + [y5.getD x69.toNat 0].length) * 8 <= 140737488355328 then qaU.l2 k n x0 x2 x11 x60 x61 x68 (iW.wrap (x69 + 1)) y0_0 y0_1 y2 (y4 ++ [y5.getD x69.toNat 0]) y5 y6 y7 else none else none else none) else some y4
def qaU.l1 (k : Nat) : Nat -> Int -> LI -> Int -> Int -> LI -> LI -> LI -> LI -> LI -> Option (LI)
 | 0,_,_,_,_,_,_,_,_,_ => none
 | n + 1,x0,x2,x60,x61,y0_0,y0_1,y2,y4,y5 => if x61 < x60 then ((qa9.f k y0_0 x61).bind fun t9 => (qaU.l2 k n x0 x2 x61 x60 x61 (t9.length : Int) 0 y0_0 y0_1 y2 [] t9 y4 y5).bind fun t11 => (qbz.f k y2 t11).bind fun t12 => if 0 <= t12 /\ t12 < (y5.length : Int) then if t12.toNat < y5.length then if 0 <= x61 /\ x61 < (y0_1.length : Int) then (qeJ.f x0 (y5.getD t12.toNat 0) (y0_1.getD x61.toNat 0)).bind fun t13 => qaU.l1 k n x0 x2 x60 (iW.wrap (x61 + 1)) y0_0 y0_1 y2 y4 (y5.set t12.toNat t13) else none else none else none) else some y5
def qaU.f (k : Nat) (a0 : Int) (a1_0 : LI) (a1_1 : LI) (a2 : LI) : Option (Int × LI × LI) := (qeK.f a0).bind fun t1 => if t1 = true then ((qbu.f k a1_0 a1_1).bind fun t2 => if t2 = true then ((qbt.f k a2 (a1_0.length : Int)).bind fun t3 => if t3 = true then ((qaU.l0 k k a0 a2 (a1_0.length : Int) 0 a1_0 a1_1 []).bind fun t5 => (qaL.f k t5).bind fun t6 => if t6 = true then ((qdT.f a0).bind fun t7 => (qa4.f k t5 t7).bind fun t8 => (qaU.l1 k k a0 a2 (a1_1.length : Int) 0 a1_0 a1_1 t5 t8.1 t8.2).bind fun t14 => some (0,t8.1,t14)) else some (13,[],[])) else some (1,[],[])) else some (13,[],[])) else some (1,[],[])
def qdc.f (a0 : Int) (a1 : Int) (a2 : Int) : Option (Int) := if a0 < 0 then (some 0) else if a1 < 1 then (some 0) else if a2 < 1 then (some 0) else if a0 < a1 then (some 0) else if a2 ≠ 0 then some (iW.wrap ((iW.wrap ((iW.wrap (a0 - a1)).tdiv a2)) + 1)) else none
def qaX.l1 (k : Nat) : Nat -> Int -> Int -> Int -> Int -> Int -> Int -> Int -> Int -> Int -> LI -> LI -> LI -> LI -> LI -> LI -> Option (LI)
 | 0,_,_,_,_,_,_,_,_,_,_,_,_,_,_,_ => none
 | n + 1,x0,x2,x3,x4,x14,x16,x17,x72,x73,y0_0,y0_1,y2,y4,y5,y6 => if x17 < x3 then (if 0 <= x2 /\ x2 < (y4.length : Int) then if x2.toNat < y4.length then if 0 <= x14 /\ x14 < (y6.length : Int) then if x14.toNat < y6.length then (qca.f k y0_0 y0_1 (y4.set x2.toNat (iW.wrap (x16 + x17)))).bind fun t7 => (qeJ.f x0 (y6.getD x14.toNat 0) t7).bind fun t8 => qaX.l1 k n x0 x2 x3 x4 x14 x16 (iW.wrap (x17 + 1)) x72 x73 y0_0 y0_1 y2 (y4.set x2.toNat (iW.wrap (x16 + x17))) y5 (y6.set x14.toNat t8) else none else none else none else none) else some y6
def qaX.l0 (k : Nat) : Nat -> Int -> Int -> Int -> Int -> Int -> Int -> LI -> LI -> LI -> LI -> LI -> Option (LI)
 | 0,_,_,_,_,_,_,_,_,_,_,_ => none
 | n + 1,x0,x2,x3,x4,x72,x73,y0_0,y0_1,y2,y4,y5 => if x73 < x72 then ((qa9.f k y2 x73).bind fun t6 => if 0 <= x2 /\ x2 < (t6.length : Int) then if x2.toNat < t6.length then (qaX.l1 k n x0 x2 x3 x4 x73 (iW.wrap ((t6.getD x2.toNat 0) * x4)) 0 x72 x73 y0_0 y0_1 y2 t6 y4 y5).bind fun t9 => qaX.l0 k n x0 x2 x3 x4 x72 (iW.wrap (x73 + 1)) y0_0 y0_1 y2 y4 t9 else none else none) else some y5
def qaX.f (k : Nat) (a0 : Int) (a1_0 : LI) (a1_1 : LI) (a2 : Int) (a3 : Int) (a4 : Int) : Option (Int × LI × LI) := (qeK.f a0).bind fun t1 => if t1 = true then (if a3 < 1 then (some (1,[],[])) else if 32 < a3 then (some (1,[],[])) else if a4 < 1 then (some (1,[],[])) else if 32 < a4 then (some (1,[],[])) else (qbu.f k a1_0 a1_1).bind fun t2 => if t2 = true then (if a2 < 0 then (some (1,[],[])) else if (a1_0.length : Int) <= a2 then (some (1,[],[])) else if 0 + a1_0.length <= 281474976710656 /\ (0 + a1_0.length) * 8 <= 140737488355328 then if 0 <= a2 /\ a2 < (([] ++ a1_0).length : Int) then if a2.toNat < ([] ++ a1_0).length then (qdc.f (([] ++ a1_0).getD a2.toNat 0) a3 a4).bind fun t3 => (qdT.f a0).bind fun t4 => (qa4.f k (([] ++ a1_0).set a2.toNat t3) t4).bind fun t5 => (qaX.l0 k k a0 a2 a3 a4 (t5.2.length : Int) 0 a1_0 a1_1 (([] ++ a1_0).set a2.toNat t3) t5.1 t5.2).bind fun t10 => some (0,t5.1,t10) else none else none else none) else some (13,[],[])) else some (1,[],[])
def qcB.l0 : Nat -> Int -> Int -> Int -> LI -> LI -> LI -> LI -> LI -> LI -> Option (LI)
 | 0,_,_,_,_,_,_,_,_,_ => none
 | n + 1,x0,x31,x32,y0_0,y0_1,y1_0,y1_1,y4,y5 => if x32 < x31 then (if 0 <= x32 /\ x32 < (y0_1.length : Int) then if 0 <= x32 /\ x32 < (y1_1.length : Int) then (qdS.f x0 (y0_1.getD x32.toNat 0) (y1_1.getD x32.toNat 0)).bind fun t3 => if 0 <= x32 /\ x32 < (y5.length : Int) then if x32.toNat < y5.length then qcB.l0 n x0 x31 (iW.wrap (x32 + 1)) y0_0 y0_1 y1_0 y1_1 y4 (y5.set x32.toNat t3) else none else none else none else none) else some y5
def qcB.f (k : Nat) (a0 : Int) (a1_0 : LI) (a1_1 : LI) (a2_0 : LI) (a2_1 : LI) : Option (Int × LI × LI) := if a0 < 6 then (some (1,[],[])) else if 11 < a0 then (some (1,[],[])) else (qbJ.f k [(a1_0,a1_1),(a2_0,a2_1)]).bind fun t1 => if t1 = 0 then ((qa4.f k a1_0 0).bind fun t2 => (qcB.l0 k a0 (t2.2.length : Int) 0 a1_0 a1_1 a2_0 a2_1 t2.1 t2.2).bind fun t4 => some (0,t2.1,t4)) else some (t1,[],[])
def qbl.f (k : Nat) (a0_0 : Int) (a0_1 : LI) (a0_2 : LI) (a0_3 : LI) (a0_4 : Int) (a0_5 : Int) (a0_6 : ByteArray) (a1 : List LT) : Option (Int × LI × LI) := if a0_0 = 2 then ((qaL.f k a0_2).bind fun t1 => if t1 = true then ((qa4.f k a0_2 a0_4).bind fun t2 => some (0,t2.1,t2.2)) else some (13,[],[])) else if a0_0 = 3 then ((qaL.f k a0_2).bind fun t3 => if t3 = true then ((qcj.f a0_0 a0_1 a0_2 a0_3 a0_4 a0_5 a0_6 1).bind fun t4 => if t4 = true then (if (0 : Int) <= 0 /\ 0 < (a0_3.length : Int) then if a0_3.getD 0 0 < 0 then (some (1,[],[])) else if (a0_2.length : Int) <= a0_3.getD 0 0 then (some (1,[],[])) else (qb7.f k a0_2 (a0_3.getD 0 0)).bind fun t5 => some (0,t5.1,t5.2) else none) else some (1,[],[])) else some (13,[],[])) else if a0_0 = 4 then (if (0 : Int) <= 0 /\ 0 < (a1.length : Int) then (qce.f k a0_0 (a1.getD 0 ([],[])).1 (a1.getD 0 ([],[])).2).bind fun t6 => some (t6.1,t6.2.1,t6.2.2) else none) else if a0_0 = 5 then (if (0 : Int) <= 0 /\ 0 < (a1.length : Int) then (qce.f k a0_0 (a1.getD 0 ([],[])).1 (a1.getD 0 ([],[])).2).bind fun t7 => some (t7.1,t7.2.1,t7.2.2) else none) else if a0_0 = 12 then (if (0 : Int) <= 0 /\ 0 < (a1.length : Int) then if (0 : Int) <= 1 /\ 1 < (a1.length : Int) then if (0 : Int) <= 2 /\ 2 < (a1.length : Int) then (qb5.f k (a1.getD 0 ([],[])).1 (a1.getD 0 ([],[])).2 (a1.getD 1 ([],[])).1 (a1.getD 1 ([],[])).2 (a1.getD 2 ([],[])).1 (a1.getD 2 ([],[])).2).bind fun t8 => some (t8.1,t8.2.1,t8.2.2) else none else none else none) else if a0_0 = 13 then (if (0 : Int) <= 0 /\ 0 < (a1.length : Int) then (qa0.f k (a1.getD 0 ([],[])).1 (a1.getD 0 ([],[])).2 a0_3).bind fun t9 => some (t9.1,t9.2.1,t9.2.2) else none) else if a0_0 = 14 then (if (0 : Int) <= 0 /\ 0 < (a1.length : Int) then (qaC.f k (a1.getD 0 ([],[])).1 (a1.getD 0 ([],[])).2 a0_2 a0_3).bind fun t10 => some (t10.1,t10.2.1,t10.2.2) else none) else if a0_0 = 15 then (if (0 : Int) <= 0 /\ 0 < (a1.length : Int) then (qcj.f a0_0 a0_1 a0_2 a0_3 a0_4 a0_5 a0_6 (iW.wrap (2 * ((a1.getD 0 ([],[])).1.length : Int)))).bind fun t11 => if t11 = true then (if 0 <= ((0 : Nat) : Int) /\ ((0 : Nat) : Int) <= ((a1.getD 0 ([],[])).1.length : Int) /\ ((a1.getD 0 ([],[])).1.length : Int) <= (a0_3.length : Int) then if 0 <= ((a1.getD 0 ([],[])).1.length : Int) /\ ((a1.getD 0 ([],[])).1.length : Int) <= (a0_3.length : Int) /\ (a0_3.length : Int) <= (a0_3.length : Int) then (qaP.f k (a1.getD 0 ([],[])).1 (a1.getD 0 ([],[])).2 ((a0_3.take ((a1.getD 0 ([],[])).1.length : Int).toNat).drop 0) ((a0_3.take a0_3.length).drop ((a1.getD 0 ([],[])).1.length : Int).toNat)).bind fun t12 => some (t12.1,t12.2.1,t12.2.2) else none else none) else some (1,[],[]) else none) else if a0_0 = 16 then (if (0 : Int) <= 0 /\ 0 < (a1.length : Int) then (qcj.f a0_0 a0_1 a0_2 a0_3 a0_4 a0_5 a0_6 (iW.wrap (2 * ((a1.getD 0 ([],[])).1.length : Int)))).bind fun t13 => if t13 = true then (if 0 <= ((0 : Nat) : Int) /\ ((0 : Nat) : Int) <= ((a1.getD 0 ([],[])).1.length : Int) /\ ((a1.getD 0 ([],[])).1.length : Int) <= (a0_3.length : Int) then if 0 <= ((a1.getD 0 ([],[])).1.length : Int) /\ ((a1.getD 0 ([],[])).1.length : Int) <= (a0_3.length : Int) /\ (a0_3.length : Int) <= (a0_3.length : Int) then (qbc.f k (a1.getD 0 ([],[])).1 (a1.getD 0 ([],[])).2 ((a0_3.take ((a1.getD 0 ([],[])).1.length : Int).toNat).drop 0) ((a0_3.take a0_3.length).drop ((a1.getD 0 ([],[])).1.length : Int).toNat) a0_4).bind fun t14 => some (t14.1,t14.2.1,t14.2.2) else none else none) else some (1,[],[]) else none) else if a0_0 = 17 then ((qcj.f a0_0 a0_1 a0_2 a0_3 a0_4 a0_5 a0_6 1).bind fun t15 => if t15 = true then (if (0 : Int) <= 0 /\ 0 < (a0_3.length : Int) then (qay.f k (a0_3.getD 0 0) a1).bind fun t16 => some (t16.1,t16.2.1,t16.2.2) else none) else some (1,[],[])) else if a0_0 = 19 then ((qcj.f a0_0 a0_1 a0_2 a0_3 a0_4 a0_5 a0_6 1).bind fun t17 => if t17 = true then (if (0 : Int) <= 0 /\ 0 < (a1.length : Int) then if (0 : Int) <= 1 /\ 1 < (a1.length : Int) then if (0 : Int) <= 0 /\ 0 < (a0_3.length : Int) then (qbB.f k (a1.getD 0 ([],[])).1 (a1.getD 0 ([],[])).2 (a1.getD 1 ([],[])).1 (a1.getD 1 ([],[])).2 (a0_3.getD 0 0)).bind fun t18 => some (t18.1,t18.2.1,t18.2.2) else none else none else none) else some (1,[],[])) else if a0_0 = 18 then (if (0 : Int) <= 0 /\ 0 < (a1.length : Int) then (qaU.f k a0_5 (a1.getD 0 ([],[])).1 (a1.getD 0 ([],[])).2 a0_3).bind fun t19 => some (t19.1,t19.2.1,t19.2.2) else none) else if a0_0 = 20 then ((qcj.f a0_0 a0_1 a0_2 a0_3 a0_4 a0_5 a0_6 3).bind fun t20 => if t20 = true then (if (0 : Int) <= 0 /\ 0 < (a1.length : Int) then if (0 : Int) <= 0 /\ 0 < (a0_3.length : Int) then if (0 : Int) <= 1 /\ 1 < (a0_3.length : Int) then if (0 : Int) <= 2 /\ 2 < (a0_3.length : Int) then (qaX.f k a0_5 (a1.getD 0 ([],[])).1 (a1.getD 0 ([],[])).2 (a0_3.getD 0 0) (a0_3.getD 1 0) (a0_3.getD 2 0)).bind fun t21 => some (t21.1,t21.2.1,t21.2.2) else none else none else none else none) else some (1,[],[])) else if (0 : Int) <= 0 /\ 0 < (a1.length : Int) then if (0 : Int) <= 1 /\ 1 < (a1.length : Int) then (qcB.f k a0_0 (a1.getD 0 ([],[])).1 (a1.getD 0 ([],[])).2 (a1.getD 1 ([],[])).1 (a1.getD 1 ([],[])).2).bind fun t22 => some (t22.1,t22.2.1,t22.2.2) else none else none
def qbg.l0 (k : Nat) : Nat -> (List LI) -> Int -> Int -> Int -> LI -> LI -> LI -> Int -> Int -> ByteArray -> (List LT) -> Option ((List LT) ⊕ Int)
 | 0,_,_,_,_,_,_,_,_,_,_,_ => none
 | n + 1,x1,x16,x17,y0_0,y0_1,y0_2,y0_3,y0_4,y0_5,y0_6,y1 => if x17 < x16 then (if 0 <= x17 /\ x17 < (x1.length : Int) then (qaL.f k (x1.getD x17.toNat [])).bind fun t2 => if t2 = true then ((qa4.f k (x1.getD x17.toNat []) 0).bind fun t3 => if y1.length + [(t3.1,t3.2)].length <= 281474976710656 /\ (y1.length + [(t3.1,t3.2)].length) * 48 <= 140737488355328 then qbg.l0 k n x1 x16 (iW.wrap (x17 + 1)) y0_0 y0_1 y0_2 y0_3 y0_4 y0_5 y0_6 (y1 ++ [(t3.1,t3.2)]) else none) else some (.inr 13) else none) else some (.inl y1)
def qbg.f (k : Nat) (a0_0 : Int) (a0_1 : LI) (a0_2 : LI) (a0_3 : LI) (a0_4 : Int) (a0_5 : Int) (a0_6 : ByteArray) (a1 : List LI) : Option (Int × LI) := (qdU.f a0_0 a0_1 a0_2 a0_3 a0_4 a0_5 a0_6 (a1.length : Int)).bind fun t1 => if t1 = true then ((qbg.l0 k k a1 (a1.length : Int) 0 a0_0 a0_1 a0_2 a0_3 a0_4 a0_5 a0_6 []).bind fun t4 => Sum.elim (fun t4 => if a0_0 = 1 then ((qaL.f k a0_2).bind fun t5 => if t5 = true then (if 0 + a0_2.length <= 281474976710656 /\ (0 + a0_2.length) * 8 <= 140737488355328 then some (0,[] ++ a0_2) else none) else some (13,[])) else (qbl.f k a0_0 a0_1 a0_2 a0_3 a0_4 a0_5 a0_6 t4).bind fun t6 => if t6.1 = 0 then (some (0,t6.2.1)) else some (t6.1,[])) (fun t4 => some (t4,[])) t4) else some (1,[])
def qaH.l1 (k : Nat) : Nat -> (List LI) -> Int -> LI -> Int -> Int -> Int -> LI -> Int -> Int -> Int -> Int -> ByteArray -> Option (Unit ⊕ (Int × Int × Int × ByteArray × LI × LI))
 | 0,_,_,_,_,_,_,_,_,_,_,_,_ => none
 | n + 1,x1,x2,x7,x8,x9,x10,y0_0,y0_1,y1_0,y1_1,y1_2,y1_3 => if x10 < 2 then (if 0 <= x9 /\ x9 < (x1.length : Int) then (qbg.f k 19 ([0,1] : LI) [] [x10] 0 0 vaa [x7,x1.getD x9.toNat []]).bind fun t2 => if t2.1 = 0 then ((qbM.f k t2.2).bind fun t3 => if t3 <= 300 then (some (.inr (19,0,0,vaa,[x2,x9],[x10]))) else qaH.l1 k n x1 x2 x7 x8 x9 (iW.wrap (x10 + 1)) y0_0 y0_1 y1_0 y1_1 y1_2 y1_3) else qaH.l1 k n x1 x2 x7 x8 x9 (iW.wrap (x10 + 1)) y0_0 y0_1 y1_0 y1_1 y1_2 y1_3 else none) else some (.inl ())
def qaH.l0 (k : Nat) : Nat -> (List LI) -> Int -> LI -> Int -> LI -> Int -> Int -> Int -> Int -> ByteArray -> Option (Int ⊕ (Int × Int × Int × Int × ByteArray × LI × LI))
 | 0,_,_,_,_,_,_,_,_,_,_ => none
 | n + 1,x1,x2,x7,x8,y0_0,y0_1,y1_0,y1_1,y1_2,y1_3 => if x8 < (x1.length : Int) then ((qae.f 3 y0_0 y0_1).bind fun t1 => if (x1.length : Int) ≠ 0 then (qaH.l1 k n x1 x2 x7 x8 ((iW.wrap (x8 + t1.1)).tmod (x1.length : Int)) 0 y0_0 t1.2 y1_0 y1_1 y1_2 y1_3).bind fun t4 => Sum.elim (fun t4 => qaH.l0 k n x1 x2 x7 (iW.wrap (x8 + 1)) y0_0 t1.2 y1_0 y1_1 y1_2 y1_3) (fun t4 => some (.inr (t1.2,t4.1,t4.2.1,t4.2.2.1,t4.2.2.2.1,t4.2.2.2.2.1,t4.2.2.2.2.2))) t4 else none) else some (.inl y0_1)
def qaH.f (k : Nat) (a1 : List LI) (a2 : Int) (o0_0 : LI) (o0_1 : Int) : Option (Int × Int × Int × ByteArray × Int × LI × LI) := if 0 <= a2 /\ a2 < (a1.length : Int) then (qaH.l0 k k a1 a2 (a1.getD a2.toNat []) 0 o0_0 o0_1 0 0 0 vaa).bind fun t5 => Sum.elim (fun t5 => some (5,0,0,vaa,t5,[a2],[])) (fun t5 => some (t5.2.1,t5.2.2.1,t5.2.2.2.1,t5.2.2.2.2.1,t5.1,t5.2.2.2.2.2.1,t5.2.2.2.2.2.2)) t5 else none
def qaf.l0 : Nat -> Int -> Int -> Int -> LI -> Int -> Int -> Int -> Int -> ByteArray -> LI -> Option (Int × LI)
 | 0,_,_,_,_,_,_,_,_,_,_ => none
 | n + 1,x7,x127,x128,y0_0,y0_1,y1_0,y1_1,y1_2,y1_3,y2 => if x128 < x127 then ((qae.f (iW.wrap (x128 + 1)) y0_0 y0_1).bind fun t28 => if 0 <= ((0 : Nat) : Int) /\ ((0 : Nat) : Int) <= t28.1 /\ t28.1 <= (y2.length : Int) then if 0 + ((y2.take t28.1.toNat).drop 0).length <= 281474976710656 /\ (0 + ((y2.take t28.1.toNat).drop 0).length) * 8 <= 140737488355328 then if ([] ++ ((y2.take t28.1.toNat).drop 0)).length + [x128].length <= 281474976710656 /\ (([] ++ ((y2.take t28.1.toNat).drop 0)).length + [x128].length) * 8 <= 140737488355328 then if 0 <= t28.1 /\ t28.1 <= (y2.length : Int) /\ (y2.length : Int) <= (y2.length : Int) then if (([] ++ ((y2.take t28.1.toNat).drop 0)) ++ [x128]).length + ((y2.take y2.length).drop t28.1.toNat).length <= 281474976710656 /\ ((([] ++ ((y2.take t28.1.toNat).drop 0)) ++ [x128]).length + ((y2.take y2.length).drop t28.1.toNat).length) * 8 <= 140737488355328 then qaf.l0 n x7 x127 (iW.wrap (x128 + 1)) y0_0 t28.2 y1_0 y1_1 y1_2 y1_3 ((([] ++ ((y2.take t28.1.toNat).drop 0)) ++ [x128]) ++ ((y2.take y2.length).drop t28.1.toNat)) else none else none else none else none else none) else some (y0_1,y2)
def qaf.l1 : Nat -> Int -> Int -> Int -> Int -> LI -> Int -> Int -> Int -> Int -> ByteArray -> LI -> LI -> Option (LI)
 | 0,_,_,_,_,_,_,_,_,_,_,_,_ => none
 | n + 1,x7,x14,x180,x181,y0_0,y0_1,y1_0,y1_1,y1_2,y1_3,y2,y3 => if x181 < x180 then (if x181 = x14 then (qaf.l1 n x7 x14 x180 (iW.wrap (x181 + 1)) y0_0 y0_1 y1_0 y1_1 y1_2 y1_3 y2 y3) else if y3.length + [x181].length <= 281474976710656 /\ (y3.length + [x181].length) * 8 <= 140737488355328 then qaf.l1 n x7 x14 x180 (iW.wrap (x181 + 1)) y0_0 y0_1 y1_0 y1_1 y1_2 y1_3 y2 (y3 ++ [x181]) else none) else some y3
def qaf.l2 : Nat -> Int -> LI -> Int -> Int -> LI -> Int -> Int -> Int -> Int -> ByteArray -> LI -> LI -> Option (Int × LI × LI)
 | 0,_,_,_,_,_,_,_,_,_,_,_,_ => none
 | n + 1,x7,x8,x200,x201,y0_0,y0_1,y1_0,y1_1,y1_2,y1_3,y2,y3 => if x201 < x200 then (if 0 <= x201 /\ x201 < (x8.length : Int) then (qae.f (iW.wrap ((x8.getD x201.toNat 0) + 1)) y0_0 y0_1).bind fun t33 => if y2.length + [t33.1].length <= 281474976710656 /\ (y2.length + [t33.1].length) * 8 <= 140737488355328 then (qae.f (iW.wrap ((iW.wrap ((x8.getD x201.toNat 0) - t33.1)) + 1)) y0_0 t33.2).bind fun t34 => if y3.length + [t34.1].length <= 281474976710656 /\ (y3.length + [t34.1].length) * 8 <= 140737488355328 then qaf.l2 n x7 x8 x200 (iW.wrap (x201 + 1)) y0_0 t34.2 y1_0 y1_1 y1_2 y1_3 (y2 ++ [t33.1]) (y3 ++ [t34.1]) else none else none else none) else some (y0_1,y2,y3)
def qaf.l3 : Nat -> Int -> Int -> Int -> LI -> Int -> Int -> Int -> Int -> ByteArray -> LI -> LI -> Option (Int × LI × LI)
 | 0,_,_,_,_,_,_,_,_,_,_,_ => none
 | n + 1,x7,x237,x238,y0_0,y0_1,y1_0,y1_1,y1_2,y1_3,y2,y3 => if x238 < x237 then ((qae.f 3 y0_0 y0_1).bind fun t36 => if y2.length + [t36.1].length <= 281474976710656 /\ (y2.length + [t36.1].length) * 8 <= 140737488355328 then (qae.f 3 y0_0 t36.2).bind fun t37 => if y3.length + [t37.1].length <= 281474976710656 /\ (y3.length + [t37.1].length) * 8 <= 140737488355328 then qaf.l3 n x7 x237 (iW.wrap (x238 + 1)) y0_0 t37.2 y1_0 y1_1 y1_2 y1_3 (y2 ++ [t36.1]) (y3 ++ [t37.1]) else none else none) else some (y0_1,y2,y3)
def qaf.l4 : Nat -> Int -> Int -> Int -> LI -> Int -> Int -> Int -> Int -> ByteArray -> LI -> Option (Int × LI)
 | 0,_,_,_,_,_,_,_,_,_,_ => none
 | n + 1,x7,x293,x294,y0_0,y0_1,y1_0,y1_1,y1_2,y1_3,y2 => if x294 < x293 then ((qae.f 2 y0_0 y0_1).bind fun t44 => if t44.1 = 0 then (if y2.length + [x294].length <= 281474976710656 /\ (y2.length + [x294].length) * 8 <= 140737488355328 then qaf.l4 n x7 x293 (iW.wrap (x294 + 1)) y0_0 t44.2 y1_0 y1_1 y1_2 y1_3 (y2 ++ [x294]) else none) else qaf.l4 n x7 x293 (iW.wrap (x294 + 1)) y0_0 t44.2 y1_0 y1_1 y1_2 y1_3 y2) else some (y0_1,y2)
def qaf.f (k : Nat) (a1 : List LI) (o0_0 : LI) (o0_1 : Int) : Option (Int × LI × LI × Int × Int × ByteArray × Int × LI) := if (a1.length : Int) = 0 then ((qae.f 4 o0_0 o0_1).bind fun t1 => if t1.1 = 0 then ((qaA.f k o0_0 t1.2).bind fun t2 => (qbA.f o0_0 t2.1).bind fun t3 => some (2,[],t2.2,t3.1,0,vaa,t3.2,[])) else if t1.1 = 1 then ((qaA.f k o0_0 t1.2).bind fun t4 => if ([3] : LI).length + t4.2.length <= 281474976710656 /\ (([3] : LI).length + t4.2.length) * 8 <= 140737488355328 then if 3 < ((([3] : LI) ++ t4.2).length : Int) then (if 0 <= ((0 : Nat) : Int) /\ ((0 : Nat) : Int) <= 3 /\ 3 <= ((([3] : LI) ++ t4.2).length : Int) then (qae.f ((3 - 0 : Nat) : Int) o0_0 t4.1).bind fun t5 => some (3,[],((([3] : LI) ++ t4.2).take 3).drop 0,0,0,vaa,t5.2,[t5.1]) else none) else (qae.f ((([3] : LI) ++ t4.2).length : Int) o0_0 t4.1).bind fun t6 => some (3,[],([3] : LI) ++ t4.2,0,0,vaa,t6.2,[t6.1]) else none) else (qaA.f k o0_0 t1.2).bind fun t7 => some (1,[],t7.2,0,0,vaa,t7.1,[])) else (qae.f 5 o0_0 o0_1).bind fun t8 => if t8.1 = 0 then ((qae.f 4 o0_0 t8.2).bind fun t9 => if t9.1 = 0 then ((qaA.f k o0_0 t9.2).bind fun t10 => (qbA.f o0_0 t10.1).bind fun t11 => some (2,[],t10.2,t11.1,0,vaa,t11.2,[])) else if t9.1 = 1 then ((qaA.f k o0_0 t9.2).bind fun t12 => if ([3] : LI).length + t12.2.length <= 281474976710656 /\ (([3] : LI).length + t12.2.length) * 8 <= 140737488355328 then if 3 < ((([3] : LI) ++ t12.2).length : Int) then (if 0 <= ((0 : Nat) : Int) /\ ((0 : Nat) : Int) <= 3 /\ 3 <= ((([3] : LI) ++ t12.2).length : Int) then (qae.f ((3 - 0 : Nat) : Int) o0_0 t12.1).bind fun t13 => some (3,[],((([3] : LI) ++ t12.2).take 3).drop 0,0,0,vaa,t13.2,[t13.1]) else none) else (qae.f ((([3] : LI) ++ t12.2).length : Int) o0_0 t12.1).bind fun t14 => some (3,[],([3] : LI) ++ t12.2,0,0,vaa,t14.2,[t14.1]) else none) else (qaA.f k o0_0 t9.2).bind fun t15 => some (1,[],t15.2,0,0,vaa,t15.1,[])) else (qae.f (a1.length : Int) o0_0 t8.2).bind fun t16 => if 0 <= t16.1 /\ t16.1 < (a1.length : Int) then (qae.f 12 o0_0 t16.2).bind fun t17 => if t17.1 = 0 then ((qae.f 2 o0_0 t17.2).bind fun t18 => some (iW.wrap (4 + t18.1),[t16.1],[],0,0,vaa,t18.2,[])) else if t17.1 = 1 then ((qbD.f k a1 (a1.getD t16.1.toNat [])).bind fun t19 => (qae.f 6 o0_0 t17.2).bind fun t20 => (qae.f (t19.length : Int) o0_0 t20.2).bind fun t21 => if 0 <= t21.1 /\ t21.1 < (t19.length : Int) then if t21.1.toNat < t19.length then some (iW.wrap (6 + t20.1),[t16.1,t19.getD t21.1.toNat 0],[],0,0,vaa,t21.2,[]) else none else none) else if t17.1 = 2 then ((qbD.f k a1 (a1.getD t16.1.toNat [])).bind fun t22 => (qae.f 6 o0_0 t17.2).bind fun t23 => (qae.f (t22.length : Int) o0_0 t23.2).bind fun t24 => if 0 <= t24.1 /\ t24.1 < (t22.length : Int) then if t24.1.toNat < t22.length then some (iW.wrap (6 + t23.1),[t16.1,t22.getD t24.1.toNat 0],[],0,0,vaa,t24.2,[]) else none else none) else if t17.1 = 3 then ((qbD.f k a1 (a1.getD t16.1.toNat [])).bind fun t25 => (qae.f (t25.length : Int) o0_0 t17.2).bind fun t26 => if 0 <= t26.1 /\ t26.1 < (t25.length : Int) then if t26.1.toNat < t25.length then (qae.f (t25.length : Int) o0_0 t26.2).bind fun t27 => if 0 <= t27.1 /\ t27.1 < (t25.length : Int) then if t27.1.toNat < t25.length then some (12,[t16.1,t25.getD t26.1.toNat 0,t25.getD t27.1.toNat 0],[],0,0,vaa,t27.2,[]) else none else none else none else none) else if t17.1 = 4 then ((qaf.l0 k t16.1 ((a1.getD t16.1.toNat []).length : Int) 0 o0_0 t17.2 0 0 0 vaa []).bind fun t29 => some (13,[t16.1],[],0,0,vaa,t29.1,t29.2)) else if t17.1 = 5 then (if 2 < ((a1.getD t16.1.toNat []).length : Int) then (some (4,[t16.1],[],0,0,vaa,t17.2,[])) else (qae.f (iW.wrap (((a1.getD t16.1.toNat []).length : Int) + 1)) o0_0 t17.2).bind fun t30 => if 0 <= ((0 : Nat) : Int) /\ ((0 : Nat) : Int) <= t30.1 /\ t30.1 <= ((a1.getD t16.1.toNat []).length : Int) then if 0 + (((a1.getD t16.1.toNat []).take t30.1.toNat).drop 0).length <= 281474976710656 /\ (0 + (((a1.getD t16.1.toNat []).take t30.1.toNat).drop 0).length) * 8 <= 140737488355328 then (qae.f 4 o0_0 t30.2).bind fun t31 => if ([] ++ (((a1.getD t16.1.toNat []).take t30.1.toNat).drop 0)).length + [iW.wrap (1 + t31.1)].length <= 281474976710656 /\ (([] ++ (((a1.getD t16.1.toNat []).take t30.1.toNat).drop 0)).length + [iW.wrap (1 + t31.1)].length) * 8 <= 140737488355328 then if 0 <= t30.1 /\ t30.1 <= ((a1.getD t16.1.toNat []).length : Int) /\ ((a1.getD t16.1.toNat []).length : Int) <= ((a1.getD t16.1.toNat []).length : Int) then if (([] ++ (((a1.getD t16.1.toNat []).take t30.1.toNat).drop 0)) ++ [iW.wrap (1 + t31.1)]).length + (((a1.getD t16.1.toNat []).take (a1.getD t16.1.toNat []).length).drop t30.1.toNat).length <= 281474976710656 /\ ((([] ++ (((a1.getD t16.1.toNat []).take t30.1.toNat).drop 0)) ++ [iW.wrap (1 + t31.1)]).length + (((a1.getD t16.1.toNat []).take (a1.getD t16.1.toNat []).length).drop t30.1.toNat).length) * 8 <= 140737488355328 then (qaf.l1 k t16.1 t30.1 (((([] ++ (((a1.getD t16.1.toNat []).take t30.1.toNat).drop 0)) ++ [iW.wrap (1 + t31.1)]) ++ (((a1.getD t16.1.toNat []).take (a1.getD t16.1.toNat []).length).drop t30.1.toNat)).length : Int) 0 o0_0 t31.2 0 0 0 vaa ((([] ++ (((a1.getD t16.1.toNat []).take t30.1.toNat).drop 0)) ++ [iW.wrap (1 + t31.1)]) ++ (((a1.getD t16.1.toNat []).take (a1.getD t16.1.toNat []).length).drop t30.1.toNat)) []).bind fun t32 => some (14,[t16.1],(([] ++ (((a1.getD t16.1.toNat []).take t30.1.toNat).drop 0)) ++ [iW.wrap (1 + t31.1)]) ++ (((a1.getD t16.1.toNat []).take (a1.getD t16.1.toNat []).length).drop t30.1.toNat),0,0,vaa,t31.2,t32) else none else none else none else none else none) else if t17.1 = 6 then ((qaf.l2 k t16.1 (a1.getD t16.1.toNat []) ((a1.getD t16.1.toNat []).length : Int) 0 o0_0 t17.2 0 0 0 vaa [] []).bind fun t35 => if t35.2.1.length + t35.2.2.length <= 281474976710656 /\ (t35.2.1.length + t35.2.2.length) * 8 <= 140737488355328 then some (15,[t16.1],[],0,0,vaa,t35.1,t35.2.1 ++ t35.2.2) else none) else if t17.1 = 7 then ((qaf.l3 k t16.1 ((a1.getD t16.1.toNat []).length : Int) 0 o0_0 t17.2 0 0 0 vaa [] []).bind fun t38 => if t38.2.1.length + t38.2.2.length <= 281474976710656 /\ (t38.2.1.length + t38.2.2.length) * 8 <= 140737488355328 then (qbA.f o0_0 t38.1).bind fun t39 => some (16,[t16.1],[],t39.1,0,vaa,t39.2,t38.2.1 ++ t38.2.2) else none) else if t17.1 = 8 then ((qbD.f k a1 (a1.getD t16.1.toNat [])).bind fun t40 => if ((a1.getD t16.1.toNat []).length : Int) = 0 then (some (5,[t16.1],[],0,0,vaa,t17.2,[])) else (qae.f (t40.length : Int) o0_0 t17.2).bind fun t41 => if 0 <= t41.1 /\ t41.1 < (t40.length : Int) then if t41.1.toNat < t40.length then (qae.f 2 o0_0 t41.2).bind fun t42 => if 0 <= ((0 : Nat) : Int) /\ ((0 : Nat) : Int) <= iW.wrap (2 + t42.1) /\ iW.wrap (2 + t42.1) <= ([t16.1,t40.getD t41.1.toNat 0,t16.1].length : Int) then (qae.f ((a1.getD t16.1.toNat []).length : Int) o0_0 t42.2).bind fun t43 => some (17,([t16.1,t40.getD t41.1.toNat 0,t16.1].take (iW.wrap (2 + t42.1)).toNat).drop 0,[],0,0,vaa,t43.2,[t43.1]) else none else none else none) else if t17.1 = 9 then ((qaf.l4 k t16.1 ((a1.getD t16.1.toNat []).length : Int) 0 o0_0 t17.2 0 0 0 vaa []).bind fun t45 => (qae.f 4 o0_0 t45.1).bind fun t46 => some (18,[t16.1],[],0,iW.wrap (1 + t46.1),vaa,t46.2,t45.2)) else if t17.1 = 10 then ((qaH.f k a1 t16.1 o0_0 t17.2).bind fun t47 => some (t47.1,t47.2.2.2.2.2.1,[],t47.2.1,t47.2.2.1,t47.2.2.2.1,t47.2.2.2.2.1,t47.2.2.2.2.2.2)) else if ((a1.getD t16.1.toNat []).length : Int) = 0 then (some (4,[t16.1],[],0,0,vaa,t17.2,[])) else (qae.f ((a1.getD t16.1.toNat []).length : Int) o0_0 t17.2).bind fun t48 => (qae.f 3 o0_0 t48.2).bind fun t49 => (qae.f 2 o0_0 t49.2).bind fun t50 => (qae.f 4 o0_0 t50.2).bind fun t51 => some (20,[t16.1],[],0,iW.wrap (1 + t51.1),vaa,t51.2,[t48.1,iW.wrap (1 + t49.1),iW.wrap (1 + t50.1)]) else none
def qby.l0 : Nat -> LI -> ByteArray -> Nat -> Option (LI)
 | 0,_,_,_ => none
 | n + 1,y0,y1_0,y1_1 => if y1_1 < y1_0.size then (if y0.length + [(((Utf8.decode y1_0 y1_1).1 : Nat) : Int)].length <= 281474976710656 /\ (y0.length + [(((Utf8.decode y1_0 y1_1).1 : Nat) : Int)].length) * 4 <= 140737488355328 then qby.l0 n (y0 ++ [(((Utf8.decode y1_0 y1_1).1 : Nat) : Int)]) y1_0 (y1_1 + (Utf8.decode y1_0 y1_1).2) else none) else some y0
def qby.f (k : Nat) (a0 : ByteArray) : Option (LI) := (qby.l0 k [] a0 0).bind fun t1 => some t1
def qbU.l0 : Nat -> LI -> ByteArray -> Int -> Int -> LI -> Option (ByteArray)
 | 0,_,_,_,_,_ => none
 | n + 1,x1,x6,x11,x12,y0 => if x12 < x11 then (if 0 <= x12 /\ x12 < (x1.length : Int) then if x1.getD x12.toNat 0 < 0 then (if x6.size + (vac #[46]).size <= 9223372036854775807 then qbU.l0 n x1 (x6 ++ (vac #[46])) x11 (iW.wrap (x12 + 1)) y0 else none) else if (y0.length : Int) <= x1.getD x12.toNat 0 then (if x6.size + (vac #[46]).size <= 9223372036854775807 then qbU.l0 n x1 (x6 ++ (vac #[46])) x11 (iW.wrap (x12 + 1)) y0 else none) else if 0 <= x1.getD x12.toNat 0 /\ x1.getD x12.toNat 0 < (y0.length : Int) then if (x1.getD x12.toNat 0).toNat < y0.length then if x6.size + (Utf8.encode (y0.getD (x1.getD x12.toNat 0).toNat 0)).size <= 9223372036854775807 then qbU.l0 n x1 (x6 ++ (Utf8.encode (y0.getD (x1.getD x12.toNat 0).toNat 0))) x11 (iW.wrap (x12 + 1)) y0 else none else none else none else none) else some x6
def qbU.f (k : Nat) (a0 : ByteArray) (a1 : LI) : Option (ByteArray) := (qby.f k a0).bind fun t1 => (qbU.l0 k a1 vaa (a1.length : Int) 0 t1).bind fun t2 => some t2
def qaB.l1 : Nat -> Int -> LI -> Int -> Int -> ByteArray -> LI -> Int -> ByteArray -> (List LI) -> Int -> LI -> LI -> Int -> Int -> ByteArray -> (List LI) -> LI -> (List LN) -> LI -> Option ((List LI))
 | 0,_,_,_,_,_,_,_,_,_,_,_,_,_,_,_,_,_,_,_ => none
 | n + 1,x6,x35,x36,x37,y0,y1_0,y1_1,y2,y3,y4_0,y4_1,y4_2,y4_3,y4_4,y4_5,y5,y6,y7,y8 => if x37 < x36 then (if 0 <= x37 /\ x37 < (x35.length : Int) then if 0 <= x35.getD x37.toNat 0 /\ x35.getD x37.toNat 0 < (y3.length : Int) then if (x35.getD x37.toNat 0).toNat < y3.length then if y5.length + [y3.getD (x35.getD x37.toNat 0).toNat []].length <= 281474976710656 /\ (y5.length + [y3.getD (x35.getD x37.toNat 0).toNat []].length) * 24 <= 140737488355328 then qaB.l1 n x6 x35 x36 (iW.wrap (x37 + 1)) y0 y1_0 y1_1 y2 y3 y4_0 y4_1 y4_2 y4_3 y4_4 y4_5 (y5 ++ [y3.getD (x35.getD x37.toNat 0).toNat []]) y6 y7 y8 else none else none else none else none) else some y5
def qaB.l0 (k : Nat) : Nat -> Int -> ByteArray -> LI -> Int -> ByteArray -> (List LI) -> LI -> (List LN) -> Option (Int × (List LI) × (List LN))
 | 0,_,_,_,_,_,_,_,_ => none
 | n + 1,x6,y0,y1_0,y1_1,y2,y3,y4,y5 => if 0 < x6 then ((qaf.f k y3 y1_0 y1_1).bind fun t3 => (qaB.l1 n x6 t3.2.1 (t3.2.1.length : Int) 0 y0 y1_0 t3.2.2.2.2.2.2.1 y2 y3 t3.1 t3.2.1 t3.2.2.1 t3.2.2.2.1 t3.2.2.2.2.1 t3.2.2.2.2.2.1 [] y4 y5 t3.2.2.2.2.2.2.2).bind fun t4 => (qbg.f k t3.1 t3.2.1 t3.2.2.1 t3.2.2.2.2.2.2.2 t3.2.2.2.1 t3.2.2.2.2.1 t3.2.2.2.2.2.1 t4).bind fun t5 => if t5.1 = 0 then ((qbM.f k t5.2).bind fun t6 => if 400 < t6 then (qaB.l0 k n (iW.wrap (x6 - 1)) y0 y1_0 t3.2.2.2.2.2.2.1 y2 y3 y4 y5) else (qae.f 3 y1_0 t3.2.2.2.2.2.2.1).bind fun t7 => if t7.1 = 0 then ((qaS.f k y4 (t5.2.length : Int) y1_0 t7.2).bind fun t8 => (qbU.f k y2 t8.2).bind fun t9 => if y5.length + [(t3.1,(t3.2.1,(t3.2.2.1,(t3.2.2.2.2.2.2.2,(t3.2.2.2.1,(t3.2.2.2.2.1,t9))))))].length <= 281474976710656 /\ (y5.length + [(t3.1,(t3.2.1,(t3.2.2.1,(t3.2.2.2.2.2.2.2,(t3.2.2.2.1,(t3.2.2.2.2.1,t9))))))].length) * 112 <= 140737488355328 then if y3.length + [t5.2].length <= 281474976710656 /\ (y3.length + [t5.2].length) * 24 <= 140737488355328 then qaB.l0 k n (iW.wrap (x6 - 1)) y0 y1_0 t8.1 y2 (y3 ++ [t5.2]) y4 (y5 ++ [(t3.1,(t3.2.1,(t3.2.2.1,(t3.2.2.2.2.2.2.2,(t3.2.2.2.1,(t3.2.2.2.2.1,t9))))))]) else none else none) else if y5.length + [(t3.1,(t3.2.1,(t3.2.2.1,(t3.2.2.2.2.2.2.2,(t3.2.2.2.1,(t3.2.2.2.2.1,t3.2.2.2.2.2.1))))))].length <= 281474976710656 /\ (y5.length + [(t3.1,(t3.2.1,(t3.2.2.1,(t3.2.2.2.2.2.2.2,(t3.2.2.2.1,(t3.2.2.2.2.1,t3.2.2.2.2.2.1))))))].length) * 112 <= 140737488355328 then if y3.length + [t5.2].length <= 281474976710656 /\ (y3.length + [t5.2].length) * 24 <= 140737488355328 then qaB.l0 k n (iW.wrap (x6 - 1)) y0 y1_0 t7.2 y2 (y3 ++ [t5.2]) y4 (y5 ++ [(t3.1,(t3.2.1,(t3.2.2.1,(t3.2.2.2.2.2.2.2,(t3.2.2.2.1,(t3.2.2.2.2.1,t3.2.2.2.2.2.1))))))]) else none else none) else qaB.l0 k n (iW.wrap (x6 - 1)) y0 y1_0 t3.2.2.2.2.2.2.1 y2 y3 y4 y5) else some (y1_1,y3,y5)
def qaB.l2 : Nat -> Int -> ByteArray -> LI -> Int -> ByteArray -> (List LI) -> LI -> (List LN) -> LI -> Option (LI)
 | 0,_,_,_,_,_,_,_,_,_ => none
 | n + 1,x13,y0,y1_0,y1_1,y2,y3,y4,y5,y6 => if 0 < x13 then (if 0 < (y3.length : Int) then ((qae.f (y3.length : Int) y1_0 y1_1).bind fun t12 => (qae.f 2 y1_0 t12.2).bind fun t13 => if 0 <= t13.1 /\ t13.1 < ([iW.wrap ((y3.length : Int) - 1),t12.1].length : Int) then if t13.1.toNat < [iW.wrap ((y3.length : Int) - 1),t12.1].length then if y6.length + [[iW.wrap ((y3.length : Int) - 1),t12.1].getD t13.1.toNat 0].length <= 281474976710656 /\ (y6.length + [[iW.wrap ((y3.length : Int) - 1),t12.1].getD t13.1.toNat 0].length) * 8 <= 140737488355328 then qaB.l2 n (iW.wrap (x13 - 1)) y0 y1_0 t13.2 y2 y3 y4 y5 (y6 ++ [[iW.wrap ((y3.length : Int) - 1),t12.1].getD t13.1.toNat 0]) else none else none else none) else some y6) else some y6
def qaB.f (k : Nat) (a0 : LI) : Option (ByteArray × LI × (List LN) × LI) := (qcF.f a0 0).bind fun t1 => (qae.f 9 a0 t1.2.1).bind fun t2 => (qaB.l0 k k (iW.wrap (1 + t2.1)) vaa a0 t2.2 t1.1 [] t1.2.2 []).bind fun t10 => (qae.f 3 a0 t10.1).bind fun t11 => (qaB.l2 k (iW.wrap (1 + t11.1)) vaa a0 t11.2 t1.1 t10.2.1 t1.2.2 t10.2.2 []).bind fun t14 => some (t1.1,t1.2.2,t10.2.2,t14)
def qbn.l0 : Nat -> LI -> ByteArray -> Nat -> Option (LI)
 | 0,_,_,_ => none
 | n + 1,y0,y1_0,y1_1 => if y1_1 < y1_0.size then (if y0.length + [(((Utf8.decode y1_0 y1_1).1 : Nat) : Int)].length <= 281474976710656 /\ (y0.length + [(((Utf8.decode y1_0 y1_1).1 : Nat) : Int)].length) * 4 <= 140737488355328 then qbn.l0 n (y0 ++ [(((Utf8.decode y1_0 y1_1).1 : Nat) : Int)]) y1_0 (y1_1 + (Utf8.decode y1_0 y1_1).2) else none) else some y0
def qbn.f (k : Nat) (a0 : ByteArray) : Option (LI) := (qbn.l0 k [] a0 0).bind fun t1 => some t1
def qew.f (a0 : Int) : Option (Bool) := if a0 = 46 then (some false) else if a0 = 45 then (some false) else if a0 = 40 then (some false) else if a0 = 41 then (some false) else if a0 = 65533 then (some false) else some (decide (33 <= a0))
def qaO.l0 : Nat -> LI -> Int -> Int -> Int -> Option (Unit ⊕ Int)
 | 0,_,_,_,_ => none
 | n + 1,x0,x1,x7,x8 => if x8 < x7 then (if 0 <= x8 /\ x8 < (x0.length : Int) then if x1 = x0.getD x8.toNat 0 then (some (.inr x8)) else qaO.l0 n x0 x1 x7 (iW.wrap (x8 + 1)) else none) else some (.inl ())
def qaO.f (k : Nat) (a0 : LI) (a1 : Int) : Option (Int) := (qaO.l0 k a0 a1 (a0.length : Int) 0).bind fun t1 => Sum.elim (fun t1 => some (-1)) (fun t1 => some t1) t1
def qbT.f (k : Nat) (a0 : LI) (a1 : Int) : Option (Bool) := (qaO.f k a0 a1).bind fun t1 => some (decide (0 <= t1))
def qbx.l0 (k : Nat) : Nat -> Int -> Int -> LI -> Option (Unit ⊕ Bool)
 | 0,_,_,_ => none
 | n + 1,x19,x20,y0 => if x20 < x19 then (if 0 <= x20 /\ x20 < (y0.length : Int) then if x20.toNat < y0.length then (qew.f (y0.getD x20.toNat 0)).bind fun t2 => if t2 = true then (if 0 <= ((0 : Nat) : Int) /\ ((0 : Nat) : Int) <= x20 /\ x20 <= (y0.length : Int) then (qbT.f k ((y0.take x20.toNat).drop 0) (y0.getD x20.toNat 0)).bind fun t3 => if t3 = true then (some (.inr false)) else qbx.l0 k n x19 (iW.wrap (x20 + 1)) y0 else none) else some (.inr false) else none else none) else some (.inl ())
def qbx.f (k : Nat) (a0 : ByteArray) (a1 : Int) : Option (Bool) := (qbn.f k a0).bind fun t1 => if (t1.length : Int) = a1 then (if 3 < a1 then (some false) else (qbx.l0 k k (t1.length : Int) 0 t1).bind fun t4 => Sum.elim (fun t4 => some true) (fun t4 => some t4) t4) else some false
def qb0.l0 : Nat -> Int -> LI -> Int -> Int -> LI -> ByteArray -> (List LN) -> LI -> Option (Int ⊕ Bool)
 | 0,_,_,_,_,_,_,_,_ => none
 | n + 1,x3,x11,x12,x13,y0_0,y0_1,y0_2,y0_3 => if x13 < x12 then (if 0 <= x13 /\ x13 < (x11.length : Int) then if x11.getD x13.toNat 0 < 1 then (some (.inr false)) else if 8 < x11.getD x13.toNat 0 then (some (.inr false)) else qb0.l0 n (iW.wrap (x3 * (x11.getD x13.toNat 0))) x11 x12 (iW.wrap (x13 + 1)) y0_0 y0_1 y0_2 y0_3 else none) else some (.inl x3)
def qb0.f (k : Nat) (a0_0 : LI) (a0_1 : ByteArray) (a0_2 : List LN) (a0_3 : LI) : Option (Bool) := if 3 < (a0_0.length : Int) then (some false) else (qb0.l0 k 1 a0_0 (a0_0.length : Int) 0 a0_0 a0_1 a0_2 a0_3).bind fun t1 => Sum.elim (fun t1 => if t1 <= 8 then ((qbx.f k a0_1 (a0_0.length : Int)).bind fun t2 => some t2) else some false) (fun t1 => some t1) t1
def qdX.f (a0 : Int) : Option (Int × Bool × Bool × Bool × Bool × Bool × Bool) := if a0 = 1 then (some (0,false,true,false,false,false,true)) else if a0 = 2 then (some (0,false,true,false,true,false,true)) else if a0 = 3 then (some (0,false,true,true,false,false,true)) else if a0 = 4 then (some (1,false,false,false,false,false,true)) else if a0 = 5 then (some (1,false,false,false,false,false,true)) else if a0 = 6 then (some (2,false,false,false,false,false,true)) else if a0 = 7 then (some (2,false,false,false,false,false,true)) else if a0 = 8 then (some (2,false,false,false,false,false,true)) else if a0 = 9 then (some (2,false,false,false,false,false,true)) else if a0 = 10 then (some (2,false,false,false,false,false,true)) else if a0 = 11 then (some (2,false,false,false,false,false,true)) else if a0 = 12 then (some (3,false,false,false,false,false,true)) else if a0 = 13 then (some (1,false,false,true,false,false,true)) else if a0 = 15 then (some (1,false,false,true,false,false,true)) else if a0 = 14 then (some (1,false,true,true,false,false,true)) else if a0 = 16 then (some (1,false,false,true,true,false,true)) else if a0 = 17 then (some (2,true,false,true,false,false,true)) else if a0 = 18 then (some (1,false,false,true,false,true,true)) else if a0 = 20 then (some (1,false,false,true,false,true,true)) else if a0 = 19 then (some (2,false,false,true,false,false,true)) else some (0,false,false,false,false,false,false)
def qdx.f (a0_0 : Int) (a0_1 : LI) (a0_2 : LI) (a0_3 : LI) (a0_4 : Int) (a0_5 : Int) (a0_6 : ByteArray) (a1 : Int) : Option (Bool) := (qdX.f a0_0).bind fun t1 => if t1.2.2.2.2.2.2 = true then (if a1 < t1.1 then (some false) else if t1.1 < a1 then (if t1.2.1 = true then (if t1.2.2.1 = true then (if t1.2.2.2.1 = true then (if t1.2.2.2.2.1 = true then (if t1.2.2.2.2.2.1 = true then (some true) else some (decide (a0_5 = 0))) else if a0_4 = 0 then (if t1.2.2.2.2.2.1 = true then (some true) else some (decide (a0_5 = 0))) else some false) else if (a0_3.length : Int) = 0 then (if t1.2.2.2.2.1 = true then (if t1.2.2.2.2.2.1 = true then (some true) else some (decide (a0_5 = 0))) else if a0_4 = 0 then (if t1.2.2.2.2.2.1 = true then (some true) else some (decide (a0_5 = 0))) else some false) else some false) else if (a0_2.length : Int) = 0 then (if t1.2.2.2.1 = true then (if t1.2.2.2.2.1 = true then (if t1.2.2.2.2.2.1 = true then (some true) else some (decide (a0_5 = 0))) else if a0_4 = 0 then (if t1.2.2.2.2.2.1 = true then (some true) else some (decide (a0_5 = 0))) else some false) else if (a0_3.length : Int) = 0 then (if t1.2.2.2.2.1 = true then (if t1.2.2.2.2.2.1 = true then (some true) else some (decide (a0_5 = 0))) else if a0_4 = 0 then (if t1.2.2.2.2.2.1 = true then (some true) else some (decide (a0_5 = 0))) else some false) else some false) else some false) else some false) else if t1.2.2.1 = true then (if t1.2.2.2.1 = true then (if t1.2.2.2.2.1 = true then (if t1.2.2.2.2.2.1 = true then (some true) else some (decide (a0_5 = 0))) else if a0_4 = 0 then (if t1.2.2.2.2.2.1 = true then (some true) else some (decide (a0_5 = 0))) else some false) else if (a0_3.length : Int) = 0 then (if t1.2.2.2.2.1 = true then (if t1.2.2.2.2.2.1 = true then (some true) else some (decide (a0_5 = 0))) else if a0_4 = 0 then (if t1.2.2.2.2.2.1 = true then (some true) else some (decide (a0_5 = 0))) else some false) else some false) else if (a0_2.length : Int) = 0 then (if t1.2.2.2.1 = true then (if t1.2.2.2.2.1 = true then (if t1.2.2.2.2.2.1 = true then (some true) else some (decide (a0_5 = 0))) else if a0_4 = 0 then (if t1.2.2.2.2.2.1 = true then (some true) else some (decide (a0_5 = 0))) else some false) else if (a0_3.length : Int) = 0 then (if t1.2.2.2.2.1 = true then (if t1.2.2.2.2.2.1 = true then (some true) else some (decide (a0_5 = 0))) else if a0_4 = 0 then (if t1.2.2.2.2.2.1 = true then (some true) else some (decide (a0_5 = 0))) else some false) else some false) else some false) else some false
def qdl.f (k : Nat) (a0 : LI) : Option (Bool) := (qaW.f k a0).bind fun t1 => some (!t1)
def qai.l0 (k : Nat) : Nat -> (List LI) -> Int -> Int -> Option (Unit ⊕ Int)
 | 0,_,_,_ => none
 | n + 1,x0,x7,x8 => if x8 < x7 then (if 0 <= x8 /\ x8 < (x0.length : Int) then (qdl.f k (x0.getD x8.toNat [])).bind fun t1 => if t1 = true then (some (.inr x8)) else qai.l0 k n x0 x7 (iW.wrap (x8 + 1)) else none) else some (.inl ())
def qai.f (k : Nat) (a0 : List LI) : Option (Int) := (qai.l0 k k a0 (a0.length : Int) 0).bind fun t2 => Sum.elim (fun t2 => some (-1)) (fun t2 => some t2) t2
def qaI.f (k : Nat) (a0 : List LI) : Option (Bool) := (qai.f k a0).bind fun t1 => some (decide (0 <= t1))
def qcO.f (k : Nat) (a0_0 : Int) (a0_1 : LI) (a0_2 : LI) (a0_3 : LI) (a0_4 : Int) (a0_5 : Int) (a0_6 : ByteArray) : Option (LI × Int) := (qaW.f k a0_2).bind fun t1 => if t1 = true then (if a0_0 = 3 then (if (a0_3.length : Int) = 1 then (if (0 : Int) <= 0 /\ 0 < (a0_3.length : Int) then if a0_3.getD 0 0 < 0 then (some ([],1)) else if (a0_2.length : Int) <= a0_3.getD 0 0 then (some ([],1)) else some (a0_2,0) else none) else some ([],1)) else some (a0_2,0)) else some ([],13)
def qdW.f (k : Nat) (a0_0 : Int) (a0_1 : LI) (a0_2 : LI) (a0_3 : LI) (a0_4 : Int) (a0_5 : Int) (a0_6 : ByteArray) (a1 : LI) : Option (LI × Int) := if (a0_3.length : Int) = iW.wrap (2 * (a1.length : Int)) then (if 0 <= ((0 : Nat) : Int) /\ ((0 : Nat) : Int) <= (a1.length : Int) /\ (a1.length : Int) <= (a0_3.length : Int) then if 0 <= (a1.length : Int) /\ (a1.length : Int) <= (a0_3.length : Int) /\ (a0_3.length : Int) <= (a0_3.length : Int) then if a0_0 = 15 then ((qbH.f k a1 ((a0_3.take (a1.length : Int).toNat).drop 0) ((a0_3.take a0_3.length).drop (a1.length : Int).toNat)).bind fun t1 => some ((a0_3.take a0_3.length).drop (a1.length : Int).toNat,t1)) else (qbI.f k a1 ((a0_3.take (a1.length : Int).toNat).drop 0) ((a0_3.take a0_3.length).drop (a1.length : Int).toNat)).bind fun t2 => some (t2.2,t2.1) else none else none) else some ([],1)
def qcp.f (a1 : Int) : Option (LI) := if a1 < 0 then (none) else if 0 < iW.wrap (a1 - (iW.wrap (0 - 0))) then (if ((0 : Nat) : Int) = 0 /\ 0 = 0 then if 1 <= iW.wrap (a1 - (iW.wrap (0 - 0))) /\ iW.wrap (a1 - (iW.wrap (0 - 0))) <= 281474976710656 /\ ((8 : Nat) : Int) * (iW.wrap (a1 - (iW.wrap (0 - 0)))) <= 140737488355328 then if 0 <= ((0 : Nat) : Int) /\ ((0 : Nat) : Int) <= 0 /\ 0 <= ((vab (iW.wrap (a1 - (iW.wrap (0 - 0)))).toNat (0 : Int)).length : Int) then some ((vab (iW.wrap (a1 - (iW.wrap (0 - 0)))).toNat (0 : Int)).take 0) else none else none else none) else some []
def qap.l0 : Nat -> (List LI) -> Int -> (List LI) -> Int -> Int -> Option (Int)
 | 0,_,_,_,_,_ => none
 | n + 1,x0,x3,x9,x10,x11 => if x11 < x10 then (if 0 <= x11 /\ x11 < (x9.length : Int) then if iW.wrap (x3 + ((x9.getD x11.toNat []).length : Int)) < 0 then (none) else qap.l0 n x0 (iW.wrap (x3 + ((x9.getD x11.toNat []).length : Int))) x9 x10 (iW.wrap (x11 + 1)) else none) else some x3
def qap.l1 : Nat -> (List LI) -> Int -> Int -> LI -> Option (LI)
 | 0,_,_,_,_ => none
 | n + 1,x25,x26,x27,y0 => if x27 < x26 then (if 0 <= x27 /\ x27 < (x25.length : Int) then if y0.length + (x25.getD x27.toNat []).length <= 281474976710656 /\ (y0.length + (x25.getD x27.toNat []).length) * 8 <= 140737488355328 then qap.l1 n x25 x26 (iW.wrap (x27 + 1)) (y0 ++ (x25.getD x27.toNat [])) else none else none) else some y0
def qap.f (k : Nat) (a0 : List LI) : Option (LI) := (qap.l0 k a0 0 a0 (a0.length : Int) 0).bind fun t1 => (qcp.f t1).bind fun t2 => (qap.l1 k a0 (a0.length : Int) 0 t2).bind fun t3 => some t3
def qeG.f (k : Nat) (a0 : LI) (a1 : LI) (a2 : Int) : Option (Int × LI) := if a2 < 0 then (some (1,[])) else if (a0.length : Int) <= a2 then (some (1,[])) else if (a1.length : Int) <= a2 then (some (1,[])) else (qaW.f k a0).bind fun t1 => if t1 = true then ((qaW.f k a1).bind fun t2 => if t2 = true then (if 0 <= ((0 : Nat) : Int) /\ ((0 : Nat) : Int) <= a2 /\ a2 <= (a0.length : Int) then if 0 <= ((0 : Nat) : Int) /\ ((0 : Nat) : Int) <= a2 /\ a2 <= (a1.length : Int) then (qdm.f k ((a0.take a2.toNat).drop 0) ((a1.take a2.toNat).drop 0)).bind fun t3 => if t3 = true then (if 0 <= iW.wrap ((a0.length : Int) - 1) /\ iW.wrap ((a0.length : Int) - 1) < (a0.length : Int) then if 0 <= a2 /\ a2 < (a1.length : Int) then if a0.getD (iW.wrap ((a0.length : Int) - 1)).toNat 0 = a1.getD a2.toNat 0 then (if 0 <= ((0 : Nat) : Int) /\ ((0 : Nat) : Int) <= iW.wrap ((a0.length : Int) - 1) /\ iW.wrap ((a0.length : Int) - 1) <= (a0.length : Int) then if 0 <= iW.wrap (a2 + 1) /\ iW.wrap (a2 + 1) <= (a1.length : Int) /\ (a1.length : Int) <= (a1.length : Int) then (qap.f k [(a0.take (iW.wrap ((a0.length : Int) - 1)).toNat).drop 0,(a1.take a1.length).drop (iW.wrap (a2 + 1)).toNat]).bind fun t4 => (qaW.f k t4).bind fun t5 => if t5 = true then (some (0,t4)) else some (13,[]) else none else none) else some (13,[]) else none else none) else some (13,[]) else none else none) else some (13,[])) else some (13,[])
def qdo.f (a0 : Int) : Option (Bool) := if 1 <= a0 then (some (decide (a0 <= 4))) else some false
def qbN.l0 : Nat -> LI -> LI -> Int -> Int -> LI -> Option (LI)
 | 0,_,_,_,_,_ => none
 | n + 1,x1,x14,x15,x16,y0 => if x16 < x15 then (if 0 <= x16 /\ x16 < (x14.length : Int) then if 0 < (x1.length : Int) then (if (0 : Int) <= 0 /\ 0 < (x1.length : Int) then if x1.getD 0 0 = x16 then (if (0 : Int) <= 1 /\ 1 <= (x1.length : Int) /\ (x1.length : Int) <= (x1.length : Int) then qbN.l0 n ((x1.take x1.length).drop 1) x14 x15 (iW.wrap (x16 + 1)) y0 else none) else if y0.length + [x14.getD x16.toNat 0].length <= 281474976710656 /\ (y0.length + [x14.getD x16.toNat 0].length) * 8 <= 140737488355328 then qbN.l0 n x1 x14 x15 (iW.wrap (x16 + 1)) (y0 ++ [x14.getD x16.toNat 0]) else none else none) else if y0.length + [x14.getD x16.toNat 0].length <= 281474976710656 /\ (y0.length + [x14.getD x16.toNat 0].length) * 8 <= 140737488355328 then qbN.l0 n x1 x14 x15 (iW.wrap (x16 + 1)) (y0 ++ [x14.getD x16.toNat 0]) else none else none) else some y0
def qbN.f (k : Nat) (a0 : LI) (a1 : LI) : Option (Int × LI) := (qa8.f k a1 (a0.length : Int)).bind fun t1 => if t1 = true then ((qbN.l0 k a1 a0 (a0.length : Int) 0 []).bind fun t2 => some (0,t2)) else some (1,[])
def qdH.f (k : Nat) (a0_0 : Int) (a0_1 : LI) (a0_2 : LI) (a0_3 : LI) (a0_4 : Int) (a0_5 : Int) (a0_6 : ByteArray) (a1 : LI) : Option (Int × LI) := (qdo.f a0_5).bind fun t1 => if t1 = true then ((qbN.f k a1 a0_3).bind fun t2 => if t2.1 = 0 then ((qaW.f k t2.2).bind fun t3 => if t3 = true then (some (t2.1,t2.2)) else some (13,t2.2)) else some (t2.1,t2.2)) else some (1,[])
def qcT.f (a0 : Int) : Option (Bool) := if 1 <= a0 then (some (decide (a0 <= 32))) else some false
def qdO.f (a0 : Int) (a1 : Int) (a2 : Int) : Option (Bool) := (qdo.f a0).bind fun t1 => if t1 = true then ((qcT.f a1).bind fun t2 => if t2 = true then ((qcT.f a2).bind fun t3 => some t3) else some false) else some false
def qdN.f (a0 : Int) (a1 : Int) (a2 : Int) : Option (Int) := if a0 < 0 then (some 0) else if a1 < 1 then (some 0) else if a2 < 1 then (some 0) else if a0 < a1 then (some 0) else if a2 ≠ 0 then some (iW.wrap ((iW.wrap ((iW.wrap (a0 - a1)).tdiv a2)) + 1)) else none
def qee.f (a0_0 : Int) (a0_1 : LI) (a0_2 : LI) (a0_3 : LI) (a0_4 : Int) (a0_5 : Int) (a0_6 : ByteArray) (a1 : LI) : Option (Int × LI) := if (a0_3.length : Int) = 3 then (if (0 : Int) <= 1 /\ 1 < (a0_3.length : Int) then if (0 : Int) <= 2 /\ 2 < (a0_3.length : Int) then (qdO.f a0_5 (a0_3.getD 1 0) (a0_3.getD 2 0)).bind fun t1 => if t1 = true then (if (0 : Int) <= 0 /\ 0 < (a0_3.length : Int) then if a0_3.getD 0 0 < 0 then (some (1,[])) else if (a1.length : Int) <= a0_3.getD 0 0 then (some (1,[])) else (qaZ.f a1).bind fun t2 => if 0 <= a0_3.getD 0 0 /\ a0_3.getD 0 0 < (a1.length : Int) then (qdN.f (a1.getD (a0_3.getD 0 0).toNat 0) (a0_3.getD 1 0) (a0_3.getD 2 0)).bind fun t3 => if 0 <= a0_3.getD 0 0 /\ a0_3.getD 0 0 < (t2.length : Int) then if (a0_3.getD 0 0).toNat < t2.length then some (0,t2.set (a0_3.getD 0 0).toNat t3) else none else none else none else none) else some (1,[]) else none else none) else some (1,[])
def qdk.f (k : Nat) (a0 : LI) (o0 : List LI) : Option (Bool) := if (0 : Int) <= 0 /\ 0 < (o0.length : Int) then (qdm.f k a0 (o0.getD 0 [])).bind fun t1 => some (!t1) else none
def qah.l0 (k : Nat) : Nat -> (List LI) -> Int -> Int -> (List LI) -> Option (Unit ⊕ Int)
 | 0,_,_,_,_ => none
 | n + 1,x0,x7,x8,y0 => if x8 < x7 then (if 0 <= x8 /\ x8 < (x0.length : Int) then (qdk.f k (x0.getD x8.toNat []) y0).bind fun t1 => if t1 = true then (some (.inr x8)) else qah.l0 k n x0 x7 (iW.wrap (x8 + 1)) y0 else none) else some (.inl ())
def qah.f (k : Nat) (a0 : List LI) (o0 : List LI) : Option (Int) := (qah.l0 k k a0 (a0.length : Int) 0 o0).bind fun t2 => Sum.elim (fun t2 => some (-1)) (fun t2 => some t2) t2
def qaT.f (k : Nat) (a0 : List LI) (o0 : List LI) : Option (Bool) := (qah.f k a0 o0).bind fun t1 => some (decide (0 <= t1))
def qdy.f (k : Nat) (a0 : List LI) : Option (LI × Int) := (qaT.f k a0 a0).bind fun t1 => if t1 = true then (some ([],13)) else if (0 : Int) <= 0 /\ 0 < (a0.length : Int) then some (a0.getD 0 [],0) else none
def qa1.f (k : Nat) (a0_0 : Int) (a0_1 : LI) (a0_2 : LI) (a0_3 : LI) (a0_4 : Int) (a0_5 : Int) (a0_6 : ByteArray) (a1 : List LI) : Option (LI × Int) := if a0_0 = 1 then ((qcO.f k a0_0 a0_1 a0_2 a0_3 a0_4 a0_5 a0_6).bind fun t1 => some (t1.1,t1.2)) else if a0_0 = 2 then ((qcO.f k a0_0 a0_1 a0_2 a0_3 a0_4 a0_5 a0_6).bind fun t2 => some (t2.1,t2.2)) else if a0_0 = 3 then ((qcO.f k a0_0 a0_1 a0_2 a0_3 a0_4 a0_5 a0_6).bind fun t3 => some (t3.1,t3.2)) else if a0_0 = 13 then (if (0 : Int) <= 0 /\ 0 < (a1.length : Int) then (qbG.f k (a1.getD 0 []) a0_3).bind fun t4 => some (t4.2,t4.1) else none) else if a0_0 = 14 then (if (0 : Int) <= 0 /\ 0 < (a1.length : Int) then (qb2.f k (a1.getD 0 []) a0_2 a0_3).bind fun t5 => some (a0_2,t5) else none) else if a0_0 = 15 then (if (0 : Int) <= 0 /\ 0 < (a1.length : Int) then (qdW.f k a0_0 a0_1 a0_2 a0_3 a0_4 a0_5 a0_6 (a1.getD 0 [])).bind fun t6 => some (t6.1,t6.2) else none) else if a0_0 = 16 then (if (0 : Int) <= 0 /\ 0 < (a1.length : Int) then (qdW.f k a0_0 a0_1 a0_2 a0_3 a0_4 a0_5 a0_6 (a1.getD 0 [])).bind fun t7 => some (t7.1,t7.2) else none) else if a0_0 = 17 then (if (a0_3.length : Int) = 1 then (if (0 : Int) <= 0 /\ 0 < (a0_3.length : Int) then (qaY.f k (a0_3.getD 0 0) a1).bind fun t8 => some (t8.2,t8.1) else none) else some ([],1)) else if a0_0 = 19 then (if (a0_3.length : Int) = 1 then (if (0 : Int) <= 0 /\ 0 < (a1.length : Int) then if (0 : Int) <= 1 /\ 1 < (a1.length : Int) then if (0 : Int) <= 0 /\ 0 < (a0_3.length : Int) then (qeG.f k (a1.getD 0 []) (a1.getD 1 []) (a0_3.getD 0 0)).bind fun t9 => some (t9.2,t9.1) else none else none else none) else some ([],1)) else if a0_0 = 18 then (if (0 : Int) <= 0 /\ 0 < (a1.length : Int) then (qdH.f k a0_0 a0_1 a0_2 a0_3 a0_4 a0_5 a0_6 (a1.getD 0 [])).bind fun t10 => some (t10.2,t10.1) else none) else if a0_0 = 20 then (if (0 : Int) <= 0 /\ 0 < (a1.length : Int) then (qee.f a0_0 a0_1 a0_2 a0_3 a0_4 a0_5 a0_6 (a1.getD 0 [])).bind fun t11 => some (t11.2,t11.1) else none) else (qdy.f k a1).bind fun t12 => some (t12.1,t12.2)
def qdz.f (k : Nat) (a0_0 : Int) (a0_1 : LI) (a0_2 : LI) (a0_3 : LI) (a0_4 : Int) (a0_5 : Int) (a0_6 : ByteArray) (a1 : List LI) : Option (Int × LI) := (qdx.f a0_0 a0_1 a0_2 a0_3 a0_4 a0_5 a0_6 (a1.length : Int)).bind fun t1 => if t1 = true then ((qaI.f k a1).bind fun t2 => if t2 = true then (some (13,[])) else (qa1.f k a0_0 a0_1 a0_2 a0_3 a0_4 a0_5 a0_6 a1).bind fun t3 => if t3.2 = 0 then ((qaZ.f t3.1).bind fun t4 => some (0,t4)) else some (t3.2,[])) else some (1,[])
def qdV.f (k : Nat) (a0 : ByteArray) (a1 : Int) : Option (Int) := (qbn.f k a0).bind fun t1 => (qaO.f k t1 a1).bind fun t2 => some t2
def qbs.l0 (k : Nat) : Nat -> ByteArray -> Int -> Int -> Int -> LI -> LI -> Option (LI ⊕ (Bool × Int))
 | 0,_,_,_,_,_,_ => none
 | n + 1,x0,x2,x20,x21,y0,y1 => if x21 < x20 then (if 0 <= x21 /\ x21 < (y1.length : Int) then if x21.toNat < y1.length then (qdV.f k x0 (y1.getD x21.toNat 0)).bind fun t2 => if y1.getD x21.toNat 0 = 32 then (qbs.l0 k n x0 x2 x20 (iW.wrap (x21 + 1)) y0 y1) else if y1.getD x21.toNat 0 = 46 then (if y0.length + ([-1] : LI).length <= 281474976710656 /\ (y0.length + ([-1] : LI).length) * 8 <= 140737488355328 then qbs.l0 k n x0 x2 x20 (iW.wrap (x21 + 1)) (y0 ++ ([-1] : LI)) y1 else none) else if t2 < 0 then (some (.inr (false,14))) else (qb3.f k y0 t2).bind fun t3 => if t3 = true then (some (.inr (false,14))) else if y0.length + [t2].length <= 281474976710656 /\ (y0.length + [t2].length) * 8 <= 140737488355328 then qbs.l0 k n x0 x2 x20 (iW.wrap (x21 + 1)) (y0 ++ [t2]) y1 else none else none else none) else some (.inl y0)
def qbs.f (k : Nat) (a0 : ByteArray) (a1 : ByteArray) (a2 : Int) : Option (Bool × Int × LI) := (qbn.f k a1).bind fun t1 => if 16 < (t1.length : Int) then (some (false,14,[])) else (qbs.l0 k k a0 a2 (t1.length : Int) 0 [] t1).bind fun t4 => Sum.elim (fun t4 => if (t4.length : Int) = 0 then (some (false,0,[])) else if (t4.length : Int) = a2 then (some (true,0,t4)) else some (false,14,[])) (fun t4 => some (t4.1,t4.2,[])) t4
def qbS.l0 : Nat -> (List LI) -> LI -> Int -> Int -> LI -> ByteArray -> (List LN) -> LI -> Int -> LI -> LI -> LI -> Int -> Int -> ByteArray -> (List LI) -> Option ((List LI) ⊕ Int)
 | 0,_,_,_,_,_,_,_,_,_,_,_,_,_,_,_,_ => none
 | n + 1,x2,x14,x15,x16,y0_0,y0_1,y0_2,y0_3,y1_0,y1_1,y1_2,y1_3,y1_4,y1_5,y1_6,y2 => if x16 < x15 then (if 0 <= x16 /\ x16 < (x14.length : Int) then if x14.getD x16.toNat 0 < 0 then (some (.inr 23)) else if (x2.length : Int) <= x14.getD x16.toNat 0 then (some (.inr 23)) else if 0 <= x14.getD x16.toNat 0 /\ x14.getD x16.toNat 0 < (x2.length : Int) then if y2.length + [x2.getD (x14.getD x16.toNat 0).toNat []].length <= 281474976710656 /\ (y2.length + [x2.getD (x14.getD x16.toNat 0).toNat []].length) * 24 <= 140737488355328 then qbS.l0 n x2 x14 x15 (iW.wrap (x16 + 1)) y0_0 y0_1 y0_2 y0_3 y1_0 y1_1 y1_2 y1_3 y1_4 y1_5 y1_6 (y2 ++ [x2.getD (x14.getD x16.toNat 0).toNat []]) else none else none else none) else some (.inl y2)
def qbS.f (k : Nat) (a0_0 : LI) (a0_1 : ByteArray) (a0_2 : List LN) (a0_3 : LI) (a1_0 : Int) (a1_1 : LI) (a1_2 : LI) (a1_3 : LI) (a1_4 : Int) (a1_5 : Int) (a1_6 : ByteArray) (a2 : List LI) : Option (Int × LI) := (qbS.l0 k a2 a1_1 (a1_1.length : Int) 0 a0_0 a0_1 a0_2 a0_3 a1_0 a1_1 a1_2 a1_3 a1_4 a1_5 a1_6 []).bind fun t1 => Sum.elim (fun t1 => (qdz.f k a1_0 a1_1 a1_2 a1_3 a1_4 a1_5 a1_6 t1).bind fun t2 => if t2.1 = 0 then ((qbs.f k a0_1 a1_6 (t2.2.length : Int)).bind fun t3 => some (t3.2.1,t2.2)) else some (t2.1,[])) (fun t1 => some (t1,[])) t1
def qcH.f (a0 : Int) (o1 : List LI) : Option (Bool) := if a0 < 0 then (some true) else some (decide ((o1.length : Int) <= a0))
def qak.l0 : Nat -> LI -> Int -> Int -> (List LI) -> Option (Unit ⊕ Int)
 | 0,_,_,_,_ => none
 | n + 1,x0,x7,x8,y1 => if x8 < x7 then (if 0 <= x8 /\ x8 < (x0.length : Int) then (qcH.f (x0.getD x8.toNat 0) y1).bind fun t1 => if t1 = true then (some (.inr x8)) else qak.l0 n x0 x7 (iW.wrap (x8 + 1)) y1 else none) else some (.inl ())
def qak.f (k : Nat) (a0 : LI) (o1 : List LI) : Option (Int) := (qak.l0 k a0 (a0.length : Int) 0 o1).bind fun t2 => Sum.elim (fun t2 => some (-1)) (fun t2 => some t2) t2
def qaM.f (k : Nat) (a0 : LI) (o1 : List LI) : Option (Bool) := (qak.f k a0 o1).bind fun t1 => some (decide (0 <= t1))
def qba.l0 (k : Nat) : Nat -> (List LN) -> Int -> Int -> LI -> ByteArray -> (List LN) -> LI -> (List LI) -> Option ((List LI) ⊕ Int)
 | 0,_,_,_,_,_,_,_,_ => none
 | n + 1,x25,x26,x27,y0_0,y0_1,y0_2,y0_3,y2 => if x27 < x26 then (if 0 <= x27 /\ x27 < (x25.length : Int) then (qbS.f k y0_0 y0_1 y0_2 y0_3 (x25.getD x27.toNat ln0).1 (x25.getD x27.toNat ln0).2.1 (x25.getD x27.toNat ln0).2.2.1 (x25.getD x27.toNat ln0).2.2.2.1 (x25.getD x27.toNat ln0).2.2.2.2.1 (x25.getD x27.toNat ln0).2.2.2.2.2.1 (x25.getD x27.toNat ln0).2.2.2.2.2.2 y2).bind fun t2 => if t2.1 = 0 then (if y2.length + [t2.2].length <= 281474976710656 /\ (y2.length + [t2.2].length) * 24 <= 140737488355328 then qba.l0 k n x25 x26 (iW.wrap (x27 + 1)) y0_0 y0_1 y0_2 y0_3 (y2 ++ [t2.2]) else none) else some (.inr t2.1) else none) else some (.inl y2)
def qba.f (k : Nat) (a0_0 : LI) (a0_1 : ByteArray) (a0_2 : List LN) (a0_3 : LI) : Option (Int × (List LI)) := (qb0.f k a0_0 a0_1 a0_2 a0_3).bind fun t1 => if t1 = true then (if 48 < (a0_2.length : Int) then (some (3,[])) else if 48 < (a0_3.length : Int) then (some (3,[])) else (qba.l0 k k a0_2 (a0_2.length : Int) 0 a0_0 a0_1 a0_2 a0_3 []).bind fun t3 => Sum.elim (fun t3 => (qaM.f k a0_3 t3).bind fun t4 => if t4 = true then (some (23,[])) else some (0,t3)) (fun t3 => some (t3,[])) t3) else some (15,[])
def qcP.f (k : Nat) (a0_0 : LI) (a0_1 : ByteArray) (a0_2 : List LN) (a0_3 : LI) : Option (Int) := (qba.f k a0_0 a0_1 a0_2 a0_3).bind fun t1 => some t1.1
def qbk.l0 : Nat -> (List LN) -> Int -> Int -> LI -> Option (LI)
 | 0,_,_,_,_ => none
 | n + 1,x7,x8,x9,y0 => if x9 < x8 then (if 0 <= x9 /\ x9 < (x7.length : Int) then if (x7.getD x9.toNat ln0).1 = 1 then (if y0.length + [x9].length <= 281474976710656 /\ (y0.length + [x9].length) * 8 <= 140737488355328 then qbk.l0 n x7 x8 (iW.wrap (x9 + 1)) (y0 ++ [x9]) else none) else qbk.l0 n x7 x8 (iW.wrap (x9 + 1)) y0 else none) else some y0
def qbk.f (k : Nat) (a0_0 : LI) (a0_1 : ByteArray) (a0_2 : List LN) (a0_3 : LI) : Option (LI) := (qbk.l0 k a0_2 (a0_2.length : Int) 0 []).bind fun t1 => some t1
def qcI.f (k : Nat) (a0_0 : Int) (a0_1 : LI) (a0_2 : LI) (a0_3 : LI) (a0_4 : Int) (a0_5 : Int) (a0_6 : ByteArray) (a1_0 : Int) (a1_1 : LI) (a1_2 : LI) (a1_3 : LI) (a1_4 : Int) (a1_5 : Int) (a1_6 : ByteArray) : Option (Bool) := if a0_0 = a1_0 then ((qaE.f k a0_1 a1_1).bind fun t1 => if t1 = true then ((qaE.f k a0_2 a1_2).bind fun t2 => if t2 = true then ((qaE.f k a0_3 a1_3).bind fun t3 => if t3 = true then (if a0_4 = a1_4 then (if a0_5 = a1_5 then (some (a0_6.toList == a1_6.toList)) else some false) else some false) else some false) else some false) else some false) else some false
def qad.l0 (k : Nat) : Nat -> (List LN) -> (List LN) -> Int -> Int -> Option (Unit ⊕ Bool)
 | 0,_,_,_,_ => none
 | n + 1,x1,x15,x16,x17 => if x17 < x16 then (if 0 <= x17 /\ x17 < (x15.length : Int) then if 0 <= x17 /\ x17 < (x1.length : Int) then (qcI.f k (x15.getD x17.toNat ln0).1 (x15.getD x17.toNat ln0).2.1 (x15.getD x17.toNat ln0).2.2.1 (x15.getD x17.toNat ln0).2.2.2.1 (x15.getD x17.toNat ln0).2.2.2.2.1 (x15.getD x17.toNat ln0).2.2.2.2.2.1 (x15.getD x17.toNat ln0).2.2.2.2.2.2 (x1.getD x17.toNat ln0).1 (x1.getD x17.toNat ln0).2.1 (x1.getD x17.toNat ln0).2.2.1 (x1.getD x17.toNat ln0).2.2.2.1 (x1.getD x17.toNat ln0).2.2.2.2.1 (x1.getD x17.toNat ln0).2.2.2.2.2.1 (x1.getD x17.toNat ln0).2.2.2.2.2.2).bind fun t1 => if t1 = true then (qad.l0 k n x1 x15 x16 (iW.wrap (x17 + 1))) else some (.inr false) else none else none) else some (.inl ())
def qad.f (k : Nat) (a0 : List LN) (a1 : List LN) : Option (Bool) := if (a0.length : Int) = (a1.length : Int) then ((qad.l0 k k a1 a0 (a0.length : Int) 0).bind fun t2 => Sum.elim (fun t2 => some true) (fun t2 => some t2) t2) else some false
def qcW.f (k : Nat) (a0_0 : LI) (a0_1 : ByteArray) (a0_2 : List LN) (a0_3 : LI) (a1_0 : LI) (a1_1 : ByteArray) (a1_2 : List LN) (a1_3 : LI) : Option (Bool) := (qaE.f k a0_0 a1_0).bind fun t1 => if t1 = true then (if (a0_1.toList == a1_1.toList) = true then ((qad.f k a0_2 a1_2).bind fun t2 => if t2 = true then ((qaE.f k a0_3 a1_3).bind fun t3 => some t3) else some false) else some false) else some false
def qdw.f (k : Nat) : Option (Bool) := (qba.f k [] vaa ([(1,([],(([2,3] : LI),([],(0,(0,vaa)))))),(13,(([0] : LI),([],(([1,0] : LI),(0,(0,vaa))))))] : List LN) []).bind fun t1 => (qcP.f k [] vaa [] []).bind fun t2 => if t2 = 0 then ((qcP.f k [] vaa ([(4,(([0] : LI),([],([],(0,(0,vaa))))))] : List LN) []).bind fun t3 => if t3 = 23 then ((qcP.f k ([2] : LI) (vac #[120]) ([(1,([],(([2] : LI),([],(0,(0,(vac #[120,46])))))))] : List LN) []).bind fun t4 => if t4 = 14 then (if t1.1 = 0 then (if (t1.2.length : Int) = 2 then (if (0 : Int) <= 1 /\ 1 < (t1.2.length : Int) then if 1 < t1.2.length then (qao.f k (t1.2.getD 1 []) ([3,2] : LI)).bind fun t5 => if t5 = true then ((qbk.f k ([2] : LI) (vac #[120]) ([(1,([],(([2] : LI),([],(0,(0,(vac #[120,46])))))))] : List LN) []).bind fun t6 => (qao.f k t6 ([0] : LI)).bind fun t7 => if t7 = true then ((qcW.f k [] vaa ([(4,(([0] : LI),([],([],(0,(0,vaa))))))] : List LN) [] [] vaa ([(4,(([0] : LI),([],([],(0,(0,vaa))))))] : List LN) []).bind fun t8 => if t8 = true then ((qcW.f k [] vaa ([(4,(([0] : LI),([],([],(0,(0,vaa))))))] : List LN) [] ([2] : LI) (vac #[120]) ([(1,([],(([2] : LI),([],(0,(0,(vac #[120,46])))))))] : List LN) []).bind fun t9 => some (!t9)) else some false) else some false) else some false else none else none) else some false) else some false) else some false) else some false) else some false
def qb4.l0 : Nat -> Int -> Int -> Int -> LI -> Option (Unit ⊕ Int)
 | 0,_,_,_,_ => none
 | n + 1,x1,x9,x10,y0 => if x10 < x9 then (if 0 <= x10 /\ x10 < (y0.length : Int) then if x10.toNat < y0.length then if y0.getD x10.toNat 0 = x1 then (some (.inr x10)) else qb4.l0 n x1 x9 (iW.wrap (x10 + 1)) y0 else none else none) else some (.inl ())
def qb4.f (k : Nat) (a0 : ByteArray) (a1 : Int) : Option (Int) := (qby.f k a0).bind fun t1 => (qb4.l0 k a1 (t1.length : Int) 0 t1).bind fun t2 => Sum.elim (fun t2 => some (-1)) (fun t2 => some t2) t2
def qbQ.l0 (k : Nat) : Nat -> ByteArray -> Int -> Int -> LI -> Option (Unit ⊕ Bool)
 | 0,_,_,_,_ => none
 | n + 1,x0,x23,x24,y0 => if x24 < x23 then (if 0 <= x24 /\ x24 < (y0.length : Int) then if x24.toNat < y0.length then if y0.getD x24.toNat 0 < 33 then (some (.inr false)) else if y0.getD x24.toNat 0 = 65533 then (some (.inr false)) else if y0.getD x24.toNat 0 = 46 then (some (.inr false)) else if y0.getD x24.toNat 0 = 45 then (some (.inr false)) else if y0.getD x24.toNat 0 = 40 then (some (.inr false)) else if y0.getD x24.toNat 0 = 41 then (some (.inr false)) else (qb4.f k x0 (y0.getD x24.toNat 0)).bind fun t2 => if t2 = x24 then (qbQ.l0 k n x0 x23 (iW.wrap (x24 + 1)) y0) else some (.inr false) else none else none) else some (.inl ())
def qbQ.f (k : Nat) (a0 : ByteArray) (a1 : Int) : Option (Bool) := (qby.f k a0).bind fun t1 => if a1 < 0 then (some false) else if 3 < a1 then (some false) else if (t1.length : Int) = a1 then ((qbQ.l0 k k a0 (t1.length : Int) 0 t1).bind fun t3 => Sum.elim (fun t3 => some true) (fun t3 => some t3) t3) else some false
def qbX.l0 : Nat -> Int -> Int -> Int -> LI -> ByteArray -> (List LN) -> LI -> Option (Int ⊕ Bool)
 | 0,_,_,_,_,_,_,_ => none
 | n + 1,x3,x7,x8,y0_0,y0_1,y0_2,y0_3 => if x8 < x7 then (if 0 <= x8 /\ x8 < (y0_0.length : Int) then if y0_0.getD x8.toNat 0 < 1 then (some (.inr false)) else if 8 < y0_0.getD x8.toNat 0 then (some (.inr false)) else if 3 <= x8 then (some (.inr false)) else qbX.l0 n (iW.wrap (x3 * (y0_0.getD x8.toNat 0))) x7 (iW.wrap (x8 + 1)) y0_0 y0_1 y0_2 y0_3 else none) else some (.inl x3)
def qbX.f (k : Nat) (a0_0 : LI) (a0_1 : ByteArray) (a0_2 : List LN) (a0_3 : LI) : Option (Bool) := (qbX.l0 k 1 (a0_0.length : Int) 0 a0_0 a0_1 a0_2 a0_3).bind fun t1 => Sum.elim (fun t1 => if t1 <= 8 then ((qbQ.f k a0_1 (a0_0.length : Int)).bind fun t2 => some t2) else some false) (fun t1 => some t1) t1
def qa6.l1 : Nat -> ByteArray -> Int -> Int -> Int -> Int -> Int -> Int -> LI -> LI -> Option (Unit ⊕ (Bool × Int))
 | 0,_,_,_,_,_,_,_,_,_ => none
 | n + 1,x0,x2,x13,x21,x22,x36,x37,y0,y1 => if x37 < x36 then (if 0 <= x37 /\ x37 < (y0.length : Int) then if x37.toNat < y0.length then if y0.getD x37.toNat 0 = x13 then (some (.inr (false,14))) else qa6.l1 n x0 x2 x13 x21 x22 x36 (iW.wrap (x37 + 1)) y0 y1 else none else none) else some (.inl ())
def qa6.l0 (k : Nat) : Nat -> ByteArray -> Int -> Int -> Int -> LI -> LI -> Option (LI ⊕ (Bool × Int))
 | 0,_,_,_,_,_,_ => none
 | n + 1,x0,x2,x21,x22,y0,y1 => if x22 < x21 then (if 0 <= x22 /\ x22 < (y1.length : Int) then if x22.toNat < y1.length then if y1.getD x22.toNat 0 = 32 then (qa6.l0 k n x0 x2 x21 (iW.wrap (x22 + 1)) y0 y1) else if y1.getD x22.toNat 0 = 46 then (if y0.length + ([-1] : LI).length <= 281474976710656 /\ (y0.length + ([-1] : LI).length) * 8 <= 140737488355328 then qa6.l0 k n x0 x2 x21 (iW.wrap (x22 + 1)) (y0 ++ ([-1] : LI)) y1 else none) else (qb4.f k x0 (y1.getD x22.toNat 0)).bind fun t2 => if t2 < 0 then (some (.inr (false,14))) else (qa6.l1 n x0 x2 t2 x21 x22 (y0.length : Int) 0 y0 y1).bind fun t3 => Sum.elim (fun t3 => if y0.length + [t2].length <= 281474976710656 /\ (y0.length + [t2].length) * 8 <= 140737488355328 then qa6.l0 k n x0 x2 x21 (iW.wrap (x22 + 1)) (y0 ++ [t2]) y1 else none) (fun t3 => some (.inr (t3.1,t3.2))) t3 else none else none) else some (.inl y0)
def qa6.f (k : Nat) (a0 : ByteArray) (a1 : ByteArray) (a2 : Int) : Option (Bool × Int × LI) := (qby.f k a1).bind fun t1 => if 16 < (t1.length : Int) then (some (false,14,[])) else (qa6.l0 k k a0 a2 (t1.length : Int) 0 [] t1).bind fun t4 => Sum.elim (fun t4 => if (t4.length : Int) = 0 then (some (false,0,[])) else if (t4.length : Int) = a2 then (some (true,0,t4)) else some (false,14,[])) (fun t4 => some (t4.1,t4.2,[])) t4
def qax.l1 : Nat -> Int -> (List LN) -> Int -> Int -> LI -> Int -> Int -> LI -> ByteArray -> (List LN) -> LI -> (List LI) -> Int -> LI -> LI -> LI -> Int -> Int -> ByteArray -> (List LI) -> Option ((List LI) ⊕ Int)
 | 0,_,_,_,_,_,_,_,_,_,_,_,_,_,_,_,_,_,_,_,_ => none
 | n + 1,x5,x31,x32,x33,x39,x40,x41,y0_0,y0_1,y0_2,y0_3,y1,y2_0,y2_1,y2_2,y2_3,y2_4,y2_5,y2_6,y3 => if x41 < x40 then (if 0 <= x41 /\ x41 < (x39.length : Int) then if x39.getD x41.toNat 0 < 0 then (some (.inr 23)) else if x5 <= x39.getD x41.toNat 0 then (some (.inr 23)) else if 0 <= x39.getD x41.toNat 0 /\ x39.getD x41.toNat 0 < (y1.length : Int) then if (x39.getD x41.toNat 0).toNat < y1.length then if y3.length + [y1.getD (x39.getD x41.toNat 0).toNat []].length <= 281474976710656 /\ (y3.length + [y1.getD (x39.getD x41.toNat 0).toNat []].length) * 24 <= 140737488355328 then qax.l1 n x5 x31 x32 x33 x39 x40 (iW.wrap (x41 + 1)) y0_0 y0_1 y0_2 y0_3 y1 y2_0 y2_1 y2_2 y2_3 y2_4 y2_5 y2_6 (y3 ++ [y1.getD (x39.getD x41.toNat 0).toNat []]) else none else none else none else none) else some (.inl y3)
def qax.l0 (k : Nat) : Nat -> (List LN) -> Int -> Int -> LI -> ByteArray -> (List LN) -> LI -> (List LI) -> Option ((List LI) ⊕ Int)
 | 0,_,_,_,_,_,_,_,_ => none
 | n + 1,x31,x32,x33,y0_0,y0_1,y0_2,y0_3,y1 => if x33 < x32 then (if 0 <= x33 /\ x33 < (x31.length : Int) then (qax.l1 n x33 x31 x32 x33 (x31.getD x33.toNat ln0).2.1 ((x31.getD x33.toNat ln0).2.1.length : Int) 0 y0_0 y0_1 y0_2 y0_3 y1 (x31.getD x33.toNat ln0).1 (x31.getD x33.toNat ln0).2.1 (x31.getD x33.toNat ln0).2.2.1 (x31.getD x33.toNat ln0).2.2.2.1 (x31.getD x33.toNat ln0).2.2.2.2.1 (x31.getD x33.toNat ln0).2.2.2.2.2.1 (x31.getD x33.toNat ln0).2.2.2.2.2.2 []).bind fun t2 => Sum.elim (fun t2 => (qbg.f k (x31.getD x33.toNat ln0).1 (x31.getD x33.toNat ln0).2.1 (x31.getD x33.toNat ln0).2.2.1 (x31.getD x33.toNat ln0).2.2.2.1 (x31.getD x33.toNat ln0).2.2.2.2.1 (x31.getD x33.toNat ln0).2.2.2.2.2.1 (x31.getD x33.toNat ln0).2.2.2.2.2.2 t2).bind fun t3 => if t3.1 = 0 then ((qa6.f k y0_1 (x31.getD x33.toNat ln0).2.2.2.2.2.2 (t3.2.length : Int)).bind fun t4 => if t4.2.1 = 0 then (if y1.length + [t3.2].length <= 281474976710656 /\ (y1.length + [t3.2].length) * 24 <= 140737488355328 then qax.l0 k n x31 x32 (iW.wrap (x33 + 1)) y0_0 y0_1 y0_2 y0_3 (y1 ++ [t3.2]) else none) else some (.inr t4.2.1)) else some (.inr t3.1)) (fun t2 => some (.inr t2)) t2 else none) else some (.inl y1)
def qax.l2 : Nat -> LI -> Int -> Int -> LI -> ByteArray -> (List LN) -> LI -> (List LI) -> Option (Unit ⊕ Int)
 | 0,_,_,_,_,_,_,_,_ => none
 | n + 1,x89,x90,x91,y0_0,y0_1,y0_2,y0_3,y1 => if x91 < x90 then (if 0 <= x91 /\ x91 < (x89.length : Int) then if x89.getD x91.toNat 0 < 0 then (some (.inr 23)) else if (y0_2.length : Int) <= x89.getD x91.toNat 0 then (some (.inr 23)) else qax.l2 n x89 x90 (iW.wrap (x91 + 1)) y0_0 y0_1 y0_2 y0_3 y1 else none) else some (.inl ())
def qax.f (k : Nat) (a0_0 : LI) (a0_1 : ByteArray) (a0_2 : List LN) (a0_3 : LI) : Option (Int × (List LI)) := (qbX.f k a0_0 a0_1 a0_2 a0_3).bind fun t1 => if t1 = true then (if 48 < (a0_2.length : Int) then (some (3,[])) else if 48 < (a0_3.length : Int) then (some (3,[])) else (qax.l0 k k a0_2 (a0_2.length : Int) 0 a0_0 a0_1 a0_2 a0_3 []).bind fun t5 => Sum.elim (fun t5 => (qax.l2 k a0_3 (a0_3.length : Int) 0 a0_0 a0_1 a0_2 a0_3 t5).bind fun t6 => Sum.elim (fun t6 => some (0,t5)) (fun t6 => some (t6,[])) t6) (fun t5 => some (t5,[])) t5) else some (15,[])
def qcJ.f (a0_0 : Int) (a0_1 : LI) (a0_2 : LI) (a0_3 : LI) (a0_4 : Int) (a0_5 : Int) (a0_6 : ByteArray) : Option (LI × LI × LI) := (qaZ.f a0_1).bind fun t1 => (qaZ.f a0_2).bind fun t2 => (qaZ.f a0_3).bind fun t3 => some (t1,t2,t3)
def qb1.l0 : Nat -> (List LN) -> Int -> Int -> ByteArray -> ByteArray -> LI -> (List LN) -> LI -> Option ((List LN))
 | 0,_,_,_,_,_,_,_,_ => none
 | n + 1,x16,x17,x18,y0,y1,y2,y3,y4 => if x18 < x17 then (if 0 <= x18 /\ x18 < (x16.length : Int) then (qcJ.f (x16.getD x18.toNat ln0).1 (x16.getD x18.toNat ln0).2.1 (x16.getD x18.toNat ln0).2.2.1 (x16.getD x18.toNat ln0).2.2.2.1 (x16.getD x18.toNat ln0).2.2.2.2.1 (x16.getD x18.toNat ln0).2.2.2.2.2.1 (x16.getD x18.toNat ln0).2.2.2.2.2.2).bind fun t3 => if y3.length + ([((x16.getD x18.toNat ln0).1,(t3.1,(t3.2.1,(t3.2.2,((x16.getD x18.toNat ln0).2.2.2.2.1,((x16.getD x18.toNat ln0).2.2.2.2.2.1,(x16.getD x18.toNat ln0).2.2.2.2.2.2))))))] : List LN).length <= 281474976710656 /\ (y3.length + ([((x16.getD x18.toNat ln0).1,(t3.1,(t3.2.1,(t3.2.2,((x16.getD x18.toNat ln0).2.2.2.2.1,((x16.getD x18.toNat ln0).2.2.2.2.2.1,(x16.getD x18.toNat ln0).2.2.2.2.2.2))))))] : List LN).length) * 112 <= 140737488355328 then qb1.l0 n x16 x17 (iW.wrap (x18 + 1)) y0 y1 y2 (y3 ++ ([((x16.getD x18.toNat ln0).1,(t3.1,(t3.2.1,(t3.2.2,((x16.getD x18.toNat ln0).2.2.2.2.1,((x16.getD x18.toNat ln0).2.2.2.2.2.1,(x16.getD x18.toNat ln0).2.2.2.2.2.2))))))] : List LN)) y4 else none else none) else some y3
def qb1.f (k : Nat) (a0_0 : LI) (a0_1 : ByteArray) (a0_2 : List LN) (a0_3 : LI) : Option (LI × (List LN) × LI) := (qaZ.f a0_0).bind fun t1 => (qaZ.f a0_3).bind fun t2 => (qb1.l0 k a0_2 (a0_2.length : Int) 0 vaa a0_1 t1 [] t2).bind fun t4 => some (t1,t4,t2)
def qdr.f (k : Nat) (a0_0 : Int) (a0_1 : LI) (a0_2 : LI) (a0_3 : LI) (a0_4 : Int) (a0_5 : Int) (a0_6 : ByteArray) (a1_0 : Int) (a1_1 : LI) (a1_2 : LI) (a1_3 : LI) (a1_4 : Int) (a1_5 : Int) (a1_6 : ByteArray) : Option (Bool) := if a0_0 = a1_0 then ((qbr.f k a0_1 a1_1).bind fun t1 => if t1 = true then ((qbr.f k a0_2 a1_2).bind fun t2 => if t2 = true then ((qbr.f k a0_3 a1_3).bind fun t3 => if t3 = true then (if a0_4 = a1_4 then (if a0_5 = a1_5 then (some (a0_6.toList == a1_6.toList)) else some false) else some false) else some false) else some false) else some false) else some false
def qbY.l0 (k : Nat) : Nat -> Int -> Int -> LI -> ByteArray -> (List LN) -> LI -> LI -> ByteArray -> (List LN) -> LI -> Option (Unit ⊕ Bool)
 | 0,_,_,_,_,_,_,_,_,_,_ => none
 | n + 1,x38,x39,y0_0,y0_1,y0_2,y0_3,y1_0,y1_1,y1_2,y1_3 => if x39 < x38 then (if 0 <= x39 /\ x39 < (y0_2.length : Int) then if 0 <= x39 /\ x39 < (y1_2.length : Int) then (qdr.f k (y0_2.getD x39.toNat ln0).1 (y0_2.getD x39.toNat ln0).2.1 (y0_2.getD x39.toNat ln0).2.2.1 (y0_2.getD x39.toNat ln0).2.2.2.1 (y0_2.getD x39.toNat ln0).2.2.2.2.1 (y0_2.getD x39.toNat ln0).2.2.2.2.2.1 (y0_2.getD x39.toNat ln0).2.2.2.2.2.2 (y1_2.getD x39.toNat ln0).1 (y1_2.getD x39.toNat ln0).2.1 (y1_2.getD x39.toNat ln0).2.2.1 (y1_2.getD x39.toNat ln0).2.2.2.1 (y1_2.getD x39.toNat ln0).2.2.2.2.1 (y1_2.getD x39.toNat ln0).2.2.2.2.2.1 (y1_2.getD x39.toNat ln0).2.2.2.2.2.2).bind fun t3 => if t3 = true then (qbY.l0 k n x38 (iW.wrap (x39 + 1)) y0_0 y0_1 y0_2 y0_3 y1_0 y1_1 y1_2 y1_3) else some (.inr false) else none else none) else some (.inl ())
def qbY.f (k : Nat) (a0_0 : LI) (a0_1 : ByteArray) (a0_2 : List LN) (a0_3 : LI) (a1_0 : LI) (a1_1 : ByteArray) (a1_2 : List LN) (a1_3 : LI) : Option (Bool) := (qbr.f k a0_0 a1_0).bind fun t1 => if t1 = true then (if (a0_1.toList == a1_1.toList) = true then (if (a0_2.length : Int) = (a1_2.length : Int) then ((qbr.f k a0_3 a1_3).bind fun t2 => if t2 = true then ((qbY.l0 k k (a0_2.length : Int) 0 a0_0 a0_1 a0_2 a0_3 a1_0 a1_1 a1_2 a1_3).bind fun t4 => Sum.elim (fun t4 => some true) (fun t4 => some t4) t4) else some false) else some false) else some false) else some false
end Go.Pf

set_option maxHeartbeats 4000000
namespace Go.Pf
open Go
def qab.l0 : Nat -> Int -> Int -> ByteArray -> ByteArray -> ByteArray -> LI -> (List LN) -> LI -> LI -> (List LN) -> LI -> LI -> (List LN) -> LI -> Option (LI)
 | 0,_,_,_,_,_,_,_,_,_,_,_,_,_,_ => none
 | n + 1,x24,x25,y0,y1,y2,y3,y4,y5,y6,y7,y8,y9,y10,y11 => if x25 < x24 then (if 0 <= x25 /\ x25 < (y9.length : Int) then if x25.toNat < y9.length then qab.l0 n x24 (iW.wrap (x25 + 1)) y0 y1 y2 y3 y4 y5 y6 y7 y8 (y9.set x25.toNat (iW.wrap ((y9.getD x25.toNat 0) + 1))) y10 y11 else none else none) else some y9
def qab.l1 : Nat -> Int -> Int -> ByteArray -> ByteArray -> ByteArray -> LI -> (List LN) -> LI -> LI -> (List LN) -> LI -> LI -> (List LN) -> LI -> Option (LI)
 | 0,_,_,_,_,_,_,_,_,_,_,_,_,_,_ => none
 | n + 1,x38,x39,y0,y1,y2,y3,y4,y5,y6,y7,y8,y9,y10,y11 => if x39 < x38 then (if 0 <= x39 /\ x39 < (y11.length : Int) then if x39.toNat < y11.length then qab.l1 n x38 (iW.wrap (x39 + 1)) y0 y1 y2 y3 y4 y5 y6 y7 y8 y9 y10 (y11.set x39.toNat (iW.wrap ((y11.getD x39.toNat 0) + 1))) else none else none) else some y11
def qab.l3 : Nat -> Int -> Int -> Int -> Int -> Int -> ByteArray -> ByteArray -> ByteArray -> LI -> (List LN) -> LI -> LI -> (List LN) -> LI -> LI -> (List LN) -> LI -> Option ((List LN))
 | 0,_,_,_,_,_,_,_,_,_,_,_,_,_,_,_,_,_ => none
 | n + 1,x8,x52,x53,x71,x72,y0,y1,y2,y3,y4,y5,y6,y7,y8,y9,y10,y11 => if x72 < x71 then (if 0 <= x8 /\ x8 < (y10.length : Int) then if x8.toNat < y10.length then if 0 <= x72 /\ x72 < ((y10.getD x8.toNat ln0).2.1.length : Int) then if x72.toNat < (y10.getD x8.toNat ln0).2.1.length then qab.l3 n x8 x52 x53 x71 (iW.wrap (x72 + 1)) y0 y1 y2 y3 y4 y5 y6 y7 y8 y9 (y10.set x8.toNat ((y10.getD x8.toNat ln0).1,((y10.getD x8.toNat ln0).2.1.set x72.toNat (iW.wrap (((y10.getD x8.toNat ln0).2.1.getD x72.toNat 0) + 1)),((y10.getD x8.toNat ln0).2.2.1,((y10.getD x8.toNat ln0).2.2.2.1,((y10.getD x8.toNat ln0).2.2.2.2.1,((y10.getD x8.toNat ln0).2.2.2.2.2.1,(y10.getD x8.toNat ln0).2.2.2.2.2.2))))))) y11 else none else none else none else none) else some y10
def qab.l4 : Nat -> Int -> Int -> Int -> Int -> Int -> ByteArray -> ByteArray -> ByteArray -> LI -> (List LN) -> LI -> LI -> (List LN) -> LI -> LI -> (List LN) -> LI -> Option ((List LN))
 | 0,_,_,_,_,_,_,_,_,_,_,_,_,_,_,_,_,_ => none
 | n + 1,x8,x52,x53,x93,x94,y0,y1,y2,y3,y4,y5,y6,y7,y8,y9,y10,y11 => if x94 < x93 then (if 0 <= x8 /\ x8 < (y10.length : Int) then if x8.toNat < y10.length then if 0 <= x94 /\ x94 < ((y10.getD x8.toNat ln0).2.2.1.length : Int) then if x94.toNat < (y10.getD x8.toNat ln0).2.2.1.length then qab.l4 n x8 x52 x53 x93 (iW.wrap (x94 + 1)) y0 y1 y2 y3 y4 y5 y6 y7 y8 y9 (y10.set x8.toNat ((y10.getD x8.toNat ln0).1,((y10.getD x8.toNat ln0).2.1,((y10.getD x8.toNat ln0).2.2.1.set x94.toNat (iW.wrap (((y10.getD x8.toNat ln0).2.2.1.getD x94.toNat 0) + 1)),((y10.getD x8.toNat ln0).2.2.2.1,((y10.getD x8.toNat ln0).2.2.2.2.1,((y10.getD x8.toNat ln0).2.2.2.2.2.1,(y10.getD x8.toNat ln0).2.2.2.2.2.2))))))) y11 else none else none else none else none) else some y10
def qab.l5 : Nat -> Int -> Int -> Int -> Int -> Int -> ByteArray -> ByteArray -> ByteArray -> LI -> (List LN) -> LI -> LI -> (List LN) -> LI -> LI -> (List LN) -> LI -> Option ((List LN))
 | 0,_,_,_,_,_,_,_,_,_,_,_,_,_,_,_,_,_ => none
 | n + 1,x8,x52,x53,x115,x116,y0,y1,y2,y3,y4,y5,y6,y7,y8,y9,y10,y11 => if x116 < x115 then (if 0 <= x8 /\ x8 < (y10.length : Int) then if x8.toNat < y10.length then if 0 <= x116 /\ x116 < ((y10.getD x8.toNat ln0).2.2.2.1.length : Int) then if x116.toNat < (y10.getD x8.toNat ln0).2.2.2.1.length then qab.l5 n x8 x52 x53 x115 (iW.wrap (x116 + 1)) y0 y1 y2 y3 y4 y5 y6 y7 y8 y9 (y10.set x8.toNat ((y10.getD x8.toNat ln0).1,((y10.getD x8.toNat ln0).2.1,((y10.getD x8.toNat ln0).2.2.1,((y10.getD x8.toNat ln0).2.2.2.1.set x116.toNat (iW.wrap (((y10.getD x8.toNat ln0).2.2.2.1.getD x116.toNat 0) + 1)),((y10.getD x8.toNat ln0).2.2.2.2.1,((y10.getD x8.toNat ln0).2.2.2.2.2.1,(y10.getD x8.toNat ln0).2.2.2.2.2.2))))))) y11 else none else none else none else none) else some y10
def qab.l2 (k : Nat) : Nat -> Int -> Int -> ByteArray -> ByteArray -> ByteArray -> LI -> (List LN) -> LI -> LI -> (List LN) -> LI -> LI -> (List LN) -> LI -> Option (Unit)
 | 0,_,_,_,_,_,_,_,_,_,_,_,_,_,_ => none
 | n + 1,x52,x53,y0,y1,y2,y3,y4,y5,y6,y7,y8,y9,y10,y11 => if x53 < x52 then (if 0 <= x53 /\ x53 < (y10.length : Int) then if x53.toNat < y10.length then (qab.l3 n x53 x52 x53 ((y10.getD x53.toNat ln0).2.1.length : Int) 0 y0 y1 y2 y3 y4 y5 y6 y7 y8 y9 (y10.set x53.toNat ((y10.getD x53.toNat ln0).1,((y10.getD x53.toNat ln0).2.1,((y10.getD x53.toNat ln0).2.2.1,((y10.getD x53.toNat ln0).2.2.2.1,(iW.wrap ((y10.getD x53.toNat ln0).2.2.2.2.1 + 1),((y10.getD x53.toNat ln0).2.2.2.2.2.1,(y10.getD x53.toNat ln0).2.2.2.2.2.2))))))) y11).bind fun t7 => if 0 <= x53 /\ x53 < (t7.length : Int) then if x53.toNat < t7.length then (qab.l4 n x53 x52 x53 ((t7.getD x53.toNat ln0).2.2.1.length : Int) 0 y0 y1 y2 y3 y4 y5 y6 y7 y8 y9 (t7.set x53.toNat ((t7.getD x53.toNat ln0).1,((t7.getD x53.toNat ln0).2.1,((t7.getD x53.toNat ln0).2.2.1,((t7.getD x53.toNat ln0).2.2.2.1,((t7.getD x53.toNat ln0).2.2.2.2.1,((t7.getD x53.toNat ln0).2.2.2.2.2.1,(t7.getD x53.toNat ln0).2.2.2.2.2.2))))))) y11).bind fun t8 => if 0 <= x53 /\ x53 < (t8.length : Int) then if x53.toNat < t8.length then (qab.l5 n x53 x52 x53 ((t8.getD x53.toNat ln0).2.2.2.1.length : Int) 0 y0 y1 y2 y3 y4 y5 y6 y7 y8 y9 (t8.set x53.toNat ((t8.getD x53.toNat ln0).1,((t8.getD x53.toNat ln0).2.1,((t8.getD x53.toNat ln0).2.2.1,((t8.getD x53.toNat ln0).2.2.2.1,((t8.getD x53.toNat ln0).2.2.2.2.1,((t8.getD x53.toNat ln0).2.2.2.2.2.1,(t8.getD x53.toNat ln0).2.2.2.2.2.2))))))) y11).bind fun t9 => qab.l2 k n x52 (iW.wrap (x53 + 1)) y0 y1 y2 y3 y4 y5 y6 y7 y8 y9 t9 y11 else none else none else none else none else none else none) else some ()
def qab.f (k : Nat) (a0 : LI) : Option (Bool) := (qaB.f k a0).bind fun t1 => (qaB.f k a0).bind fun t2 => (qb1.f k t1.2.1 t1.1 t1.2.2.1 t1.2.2.2).bind fun t3 => (qcW.f k t3.1 t1.1 t3.2.1 t3.2.2 t2.2.1 t2.1 t2.2.2.1 t2.2.2.2).bind fun t4 => if t4 = true then ((qab.l0 k (t3.1.length : Int) 0 t1.1 t2.1 t1.1 t1.2.1 t1.2.2.1 t1.2.2.2 t2.2.1 t2.2.2.1 t2.2.2.2 t3.1 t3.2.1 t3.2.2).bind fun t5 => (qab.l1 k (t3.2.2.length : Int) 0 t1.1 t2.1 t1.1 t1.2.1 t1.2.2.1 t1.2.2.2 t2.2.1 t2.2.2.1 t2.2.2.2 t5 t3.2.1 t3.2.2).bind fun t6 => (qab.l2 k k (t3.2.1.length : Int) 0 t1.1 t2.1 t1.1 t1.2.1 t1.2.2.1 t1.2.2.2 t2.2.1 t2.2.2.1 t2.2.2.2 t5 t3.2.1 t6).bind fun t10 => (qcW.f k t1.2.1 t1.1 t1.2.2.1 t1.2.2.2 t2.2.1 t2.1 t2.2.2.1 t2.2.2.2).bind fun t11 => if t11 = true then ((qbY.f k t1.2.1 t1.1 t1.2.2.1 t1.2.2.2 t2.2.1 t2.1 t2.2.2.1 t2.2.2.2).bind fun t12 => if t12 = true then ((qdw.f k).bind fun t13 => some t13) else some false) else some false) else some false
def qbZ.l0 : Nat -> Int -> Int -> LI -> Option (LI)
 | 0,_,_,_ => none
 | n + 1,x0,x4,y0 => if x4 < 200 then (if (211 : Int) ≠ 0 then if y0.length + [(iW.wrap ((iW.wrap ((iW.wrap ((iW.wrap (x4 * x4)) * 7)) + (iW.wrap (x0 * 59)))) + (iW.wrap (x4 * x0)))).tmod 211].length <= 281474976710656 /\ (y0.length + [(iW.wrap ((iW.wrap ((iW.wrap ((iW.wrap (x4 * x4)) * 7)) + (iW.wrap (x0 * 59)))) + (iW.wrap (x4 * x0)))).tmod 211].length) * 8 <= 140737488355328 then qbZ.l0 n x0 (iW.wrap (x4 + 1)) (y0 ++ [(iW.wrap ((iW.wrap ((iW.wrap ((iW.wrap (x4 * x4)) * 7)) + (iW.wrap (x0 * 59)))) + (iW.wrap (x4 * x0)))).tmod 211]) else none else none) else some y0
def qbZ.f (k : Nat) (a0 : Int) : Option (LI) := (qbZ.l0 k a0 0 []).bind fun t1 => some t1
def qaV.l0 (k : Nat) : Nat -> (List LN) -> Int -> Int -> LI -> ByteArray -> (List LN) -> LI -> (List LI) -> (List LI) -> Option ((List LI))
 | 0,_,_,_,_,_,_,_,_,_ => none
 | n + 1,x22,x23,x24,y0_0,y0_1,y0_2,y0_3,y1,y2 => if x24 < x23 then (if 0 <= x24 /\ x24 < (x22.length : Int) then if 0 <= x24 /\ x24 < (y1.length : Int) then if x24.toNat < y1.length then (qbs.f k y0_1 (x22.getD x24.toNat ln0).2.2.2.2.2.2 ((y1.getD x24.toNat []).length : Int)).bind fun t2 => if 0 <= x24 /\ x24 < (y2.length : Int) then if x24.toNat < y2.length then qaV.l0 k n x22 x23 (iW.wrap (x24 + 1)) y0_0 y0_1 y0_2 y0_3 y1 (y2.set x24.toNat t2.2.2) else none else none else none else none else none) else some y2
def qaV.f (k : Nat) (a0_0 : LI) (a0_1 : ByteArray) (a0_2 : List LN) (a0_3 : LI) : Option (Int × (List LI)) := (qba.f k a0_0 a0_1 a0_2 a0_3).bind fun t1 => if t1.1 = 0 then (if 0 <= (a0_2.length : Int) /\ (a0_2.length : Int) <= 281474976710656 /\ ((24 : Nat) : Int) * (a0_2.length : Int) <= 140737488355328 then (qaV.l0 k k a0_2 (a0_2.length : Int) 0 a0_0 a0_1 a0_2 a0_3 t1.2 (vab (a0_2.length : Int).toNat ([] : LI))).bind fun t3 => some (0,t3) else none) else some (t1.1,[])
def qcU.f (a0 : Int) : Option (Bool) := if 4 <= a0 then (some (decide (a0 <= 12))) else some false
def qbb.l0 : Nat -> LI -> LI -> Int -> Int -> LI -> Option (LI)
 | 0,_,_,_,_,_ => none
 | n + 1,x0,x9,x10,x11,y0 => if x11 < x10 then (if 0 <= x11 /\ x11 < (x9.length : Int) then if 0 <= x9.getD x11.toNat 0 /\ x9.getD x11.toNat 0 < (x0.length : Int) then if y0.length + [x0.getD (x9.getD x11.toNat 0).toNat 0].length <= 281474976710656 /\ (y0.length + [x0.getD (x9.getD x11.toNat 0).toNat 0].length) * 8 <= 140737488355328 then qbb.l0 n x0 x9 x10 (iW.wrap (x11 + 1)) (y0 ++ [x0.getD (x9.getD x11.toNat 0).toNat 0]) else none else none else none) else some y0
def qbb.f (k : Nat) (a0 : LI) (a1 : LI) : Option (LI) := (qbb.l0 k a0 a1 (a1.length : Int) 0 []).bind fun t1 => some t1
def qbh.l0 : Nat -> LI -> LI -> Int -> Int -> LI -> Option (LI)
 | 0,_,_,_,_,_ => none
 | n + 1,x0,x15,x16,x17,y0 => if x17 < x16 then (if 0 <= x17 /\ x17 < (x15.length : Int) then if 0 <= x17 /\ x17 < (x0.length : Int) then if 0 <= x15.getD x17.toNat 0 /\ x15.getD x17.toNat 0 < (y0.length : Int) then if (x15.getD x17.toNat 0).toNat < y0.length then qbh.l0 n x0 x15 x16 (iW.wrap (x17 + 1)) (y0.set (x15.getD x17.toNat 0).toNat (x0.getD x17.toNat 0)) else none else none else none else none) else some y0
def qbh.f (k : Nat) (a0 : LI) (a1 : LI) (a2 : LI) : Option (LI) := (qc1.f k (a1.length : Int)).bind fun t1 => if 0 + t1.length <= 281474976710656 /\ (0 + t1.length) * 8 <= 140737488355328 then (qbh.l0 k a0 a2 (a2.length : Int) 0 ([] ++ t1)).bind fun t2 => some t2 else none
def qbf.l0 : Nat -> LI -> LI -> Int -> Int -> LI -> Option (LI)
 | 0,_,_,_,_,_ => none
 | n + 1,x1,x9,x10,x11,y0 => if x11 < x10 then (if 0 <= x11 /\ x11 < (x9.length : Int) then if 0 < (x1.length : Int) then (if (0 : Int) <= 0 /\ 0 < (x1.length : Int) then if x1.getD 0 0 = x11 then (if (0 : Int) <= 1 /\ 1 <= (x1.length : Int) /\ (x1.length : Int) <= (x1.length : Int) then qbf.l0 n ((x1.take x1.length).drop 1) x9 x10 (iW.wrap (x11 + 1)) y0 else none) else if y0.length + [x9.getD x11.toNat 0].length <= 281474976710656 /\ (y0.length + [x9.getD x11.toNat 0].length) * 8 <= 140737488355328 then qbf.l0 n x1 x9 x10 (iW.wrap (x11 + 1)) (y0 ++ [x9.getD x11.toNat 0]) else none else none) else if y0.length + [x9.getD x11.toNat 0].length <= 281474976710656 /\ (y0.length + [x9.getD x11.toNat 0].length) * 8 <= 140737488355328 then qbf.l0 n x1 x9 x10 (iW.wrap (x11 + 1)) (y0 ++ [x9.getD x11.toNat 0]) else none else none) else some y0
def qbf.f (k : Nat) (a0 : LI) (a1 : LI) : Option (LI) := (qbf.l0 k a1 a0 (a0.length : Int) 0 []).bind fun t1 => some t1
def qaF.l0 (k : Nat) : Nat -> LI -> Int -> Int -> LI -> ByteArray -> (List LN) -> LI -> (List LI) -> (List LI) -> (List Bool) -> Int -> LI -> LI -> LI -> Int -> Int -> ByteArray -> Option (Unit ⊕ LI)
 | 0,_,_,_,_,_,_,_,_,_,_,_,_,_,_,_,_,_ => none
 | n + 1,x9,x10,x11,y0_0,y0_1,y0_2,y0_3,y1,y2,y3,y4_0,y4_1,y4_2,y4_3,y4_4,y4_5,y4_6 => if x11 < x10 then (if 0 <= x11 /\ x11 < (x9.length : Int) then if 0 <= x9.getD x11.toNat 0 /\ x9.getD x11.toNat 0 < (y3.length : Int) then if (x9.getD x11.toNat 0).toNat < y3.length then if (y3.getD (x9.getD x11.toNat 0).toNat false) = true then (if 0 <= x9.getD x11.toNat 0 /\ x9.getD x11.toNat 0 < (y2.length : Int) then if (x9.getD x11.toNat 0).toNat < y2.length then (qcU.f y4_0).bind fun t1 => if t1 = true then (if 0 + (y2.getD (x9.getD x11.toNat 0).toNat []).length <= 281474976710656 /\ (0 + (y2.getD (x9.getD x11.toNat 0).toNat []).length) * 8 <= 140737488355328 then some (.inr ([] ++ (y2.getD (x9.getD x11.toNat 0).toNat []))) else none) else if y4_0 = 13 then ((qbb.f k (y2.getD (x9.getD x11.toNat 0).toNat []) y4_3).bind fun t2 => some (.inr t2)) else if y4_0 = 14 then ((qbh.f k (y2.getD (x9.getD x11.toNat 0).toNat []) y4_2 y4_3).bind fun t3 => some (.inr t3)) else if y4_0 = 18 then ((qbf.f k (y2.getD (x9.getD x11.toNat 0).toNat []) y4_3).bind fun t4 => some (.inr t4)) else qaF.l0 k n x9 x10 (iW.wrap (x11 + 1)) y0_0 y0_1 y0_2 y0_3 y1 y2 y3 y4_0 y4_1 y4_2 y4_3 y4_4 y4_5 y4_6 else none else none) else qaF.l0 k n x9 x10 (iW.wrap (x11 + 1)) y0_0 y0_1 y0_2 y0_3 y1 y2 y3 y4_0 y4_1 y4_2 y4_3 y4_4 y4_5 y4_6 else none else none else none) else some (.inl ())
def qaF.f (k : Nat) (a1_0 : Int) (a1_1 : LI) (a1_2 : LI) (a1_3 : LI) (a1_4 : Int) (a1_5 : Int) (a1_6 : ByteArray) (o0_0 : LI) (o0_1 : ByteArray) (o0_2 : List LN) (o0_3 : LI) (o1 : List LI) (o2 : List LI) (o3 : List Bool) : Option (Bool × LI) := (qaF.l0 k k a1_1 (a1_1.length : Int) 0 o0_0 o0_1 o0_2 o0_3 o1 o2 o3 a1_0 a1_1 a1_2 a1_3 a1_4 a1_5 a1_6).bind fun t5 => Sum.elim (fun t5 => some (true,[])) (fun t5 => some (false,t5)) t5
def qbp.f (a1 : Int) (a2_0 : Bool) (a2_1 : LI) (o0_0 : LI) (o0_1 : ByteArray) (o0_2 : List LN) (o0_3 : LI) (o1 : List LI) (o2 : List LI) (o3 : List Bool) : Option (Bool × (List LI) × (List Bool)) := if 0 <= a1 /\ a1 < (o3.length : Int) then if a1.toNat < o3.length then if (o3.getD a1.toNat false) = true then (some (false,o2,o3)) else if a2_0 = true then (some (false,o2,o3)) else if 0 <= a1 /\ a1 < (o2.length : Int) then if a1.toNat < o2.length then some (true,o2.set a1.toNat a2_1,o3.set a1.toNat true) else none else none else none else none
def qag.l0 (k : Nat) : Nat -> Bool -> (List LN) -> Int -> Int -> LI -> ByteArray -> (List LN) -> LI -> (List LI) -> (List LI) -> (List Bool) -> Option (Bool × (List LI) × (List Bool))
 | 0,_,_,_,_,_,_,_,_,_,_,_ => none
 | n + 1,x3,x14,x15,x16,y0_0,y0_1,y0_2,y0_3,y1,y2,y3 => if x16 < x15 then (if 0 <= x16 /\ x16 < (x14.length : Int) then (qaF.f k (x14.getD x16.toNat ln0).1 (x14.getD x16.toNat ln0).2.1 (x14.getD x16.toNat ln0).2.2.1 (x14.getD x16.toNat ln0).2.2.2.1 (x14.getD x16.toNat ln0).2.2.2.2.1 (x14.getD x16.toNat ln0).2.2.2.2.2.1 (x14.getD x16.toNat ln0).2.2.2.2.2.2 y0_0 y0_1 y0_2 y0_3 y1 y2 y3).bind fun t1 => (qbp.f x16 t1.1 t1.2 y0_0 y0_1 y0_2 y0_3 y1 y2 y3).bind fun t2 => if t2.1 = true then (qag.l0 k n true x14 x15 (iW.wrap (x16 + 1)) y0_0 y0_1 y0_2 y0_3 y1 t2.2.1 t2.2.2) else qag.l0 k n x3 x14 x15 (iW.wrap (x16 + 1)) y0_0 y0_1 y0_2 y0_3 y1 t2.2.1 t2.2.2 else none) else some (x3,y2,y3)
def qag.l2 : Nat -> Bool -> Int -> LI -> Int -> Int -> LI -> ByteArray -> (List LN) -> LI -> (List LI) -> (List LI) -> (List Bool) -> Option (Bool × (List LI) × (List Bool))
 | 0,_,_,_,_,_,_,_,_,_,_,_,_ => none
 | n + 1,x3,x6,x65,x66,x67,y0_0,y0_1,y0_2,y0_3,y1,y2,y3 => if x67 < x66 then (if 0 <= x67 /\ x67 < (x65.length : Int) then if 0 <= x6 /\ x6 < (y2.length : Int) then if x6.toNat < y2.length then if 0 + (y2.getD x6.toNat []).length <= 281474976710656 /\ (0 + (y2.getD x6.toNat []).length) * 8 <= 140737488355328 then (qbp.f (x65.getD x67.toNat 0) false ([] ++ (y2.getD x6.toNat [])) y0_0 y0_1 y0_2 y0_3 y1 y2 y3).bind fun t5 => if t5.1 = true then (qag.l2 n true x6 x65 x66 (iW.wrap (x67 + 1)) y0_0 y0_1 y0_2 y0_3 y1 t5.2.1 t5.2.2) else qag.l2 n x3 x6 x65 x66 (iW.wrap (x67 + 1)) y0_0 y0_1 y0_2 y0_3 y1 t5.2.1 t5.2.2 else none else none else none else none) else some (x3,y2,y3)
def qag.l1 (k : Nat) : Nat -> Bool -> Int -> LI -> ByteArray -> (List LN) -> LI -> (List LI) -> (List LI) -> (List Bool) -> Option (Bool × (List LI) × (List Bool))
 | 0,_,_,_,_,_,_,_,_,_ => none
 | n + 1,x3,x6,y0_0,y0_1,y0_2,y0_3,y1,y2,y3 => if 0 <= x6 then (if 0 <= x6 /\ x6 < (y0_2.length : Int) then if 0 <= x6 /\ x6 < (y3.length : Int) then if x6.toNat < y3.length then if (y3.getD x6.toNat false) = true then ((qcU.f (y0_2.getD x6.toNat ln0).1).bind fun t4 => if t4 = true then ((qag.l2 n x3 x6 (y0_2.getD x6.toNat ln0).2.1 ((y0_2.getD x6.toNat ln0).2.1.length : Int) 0 y0_0 y0_1 y0_2 y0_3 y1 y2 y3).bind fun t6 => qag.l1 k n t6.1 (iW.wrap (x6 - 1)) y0_0 y0_1 y0_2 y0_3 y1 t6.2.1 t6.2.2) else qag.l1 k n x3 (iW.wrap (x6 - 1)) y0_0 y0_1 y0_2 y0_3 y1 y2 y3) else qag.l1 k n x3 (iW.wrap (x6 - 1)) y0_0 y0_1 y0_2 y0_3 y1 y2 y3 else none else none else none) else some (x3,y2,y3)
def qag.f (k : Nat) (o0_0 : LI) (o0_1 : ByteArray) (o0_2 : List LN) (o0_3 : LI) (o1 : List LI) (o2 : List LI) (o3 : List Bool) : Option (Bool × (List LI) × (List Bool)) := (qag.l0 k k false o0_2 (o0_2.length : Int) 0 o0_0 o0_1 o0_2 o0_3 o1 o2 o3).bind fun t3 => (qag.l1 k k t3.1 (iW.wrap ((o0_2.length : Int) - 1)) o0_0 o0_1 o0_2 o0_3 o1 t3.2.1 t3.2.2).bind fun t7 => some (t7.1,t7.2.1,t7.2.2)
def qat.l0 : Nat -> Int -> Int -> (List LI) -> (List LI) -> LI -> ByteArray -> (List LN) -> LI -> (List Bool) -> Option ((List Bool))
 | 0,_,_,_,_,_,_,_,_,_ => none
 | n + 1,x34,x35,y0,y1,y2_0,y2_1,y2_2,y2_3,y3 => if x35 < x34 then (if 0 <= x35 /\ x35 < (y0.length : Int) then if x35.toNat < y0.length then if 0 <= x35 /\ x35 < (y3.length : Int) then if x35.toNat < y3.length then qat.l0 n x34 (iW.wrap (x35 + 1)) y0 y1 y2_0 y2_1 y2_2 y2_3 (y3.set x35.toNat (decide (0 < ((y0.getD x35.toNat []).length : Int)))) else none else none else none else none) else some y3
def qat.l1 (k : Nat) : Nat -> (List LI) -> (List LI) -> LI -> ByteArray -> (List LN) -> LI -> (List Bool) -> Option ((List LI) × (List Bool))
 | 0,_,_,_,_,_,_,_ => none
 | n + 1,y0,y1,y2_0,y2_1,y2_2,y2_3,y3 => (qag.f k y2_0 y2_1 y2_2 y2_3 y1 y0 y3).bind fun t4 => if t4.1 = true then (qat.l1 k n t4.2.1 y1 y2_0 y2_1 y2_2 y2_3 t4.2.2) else some (t4.2.1,t4.2.2)
def qat.l2 (k : Nat) : Nat -> Int -> Int -> (List LI) -> LI -> ByteArray -> (List LN) -> LI -> (List LI) -> (List Bool) -> Option ((List LI) × (List Bool))
 | 0,_,_,_,_,_,_,_,_,_ => none
 | n + 1,x53,x54,y0,y1_0,y1_1,y1_2,y1_3,y2,y3 => if x54 < x53 then (if 0 <= x54 /\ x54 < (y0.length : Int) then if x54.toNat < y0.length then (qc1.f k ((y0.getD x54.toNat []).length : Int)).bind fun t6 => if 0 + t6.length <= 281474976710656 /\ (0 + t6.length) * 8 <= 140737488355328 then (qbp.f x54 false ([] ++ t6) y1_0 y1_1 y1_2 y1_3 y0 y2 y3).bind fun t7 => qat.l2 k n x53 (iW.wrap (x54 + 1)) y0 y1_0 y1_1 y1_2 y1_3 t7.2.1 t7.2.2 else none else none else none) else some (y2,y3)
def qat.f (k : Nat) (a0_0 : LI) (a0_1 : ByteArray) (a0_2 : List LN) (a0_3 : LI) : Option (Int × (List LI)) := (qaV.f k a0_0 a0_1 a0_2 a0_3).bind fun t1 => if t1.1 = 0 then ((qba.f k a0_0 a0_1 a0_2 a0_3).bind fun t2 => if 0 <= (t1.2.length : Int) /\ (t1.2.length : Int) <= 281474976710656 /\ ((1 : Nat) : Int) * (t1.2.length : Int) <= 140737488355328 then (qat.l0 k (t1.2.length : Int) 0 t1.2 t2.2 a0_0 a0_1 a0_2 a0_3 (vab (t1.2.length : Int).toNat (false : Bool))).bind fun t3 => (qat.l1 k k t1.2 t2.2 a0_0 a0_1 a0_2 a0_3 t3).bind fun t5 => (qat.l2 k k (t5.1.length : Int) 0 t2.2 a0_0 a0_1 a0_2 a0_3 t5.1 t5.2).bind fun t8 => some (0,t8.1) else none) else some (t1.1,[])
def qav.l0 (k : Nat) : Nat -> Bool -> (List LN) -> Int -> Int -> LI -> ByteArray -> (List LN) -> LI -> (List LI) -> (List LI) -> (List LI) -> (List LI) -> Option (Bool ⊕ Bool)
 | 0,_,_,_,_,_,_,_,_,_,_,_,_ => none
 | n + 1,x11,x79,x80,x81,y0_0,y0_1,y0_2,y0_3,y1,y2,y3,y4 => if x81 < x80 then (if 0 <= x81 /\ x81 < (x79.length : Int) then if 0 <= x81 /\ x81 < (y4.length : Int) then if x81.toNat < y4.length then (qa6.f k y0_1 (x79.getD x81.toNat ln0).2.2.2.2.2.2 ((y4.getD x81.toNat []).length : Int)).bind fun t5 => if x11 = true then (if 0 <= x81 /\ x81 < (y2.length : Int) then if x81.toNat < y2.length then (qao.f k (y2.getD x81.toNat []) t5.2.2).bind fun t6 => if t6 = true then (if t5.1 = true then (if 0 <= x81 /\ x81 < (y1.length : Int) then if x81.toNat < y1.length then (qao.f k (y1.getD x81.toNat []) t5.2.2).bind fun t7 => if t7 = true then ((qaQ.f k y0_0 (y1.getD x81.toNat []) ((y4.getD x81.toNat []).length : Int)).bind fun t8 => if t8 = true then (if 0 <= x81 /\ x81 < (y3.length : Int) then if x81.toNat < y3.length then (qao.f k (y1.getD x81.toNat []) (y3.getD x81.toNat [])).bind fun t9 => if t9 = true then (qav.l0 k n true x79 x80 (iW.wrap (x81 + 1)) y0_0 y0_1 y0_2 y0_3 y1 y2 y3 y4) else some (.inr false) else none else none) else some (.inr false)) else some (.inr false) else none else none) else if 0 <= x81 /\ x81 < (y1.length : Int) then if x81.toNat < y1.length then (qaQ.f k y0_0 (y1.getD x81.toNat []) ((y4.getD x81.toNat []).length : Int)).bind fun t10 => if t10 = true then (if 0 <= x81 /\ x81 < (y3.length : Int) then if x81.toNat < y3.length then (qao.f k (y1.getD x81.toNat []) (y3.getD x81.toNat [])).bind fun t11 => if t11 = true then (qav.l0 k n true x79 x80 (iW.wrap (x81 + 1)) y0_0 y0_1 y0_2 y0_3 y1 y2 y3 y4) else some (.inr false) else none else none) else some (.inr false) else none else none) else some (.inr false) else none else none) else if 0 <= x81 /\ x81 < (y2.length : Int) then if x81.toNat < y2.length then (qao.f k (y2.getD x81.toNat []) t5.2.2).bind fun t12 => if t12 = true then (if t5.1 = true then (if 0 <= x81 /\ x81 < (y1.length : Int) then if x81.toNat < y1.length then (qao.f k (y1.getD x81.toNat []) t5.2.2).bind fun t13 => if t13 = true then ((qaQ.f k y0_0 (y1.getD x81.toNat []) ((y4.getD x81.toNat []).length : Int)).bind fun t14 => if t14 = true then (if 0 <= x81 /\ x81 < (y3.length : Int) then if x81.toNat < y3.length then (qao.f k (y1.getD x81.toNat []) (y3.getD x81.toNat [])).bind fun t15 => if t15 = true then (qav.l0 k n t5.1 x79 x80 (iW.wrap (x81 + 1)) y0_0 y0_1 y0_2 y0_3 y1 y2 y3 y4) else some (.inr false) else none else none) else some (.inr false)) else some (.inr false) else none else none) else if 0 <= x81 /\ x81 < (y1.length : Int) then if x81.toNat < y1.length then (qaQ.f k y0_0 (y1.getD x81.toNat []) ((y4.getD x81.toNat []).length : Int)).bind fun t16 => if t16 = true then (if 0 <= x81 /\ x81 < (y3.length : Int) then if x81.toNat < y3.length then (qao.f k (y1.getD x81.toNat []) (y3.getD x81.toNat [])).bind fun t17 => if t17 = true then (qav.l0 k n t5.1 x79 x80 (iW.wrap (x81 + 1)) y0_0 y0_1 y0_2 y0_3 y1 y2 y3 y4) else some (.inr false) else none else none) else some (.inr false) else none else none) else some (.inr false) else none else none else none else none else none) else some (.inl x11)
def qav.l2 : Nat -> Bool -> Int -> Int -> Int -> Int -> Int -> (List LI) -> Option (Unit ⊕ Bool)
 | 0,_,_,_,_,_,_,_ => none
 | n + 1,x11,x17,x152,x153,x160,x161,y0 => if x161 < x160 then (if x11 = true then (qav.l2 n x11 x17 x152 x153 x160 (iW.wrap (x161 + 1)) y0) else if 0 <= x17 /\ x17 < (y0.length : Int) then if x17.toNat < y0.length then if 0 <= x161 /\ x161 < ((y0.getD x17.toNat []).length : Int) then if (y0.getD x17.toNat []).getD x161.toNat 0 = -1 then (qav.l2 n x11 x17 x152 x153 x160 (iW.wrap (x161 + 1)) y0) else some (.inr false) else none else none else none) else some (.inl ())
def qav.l1 (k : Nat) : Nat -> Bool -> Int -> Int -> (List LI) -> Option (Unit ⊕ Bool)
 | 0,_,_,_,_ => none
 | n + 1,x11,x152,x153,y0 => if x153 < x152 then (if 0 <= x153 /\ x153 < (y0.length : Int) then if x153.toNat < y0.length then (qav.l2 n x11 x153 x152 x153 ((y0.getD x153.toNat []).length : Int) 0 y0).bind fun t19 => Sum.elim (fun t19 => qav.l1 k n x11 x152 (iW.wrap (x153 + 1)) y0) (fun t19 => some (.inr t19)) t19 else none else none) else some (.inl ())
def qav.f (k : Nat) (a0_0 : LI) (a0_1 : ByteArray) (a0_2 : List LN) (a0_3 : LI) : Option (Bool) := (qat.f k a0_0 a0_1 a0_2 a0_3).bind fun t1 => (qaV.f k a0_0 a0_1 a0_2 a0_3).bind fun t2 => (qat.f k a0_0 a0_1 a0_2 a0_3).bind fun t3 => (qax.f k a0_0 a0_1 a0_2 a0_3).bind fun t4 => if t1.1 = t4.1 then (if t2.1 = t4.1 then (if t4.1 = 0 then (if (t1.2.length : Int) = (a0_2.length : Int) then (if (t2.2.length : Int) = (a0_2.length : Int) then (if (t3.2.length : Int) = (t1.2.length : Int) then ((qav.l0 k k false a0_2 (a0_2.length : Int) 0 a0_0 a0_1 a0_2 a0_3 t1.2 t2.2 t3.2 t4.2).bind fun t18 => Sum.elim (fun t18 => (qav.l1 k k t18 (t1.2.length : Int) 0 t1.2).bind fun t20 => Sum.elim (fun t20 => some true) (fun t20 => some t20) t20) (fun t18 => some t18) t18) else some false) else some false) else some false) else if (t1.2.length : Int) = 0 then (some (decide ((t2.2.length : Int) = 0))) else some false) else some false) else some false
def qbR.l0 : Nat -> (List LN) -> Int -> Int -> ByteArray -> LI -> ByteArray -> LI -> (List LN) -> Option ((List LN))
 | 0,_,_,_,_,_,_,_,_ => none
 | n + 1,x9,x10,x11,y0,y1_0,y1_1,y1_2,y2 => if x11 < x10 then (if 0 <= x11 /\ x11 < (x9.length : Int) then if y2.length + ([((x9.getD x11.toNat ln0).1,((x9.getD x11.toNat ln0).2.1,((x9.getD x11.toNat ln0).2.2.1,((x9.getD x11.toNat ln0).2.2.2.1,((x9.getD x11.toNat ln0).2.2.2.2.1,((x9.getD x11.toNat ln0).2.2.2.2.2.1,vaa))))))] : List LN).length <= 281474976710656 /\ (y2.length + ([((x9.getD x11.toNat ln0).1,((x9.getD x11.toNat ln0).2.1,((x9.getD x11.toNat ln0).2.2.1,((x9.getD x11.toNat ln0).2.2.2.1,((x9.getD x11.toNat ln0).2.2.2.2.1,((x9.getD x11.toNat ln0).2.2.2.2.2.1,vaa))))))] : List LN).length) * 112 <= 140737488355328 then qbR.l0 n x9 x10 (iW.wrap (x11 + 1)) y0 y1_0 y1_1 y1_2 (y2 ++ ([((x9.getD x11.toNat ln0).1,((x9.getD x11.toNat ln0).2.1,((x9.getD x11.toNat ln0).2.2.1,((x9.getD x11.toNat ln0).2.2.2.1,((x9.getD x11.toNat ln0).2.2.2.2.1,((x9.getD x11.toNat ln0).2.2.2.2.2.1,vaa))))))] : List LN)) else none else none) else some y2
def qbR.f (k : Nat) (a0_0 : LI) (a0_1 : ByteArray) (a0_2 : List LN) (a0_3 : LI) : Option ((List LN)) := (qbR.l0 k a0_2 (a0_2.length : Int) 0 vaa a0_0 a0_1 a0_3 []).bind fun t1 => some t1
def qc5.f (k : Nat) : Option (Bool) := (qat.f k ([2] : LI) (vac #[120]) ([(1,([],(([4] : LI),([],(0,(0,(vac #[120]))))))),(4,(([0] : LI),([],([],(0,(0,vaa))))))] : List LN) []).bind fun t1 => (qaV.f k ([2] : LI) (vac #[120]) ([(1,([],(([4] : LI),([],(0,(0,(vac #[120]))))))),(4,(([0] : LI),([],([],(0,(0,vaa))))))] : List LN) []).bind fun t2 => (qat.f k [] (vac #[120]) [] []).bind fun t3 => if t1.1 = 0 then (if t2.1 = 0 then (if (t1.2.length : Int) = 2 then (if (t2.2.length : Int) = 2 then (if (0 : Int) <= 0 /\ 0 < (t1.2.length : Int) then if 0 < t1.2.length then (qao.f k (t1.2.getD 0 []) ([0] : LI)).bind fun t4 => if t4 = true then (if (0 : Int) <= 0 /\ 0 < (t2.2.length : Int) then if 0 < t2.2.length then (qao.f k (t2.2.getD 0 []) ([0] : LI)).bind fun t5 => if t5 = true then (if (0 : Int) <= 1 /\ 1 < (t2.2.length : Int) then if 1 < t2.2.length then if ((t2.2.getD 1 []).length : Int) = 0 then (if (0 : Int) <= 1 /\ 1 < (t1.2.length : Int) then if 1 < t1.2.length then if ((t1.2.getD 1 []).length : Int) = 1 then (some (decide (t3.1 = 15))) else some false else none else none) else some false else none else none) else some false else none else none) else some false else none else none) else some false) else some false) else some false) else some false
def qaG.l0 (k : Nat) : Nat -> Int -> Option (Unit ⊕ Bool)
 | 0,_ => none
 | n + 1,x1 => if x1 < 100 then ((qbZ.f k x1).bind fun t1 => (qaB.f k t1).bind fun t2 => (qav.f k t2.2.1 t2.1 t2.2.2.1 t2.2.2.2).bind fun t3 => if t3 = true then ((qbR.f k t2.2.1 t2.1 t2.2.2.1 t2.2.2.2).bind fun t4 => (qav.f k t2.2.1 t2.1 t4 t2.2.2.2).bind fun t5 => if t5 = true then (qaG.l0 k n (iW.wrap (x1 + 1))) else some (.inr false)) else some (.inr false)) else some (.inl ())
def qaG.f (k : Nat) : Option (Bool) := (qaG.l0 k k 0).bind fun t6 => Sum.elim (fun t6 => (qav.f k [] vaa [] []).bind fun t7 => if t7 = true then ((qc5.f k).bind fun t8 => some t8) else some false) (fun t6 => some t6) t6
def qan.l0 (k : Nat) : Nat -> Int -> Int -> ByteArray -> (List LI) -> ByteArray -> (List LN) -> LI -> LI -> (List LN) -> Option ((List LN))
 | 0,_,_,_,_,_,_,_,_,_ => none
 | n + 1,x35,x36,y0,y1,y2,y3,y4,y5,y6 => if x36 < x35 then (if 0 <= x36 /\ x36 < (y3.length : Int) then if x36.toNat < y3.length then if 0 <= x36 /\ x36 < (y1.length : Int) then if x36.toNat < y1.length then (qbU.f k y0 (y1.getD x36.toNat [])).bind fun t3 => if y6.length + ([((y3.getD x36.toNat ln0).1,((y3.getD x36.toNat ln0).2.1,((y3.getD x36.toNat ln0).2.2.1,((y3.getD x36.toNat ln0).2.2.2.1,((y3.getD x36.toNat ln0).2.2.2.2.1,((y3.getD x36.toNat ln0).2.2.2.2.2.1,t3))))))] : List LN).length <= 281474976710656 /\ (y6.length + ([((y3.getD x36.toNat ln0).1,((y3.getD x36.toNat ln0).2.1,((y3.getD x36.toNat ln0).2.2.1,((y3.getD x36.toNat ln0).2.2.2.1,((y3.getD x36.toNat ln0).2.2.2.2.1,((y3.getD x36.toNat ln0).2.2.2.2.2.1,t3))))))] : List LN).length) * 112 <= 140737488355328 then qan.l0 k n x35 (iW.wrap (x36 + 1)) y0 y1 y2 y3 y4 y5 (y6 ++ ([((y3.getD x36.toNat ln0).1,((y3.getD x36.toNat ln0).2.1,((y3.getD x36.toNat ln0).2.2.1,((y3.getD x36.toNat ln0).2.2.2.1,((y3.getD x36.toNat ln0).2.2.2.2.1,((y3.getD x36.toNat ln0).2.2.2.2.2.1,t3))))))] : List LN)) else none else none else none else none else none) else some y6
def qan.l1 (k : Nat) : Nat -> Int -> Int -> (List LI) -> (List LI) -> (List LI) -> Option (Unit ⊕ Bool)
 | 0,_,_,_,_,_ => none
 | n + 1,x87,x88,y0,y1,y2 => if x88 < x87 then (if 0 <= x88 /\ x88 < (y1.length : Int) then if x88.toNat < y1.length then if 0 <= x88 /\ x88 < (y0.length : Int) then if x88.toNat < y0.length then (qao.f k (y1.getD x88.toNat []) (y0.getD x88.toNat [])).bind fun t7 => if t7 = true then (if 0 <= x88 /\ x88 < (y2.length : Int) then if x88.toNat < y2.length then (qao.f k (y2.getD x88.toNat []) (y0.getD x88.toNat [])).bind fun t8 => if t8 = true then (qan.l1 k n x87 (iW.wrap (x88 + 1)) y0 y1 y2) else some (.inr false) else none else none) else some (.inr false) else none else none else none else none) else some (.inl ())
def qan.f (k : Nat) (a0 : LI) : Option (Bool) := (qaB.f k a0).bind fun t1 => (qat.f k t1.2.1 t1.1 t1.2.2.1 t1.2.2.2).bind fun t2 => if t2.1 = 0 then (if (t2.2.length : Int) = (t1.2.2.1.length : Int) then ((qan.l0 k k (t1.2.2.1.length : Int) 0 t1.1 t2.2 t1.1 t1.2.2.1 t1.2.1 t1.2.2.2 []).bind fun t4 => (qat.f k t1.2.1 t1.1 t4 t1.2.2.2).bind fun t5 => (qaV.f k t1.2.1 t1.1 t4 t1.2.2.2).bind fun t6 => if t5.1 = 0 then (if t6.1 = 0 then (if (t5.2.length : Int) = (t2.2.length : Int) then (if (t6.2.length : Int) = (t2.2.length : Int) then ((qan.l1 k k (t2.2.length : Int) 0 t2.2 t5.2 t6.2).bind fun t9 => Sum.elim (fun t9 => (qc5.f k).bind fun t10 => some t10) (fun t9 => some t9) t9) else some false) else some false) else some false) else some false) else some false) else some false
end Go.Pf

namespace Go.Pf
open Go Go.Vm
theorem qaq {n : Int} (h1 : -9223372036854775808 <= n) (h2 : n < 9223372036854775808) : iW.wrap n = n := by rw [IntKind.wrap_i64]; omega
theorem qpK {n : Int} (h : (Lit.int .i64 n).wf = true) : -9223372036854775808 <= n /\ n < 9223372036854775808 := by
 simp only [Lit.wf,bAt,decide_eq_true_eq] at h
 have h1 : IntKind.i64.min = -9223372036854775808 := by decide
 have h2 : IntKind.i64.max = 9223372036854775807 := by decide
 omega
theorem qpi {l : LI} (h : Fit (.sl (.int .i64)) l) : l.length <= 17592186043904 /\ ∀ x ∈ l,-9223372036854775808 <= x /\ x < 9223372036854775808 := by
 obtain ⟨h1,h2⟩ := h
 have h3 : l.length * 8 <= 140737488351232 := h1
 exact ⟨by omega,fun x hx => qpK (h2 x hx)⟩
theorem qaj {α : Type} {l : List α} {i : Nat} (h : i < l.length) (d : α) : l.drop i = l.getD i d :: l.drop (i + 1) := by
 rw [List.drop_eq_getElem_cons h,gDg,vae h]; rfl
theorem qas {α : Type} {l : List α} {i : Nat} (h : i < l.length) (d : α) : l.getD i d ∈ l := by
 rw [gDg,vae h]; exact List.getElem_mem h
end Go.Pf

namespace Go.Pf
open Go Go.Vm
def pd : LI -> Int
 | [] => 1
 | x :: r => x * pd r
def okD (x : Int) : Bool := decide (1 <= x) && decide (x <= 8)
def mR (l : LI) : Bool := decide (l.length <= 3) && l.all okD && decide (pd l <= 8)
theorem qdJ {x : Int} : okD x = true ↔ 1 <= x /\ x <= 8 := by simp [okD]
theorem qpD : ∀ (l : LI),l.all okD = true -> 1 <= pd l /\ pd l <= 8 ^ l.length
 | [],_ => by simp [pd]
 | x :: r,h => by
  simp only [List.all_cons,bAt,qdJ] at h
  obtain ⟨⟨h1,h2⟩,h3⟩ := h
  obtain ⟨h4,h5⟩ := qpD r h3
  show 1 <= x * pd r /\ x * pd r <= 8 ^ (r.length + 1)
  constructor
  ·have := vah h1 h4 (by omega) (by omega); simpa using this
  ·have := vah h2 h5 (by omega) (by omega)
   rw [vam]; rw [vaw] at this; simpa [vaw] using this
theorem qhz {l : LI} (h : mR l = true) : l.length <= 3 /\ l.all okD = true /\ 1 <= pd l /\ pd l <= 8 := by
 unfold mR at h
 simp only [bAt,decide_eq_true_eq] at h
 exact ⟨h.1.1,h.1.2,(qpD l h.1.2).1,h.2⟩
theorem p8 {i : Nat} (h : i <= 3) : (1 : Int) <= 8 ^ i /\ (8 : Int) ^ i <= 512 := by
 rcases (show i = 0 \/ i = 1 \/ i = 2 \/ i = 3 by omega) with e | e | e | e <;> subst e <;> decide
theorem qi4 {p x : Int} {i : Nat} (h1 : 1 <= p) (h2 : p <= 8 ^ i) (hx : 1 <= x /\ x <= 8) : 1 <= p * x /\ p * x <= 8 ^ (i + 1) := by
 constructor
 ·have := vah h1 hx.1 (by omega) (by omega); simpa using this
 ·rw [vam]; exact vah h2 hx.2 (by omega) (by omega)
theorem qeW (l : LI) : ∀ (d i : Nat) (p : Int) (n : Nat),l.length = i + d -> i <= 3 -> 1 <= p -> p <= 8 ^ i -> 4 < n + i ->
  qbE.l0 n l p l.length i = some (if l.length <= 3 /\ (l.drop i).all okD = true then .inl (p * pd (l.drop i)) else .inr false)
 | 0,i,p,n,hi,hi3,h1,h2,hn => by
  obtain ⟨n,rfl⟩ := sun (n := n)
  rw [qbE.l0,ifq,dNl (by omega),if_pos ⟨by omega,by simp⟩]
  simp [pd]
 | d + 1,i,p,n,hi,hi3,h1,h2,hn => by
  obtain ⟨n,rfl⟩ := sun (n := n)
  rw [qbE.l0,ifp]
  by_cases c0 : 3 <= (i : Int)
  ·rw [if_pos c0,ifq]
  rw [if_neg c0,ifp,tNc,qaj (show i < l.length by omega) 0]
  generalize l.getD i 0 = x
  by_cases c1 : x < 1
  ·rw [if_pos c1,if_neg (by simp [qdJ]; omega)]
  by_cases c2 : 8 < x
  ·rw [if_neg c1,if_pos c2,if_neg (by simp [qdJ]; omega)]
  have hx : okD x = true := qdJ.2 (by omega)
  have hm := qi4 h1 h2 (show 1 <= x /\ x <= 8 by omega)
  have h8 := p8 (show i + 1 <= 3 by omega)
  rw [if_neg c1,if_neg c2,qaq (n := p * x) (by omega) (by omega),qaq (n := (i : Int) + 1) (by omega) (by omega)]
  have := qeW l d (i + 1) (p * x) n (by omega) (by omega) hm.1 hm.2 (by omega)
  rw [show (i : Int) + 1 = ((i + 1 : Nat) : Int) by omega,this]
  simp [hx,pd,vak]
theorem qi0 (l : LI) (k : Nat) (hk : 10 <= k) : qbE.f k l = some (mR l) := by
 unfold qbE.f
 have := qeW l l.length 0 1 k (by omega) (by omega) (by omega) (by simp) (by omega)
 rw [show ((0 : Nat) : Int) = 0 from rfl] at this
 rw [this]
 by_cases ha : l.length <= 3 /\ l.all okD = true
 ·simp [ha.1,ha.2,mR]
 ·rw [dZr,if_neg ha]
  have : mR l = false := by
   cases h : mR l with
   | false => rfl
   | true => exact absurd ⟨(qhz h).1,(qhz h).2.1⟩ ha
  simp [this]
theorem qgA (a b : LI) (hl : a.length = b.length) (hb : a.length <= 4611686018427387904) : ∀ (d i n : Nat),a.length = i + d -> d < n ->
  qao.l0 n a b i = some (if a.drop i = b.drop i then .inl () else .inr false)
 | 0,i,n,hi,hn => by
  obtain ⟨n,rfl⟩ := sun (n := n)
  rw [qao.l0,ifq,dNl (by omega),dNl (by omega),if_pos rfl]
 | d + 1,i,n,hi,hn => by
  obtain ⟨n,rfl⟩ := sun (n := n)
  rw [qao.l0,ifp,ifp,ifp,tNc,qaj (show i < a.length by omega) 0,qaj (show i < b.length by omega) 0,qaq (by omega) (by omega),show (i : Int) + 1 = ((i + 1 : Nat) : Int) by omega,qgA a b hl hb d (i + 1) n (by omega) (by omega)]
  by_cases c : a.getD i 0 = b.getD i 0
  ·rw [if_pos c,c]; simp
  ·rw [if_neg c,if_neg (by simp only [List.cons.injEq]; exact fun h => c h.1)]
theorem qc6 (a b : LI) (hb : a.length <= 4611686018427387904) (k : Nat) (hk : a.length < k) : qao.f k a b = some (decide (a = b)) := by
 unfold qao.f
 by_cases h : a.length = b.length
 ·have := qgA a b h hb a.length 0 k (by omega) hk
  rw [ifp,show (0 : Int) = ((0 : Nat) : Int) from rfl,this,dZr,dZr]
  by_cases c : a = b
  ·simp [c]
  ·simp [c]
 ·rw [ifq]
  have : a ≠ b := fun c => h (by rw [c])
  simp [this]
end Go.Pf

namespace Go.Pf
open Go Go.Vm
theorem n0 : ((0 : Nat) : Int) = 0 := rfl
theorem drop0 {α : Type} (l : List α) : l.drop 0 = l := rfl
theorem qep (xs : LI) (v : Int) (hl : xs.length <= 4611686018427387904) : ∀ (d i n : Nat),xs.length = i + d -> d < n ->
  ∃ r,qa3.l0 n xs v xs.length i = some r /\ ((r = .inl () /\ v ∉ xs.drop i) \/ ∃ j : Int,r = .inr j /\ 0 <= j /\ v ∈ xs.drop i)
 | 0,i,n,hi,hn => by
  obtain ⟨n,rfl⟩ := sun (n := n)
  rw [qa3.l0,ifq,dNl (by omega)]
  exact ⟨_,rfl,.inl ⟨rfl,by simp⟩⟩
 | d + 1,i,n,hi,hn => by
  obtain ⟨n,rfl⟩ := sun (n := n)
  rw [qa3.l0,ifp,ifp,tNc,qaj (show i < xs.length by omega) 0]
  by_cases c : v = xs.getD i 0
  ·rw [if_pos c]
   exact ⟨_,rfl,.inr ⟨_,rfl,by omega,by rw [c]; simp⟩⟩
  ·rw [if_neg c,qaq (by omega) (by omega),show (i : Int) + 1 = ((i + 1 : Nat) : Int) by omega]
   obtain ⟨r,h1,h2⟩ := qep xs v hl d (i + 1) n (by omega) (by omega)
   refine ⟨r,h1,?_⟩
   rcases h2 with ⟨h2,h3⟩ | ⟨j,h2,h3,h4⟩
   ·exact .inl ⟨h2,by simp only [vaf]; exact fun h => h.elim c h3⟩
   ·exact .inr ⟨j,h2,h3,mCm _ h4⟩
theorem qfR (xs : LI) (v : Int) (hl : xs.length <= 4611686018427387904) (k : Nat) (hk : xs.length < k) : qb3.f k xs v = some (decide (v ∈ xs)) := by
 unfold qb3.f qa3.f
 obtain ⟨r,h1,h2⟩ := qep xs v hl xs.length 0 k (by omega) hk
 rw [n0] at h1
 rw [h1,obs]
 rw [drop0] at h2
 rcases h2 with ⟨rfl,h3⟩ | ⟨j,rfl,h3,h4⟩
 ·simp [h3]
 ·simp [h3,h4]
def okGo (m : Int) : LI -> LI -> Bool
 | _,[] => true
 | pre,k :: r => decide (-1 <= k) && decide (k < m) && (decide (k = -1) || !decide (k ∈ pre)) && okGo m (pre ++ [k]) r
def mSp (l sp : LI) (r : Int) : Bool := mR l && decide ((sp.length : Int) = r) && okGo l.length [] sp
theorem qdP {l : LI} {i : Nat} (h : i < l.length) : l.take (i + 1) = l.take i ++ [l.getD i 0] := by
 rw [vaD,gDg,vae h]; rfl
theorem qfA (l sp : LI) (i : Nat) (hi : i < sp.length) (hs : sp.length <= 4611686018427387904) (x19 x20 : Int) : ∀ (d j n : Nat),i = j + d -> d < n ->
  qaQ.l1 n l sp i j x19 x20 = some (if 0 <= sp.getD i 0 /\ sp.getD i 0 ∈ (sp.take i).drop j then .inr false else .inl ())
 | 0,j,n,hj,hn => by
  obtain ⟨n,rfl⟩ := sun (n := n)
  rw [qaQ.l1,ifq,dNl (by simp; omega),if_neg (by simp)]
 | d + 1,j,n,hj,hn => by
  obtain ⟨n,rfl⟩ := sun (n := n)
  have hlen : j < (sp.take i).length := by simp; omega
  have hg : (sp.take i).getD j 0 = sp.getD j 0 := by
   rw [gDg,gDg,List.getElem?_take,ifp]
  rw [qaQ.l1,ifp,ifp,ifp,tNc,tNc,qaj hlen 0,hg,qaq (by omega) (by omega),show (j : Int) + 1 = ((j + 1 : Nat) : Int) by omega,qfA l sp i hi hs x19 x20 d (j + 1) n (by omega) (by omega)]
  by_cases c1 : sp.getD j 0 = sp.getD i 0
  ·by_cases c2 : 0 <= sp.getD i 0
   ·rw [if_pos c1,if_pos c2,if_pos ⟨c2,by rw [c1]; simp⟩]
   ·rw [if_pos c1,if_neg c2,if_neg (fun h => c2 h.1),if_neg (fun h => c2 h.1)]
  ·rw [if_neg c1]
   simp only [vaf,Ne.symm c1,false_or]
theorem qfB (l sp : LI) (hs : sp.length ≤ 4611686018427387904) (K : Nat) : ∀ (d i n : Nat),sp.length = i + d → sp.length + sp.length + 2 ≤ n + i →
    qaQ.l0 K n l sp sp.length i = some (if okGo l.length (sp.take i) (sp.drop i) = true then .inl () else .inr false)
  | 0,i,n,hi,hn => by
    obtain ⟨n,rfl⟩ := sun (n := n)
    rw [qaQ.l0,ifq,dNl (by omega)]; rfl
  | d + 1,i,n,hi,hn => by
    obtain ⟨n,rfl⟩ := sun (n := n)
    have ih := qfB l sp hs K d (i + 1) n (by omega) (by omega)
    have hin := qfA l sp i (by omega) hs sp.length i i 0 n (by omega) (by omega)
    rw [qdP (show i < sp.length by omega)] at ih
    rw [qaQ.l0,ifp,ifp,tNc,qaj (show i < sp.length by omega) 0,qaq (by omega) (by omega),show (i : Int) + 1 = ((i + 1 : Nat) : Int) by omega]
    rw [n0,drop0] at hin
    rw [hin]
    generalize sp.getD i 0 = x at ih ⊢
    by_cases c1 : x < -1
    · rw [if_pos c1,if_neg (by simp [okGo]; omega)]
    by_cases c2 : (l.length : Int) ≤ x
    · rw [if_neg c1,if_pos c2,if_neg (by simp [okGo]; omega)]
    have h1 : -1 ≤ x := by omega
    have h2 : x < (l.length : Int) := by omega
    rw [if_neg c1,if_neg c2,obs]
    by_cases c3 : 0 ≤ x ∧ x ∈ sp.take i
    · have c4 : ¬ x = -1 := by omega
      rw [if_pos c3,if_neg (by simp [okGo,c4,c3.2])]; rfl
    · rw [if_neg c3]
      simp only [vav]
      rw [ih]
      have c5 : x = -1 ∨ x ∉ sp.take i := by
        by_cases h : x ∈ sp.take i
        · exact .inl (by have : ¬ 0 ≤ x := fun h' => c3 ⟨h',h⟩
                         omega)
        · exact .inr h
      have e : okGo l.length (sp.take i) (x :: sp.drop (i + 1)) = okGo l.length (sp.take i ++ [x]) (sp.drop (i + 1)) := by
        rcases c5 with h | h <;> simp [okGo,h,h1,h2]
        omega
      rw [e]
theorem qjN (l sp : LI) (r : Int) (hs : sp.length <= 4611686018427387904) (k : Nat) (hk : sp.length + sp.length + 10 <= k) : qaQ.f k l sp r = some (mSp l sp r) := by
 unfold qaQ.f mSp
 rw [qi0 l k (by omega),obs]
 by_cases h : mR l = true
 ·by_cases hr : (sp.length : Int) = r
  ·have := qfB l sp hs k sp.length 0 k (by omega) (by omega)
   rw [if_pos h,if_pos hr,show (0 : Int) = ((0 : Nat) : Int) from rfl,this,obs,drop0,List.take_zero,h]
   cases okGo (l.length : Int) [] sp <;> simp [hr]
  ·rw [if_pos h,if_neg hr]; simp [hr]
 ·rw [if_neg h]; simp at h; simp [h]
def mW (r : Int) : LI := if 0 <= r /\ r <= 4 then vab r.toNat (-1) else []
theorem qgg (r : Int) (k : Nat) (hk : 10 <= k) : qc1.f k r = some (mW r) := by
 obtain ⟨m,rfl⟩ : ∃ m,k = m + 10 := ⟨k - 10,by omega⟩
 unfold mW
 by_cases c1 : r < 0
 ·unfold qc1.f; rw [if_pos c1,ifq]
 by_cases c2 : 4 < r
 ·unfold qc1.f; rw [if_neg c1,if_pos c2,ifq]
 rcases (show r = 0 \/ r = 1 \/ r = 2 \/ r = 3 \/ r = 4 by omega) with e | e | e | e | e <;> subst e <;> rfl
theorem qdb (n : Int) (L : LI) (hL : L.length <= 17592186044415) (hw : ∀ x ∈ L,-9223372036854775808 <= x /\ x < 9223372036854775808) (p : Int) (h0 : 0 <= p) (hp : p <= 17592186044415) (hn : 1 <= n) : ∃ r q,qae.f n L p = some (r,q) /\ 0 <= r /\ r < n /\ 0 <= q /\ q <= 17592186044415 /\ p <= q /\ q <= p + 1 := by
 unfold qae.f
 by_cases c : (L.length : Int) <= p
 ·rw [if_pos c]; exact ⟨_,_,rfl,by omega,by omega,h0,hp,by omega,by omega⟩
 rw [if_neg c,ifq,qaq (n := p + 1) (by omega) (by omega),show p + 1 - 1 = p by omega,qaq (n := p) (by omega) (by omega),if_pos ⟨h0,by omega⟩]
 have hx := hw _ (qas (show p.toNat < L.length by omega) 0)
 generalize L.getD p.toNat 0 = x at hx
 have key : ∃ r,qdB.f x 0 1073741824 = some r /\ 0 <= r := by
  unfold qdB.f
  rw [qaq (n := 1073741824 - 0) (by omega) (by omega),qaq (n := 1073741824 - 0 + 1) (by omega) (by omega)]
  have t2 := Int.lt_tmod_of_pos x (show (0 : Int) < 1073741824 - 0 + 1 by omega)
  have t3 := Int.tmod_lt_of_pos x (show (0 : Int) < 1073741824 - 0 + 1 by omega)
  have k2 : ∃ r,(if (1073741824 - 0 + 1 : Int) ≠ 0 then if x.tmod (1073741824 - 0 + 1) < 0 then some (iW.wrap (0 + (iW.wrap ((iW.wrap ((iW.wrap ((x.tmod (1073741824 - 0 + 1)) + 1073741824)) - 0)) + 1)))) else some (iW.wrap (0 + (x.tmod (1073741824 - 0 + 1)))) else none) = some r /\ 0 <= r := by
   rw [ifp]
   split
   ·rw [qaq (n := x.tmod (1073741824 - 0 + 1) + 1073741824) (by omega) (by omega),qaq (n := x.tmod (1073741824 - 0 + 1) + 1073741824 - 0) (by omega) (by omega),qaq (n := x.tmod (1073741824 - 0 + 1) + 1073741824 - 0 + 1) (by omega) (by omega),qaq (by omega) (by omega)]
    exact ⟨_,rfl,by omega⟩
   ·rw [qaq (by omega) (by omega)]
    exact ⟨_,rfl,by omega⟩
  split
  ·split
   ·exact ⟨_,rfl,by omega⟩
   ·exact k2
  ·exact k2
 obtain ⟨r,hr,hr0⟩ := key
 rw [hr,obs,ifp]
 refine ⟨_,_,rfl,?_,?_,by omega,by omega,by omega,by omega⟩
 ·rw [vaq hr0]; exact vap _ (by omega)
 ·rw [vaq hr0]; exact val _ (by omega)
theorem qhv {m : Int} (x : Int) : ∀ (r pre : LI),okGo m pre (r ++ [x]) = (okGo m pre r && (decide (-1 <= x) && decide (x < m) && (decide (x = -1) || !decide (x ∈ pre ++ r))))
 | [],pre => by simp [okGo]
 | k :: r,pre => by
  show (decide (-1 <= k) && decide (k < m) && (decide (k = -1) || !decide (k ∈ pre)) && okGo m (pre ++ [k]) (r ++ [x])) = (decide (-1 <= k) && decide (k < m) && (decide (k = -1) || !decide (k ∈ pre)) && okGo m (pre ++ [k]) r && _)
  rw [qhv x r (pre ++ [k]),aAs]
  simp only [List.singleton_append,Bool.and_assoc]
theorem qjA (m : LI) (hm : m.length ≤ 3) (L : LI) (hL : L.length ≤ 17592186044415) (hw : ∀ x ∈ L,-9223372036854775808 ≤ x ∧ x < 9223372036854775808) (N : Nat) (hN : N ≤ 5) : ∀ (d i : Nat) (p : Int) (y1 : LI) (y2 : List Bool) (n : Nat),N = i + d → 0 ≤ p → p ≤ 17592186000000 - 2 * d → y1.length = N → y2.length = m.length → okGo m.length [] (y1.take i) = true → (∀ j : Nat,j < m.length → (y2.getD j false = true ↔ (j : Int) ∈ y1.take i)) → d < n →
    ∃ q s,qaS.l0 n m N i L p y1 y2 = some (q,s) ∧ s.length = N ∧ okGo m.length [] s = true ∧ 0 ≤ q ∧ q ≤ p + 2 * d := by
  intro d
  induction d with
  | zero =>
    intro i p y1 y2 n hi h0 hp h1 h2 hok hu hn
    obtain ⟨n,rfl⟩ := sun (n := n)
    rw [qaS.l0,ifq]
    rw [List.take_of_length_le (by omega)] at hok
    exact ⟨_,_,rfl,h1,hok,h0,by omega⟩
  | succ d IH =>
    intro i p y1 y2 n hi h0 hp h1 h2 hok hu hn
    obtain ⟨n,rfl⟩ := sun (n := n)
    have htake : ∀ x : Int,(y1.set i x).take (i + 1) = y1.take i ++ [x] := fun x => by
      rw [List.take_set,vaD,vae (by omega)]
      have : (y1.take i).length = i := by simp; omega
      rw [var,ifq,this,Nat.sub_self]; rfl
    have hidx : (i : Int) + 1 = ((i + 1 : Nat) : Int) := by omega
    rw [qaS.l0,ifp,ifp,tNc,ifp,qaq (n := (i : Int) + 1) (by omega) (by omega),hidx]
    -- without an axis
    have stay : ∀ q,0 ≤ q → q ≤ p + 2 → ∃ q' s,qaS.l0 n m N ((i + 1 : Nat) : Int) L q (y1.set i (-1)) y2 = some (q',s) ∧ s.length = N ∧ okGo m.length [] s = true ∧ 0 ≤ q' ∧ q' ≤ q + 2 * d := fun q hq hq2 => by
      refine IH (i + 1) q (y1.set i (-1)) y2 n (by omega) hq (by omega) (by simpa using h1) h2 ?_ (fun j hj => ?_) (by omega)
      · rw [htake,qhv,hok]; simp; omega
      · rw [htake,vax,hu j hj]; simp
    by_cases c0 : 0 < (m.length : Int)
    · rw [if_pos c0]
      obtain ⟨r,q,e1,r0,r1,q0,q1,q2,q3⟩ := qdb 2 L hL hw p h0 (by omega) (by omega)
      rw [e1,obs]
      dsimp only
      by_cases c1 : r = 0
      · rw [if_pos c1]
        obtain ⟨r',q',e1',r0',r1',q0',q1',q2',q3'⟩ := qdb m.length L hL hw q q0 (by omega) (by omega)
        rw [e1',obs]
        dsimp only
        rw [if_pos ⟨r0',by omega⟩,ifp]
        by_cases c2 : y2.getD r'.toNat false = true
        · rw [if_pos c2]
          obtain ⟨q'',s,g1,g2,g3,g4,g5⟩ := stay q' q0' (by omega)
          exact ⟨q'',s,g1,g2,g3,g4,by omega⟩
        · rw [if_neg c2,if_pos (by simp; omega),if_pos (by simp; omega),List.set_set]
          have hnot : r' ∉ y1.take i := fun h => c2 ((hu r'.toNat (by omega)).2 (by rw [show ((r'.toNat : Nat) : Int) = r' by omega]; exact h))
          obtain ⟨q'',s,g1,g2,g3,g4,g5⟩ := IH (i + 1) q' (y1.set i r') (y2.set r'.toNat true) n (by omega) q0' (by omega) (by simpa using h1) (by simpa using h2) (by
            rw [htake,qhv,hok]; simp [hnot]; omega) (fun j hj => by
            rw [htake,vax,← hu j hj,gDg,gDg,vaE]
            by_cases hjr : r'.toNat = j
            · subst hjr
              rw [if_pos rfl,ifp]
              simp; omega
            · rw [if_neg hjr]
              simp
              omega) (by omega)
          exact ⟨q'',s,g1,g2,g3,g4,by omega⟩
      · rw [if_neg c1]
        obtain ⟨q'',s,g1,g2,g3,g4,g5⟩ := stay q q0 (by omega)
        exact ⟨q'',s,g1,g2,g3,g4,by omega⟩
    · rw [if_neg c0]
      obtain ⟨q'',s,g1,g2,g3,g4,g5⟩ := stay p h0 (by omega)
      exact ⟨q'',s,g1,g2,g3,g4,by omega⟩
theorem qmG (m : LI) (hm : m.length <= 3) (L : LI) (hL : L.length <= 17592186044415) (hw : ∀ x ∈ L,-9223372036854775808 <= x /\ x < 9223372036854775808) (N : Int) (hN0 : 0 <= N) (hN : N <= 5) (p : Int) (h0 : 0 <= p) (hp : p <= 17592185999000) (k : Nat) (hk : 10 <= k) :
  ∃ q s,qaS.f k m N L p = some (q,s) /\ (s.length : Int) = N /\ okGo m.length [] s = true /\ 0 <= q /\ q <= p + 10 := by
 unfold qaS.f
 obtain ⟨q,s,g1,g2,g3,g4,g5⟩ := qjA m hm L hL hw N.toNat (by omega) N.toNat 0 p (vab N.toNat 0) (vab m.length false) k (by omega) h0 (by omega) (by simp) (by simp) rfl (fun j hj => by
  rw [gDg,List.getElem?_replicate]; simp [hj]) (by omega)
 rw [n0] at g1
 rw [ifp,ifp,tNc,vai,g1,obs]
 exact ⟨q,s,rfl,by omega,g3,g4,by omega⟩
end Go.Pf

namespace Go.Pf
open Go Go.Vm
def pr : LI -> Int
 | [] => 1
 | x :: r => x * pr r
def sm : LI -> Int
 | [] => 0
 | x :: r => x + sm r
def okS (x : Int) : Bool := decide (0 <= x) && decide (x <= 32)
def mSR (l : LI) : Bool := decide (l.length <= 4) && l.all okS && decide (pr l <= 4096)
theorem qcZ {x : Int} : okS x = true ↔ 0 <= x /\ x <= 32 := by simp [okS]
theorem p32 {i : Nat} (h : i <= 4) : (1 : Int) <= 32 ^ i /\ (32 : Int) ^ i <= 1048576 := by
 rcases (show i = 0 \/ i = 1 \/ i = 2 \/ i = 3 \/ i = 4 by omega) with e | e | e | e | e <;> subst e <;> decide
theorem qeS (l : LI) (hl : l.length <= 4) : ∀ (d i : Nat) (p : Int) (n : Nat),l.length = i + d -> 0 <= p -> p <= 32 ^ i -> d < n ->
  qaW.l0 n p l l.length i = some (if (l.drop i).all okS = true then .inl (p * pr (l.drop i)) else .inr false)
 | 0,i,p,n,hi,h1,h2,hn => by
  obtain ⟨n,rfl⟩ := sun (n := n)
  rw [qaW.l0,ifq,dNl (by omega)]
  simp [pr]
 | d + 1,i,p,n,hi,h1,h2,hn => by
  obtain ⟨n,rfl⟩ := sun (n := n)
  rw [qaW.l0,ifp,ifp,tNc,qaj (show i < l.length by omega) 0]
  generalize l.getD i 0 = x
  by_cases c1 : x < 0
  ·rw [if_pos c1]; simp [qcZ]; omega
  by_cases c2 : 32 < x
  ·rw [if_neg c1,if_pos c2]; simp [qcZ]; omega
  have hx : okS x = true := qcZ.2 (by omega)
  have h8 := p32 (show i + 1 <= 4 by omega)
  have e8 : (32 : Int) ^ (i + 1) = 32 ^ i * 32 := vam ..
  have hm : 0 <= p * x /\ p * x <= 32 ^ (i + 1) := ⟨vag h1 (by omega),by rw [e8]; exact vah h2 (by omega) (by omega) (by omega)⟩
  rw [if_neg c1,if_neg c2,qaq (n := p * x) (by omega) (by omega),qaq (n := (i : Int) + 1) (by omega) (by omega)]
  have := qeS l hl d (i + 1) (p * x) n (by omega) hm.1 hm.2 (by omega)
  rw [show (i : Int) + 1 = ((i + 1 : Nat) : Int) by omega,this]
  simp [hx,pr,vak]
theorem qbV (l : LI) (k : Nat) (hk : 10 <= k) : qaW.f k l = some (mSR l) := by
 unfold qaW.f
 by_cases h : 4 < (l.length : Int)
 ·rw [if_pos h]; simp [mSR]; omega
 ·have := qeS l (by omega) l.length 0 1 k (by omega) (by omega) (by simp) (by omega)
  rw [if_neg h,show (0 : Int) = ((0 : Nat) : Int) from rfl,this]
  have hl : l.length <= 4 := by omega
  by_cases ha : l.all okS = true
  ·simp [ha,mSR,hl]
  ·simp [ha,mSR]
theorem qar {l : LI} (h : mSR l = true) : l.length <= 4 /\ (∀ x ∈ l,0 <= x /\ x <= 32) /\ pr l <= 4096 := by
 unfold mSR at h
 simp only [bAt,decide_eq_true_eq] at h
 exact ⟨h.1.1,fun x hx => qcZ.1 (vaG.1 h.1.2 x hx),h.2⟩
def T8 : LI := [1,2,3,4,5,0,7,2]
theorem T8_bd : ∀ x ∈ T8,0 <= x /\ x <= 7 := by decide
theorem qiI (L : LI) (hL : L.length <= 17592186044415) (hw : ∀ x ∈ L,-9223372036854775808 <= x /\ x < 9223372036854775808) : ∀ (d : Nat) (p : Int) (y : LI) (n : Nat),0 <= p -> p <= 17592186000000 - d -> y.length + d <= 3 -> (∀ x ∈ y,0 <= x /\ x <= 7) -> d < n ->
  ∃ q s,qaA.l0 n d L p y = some (q,s) /\ s.length = y.length + d /\ (∀ x ∈ s,0 <= x /\ x <= 7) /\ 0 <= q /\ q <= p + d := by
 intro d
 induction d with
 | zero =>
  intro p y n h0 hp hy hb hn
  obtain ⟨n,rfl⟩ := sun (n := n)
  rw [qaA.l0,ifq]
  exact ⟨_,_,rfl,rfl,hb,h0,by omega⟩
 | succ d ih =>
  intro p y n h0 hp hy hb hn
  obtain ⟨n,rfl⟩ := sun (n := n)
  obtain ⟨r,q,e,r0,r1,q0,_,_,q1⟩ := qdb 8 L hL hw p h0 (by omega) (by omega)
  have hl : T8.length = 8 := rfl
  rw [qaA.l0,ifp,e,obs,show ([1,2,3,4,5,0,7,2] : LI) = T8 from rfl]
  dsimp only
  rw [ifp,ifp,if_pos (by simp only [lSi]; omega),qaq (by omega) (by omega),show (((d + 1 : Nat) : Int) - 1) = (d : Int) by omega]
  have hx := T8_bd _ (qas (show r.toNat < T8.length by omega) 0)
  obtain ⟨q',s,e2,h1,h2,h3,h4⟩ := ih q (y ++ [T8.getD r.toNat 0]) n q0 (by omega) (by simp only [lAp,lSi]; omega) (fun x hx' => by
   rcases vax.1 hx' with h | h
   ·exact hb x h
   ·rw [List.mem_singleton.1 h]; exact hx) (by omega)
  exact ⟨q',s,e2,by simp only [lAp,lSi] at h1; omega,h2,h3,by omega⟩
theorem qlV (L : LI) (hL : L.length <= 17592186044415) (hw : ∀ x ∈ L,-9223372036854775808 <= x /\ x < 9223372036854775808) (p : Int) (h0 : 0 <= p) (hp : p <= 17592185990000) (k : Nat) (hk : 10 <= k) :
  ∃ q s,qaA.f k L p = some (q,s) /\ s.length <= 3 /\ (∀ x ∈ s,0 <= x /\ x <= 7) /\ 0 <= q /\ q <= p + 4 := by
 unfold qaA.f
 obtain ⟨r,q,e,r0,r1,q0,_,_,q1⟩ := qdb 4 L hL hw p h0 (by omega) (by omega)
 rw [e,obs]
 dsimp only
 obtain ⟨q',s,e2,h1,h2,h3,h4⟩ := qiI L hL hw r.toNat q [] k q0 (by omega) (by simp only [vas]; omega) (fun x hx => by cases hx) (by omega)
 rw [show ((r.toNat : Nat) : Int) = r by omega] at e2
 rw [e2,obs]
 exact ⟨q',s,rfl,by simp only [vas] at h1; omega,h2,h3,by omega⟩
end Go.Pf

namespace Go.Pf
open Go Go.Vm
def zSz (s : LI) : Int := if mSR s = true then pr s else 0
theorem qos {a b : Bool} (h : a = true ↔ b = true) : a = b := by cases a <;> cases b <;> simp_all
theorem qfx (l : LI) : ∀ (d i : Nat) (p : Int) (n : Nat),l.length = i + d -> i <= 4 -> 0 <= p -> p <= 32 ^ i -> d < n ->
  qaL.l0 n l p i = some (if (l.drop i).all okS = true /\ l.length <= 4 then .inl (p * pr (l.drop i)) else .inr false)
 | 0,i,p,n,hi,h4,h1,h2,hn => by
  obtain ⟨n,rfl⟩ := sun (n := n)
  rw [qaL.l0,ifq,dNl (by omega)]
  simp [pr]; omega
 | d + 1,i,p,n,hi,h4,h1,h2,hn => by
  obtain ⟨n,rfl⟩ := sun (n := n)
  rw [qaL.l0,ifp,ifp,tNc,qaj (show i < l.length by omega) 0]
  generalize l.getD i 0 = x
  by_cases c1 : x < 0
  ·rw [if_pos c1]; simp [qcZ]; omega
  by_cases c2 : 32 < x
  ·rw [if_neg c1,if_pos c2]; simp [qcZ]; omega
  have hx : okS x = true := qcZ.2 (by omega)
  rw [if_neg c1,if_neg c2]
  by_cases c3 : 4 <= (i : Int)
  ·rw [if_pos c3]; simp; omega
  rw [if_neg c3]
  have h8 := p32 (show i + 1 <= 4 by omega)
  have e8 : (32 : Int) ^ (i + 1) = 32 ^ i * 32 := vam ..
  have hm : 0 <= p * x /\ p * x <= 32 ^ (i + 1) := ⟨vag h1 (by omega),by rw [e8]; exact vah h2 (by omega) (by omega) (by omega)⟩
  rw [qaq (n := p * x) (by omega) (by omega),qaq (n := (i : Int) + 1) (by omega) (by omega)]
  have := qfx l d (i + 1) (p * x) n (by omega) (by omega) hm.1 hm.2 (by omega)
  rw [show (i : Int) + 1 = ((i + 1 : Nat) : Int) by omega,this]
  simp [hx,pr,vak]
theorem qem (l : LI) : ∀ (d i : Nat) (p : Int) (n : Nat),4 = i + d -> 4 < l.length -> 0 <= p -> p <= 32 ^ i -> d < n ->
  qaL.l0 n l p i = some (.inr false)
 | 0,i,p,n,hi,h4,h1,h2,hn => by
  obtain ⟨n,rfl⟩ := sun (n := n)
  rw [qaL.l0,ifp,ifp]
  repeat' split
  all_goals first | rfl | omega
 | d + 1,i,p,n,hi,h4,h1,h2,hn => by
  obtain ⟨n,rfl⟩ := sun (n := n)
  rw [qaL.l0,ifp,ifp,tNc]
  generalize l.getD i 0 = x
  by_cases c1 : x < 0
  ·rw [if_pos c1]
  by_cases c2 : 32 < x
  ·rw [if_neg c1,if_pos c2]
  rw [if_neg c1,if_neg c2,ifq]
  have h8 := p32 (show i + 1 <= 4 by omega)
  have e8 : (32 : Int) ^ (i + 1) = 32 ^ i * 32 := vam ..
  have hm : 0 <= p * x /\ p * x <= 32 ^ (i + 1) := ⟨vag h1 (by omega),by rw [e8]; exact vah h2 (by omega) (by omega) (by omega)⟩
  rw [qaq (n := p * x) (by omega) (by omega),qaq (n := (i : Int) + 1) (by omega) (by omega)]
  have := qem l d (i + 1) (p * x) n (by omega) (by omega) hm.1 hm.2 (by omega)
  rw [show (i : Int) + 1 = ((i + 1 : Nat) : Int) by omega,this]
theorem qbj (l : LI) (k : Nat) (hk : 10 <= k) : qaL.f k l = some (mSR l) := by
 unfold qaL.f
 by_cases h4 : l.length <= 4
 ·have := qfx l l.length 0 1 k (by omega) (by omega) (by omega) (by simp) (by omega)
  rw [show (0 : Int) = ((0 : Nat) : Int) from rfl,this]
  by_cases ha : l.all okS = true
  ·simp [ha,mSR,h4]
  ·simp [ha,mSR]
 ·have := qem l 4 0 1 k (by omega) (by omega) (by omega) (by simp) (by omega)
  rw [show (0 : Int) = ((0 : Nat) : Int) from rfl,this]
  simp [mSR]; omega
theorem qct : ∀ {l : LI},(∀ x ∈ l,0 <= x) -> 0 <= pr l
 | [],_ => by decide
 | x :: r,h => vag (h x (vad ..)) (qct fun y hy => h y (mCm _ hy))
theorem qgr (l : LI) (h : ∀ x ∈ l,0 <= x /\ x <= 32) (hl : l.length <= 4) : ∀ (d i : Nat) (p : Int) (n : Nat),l.length = i + d -> 0 <= p -> p <= 32 ^ i -> d < n ->
  qbM.l0 n l p i = some (p * pr (l.drop i))
 | 0,i,p,n,hi,h1,h2,hn => by
  obtain ⟨n,rfl⟩ := sun (n := n)
  rw [qbM.l0,ifq,dNl (by omega)]
  simp [pr]
 | d + 1,i,p,n,hi,h1,h2,hn => by
  obtain ⟨n,rfl⟩ := sun (n := n)
  have hx := h _ (qas (show i < l.length by omega) 0)
  rw [qbM.l0,ifp,ifp,tNc,qaj (show i < l.length by omega) 0]
  generalize l.getD i 0 = x at hx ⊢
  have h8 := p32 (show i + 1 <= 4 by omega)
  have e8 : (32 : Int) ^ (i + 1) = 32 ^ i * 32 := vam ..
  have hm : 0 <= p * x /\ p * x <= 32 ^ (i + 1) := ⟨vag h1 (by omega),by rw [e8]; exact vah h2 (by omega) (by omega) (by omega)⟩
  rw [qaq (n := p * x) (by omega) (by omega),qaq (n := (i : Int) + 1) (by omega) (by omega)]
  have := qgr l h hl d (i + 1) (p * x) n (by omega) hm.1 hm.2 (by omega)
  rw [show (i : Int) + 1 = ((i + 1 : Nat) : Int) by omega,this]
  simp [pr,vak]
theorem qc3 (l : LI) (k : Nat) (hk : 10 <= k) : qbM.f k l = some (zSz l) := by
 unfold qbM.f zSz
 rw [qbj l k hk,obs]
 by_cases h : mSR l = true
 ·obtain ⟨h1,h2,_⟩ := qar h
  have := qgr l h2 h1 l.length 0 1 k (by omega) (by omega) (by simp) (by omega)
  rw [if_pos h,if_pos h,show (0 : Int) = ((0 : Nat) : Int) from rfl,this]
  simp
 ·rw [if_neg h,if_neg h]
def zT (s d : LI) : Bool := mSR s && decide ((d.length : Int) = pr s)
theorem qbK (s d : LI) (k : Nat) (hk : 10 <= k) : qbu.f k s d = some (zT s d) := by
 unfold qbu.f zT
 rw [qbj s k hk,obs,qc3 s k hk,obs]
 by_cases h : mSR s = true
 ·simp [h,zSz]
 ·simp [h]
theorem qbm {s d : LI} (h : zT s d = true) : mSR s = true /\ (d.length : Int) = pr s := by
 unfold zT at h
 simpa using h
def pl : LI -> Int -> LI
 | [],_ => []
 | a :: r,x => (x / pr r) % a :: pl r x
theorem qcV : ∀ (s : LI) (x : Int),(pl s x).length = s.length
 | [],_ => rfl
 | _ :: r,x => by simp [pl,qcV r x]
def ix : LI -> LI -> Int
 | a :: s,b :: p => b * pr s + ix s p
 | _,_ => 0
def mIn : LI -> LI -> Bool
 | [],[] => true
 | a :: s,b :: p => decide (0 <= b) && decide (b < a) && mIn s p
 | _,_ => false
theorem qex : ∀ {s p : LI},mIn s p = true -> p.length = s.length
 | [],[],_ => rfl
 | _ :: s,_ :: p,h => by
  simp only [mIn,bAt] at h
  simp [qex h.2]
 | [],_ :: _,h => by simp [mIn] at h
 | _ :: _,[],h => by simp [mIn] at h
theorem qia : ∀ {s p : LI},mIn s p = true -> 0 <= ix s p /\ ix s p < pr s
 | [],[],_ => by decide
 | a :: s,b :: p,h => by
  simp only [mIn,bAt,decide_eq_true_eq] at h
  obtain ⟨h1,h2⟩ := qia h.2
  have h3 : b * pr s + pr s <= a * pr s := by
   have := van (show b + 1 <= a by omega) (show 0 <= pr s by omega)
   rw [vat,vaC] at this; exact this
  have h4 : 0 <= b * pr s := vag h.1.1 (by omega)
  exact ⟨by show 0 <= b * pr s + ix s p; omega,by show b * pr s + ix s p < a * pr s; omega⟩
 | [],_ :: _,h => by simp [mIn] at h
 | _ :: _,[],h => by simp [mIn] at h
theorem qh6 : ∀ {s : LI},(∀ a ∈ s,0 < a) -> ∀ (x : Int),mIn s (pl s x) = true
 | [],_,_ => rfl
 | a :: s,h,x => by
  have ha := h a (vad ..)
  have := qh6 (s := s) (fun b hb => h b (mCm _ hb)) x
  simp only [pl,mIn,bAt,decide_eq_true_eq]
  exact ⟨⟨vap _ (by omega),val _ ha⟩,this⟩
theorem qll : ∀ {l : LI},(∀ x ∈ l,0 < x) -> 0 < pr l
 | [],_ => by decide
 | x :: r,h => Int.mul_pos (h x (vad ..)) (qll fun y hy => h y (mCm _ hy))
theorem qhr : ∀ {l : LI},(∀ x ∈ l,0 <= x) -> 0 < pr l -> ∀ x ∈ l,0 < x
 | [],_,_,_,h => by cases h
 | y :: r,h0,hp,x,hx => by
  have h1 := h0 y (vad ..)
  have hr := qct (l := r) fun z hz => h0 z (mCm _ hz)
  have hp : 0 < y * pr r := hp
  have hy : y ≠ 0 := fun e => by rw [e,Int.zero_mul] at hp; omega
  have hr' : pr r ≠ 0 := fun e => by rw [e,Int.mul_zero] at hp; omega
  rcases vaf.1 hx with e | hx
  ·omega
  ·exact qhr (fun z hz => h0 z (mCm _ hz)) (by omega) x hx
theorem qj4 : ∀ {s : LI},(∀ a ∈ s,0 < a) -> ∀ (x : Int),ix s (pl s x) = x % pr s
 | [],_,x => by show (0 : Int) = x % 1; omega
 | a :: s,h,x => by
  have ha := h a (vad ..)
  have hs : ∀ b ∈ s,0 < b := fun b hb => h b (mCm _ hb)
  have hp := qll hs
  show (x / pr s) % a * pr s + ix s (pl s x) = x % (a * pr s)
  rw [qj4 hs x]
  have e1 := vaB x (pr s)
  have e2 := vaB (x / pr s) a
  have m1 := vap x (show pr s ≠ 0 by omega)
  have m2 := val x hp
  have m3 := vap (x / pr s) (show a ≠ 0 by omega)
  have m4 := val (x / pr s) ha
  generalize x / pr s = q at *
  generalize x % pr s = r at *
  generalize q / a = q2 at *
  generalize q % a = r2 at *
  generalize pr s = p at *
  have e3 : x = (r2 * p + r) + (a * p) * q2 := by
   rw [<- e1,<- e2]
   simp only [Int.mul_add,vat,vaw,Int.mul_left_comm,vak,Int.add_comm,Int.add_left_comm]
  have h5 : 0 <= r2 * p := vag m3 (by omega)
  have h6 : r2 * p + p <= a * p := by
   have := van (show r2 + 1 <= a by omega) (show 0 <= p by omega)
   rw [vat,vaC] at this; exact this
  rw [e3,Int.add_mul_emod_self_left]
  exact (vau (by omega) (by omega)).symm
theorem qoh {s : LI} (h : ∀ a ∈ s,0 <= a) {x : Int} (h0 : 0 <= x) (h1 : x < pr s) : ix s (pl s x) = x := by
 rw [qj4 (qhr h (by omega))]
 exact vau h0 h1
end Go.Pf

namespace Go.Pf
open Go Go.Vm
theorem qoF : ∀ {s : LI},(∀ a ∈ s,0 < a) -> ∀ (x m : Int),pl s (x + m * pr s) = pl s x
 | [],_,_,_ => rfl
 | a :: s,h,x,m => by
  have hs : ∀ b ∈ s,0 < b := fun b hb => h b (mCm _ hb)
  have hp := qll hs
  have e : x + m * pr (a :: s) = x + (m * a) * pr s := by show x + m * (a * pr s) = _; rw [vak]
  rw [e]
  show ((x + m * a * pr s) / pr s) % a :: pl s (x + m * a * pr s) = (x / pr s) % a :: pl s x
  rw [qoF hs,vaz _ _ (by omega),Int.add_mul_emod_self_right]
theorem qmY : ∀ {s p : LI},mIn s p = true -> pl s (ix s p) = p
 | [],[],_ => rfl
 | a :: s,b :: p,h => by
  have h' := h
  simp only [mIn,bAt,decide_eq_true_eq] at h
  have hb := qia h.2
  have hs : ∀ x ∈ s,0 < x := by
   have : ∀ {s p : LI},mIn s p = true -> ∀ x ∈ s,0 < x := fun {s} => by
    induction s with
    | nil => intro p _ x hx; cases hx
    | cons y s ih =>
     intro p hh x hx
     cases p with
     | nil => simp [mIn] at hh
     | cons z p =>
      simp only [mIn,bAt,decide_eq_true_eq] at hh
      rcases vaf.1 hx with e | hx
      ·omega
      ·exact ih hh.2 x hx
   exact this h.2
  show ((b * pr s + ix s p) / pr s) % a :: pl s (b * pr s + ix s p) = b :: p
  rw [Int.add_comm (b * pr s),qoF hs,qmY h.2,vaz _ _ (by omega),Int.ediv_eq_zero_of_lt hb.1 hb.2,Int.zero_add,vau h.1.1 h.1.2]
 | [],_ :: _,h => by simp [mIn] at h
 | _ :: _,[],h => by simp [mIn] at h
theorem qeg {α : Type} (l : List α) (i j : Nat) (x d : α) : (l.set i x).getD j d = if i = j /\ i < l.length then x else l.getD j d := by
 simp only [gDg,vaE]
 by_cases h : i = j
 ·subst h
  by_cases h2 : i < l.length
  ·simp [h2]
  ·simp [h2]
 ·simp [h]
theorem qo2 {i : Nat} {x : Int} {r : LI} : (vab (i + 1) (0 : Int) ++ r).set i x = vab i 0 ++ x :: r := by
 rw [var,if_pos (by simp)]
 have : vab (i + 1) (0 : Int) = vab i 0 ++ [0] := vaA
 rw [this,var,if_neg (by simp)]
 simp
theorem qfy (s : LI) (hs : ∀ a ∈ s,0 < a /\ a <= 32) (hl : s.length <= 4) (x : Int) (hx : 0 <= x) (hx2 : x <= 1048576) : ∀ (i n : Nat),i <= s.length -> i < n ->
  qa9.l0 n s (x / pr (s.drop i)) ((i : Int) - 1) (vab i 0 ++ pl (s.drop i) x) = some (pl s x)
 | 0,n,hi,hn => by
  obtain ⟨n,rfl⟩ := sun (n := n)
  rw [qa9.l0,ifq]; simp
 | i + 1,n,hi,hn => by
  obtain ⟨n,rfl⟩ := sun (n := n)
  have ha := hs _ (qas (show i < s.length by omega) 0)
  have hd := qaj (show i < s.length by omega) (0 : Int)
  have hp : 0 < pr (s.drop (i + 1)) := qll fun b hb => (hs b (List.mem_of_mem_drop hb)).1
  have ih := qfy s hs hl x hx hx2 i n (by omega) (by omega)
  rw [hd] at ih
  have hlen : (vab (i + 1) (0 : Int) ++ pl (s.drop (i + 1)) x).length = s.length := by
   rw [lAp,qcV,vai,vaF]; omega
  have hq : 0 <= x / pr (s.drop (i + 1)) := Int.ediv_nonneg hx (by omega)
  have hq2 : x / pr (s.drop (i + 1)) <= x := vaH _ hx
  rw [qa9.l0,show ((i + 1 : Nat) : Int) - 1 = (i : Int) by omega,ifp,ifp,tNc,ifp,if_pos (by rw [hlen]; omega),if_pos (by rw [hlen]; omega),qaq (n := (i : Int) - 1) (by omega) (by omega),qo2]
  generalize s.getD i 0 = a at ha ih ⊢
  rw [Int.tdiv_eq_ediv_of_nonneg hq,vaq hq]
  have hq3 : 0 <= x / pr (s.drop (i + 1)) / a := Int.ediv_nonneg hq (by omega)
  have hq4 : x / pr (s.drop (i + 1)) / a <= x / pr (s.drop (i + 1)) := vaH _ hq
  rw [qaq (by omega) (by omega),Int.ediv_ediv_of_nonneg (by omega)]
  rw [show pr (a :: s.drop (i + 1)) = a * pr (s.drop (i + 1)) from rfl,vaw] at ih
  exact ih
theorem qc4 {s : LI} (h : mSR s = true) (hp : 0 < pr s) : ∀ a ∈ s,0 < a /\ a <= 32 := fun a ha =>
 ⟨qhr (fun b hb => ((qar h).2.1 b hb).1) hp a ha,((qar h).2.1 a ha).2⟩
theorem qb6 {s : LI} (h : mSR s = true) {x : Int} (h0 : 0 <= x) (h1 : x < pr s) (k : Nat) (hk : 20 <= k) : qa9.f k s x = some (pl s x) := by
 obtain ⟨hl,_,hb⟩ := qar h
 have := qfy s (qc4 h (by omega)) hl x h0 (by omega) s.length k (Nat.le_refl _) (by omega)
 rw [List.drop_length] at this
 unfold qa9.f
 rw [ifq,qc3 s k (by omega),obs,zSz,if_pos h,ifq,ifp,qaq (n := (s.length : Int) - 1) (by omega) (by omega),tNc]
 rw [show x / pr ([] : LI) = x from Int.ediv_one x,show pl ([] : LI) x = [] from rfl,List.append_nil] at this
 rw [this,obs]
def zIx (s p : LI) : Int := if mSR s = true /\ mIn s p = true then ix s p else -1
theorem qbC {a b : Int} {s p : LI} : mIn (a :: s) (b :: p) = true ↔ (0 <= b /\ b < a) /\ mIn s p = true := by
 simp only [mIn,bAt,decide_eq_true_eq]
theorem qfz (s p : LI) (hs : ∀ a ∈ s,0 <= a /\ a <= 32) (hl : s.length <= 4) (hp : p.length = s.length) : ∀ (d i : Nat) (q : Int) (n : Nat),s.length = i + d -> 0 <= q -> q < 32 ^ i -> d < n ->
  qbz.l0 n s p q i = some (if mIn (s.drop i) (p.drop i) = true then .inl (q * pr (s.drop i) + ix (s.drop i) (p.drop i)) else .inr (-1))
 | 0,i,q,n,hi,h0,h1,hn => by
  obtain ⟨n,rfl⟩ := sun (n := n)
  rw [qbz.l0,ifq,dNl (by omega),dNl (by omega)]
  simp [mIn,pr,ix]
 | d + 1,i,q,n,hi,h0,h1,hn => by
  obtain ⟨n,rfl⟩ := sun (n := n)
  have ha := hs _ (qas (show i < s.length by omega) 0)
  rw [qbz.l0,ifp,ifp,tNc,qaj (show i < s.length by omega) (0 : Int),qaj (show i < p.length by omega) (0 : Int)]
  generalize s.getD i 0 = a at ha ⊢
  generalize p.getD i 0 = b
  by_cases c1 : b < 0
  ·rw [if_pos c1,if_neg (by rw [qbC]; omega)]
  rw [if_neg c1,ifp]
  by_cases c2 : a <= b
  ·rw [if_pos c2,if_neg (by rw [qbC]; omega)]
  rw [if_neg c2]
  have h8 := p32 (show i + 1 <= 4 by omega)
  have e8 : (32 : Int) ^ (i + 1) = 32 ^ i * 32 := vam ..
  have hm0 : 0 <= q * a := vag h0 (by omega)
  have hm1 : q * a + a <= 32 ^ (i + 1) := by
   have := van (show q + 1 <= 32 ^ i by omega) (show 0 <= a by omega)
   rw [vat,vaC] at this
   have h3 : (32 : Int) ^ i * a <= 32 ^ i * 32 := Int.mul_le_mul_of_nonneg_left (by omega) (by omega)
   omega
  rw [qaq (n := q * a) (by omega) (by omega),qaq (n := q * a + b) (by omega) (by omega),qaq (n := (i : Int) + 1) (by omega) (by omega)]
  have := qfz s p hs hl hp d (i + 1) (q * a + b) n (by omega) (by omega) (by omega) (by omega)
  rw [show (i : Int) + 1 = ((i + 1 : Nat) : Int) by omega,this]
  by_cases c : mIn (s.drop (i + 1)) (p.drop (i + 1)) = true
  ·rw [if_pos c,if_pos (qbC.2 ⟨by omega,c⟩)]
   show some (Sum.inl ((q * a + b) * pr (s.drop (i + 1)) + ix (s.drop (i + 1)) (p.drop (i + 1)))) = some (Sum.inl (q * (a * pr (s.drop (i + 1))) + (b * pr (s.drop (i + 1)) + ix (s.drop (i + 1)) (p.drop (i + 1)))))
   rw [vat,vak,Int.add_assoc]
  ·rw [if_neg c,if_neg (by rw [qbC]; exact fun h => c h.2)]
theorem qdE (s p : LI) (k : Nat) (hk : 20 <= k) : qbz.f k s p = some (zIx s p) := by
 unfold qbz.f zIx
 rw [qbj s k (by omega),obs]
 by_cases h : mSR s = true
 ·obtain ⟨hl,h2,_⟩ := qar h
  rw [if_pos h]
  by_cases hp : p.length = s.length
  ·have := qfz s p h2 hl hp s.length 0 0 k (by omega) (by omega) (by simp) (by omega)
   rw [n0,dZr,dZr] at this
   rw [ifp,this]
   by_cases c : mIn s p = true
   ·rw [if_pos c,if_pos ⟨h,c⟩]; simp
   ·rw [if_neg c,if_neg (fun hh => c hh.2)]; simp
  ·rw [ifq,if_neg (fun hh => hp (qex hh.2))]
 ·rw [if_neg h,if_neg (fun hh => h hh.1)]
theorem qcA {s d p : LI} (h : zT s d = true) (c : mIn s p = true) (k : Nat) (hk : 20 <= k) : qca.f k s d p = some (d.getD (ix s p).toNat 0) := by
 obtain ⟨h1,h2⟩ := qbm h
 have hb := qia c
 unfold qca.f
 have hz : zIx s p = ix s p := if_pos ⟨h1,c⟩
 rw [qdE s p k hk,obs,hz,ifp]
end Go.Pf

namespace Go.Pf
open Go Go.Vm
theorem setL {α : Type} (L r : List α) (x v : α) : (L ++ x :: r).set L.length v = (L ++ [v]) ++ r := by
 rw [var,ifq,Nat.sub_self]; simp
theorem getL {α : Type} (L r : List α) (x d : α) : (L ++ x :: r).getD L.length d = x := by
 simp [gDg]
theorem qg0 (g : Nat -> Int) (i d : Nat) (c : Int) : ((vaj i).map g ++ vab (d + 1) c).set i (g i) = (vaj (i + 1)).map g ++ vab d c := by
 have := setL ((vaj i).map g) (vab d c) c (g i)
 rw [vay,List.length_range] at this
 rw [List.replicate_succ,this,List.range_succ,List.map_append]; rfl
theorem qgs (s : LI) (c : Int) (k : Nat) (hk : 10 <= k) (hz : zSz s <= 4096) : ∀ (d i n : Nat),(zSz s).toNat = i + d -> d < n ->
  qa4.l0 k n s c i ([] ++ s) (vab i c) = some (vab (i + d) c)
 | 0,i,n,hi,hn => by
  obtain ⟨n,rfl⟩ := sun (n := n)
  rw [qa4.l0,qc3 s k hk,obs,ifq]; rfl
 | d + 1,i,n,hi,hn => by
  obtain ⟨n,rfl⟩ := sun (n := n)
  rw [qa4.l0,qc3 s k hk,obs,ifp,if_pos (by simp only [vai,lSi]; omega),qaq (n := (i : Int) + 1) (by omega) (by omega)]
  have := qgs s c k hk hz d (i + 1) n (by omega) (by omega)
  rw [show (i : Int) + 1 = ((i + 1 : Nat) : Int) by omega,show vab i c ++ [c] = vab (i + 1) c from vaA.symm,this]
  congr 2; omega
theorem qpu (s : LI) : 0 <= zSz s /\ zSz s <= 4096 := by
 unfold zSz
 by_cases h : mSR s = true
 ·rw [if_pos h]; exact ⟨qct fun x hx => ((qar h).2.1 x hx).1,(qar h).2.2⟩
 ·rw [if_neg h]; omega
theorem qbv (s : LI) (c : Int) (h : s.length <= 1000) (k : Nat) (hk : 120000 <= k) : qa4.f k s c = some (s,vab (zSz s).toNat c) := by
 have hz := qpu s
 have := qgs s c k (by omega) hz.2 (zSz s).toNat 0 k (by omega) (by omega)
 unfold qa4.f
 rw [n0,Nat.zero_add] at this
 rw [ifp,show ([] : LI) = vab 0 c from rfl,show (vab 0 c ++ s) = [] ++ s from rfl,this,obs]
 rfl
theorem qbi (s : LI) (h : s.length <= 1000000) : qaZ.f s = some s := by
 unfold qaZ.f
 rw [ifp]; rfl
def made (s : LI) (f : LI -> Int) : LI := (vaj (pr s).toNat).map fun (i : Nat) => f (pl s i)
theorem ql8 {s : LI} (h : mSR s = true) {f g : LI -> Int} (hfg : ∀ p,mIn s p = true -> f p = g p) : made s f = made s g := by
 unfold made
 apply List.map_congr_left
 intro i hi
 rw [List.mem_range] at hi
 exact hfg _ (qh6 (fun a ha => (qc4 h (by omega) a ha).1) _)
def zAdd : LI -> LI -> LI := List.zipWith (· + ·)
def zSl : LI -> LI -> LI -> Bool
 | [],[],[] => true
 | a :: s,f :: fr,z :: sz => decide (0 <= f /\ f <= a /\ 0 <= z /\ z <= a - f) && zSl s fr sz
 | _,_,_ => false
theorem qcd {a f z : Int} {s fr sz : LI} : zSl (a :: s) (f :: fr) (z :: sz) = true ↔ (0 <= f /\ f <= a /\ 0 <= z /\ z <= a - f) /\ zSl s fr sz = true := by
 simp only [zSl,bAt,decide_eq_true_eq]
theorem qe6 : ∀ {s f z : LI},zSl s f z = true -> f.length = s.length /\ z.length = s.length
 | [],[],[],_ => ⟨rfl,rfl⟩
 | _ :: s,_ :: f,_ :: z,h => by
  have := qe6 (qcd.1 h).2
  simp [this.1,this.2]
 | [],_ :: _,_,h => by simp [zSl] at h
 | [],[],_ :: _,h => by simp [zSl] at h
 | _ :: _,[],_,h => by simp [zSl] at h
 | _ :: _,_ :: _,[],h => by simp [zSl] at h
theorem qe1 (s f z : LI) (hs : ∀ a ∈ s,0 <= a /\ a <= 32) (hl : s.length <= 4) (hf : f.length = s.length) (hz : z.length = s.length) : ∀ (d i n : Nat),s.length = i + d -> d < n ->
  qbH.l0 n f z s s.length i = some (if zSl (s.drop i) (f.drop i) (z.drop i) = true then .inl () else .inr 1)
 | 0,i,n,hi,hn => by
  obtain ⟨n,rfl⟩ := sun (n := n)
  rw [qbH.l0,ifq,dNl (by omega),dNl (by omega),dNl (by omega)]; rfl
 | d + 1,i,n,hi,hn => by
  obtain ⟨n,rfl⟩ := sun (n := n)
  have ha := hs _ (qas (show i < s.length by omega) 0)
  have ih := qe1 s f z hs hl hf hz d (i + 1) n (by omega) (by omega)
  rw [qbH.l0,ifp,ifp,ifp,if_pos (show 0 <= (i : Int) /\ (i : Int) < (z.length : Int) by omega),tNc,qaj (show i < s.length by omega) (0 : Int),qaj (show i < f.length by omega) (0 : Int),qaj (show i < z.length by omega) (0 : Int)]
  generalize s.getD i 0 = a at ha ⊢
  generalize f.getD i 0 = b
  generalize z.getD i 0 = c
  by_cases c1 : b < 0
  ·rw [if_pos c1,if_neg (by rw [qcd]; omega)]
  by_cases c2 : a < b
  ·rw [if_neg c1,if_pos c2,if_neg (by rw [qcd]; omega)]
  by_cases c3 : c < 0
  ·rw [if_neg c1,if_neg c2,if_pos c3,if_neg (by rw [qcd]; omega)]
  rw [if_neg c1,if_neg c2,if_neg c3,qaq (n := a - b) (by omega) (by omega)]
  by_cases c4 : a - b < c
  ·rw [if_pos c4,if_neg (by rw [qcd]; omega)]
  rw [if_neg c4,qaq (n := (i : Int) + 1) (by omega) (by omega),show (i : Int) + 1 = ((i + 1 : Nat) : Int) by omega,ih]
  by_cases c : zSl (s.drop (i + 1)) (f.drop (i + 1)) (z.drop (i + 1)) = true
  ·rw [if_pos c,if_pos (qcd.2 ⟨by omega,c⟩)]
  ·rw [if_neg c,if_neg (fun hh => c (qcd.1 hh).2)]
theorem qjm {s : LI} (h : mSR s = true) (f z : LI) (k : Nat) (hk : 10 <= k) : qbH.f k s f z = some (if zSl s f z = true then 0 else 1) := by
 obtain ⟨hl,hs,_⟩ := qar h
 unfold qbH.f
 by_cases hf : f.length = s.length
 ·by_cases hz : z.length = s.length
  ·have := qe1 s f z hs hl hf hz s.length 0 k (by omega) (by omega)
   rw [n0,dZr,dZr,dZr] at this
   rw [ifp,ifp,this]
   by_cases c : zSl s f z = true
   ·rw [if_pos c,if_pos c]; rfl
   ·rw [if_neg c,if_neg c]; rfl
  ·rw [ifp,ifq,if_neg (fun hh => hz (qe6 hh).2)]
 ·rw [ifq,if_neg (fun hh => hf (qe6 hh).1)]
theorem qfu (f : LI) (p : LI) (hf : ∀ a ∈ f,0 <= a /\ a <= 32) (hp : ∀ a ∈ p,0 <= a /\ a <= 32) (hl : f.length <= 4) (hlen : p.length = f.length) (x2 : LI) (x10 x84 x85 : Int) (y1 y2 y4 y5 : LI) : ∀ (d : Nat) (L : LI) (n : Nat),f.length = L.length + d -> d < n ->
  qaP.l2 n f x2 x10 x84 x85 p.length L.length y1 y2 (L ++ p.drop L.length) y4 y5 = some (L ++ zAdd (p.drop L.length) (f.drop L.length))
 | 0,L,n,hi,hn => by
  obtain ⟨n,rfl⟩ := sun (n := n)
  rw [qaP.l2,ifq,dNl (by omega)]; rfl
 | d + 1,L,n,hi,hn => by
  obtain ⟨n,rfl⟩ := sun (n := n)
  have ha := hf _ (qas (show L.length < f.length by omega) 0)
  have hb := hp _ (qas (show L.length < p.length by omega) 0)
  have ih := qfu f p hf hp hl hlen x2 x10 x84 x85 y1 y2 y4 y5 d (L ++ [p.getD L.length 0 + f.getD L.length 0]) n (by simp; omega) (by omega)
  have hL : (L ++ p.drop L.length).length = f.length := by rw [lAp,vaF]; omega
  rw [qaP.l2,ifp,if_pos (by rw [hL]; omega),if_pos (by rw [hL]; omega),ifp,tNc,qaj (show L.length < p.length by omega) (0 : Int),qaj (show L.length < f.length by omega) (0 : Int),getL,setL,qaq (n := p.getD L.length 0 + f.getD L.length 0) (by omega) (by omega),qaq (n := (L.length : Int) + 1) (by omega) (by omega)]
  rw [lAp,lSi] at ih
  rw [show (L.length : Int) + 1 = ((L.length + 1 : Nat) : Int) by omega,ih]
  simp [zAdd]
theorem qpC {s : LI} (h : mSR s = true) (hp : 0 < pr s) (x : Int) : ∀ a ∈ pl s x,0 <= a /\ a <= 32 := by
 have hs := qc4 h hp
 clear h hp
 induction s with
 | nil => intro a ha; cases ha
 | cons b s ih =>
  have hb := hs b (vad ..)
  intro a ha
  rcases vaf.1 ha with e | ha
  ·have h1 := vap (x / pr s) (show b ≠ 0 by omega)
   have h2 := val (x / pr s) hb.1
   omega
  ·exact ih (fun c hc => hs c (mCm _ hc)) a ha
theorem qk2 : ∀ {s f z : LI},(∀ a ∈ s,0 <= a /\ a <= 32) -> zSl s f z = true -> (∀ a ∈ f,0 <= a /\ a <= 32) /\ (∀ a ∈ z,0 <= a /\ a <= 32) /\ 0 <= pr z /\ pr z <= pr s
 | [],[],[],_,_ => ⟨(by intro a ha; cases ha),(by intro a ha; cases ha),by decide,by decide⟩
 | a :: s,f :: fr,z :: sz,hs,h => by
  obtain ⟨h1,h2⟩ := qcd.1 h
  have ha := hs a (vad ..)
  obtain ⟨i1,i2,i3,i4⟩ := qk2 (fun b hb => hs b (mCm _ hb)) h2
  refine ⟨fun b hb => ?_,fun b hb => ?_,vag (by omega) i3,?_⟩
  ·rcases vaf.1 hb with e | hb
   ·omega
   ·exact i1 b hb
  ·rcases vaf.1 hb with e | hb
   ·omega
   ·exact i2 b hb
  ·show z * pr sz <= a * pr s
   exact vah (by omega) i4 i3 (by omega)
 | [],_ :: _,_,_,h => by simp [zSl] at h
 | [],[],_ :: _,_,h => by simp [zSl] at h
 | _ :: _,[],_,_,h => by simp [zSl] at h
 | _ :: _,_ :: _,[],_,h => by simp [zSl] at h
theorem qnJ {s f z : LI} (h : mSR s = true) (hc : zSl s f z = true) : mSR z = true := by
 obtain ⟨h1,h2,h3⟩ := qar h
 obtain ⟨_,i2,_,i4⟩ := qk2 h2 hc
 have hl := (qe6 hc).2
 unfold mSR
 simp only [bAt,decide_eq_true_eq,vaG]
 exact ⟨⟨by omega,fun x hx => qcZ.2 (i2 x hx)⟩,by omega⟩
theorem qoy : ∀ {s f z p : LI},zSl s f z = true -> mIn z p = true -> mIn s (zAdd p f) = true
 | [],[],[],[],_,_ => rfl
 | a :: s,f :: fr,z :: sz,b :: p,h,hp => by
  obtain ⟨h1,h2⟩ := qcd.1 h
  obtain ⟨h3,h4⟩ := qbC.1 hp
  exact qbC.2 ⟨by show 0 <= b + f /\ b + f < a; omega,qoy h2 h4⟩
 | [],_ :: _,_,_,h,_ => by simp [zSl] at h
 | [],[],_ :: _,_,h,_ => by simp [zSl] at h
 | _ :: _,[],_,_,h,_ => by simp [zSl] at h
 | _ :: _,_ :: _,[],_,h,_ => by simp [zSl] at h
 | [],[],[],_ :: _,_,h => by simp [mIn] at h
 | _ :: _,_ :: _,_ :: _,[],_,h => by simp [mIn] at h
def zCut (s d f z : LI) : LI := made z fun p => d.getD (ix s (zAdd p f)).toNat 0
end Go.Pf

namespace Go.Pf
open Go Go.Vm
theorem qfw (s d f z : LI) (hs : ∀ a ∈ s,0 <= a /\ a <= 32) (hl : s.length <= 4) (hf : f.length = s.length) (hz : z.length = s.length) : ∀ (e i n : Nat),s.length = i + e -> e < n ->
  qaP.l0 n f z f.length i s d = some (if zSl (s.drop i) (f.drop i) (z.drop i) = true then .inl () else .inr 1)
 | 0,i,n,hi,hn => by
  obtain ⟨n,rfl⟩ := sun (n := n)
  rw [qaP.l0,ifq,dNl (by omega),dNl (by omega),dNl (by omega)]; rfl
 | e + 1,i,n,hi,hn => by
  obtain ⟨n,rfl⟩ := sun (n := n)
  have ha := hs _ (qas (show i < s.length by omega) 0)
  have ih := qfw s d f z hs hl hf hz e (i + 1) n (by omega) (by omega)
  rw [qaP.l0,ifp,ifp,if_pos (show 0 <= (i : Int) /\ (i : Int) < (z.length : Int) by omega),if_pos (show 0 <= (i : Int) /\ (i : Int) < (s.length : Int) by omega),tNc,qaj (show i < s.length by omega) (0 : Int),qaj (show i < f.length by omega) (0 : Int),qaj (show i < z.length by omega) (0 : Int)]
  generalize s.getD i 0 = a at ha ⊢
  generalize f.getD i 0 = b
  generalize z.getD i 0 = c
  by_cases c1 : b < 0
  ·rw [if_pos c1,if_neg (by rw [qcd]; omega)]
  by_cases c3 : c < 0
  ·rw [if_neg c1,if_pos c3,if_neg (by rw [qcd]; omega)]
  by_cases c2 : a < b
  ·rw [if_neg c1,if_neg c3,if_pos c2,if_neg (by rw [qcd]; omega)]
  rw [if_neg c1,if_neg c3,if_neg c2,qaq (n := a - b) (by omega) (by omega)]
  by_cases c4 : a - b < c
  ·rw [if_pos c4,if_neg (by rw [qcd]; omega)]
  rw [if_neg c4,qaq (n := (i : Int) + 1) (by omega) (by omega),show (i : Int) + 1 = ((i + 1 : Nat) : Int) by omega,ih]
  by_cases c : zSl (s.drop (i + 1)) (f.drop (i + 1)) (z.drop (i + 1)) = true
  ·rw [if_pos c,if_pos (qcd.2 ⟨by omega,c⟩)]
  ·rw [if_neg c,if_neg (fun hh => c (qcd.1 hh).2)]
theorem qfv {s d f z : LI} (h : zT s d = true) (hc : zSl s f z = true) (k : Nat) (hk : 20 <= k) (y3 : LI) : ∀ (e i n : Nat),(pr z).toNat = i + e -> e + 10 < n ->
  qaP.l1 k n f z (pr z) i s d y3 ((vaj i).map (fun (i : Nat) => d.getD (ix s (zAdd (pl z i) f)).toNat 0) ++ vab e 0) = some (zCut s d f z)
 | 0,i,n,hi,hn => by
  obtain ⟨n,rfl⟩ := sun (n := n)
  have hz := (qk2 (qar (qbm h).1).2.1 hc).2.2.1
  rw [qaP.l1,ifq]
  unfold zCut made
  rw [hi]; simp
 | e + 1,i,n,hi,hn => by
  obtain ⟨n,rfl⟩ := sun (n := n)
  have hr := qnJ (qbm h).1 hc
  have hb := (qar hr).2.2
  have hl := qe6 hc
  have h4 := (qar (qbm h).1).1
  have ih := qfv h hc k hk y3 e (i + 1) n (by omega) (by omega)
  have l2 := qfu f (pl z i) (qk2 (qar (qbm h).1).2.1 hc).1 (qpC hr (by omega) i) (by omega) (by rw [qcV]; omega) z i (pr z) i s d y3 ((vaj i).map (fun (i : Nat) => d.getD (ix s (zAdd (pl z i) f)).toNat 0) ++ vab (e + 1) 0) f.length [] n (by simp) (by omega)
  rw [vas,n0,dZr,dZr,nAp,nAp] at l2
  rw [qaP.l1,ifp,qb6 hr (by omega) (by omega) k hk,obs,l2,obs,qcA h (qoy hc (qh6 (fun a ha => (qc4 hr (by omega) a ha).1) i)) k hk,obs,
   if_pos (by simp; omega),if_pos (by simp),tNc,qg0 (fun (i : Nat) => d.getD (ix s (zAdd (pl z i) f)).toNat 0),qaq (n := (i : Int) + 1) (by omega) (by omega),show (i : Int) + 1 = ((i + 1 : Nat) : Int) by omega]
  exact ih
theorem qjM (s d f z : LI) (k : Nat) (hk : 120000 <= k) : qaP.f k s d f z = some (if zT s d = true then (if zSl s f z = true then (0,z,zCut s d f z) else (1,[],[])) else (13,[],[])) := by
 unfold qaP.f
 rw [qbK s d k (by omega),obs]
 by_cases h : zT s d = true
 ·obtain ⟨hr,_⟩ := qbm h
  obtain ⟨hl,hs,_⟩ := qar hr
  rw [if_pos h,if_pos h]
  by_cases hf : f.length = s.length
  ·by_cases hz : z.length = s.length
   ·have l0 := qfw s d f z hs hl hf hz s.length 0 k (by omega) (by omega)
    rw [n0,dZr,dZr,dZr] at l0
    rw [ifp,ifp,l0,obs]
    by_cases hc : zSl s f z = true
    ·have hz := qnJ hr hc
     have hb := qar hz
     have h0 := qct fun x hx => (hb.2.1 x hx).1
     have := qfv h hc k (by omega) z (pr z).toNat 0 k (by omega) (by omega)
     rw [if_pos hc,if_pos hc,vav,qbv z 0 (by omega) k hk,obs,zSz,if_pos hz,vai,show (((pr z).toNat : Nat) : Int) = pr z by omega]
     rw [n0] at this
     rw [show vab (pr z).toNat (0 : Int) = (vaj 0).map (fun (i : Nat) => d.getD (ix s (zAdd (pl z i) f)).toNat 0) ++ vab (pr z).toNat 0 from rfl,this]
     rfl
    ·rw [if_neg hc,if_neg hc]; rfl
   ·rw [ifp,ifq,if_neg (fun hh => hz (qe6 hh).2)]
  ·rw [ifq,if_neg (fun hh => hf (qe6 hh).1)]
 ·rw [if_neg h,if_neg h]
end Go.Pf

namespace Go.Pf
open Go Go.Vm
def zWi (o : LI) : Int -> LI -> LI -> Bool
 | _,[],[] => true
 | last,x :: s,k :: a => decide (last < k /\ k < (o.length : Int) /\ o.getD k.toNat 0 = x) && zWi o k s a
 | _,_,_ => false
theorem qc8 {o : LI} {l x k : Int} {s a : LI} : zWi o l (x :: s) (k :: a) = true ↔ (l < k /\ k < (o.length : Int) /\ o.getD k.toNat 0 = x) /\ zWi o k s a = true := by
 simp only [zWi,bAt,decide_eq_true_eq]
theorem qg3 {o : LI} : ∀ {l : Int} {s a : LI},zWi o l s a = true -> a.length = s.length
 | _,[],[],_ => rfl
 | _,_ :: s,_ :: a,h => by have := qg3 (qc8.1 h).2; simp [this]
 | _,[],_ :: _,h => by simp [zWi] at h
 | _,_ :: _,[],h => by simp [zWi] at h
def zRi (m : Int) : Int -> LI -> Bool
 | _,[] => true
 | last,k :: a => decide (last < k /\ k < m) && zRi m k a
theorem qcm {m l k : Int} {a : LI} : zRi m l (k :: a) = true ↔ (l < k /\ k < m) /\ zRi m k a = true := by
 simp only [zRi,bAt,decide_eq_true_eq]
def zEq (o : LI) : LI -> LI -> Bool
 | x :: s,k :: a => decide (o.getD k.toNat 0 = x) && zEq o s a
 | _,_ => true
theorem qgP {o : LI} {x k : Int} {s a : LI} : zEq o (x :: s) (k :: a) = true ↔ o.getD k.toNat 0 = x /\ zEq o s a = true := by
 simp only [zEq,bAt,decide_eq_true_eq]
theorem qg4 {o : LI} : ∀ {l : Int} {s a : LI},a.length = s.length -> (zWi o l s a = true ↔ zRi o.length l a = true /\ zEq o s a = true)
 | _,[],[],_ => by simp [zWi,zRi,zEq]
 | l,x :: s,k :: a,h => by
  rw [qc8,qcm,qgP,qg4 (by simpa using h)]
  exact ⟨fun ⟨⟨h1,h2,h3⟩,h4,h5⟩ => ⟨⟨⟨h1,h2⟩,h4⟩,h3,h5⟩,fun ⟨⟨⟨h1,h2⟩,h4⟩,h3,h5⟩ => ⟨⟨h1,h2,h3⟩,h4,h5⟩⟩
 | _,[],_ :: _,h => by simp at h
 | _,_ :: _,[],h => by simp at h
theorem qko {m : Int} : ∀ {l : Int} {a : LI},zRi m l a = true -> ∀ k ∈ a,l < k /\ k < m
 | _,[],_,k,h => by cases h
 | l,b :: a,h,k,hk => by
  obtain ⟨h1,h2⟩ := qcm.1 h
  rcases vaf.1 hk with e | hk
  ·omega
  ·have := qko h2 k hk; omega
theorem qe2 (m : Int) (a : LI) (hl : a.length <= 1000) : ∀ (d i : Nat) (l : Int) (n : Nat),a.length = i + d -> d < n ->
  qa8.l0 n m l a a.length i = some (if zRi m l (a.drop i) = true then .inl () else .inr false)
 | 0,i,l,n,hi,hn => by
  obtain ⟨n,rfl⟩ := sun (n := n)
  rw [qa8.l0,ifq,dNl (by omega)]; rfl
 | d + 1,i,l,n,hi,hn => by
  obtain ⟨n,rfl⟩ := sun (n := n)
  have ih := qe2 m a hl d (i + 1) (a.getD i 0) n (by omega) (by omega)
  rw [qa8.l0,ifp,ifp,tNc,qaj (show i < a.length by omega) (0 : Int)]
  generalize a.getD i 0 = b at ih ⊢
  by_cases c1 : b <= l
  ·rw [if_pos c1,if_neg (by rw [qcm]; omega)]
  by_cases c2 : m <= b
  ·rw [if_neg c1,if_pos c2,if_neg (by rw [qcm]; omega)]
  rw [if_neg c1,if_neg c2,qaq (n := (i : Int) + 1) (by omega) (by omega),show (i : Int) + 1 = ((i + 1 : Nat) : Int) by omega,ih]
  by_cases c : zRi m b (a.drop (i + 1)) = true
  ·rw [if_pos c,if_pos (qcm.2 ⟨by omega,c⟩)]
  ·rw [if_neg c,if_neg (fun hh => c (qcm.1 hh).2)]
theorem qfO (s o a : LI) (hl : s.length <= 4) (ha : a.length = s.length) (hr : ∀ k ∈ a,0 <= k /\ k < (o.length : Int)) : ∀ (d i n : Nat),a.length = i + d -> d < n ->
  qb2.l0 n s o a a.length i = some (if zEq o (s.drop i) (a.drop i) = true then .inl () else .inr 1)
 | 0,i,n,hi,hn => by
  obtain ⟨n,rfl⟩ := sun (n := n)
  rw [qb2.l0,ifq,dNl (by omega),dNl (by omega)]; rfl
 | d + 1,i,n,hi,hn => by
  obtain ⟨n,rfl⟩ := sun (n := n)
  have ih := qfO s o a hl ha hr d (i + 1) n (by omega) (by omega)
  have hk := hr _ (qas (show i < a.length by omega) 0)
  rw [qb2.l0,ifp,ifp,tNc,if_pos hk,ifp,qaj (show i < a.length by omega) (0 : Int),qaj (show i < s.length by omega) (0 : Int)]
  generalize a.getD i 0 = b
  generalize s.getD i 0 = x
  by_cases c1 : o.getD b.toNat 0 = x
  ·rw [if_pos c1,qaq (n := (i : Int) + 1) (by omega) (by omega),show (i : Int) + 1 = ((i + 1 : Nat) : Int) by omega,ih]
   by_cases c : zEq o (s.drop (i + 1)) (a.drop (i + 1)) = true
   ·rw [if_pos c,if_pos (qgP.2 ⟨c1,c⟩)]
   ·rw [if_neg c,if_neg (fun hh => c (qgP.1 hh).2)]
  ·rw [if_neg c1,if_neg (fun hh => c1 (qgP.1 hh).1)]
theorem qkl {s : LI} (hl : s.length ≤ 4) (o a : LI) (k : Nat) (hk : 10 ≤ k) : qb2.f k s o a = some (if mSR o = true then (if zWi o (-1) s a = true then 0 else 1) else 13) := by
  unfold qb2.f
  rw [qbV o k hk,obs]
  by_cases ho : mSR o = true
  · rw [if_pos ho,if_pos ho]
    by_cases ha : a.length = s.length
    · have e1 := qe2 o.length a (by omega) a.length 0 (-1) k (by omega) (by omega)
      rw [n0,dZr] at e1
      rw [ifp]
      unfold qa8.f
      rw [e1]
      by_cases hr : zRi o.length (-1) a = true
      · have e2 := qfO s o a hl ha (fun k hk => by have := qko hr k hk; omega) a.length 0 k (by omega) (by omega)
        rw [n0,dZr,dZr] at e2
        rw [if_pos hr,obs,vav,obs,if_pos rfl,e2]
        by_cases c : zEq o s a = true
        · rw [if_pos c,if_pos ((qg4 ha).2 ⟨hr,c⟩)]; rfl
        · rw [if_neg c,if_neg (fun hh => c ((qg4 ha).1 hh).2)]; rfl
      · rw [if_neg hr,if_neg (fun hh => hr ((qg4 ha).1 hh).1)]; rfl
    · rw [ifq,if_neg (fun hh => ha (qg3 hh))]
  · rw [if_neg ho,if_neg ho]
def pick (p a : LI) : LI := a.map fun k => p.getD k.toNat 0
theorem qo6 {o p : LI} (hp : mIn o p = true) : ∀ {l : Int} {s a : LI},-1 <= l -> zWi o l s a = true -> mIn s (pick p a) = true := by
 have hg : ∀ {o p : LI},mIn o p = true -> ∀ j,j < o.length -> 0 <= p.getD j 0 /\ p.getD j 0 < o.getD j 0 := fun {o} => by
  induction o with
  | nil => intro p _ j hj; cases hj
  | cons x o ih =>
   intro p h j hj
   cases p with
   | nil => simp [mIn] at h
   | cons y p =>
    obtain ⟨h1,h2⟩ := qbC.1 h
    cases j with
    | zero => exact h1
    | succ j => exact ih h2 j (by simpa using hj)
 intro l s
 induction s generalizing l with
 | nil =>
  intro a _ h
  cases a with
  | nil => rfl
  | cons _ _ => simp [zWi] at h
 | cons x s ih =>
  intro a hl h
  cases a with
  | nil => simp [zWi] at h
  | cons k a =>
   obtain ⟨⟨h1,h2,h3⟩,h4⟩ := qc8.1 h
   have := hg hp k.toNat (by omega)
   exact qbC.2 ⟨by show 0 <= p.getD k.toNat 0 /\ p.getD k.toNat 0 < x; omega,ih (by omega) h4⟩
def zSpr (s d o a : LI) : LI := made o fun p => d.getD (ix s (pick p a)).toNat 0
theorem qeT (p a : LI) (hl : a.length <= 4) (hr : ∀ k ∈ a,0 <= k /\ k < (p.length : Int)) (x1 : LI) (x10 x86 x87 : Int) (s d y5 y6 : LI) : ∀ (e : Nat) (L : LI) (n : Nat),a.length = L.length + e -> e < n ->
  qaC.l2 n x1 a x10 x86 x87 a.length L.length s d p L y5 y6 = some (L ++ pick p (a.drop L.length))
 | 0,L,n,hi,hn => by
  obtain ⟨n,rfl⟩ := sun (n := n)
  rw [qaC.l2,ifq,dNl (by omega)]
  simp [pick]
 | e + 1,L,n,hi,hn => by
  obtain ⟨n,rfl⟩ := sun (n := n)
  have hk := hr _ (qas (show L.length < a.length by omega) 0)
  have ih := qeT p a hl hr x1 x10 x86 x87 s d y5 y6 e (L ++ [p.getD (a.getD L.length 0).toNat 0]) n (by simp; omega) (by omega)
  rw [qaC.l2,ifp,ifp,tNc,if_pos hk,ifp,if_pos (by simp only [lSi]; omega),qaq (n := (L.length : Int) + 1) (by omega) (by omega)]
  rw [lAp,lSi] at ih
  rw [show (L.length : Int) + 1 = ((L.length + 1 : Nat) : Int) by omega,ih,qaj (show L.length < a.length by omega) (0 : Int)]
  simp [pick]
theorem qeV (s d o a : LI) (hl : s.length <= 4) (ha : a.length = s.length) : ∀ (e i n : Nat),a.length = i + e -> e < n -> ∀ (l : Int),(i = 0 -> l = -1) -> (0 < i -> l = a.getD (i - 1) 0 /\ 0 <= l) ->
  qaC.l0 n o a a.length i s d = some (if zWi o l (s.drop i) (a.drop i) = true then .inl () else .inr 1)
 | 0,i,n,hi,hn,l,l0,l1 => by
  obtain ⟨n,rfl⟩ := sun (n := n)
  rw [qaC.l0,ifq,dNl (by omega),dNl (by omega)]; rfl
 | e + 1,i,n,hi,hn,l,l0,l1 => by
  obtain ⟨n,rfl⟩ := sun (n := n)
  have ih := qeV s d o a hl ha e (i + 1) n (by omega) (by omega) (a.getD i 0) (by omega)
  rw [Nat.add_sub_cancel] at ih
  rw [qaC.l0,ifp,ifp,tNc,qaj (show i < a.length by omega) (0 : Int),qaj (show i < s.length by omega) (0 : Int)]
  rw [qaq (n := (i : Int) + 1) (by omega) (by omega),show (i : Int) + 1 = ((i + 1 : Nat) : Int) by omega]
  rw [show iW.wrap ((i : Int) - 1) = (i : Int) - 1 from qaq (by omega) (by omega),show ((i : Int) - 1).toNat = i - 1 by omega]
  generalize a.getD i 0 = b at ih ⊢
  generalize s.getD i 0 = x
  by_cases c1 : b < 0
  ·rw [if_pos c1,if_neg (fun hh => by
    have hlb := (qc8.1 hh).1.1
    rcases Nat.eq_zero_or_pos i with e | e
    ·have := l0 e; omega
    ·have := (l1 e).2; omega)]
  by_cases c2 : (o.length : Int) <= b
  ·rw [if_neg c1,if_pos c2,if_neg (by rw [qc8]; omega)]
  rw [if_neg c1,if_neg c2]
  have tail : ∀ (hlb : l < b),(if 0 <= b /\ b < (o.length : Int) then if 0 <= (i : Int) /\ (i : Int) < (s.length : Int) then if o.getD b.toNat 0 = x then (qaC.l0 n o a a.length ((i + 1 : Nat) : Int) s d) else some (.inr 1) else none else none) = some (if zWi o l (x :: s.drop (i + 1)) (b :: a.drop (i + 1)) = true then .inl () else .inr 1) := by
   intro hlb
   rw [ifp,ifp]
   by_cases c3 : o.getD b.toNat 0 = x
   ·rw [if_pos c3,ih (fun _=>⟨rfl,by omega⟩)]
    by_cases c : zWi o b (s.drop (i + 1)) (a.drop (i + 1)) = true
    ·rw [if_pos c,if_pos (qc8.2 ⟨⟨hlb,by omega,c3⟩,c⟩)]
    ·rw [if_neg c,if_neg (fun hh => c (qc8.1 hh).2)]
   ·rw [if_neg c3,if_neg (fun hh => c3 (qc8.1 hh).1.2.2)]
  by_cases ci : 0 < (i : Int)
  ·obtain ⟨e1,e2⟩ := l1 (by omega)
   rw [if_pos ci,ifp,<- e1]
   by_cases c3 : b <= l
   ·rw [if_pos c3,if_neg (by rw [qc8]; omega)]
   ·rw [if_neg c3]; exact tail (by omega)
  ·rw [if_neg ci]
   have := l0 (by omega)
   exact tail (by omega)
theorem qeU {s d o a : LI} (h : zT s d = true) (ho : mSR o = true) (hc : zWi o (-1) s a = true) (k : Nat) (hk : 20 <= k) (y3 : LI) : ∀ (e i n : Nat),(pr o).toNat = i + e -> e + 10 < n ->
  qaC.l1 k n o a (pr o) i s d y3 ((vaj i).map (fun (i : Nat) => d.getD (ix s (pick (pl o i) a)).toNat 0) ++ vab e 0) = some (zSpr s d o a)
 | 0,i,n,hi,hn => by
  obtain ⟨n,rfl⟩ := sun (n := n)
  rw [qaC.l1,ifq]
  unfold zSpr made
  rw [hi]; simp
 | e + 1,i,n,hi,hn => by
  obtain ⟨n,rfl⟩ := sun (n := n)
  have hb := (qar ho).2.2
  have ha := qg3 hc
  have hr := ((qg4 ha).1 hc).1
  have h4 := (qar (qbm h).1).1
  have ih := qeU h ho hc k hk y3 e (i + 1) n (by omega) (by omega)
  have l2 := qeT (pl o i) a (by omega) (fun k hk => by rw [qcV]; have := qko hr k hk; omega) o i (pr o) i s d y3 ((vaj i).map (fun (i : Nat) => d.getD (ix s (pick (pl o i) a)).toNat 0) ++ vab (e + 1) 0) a.length [] n (by simp) (by omega)
  rw [vas,n0,dZr,nAp] at l2
  rw [qaC.l1,ifp,qb6 ho (by omega) (by omega) k hk,obs,l2,obs,qcA h (qo6 (qh6 (fun b hb => (qc4 ho (by omega) b hb).1) i) (by omega) hc) k hk,obs,
   if_pos (by simp; omega),if_pos (by simp),tNc,qg0 (fun (i : Nat) => d.getD (ix s (pick (pl o i) a)).toNat 0),qaq (n := (i : Int) + 1) (by omega) (by omega),show (i : Int) + 1 = ((i + 1 : Nat) : Int) by omega]
  exact ih
theorem qiZ (s d o a : LI) (k : Nat) (hk : 120000 ≤ k) : qaC.f k s d o a = some (if zT s d = true then (if mSR o = true then (if zWi o (-1) s a = true then (0,o,zSpr s d o a) else (1,[],[])) else (13,[],[])) else (13,[],[])) := by
  unfold qaC.f
  rw [qbK s d k (by omega),obs]
  by_cases h : zT s d = true
  · obtain ⟨hr,_⟩ := qbm h
    have h4 := (qar hr).1
    rw [if_pos h,if_pos h,qbj o k (by omega),obs]
    by_cases ho : mSR o = true
    · rw [if_pos ho,if_pos ho]
      by_cases ha : a.length = s.length
      · have l0 := qeV s d o a h4 ha a.length 0 k (by omega) (by omega) (-1) (fun _=>rfl) (by omega)
        rw [n0,dZr,dZr] at l0
        rw [ifp,l0,obs]
        by_cases hc : zWi o (-1) s a = true
        · have hb := qar ho
          have h0 := qct fun x hx => (hb.2.1 x hx).1
          have this := qeU h ho hc k (by omega) o (pr o).toNat 0 k (by omega) (by omega)
          rw [if_pos hc,if_pos hc,vav,qbv o 0 (by omega) k hk,obs,zSz,if_pos ho,vai,show (((pr o).toNat : Nat) : Int) = pr o by omega]
          rw [n0] at this
          rw [show vab (pr o).toNat (0 : Int) = (vaj 0).map (fun (i : Nat) => d.getD (ix s (pick (pl o i) a)).toNat 0) ++ vab (pr o).toNat 0 from rfl,this]
          rfl
        · rw [if_neg hc,if_neg hc]; rfl
      · rw [ifq,if_neg (fun hh => ha (qg3 hh))]
    · rw [if_neg ho,if_neg ho]
  · rw [if_neg h,if_neg h]
end Go.Pf

namespace Go.Pf
open Go Go.Vm
def zPm (m : Int) : LI -> LI -> Bool
 | _,[] => true
 | seen,k :: a => decide (0 <= k /\ k < m /\ k ∉ seen) && zPm m (k :: seen) a
theorem qcK {m k : Int} {seen a : LI} : zPm m seen (k :: a) = true ↔ (0 <= k /\ k < m /\ k ∉ seen) /\ zPm m (k :: seen) a = true := by
 simp only [zPm,bAt,decide_eq_true_eq]
theorem qkp {m : Int} : ∀ {a seen : LI},zPm m seen a = true -> (∀ k ∈ a,0 <= k /\ k < m /\ k ∉ seen) /\ a.Nodup
 | [],_,_ => ⟨fun k hk => (by cases hk),List.nodup_nil⟩
 | b :: a,seen,h => by
  obtain ⟨h1,h2⟩ := qcK.1 h
  obtain ⟨i1,i2⟩ := qkp h2
  refine ⟨fun k hk => ?_,vao.2 ⟨fun hb => (i1 b hb).2.2 (vad ..),i2⟩⟩
  rcases vaf.1 hk with e | hk
  ·subst e; exact h1
  ·have := i1 k hk
   exact ⟨this.1,this.2.1,fun hs => this.2.2 (mCm _ hs)⟩
theorem qoz {m : Int} : ∀ {a seen : LI},(∀ k ∈ a,0 <= k /\ k < m /\ k ∉ seen) -> a.Nodup -> zPm m seen a = true
 | [],_,_,_ => rfl
 | b :: a,seen,h,hn => by
  obtain ⟨n1,n2⟩ := vao.1 hn
  refine qcK.2 ⟨h b (vad ..),qoz (fun k hk => ?_) n2⟩
  have := h k (mCm _ hk)
  refine ⟨this.1,this.2.1,fun hs => ?_⟩
  rcases vaf.1 hs with e | hs
  ·subst e; exact n1 hk
  ·exact this.2.2 hs
theorem php : ∀ (n : Nat) (l : LI),l.Nodup -> (∀ x ∈ l,0 <= x /\ x < (n : Int)) -> l.length <= n
 | 0,l,_,h => by
  cases l with
  | nil => exact Nat.le_refl _
  | cons x l => have := h x (vad ..); omega
 | n + 1,l,hn,h => by
  by_cases hm : (n : Int) ∈ l
  ·have h1 := php n (l.erase n) (hn.erase _) fun x hx => by
    have h2 := (hn.mem_erase_iff).1 hx
    have := h x h2.2
    have h3 := h2.1
    omega
   rw [List.length_erase_of_mem hm] at h1
   omega
  ·have h1 := php n l hn fun x hx => by
    have := h x hx
    have h3 : x ≠ n := fun e => hm (e ▸ hx)
    omega
   omega
theorem qm1 {n : Nat} {l : LI} (hn : l.Nodup) (h : ∀ x ∈ l,0 <= x /\ x < (n : Int)) (hl : l.length = n) {j : Int} (h0 : 0 <= j) (h1 : j < n) : j ∈ l := by
 refine Classical.byContradiction fun hj => ?_
 have := php n (j :: l) (vao.2 ⟨hj,hn⟩) fun x hx => by
  rcases vaf.1 hx with e | hx
  ·omega
  ·exact h x hx
 rw [lCo] at this; omega
def scat : LI -> LI -> LI -> LI
 | y,k :: a,x :: p => scat (y.set k.toNat x) a p
 | y,_,_ => y
theorem qle : ∀ (y a p : LI),(scat y a p).length = y.length
 | y,k :: a,x :: p => by rw [scat,qle]; simp
 | y,[],_ => by rw [scat]; intros; simp_all
 | y,_ :: _,[] => by rw [scat]; intros; simp_all
theorem qld : ∀ (y a p : LI) (j : Nat),(∀ k ∈ a,0 <= k) -> (j : Int) ∉ a -> (scat y a p).getD j 0 = y.getD j 0
 | y,k :: a,x :: p,j,hk,hj => by
  have h0 := hk k (vad ..)
  have h1 : k ≠ j := fun e => hj (e ▸ vad ..)
  rw [scat,qld _ a p j (fun z hz => hk z (mCm _ hz)) (fun h => hj (mCm _ h)),qeg,ifq]
 | y,[],_,j,_,_ => by rw [scat]; intros; simp_all
 | y,_ :: _,[],j,_,_ => by rw [scat]; intros; simp_all
theorem qmL : ∀ (y a p : LI) (i : Nat),(∀ k ∈ a,0 <= k /\ k < (y.length : Int)) -> a.Nodup -> i < a.length -> i < p.length -> (scat y a p).getD (a.getD i 0).toNat 0 = p.getD i 0
 | y,k :: a,x :: p,0,hk,hn,_,_ => by
  have h0 := hk k (vad ..)
  obtain ⟨n1,n2⟩ := vao.1 hn
  show (scat (y.set k.toNat x) a p).getD k.toNat 0 = x
  rw [qld _ a p _ (fun z hz => (hk z (mCm _ hz)).1) (by rw [show ((k.toNat : Nat) : Int) = k by omega]; exact n1),qeg,ifp]
 | y,k :: a,x :: p,i + 1,hk,hn,h1,h2 => by
  obtain ⟨n1,n2⟩ := vao.1 hn
  exact qmL (y.set k.toNat x) a p i (fun z hz => by rw [List.length_set]; exact hk z (mCm _ hz)) n2 (by simpa using h1) (by simpa using h2)
 | _,[],_,_,_,_,h,_ => by simp at h
 | _,_ :: _,[],_,_,_,_,h => by simp at h
structure Perm' (n : Nat) (a : LI) : Prop where
 len : a.length = n
 mem : ∀ k ∈ a,0 <= k /\ k < (n : Int)
 nd : a.Nodup
theorem qk3 {n : Nat} {a : LI} (hl : a.length = n) : zPm n [] a = true ↔ Perm' n a :=
 ⟨fun h => ⟨hl,fun k hk => by have := (qkp h).1 k hk; omega,(qkp h).2⟩,fun h => qoz (fun k hk => by have := h.mem k hk; exact ⟨this.1,this.2,by simp⟩) h.nd⟩
theorem Perm'.get {n : Nat} {a : LI} (h : Perm' n a) {j : Nat} (hj : j < n) : ∃ i,i < n /\ a.getD i 0 = j := by
 have := qm1 h.nd h.mem h.len (j := (j : Int)) (by omega) (by omega)
 obtain ⟨i,hi,he⟩ := List.getElem_of_mem this
 exact ⟨i,by have := h.len; omega,by rw [gDg,vae hi,he]; rfl⟩
theorem qok {a b : LI} (hl : a.length = b.length) (h : ∀ i,i < a.length -> a.getD i 0 = b.getD i 0) : a = b := by
 apply List.ext_getElem hl
 intro i h1 h2
 have := h i h1
 rwa [gDg,gDg,vae h1,vae h2] at this
theorem qn4 {p a : LI} {i : Nat} (h : i < a.length) : (pick p a).getD i 0 = p.getD (a.getD i 0).toNat 0 := by
 unfold pick
 rw [gDg,List.getElem?_map,vae h,gDg (l := a),vae h]; rfl
theorem qey : ∀ {s p : LI},mIn s p = true -> ∀ j,j < s.length -> 0 <= p.getD j 0 /\ p.getD j 0 < s.getD j 0
 | [],[],_,j,hj => by simp at hj
 | x :: s,y :: p,h,0,_ => (qbC.1 h).1
 | x :: s,y :: p,h,j + 1,hj => qey (qbC.1 h).2 j (by simpa using hj)
 | [],_ :: _,h,_,_ => by simp [mIn] at h
 | _ :: _,[],h,_,_ => by simp [mIn] at h
theorem qjX : ∀ {s p : LI},p.length = s.length -> (∀ j,j < s.length -> 0 <= p.getD j 0 /\ p.getD j 0 < s.getD j 0) -> mIn s p = true
 | [],[],_,_ => rfl
 | x :: s,y :: p,hl,h => qbC.2 ⟨h 0 (by simp),qjX (by simpa using hl) fun j hj => h (j + 1) (by simpa using hj)⟩
 | [],_ :: _,hl,_ => by simp at hl
 | _ :: _,[],hl,_ => by simp at hl
theorem qoZ {s a p y : LI} (h : Perm' s.length a) (hp : mIn (pick s a) p = true) (hy : y.length = s.length) : mIn s (scat y a p) = true := by
 have hl := qex hp
 rw [pick,vay,h.len] at hl
 refine qjX (by rw [qle,hy]) fun j hj => ?_
 obtain ⟨i,hi,e⟩ := h.get hj
 have e1 := qmL y a p i (fun k hk => by rw [hy]; exact h.mem k hk) h.nd (by rw [h.len]; exact hi) (by omega)
 have e2 := qey hp i (by rw [pick,vay,h.len]; exact hi)
 rw [qn4 (by rw [h.len]; exact hi)] at e2
 rw [e,tNc] at e1 e2
 rw [e1]; exact e2
end Go.Pf
