/- Own texts put together: P14, P16, P5 .. -/
import Derived.Test.YtmdhoglicfmakaaVm2
import Derived.Test.YtmdhoglicfmakaaVm0
import Derived.Lib.ItoaNum
import Derived.Lib.Join
import Derived.Lib.ParseIntB
import Derived.Laws.BytesArg
namespace Go.Pf
abbrev LI := List Int
abbrev LN := Int × LI × LI × LI × Int × Int × ByteArray
abbrev ln0 : LN := (0,([],([],([],(0,(0,ByteArray.empty))))))
abbrev LT := LI × LI
theorem obs {α β : Type} (a : α) (f : α → Option β) : (some a).bind f = f a := rfl
theorem ifp {c : Prop} [Decidable c] {α : Type} {a b : α} (h : c := by omega) : (if c then a else b) = a := if_pos h
theorem ifq {c : Prop} [Decidable c] {α : Type} {a b : α} (h : ¬ c := by omega) : (if c then a else b) = b := if_neg h
theorem sun {n : Nat} (h : 0 < n := by omega) : ∃ m, n = m + 1 := ⟨n - 1,by omega⟩
theorem lSi {α : Type} {a : α} : [a].length = 1 := rfl
theorem tNc (n : Nat) : (n : Int).toNat = n := Int.toNat_natCast n
theorem dNl {α : Type} {l : List α} {i : Nat} (h : l.length ≤ i) : l.drop i = [] := List.drop_eq_nil_of_le h
theorem lAp {α : Type} {a b : List α} : (a ++ b).length = a.length + b.length := List.length_append
theorem gDg {α : Type} {l : List α} {i : Nat} {a : α} : l.getD i a = l[i]?.getD a := List.getD_eq_getElem?_getD
theorem dZr {α : Type} {l : List α} : l.drop 0 = l := rfl
theorem lCo {α : Type} {a : α} {l : List α} : (a :: l).length = l.length + 1 := rfl
theorem mCm {α : Type} (y : α) {a : α} {l : List α} (h : a ∈ l) : a ∈ y :: l := List.mem_cons_of_mem y h
theorem lTk {α : Type} {i : Nat} {l : List α} : (l.take i).length = min i l.length := List.length_take
theorem nAp {α : Type} (a : List α) : [] ++ a = a := rfl
theorem aAs {α : Type} (a b c : List α) : a ++ b ++ c = a ++ (b ++ c) := List.append_assoc a b c
theorem bAt (a b : Bool) : ((a && b) = true) = (a = true ∧ b = true) := Bool.and_eq_true a b
end Go.Pf

set_option linter.unusedVariables false
set_option linter.unusedSimpArgs false
namespace Go.Pf
open Go
def qbi.f (a0 : Int) (a1 : Int) (a2 : Int) : Option (Int) := if a1 ≤ a0 then (if a0 ≤ a2 then (some a0) else if IntKind.i64.wrap ((IntKind.i64.wrap (a2 - a1)) + 1) ≠ 0 then if a0.tmod (IntKind.i64.wrap ((IntKind.i64.wrap (a2 - a1)) + 1)) < 0 then (some (IntKind.i64.wrap (a1 + (IntKind.i64.wrap ((IntKind.i64.wrap ((IntKind.i64.wrap ((a0.tmod (IntKind.i64.wrap ((IntKind.i64.wrap (a2 - a1)) + 1))) + a2)) - a1)) + 1))))) else some (IntKind.i64.wrap (a1 + (a0.tmod (IntKind.i64.wrap ((IntKind.i64.wrap (a2 - a1)) + 1))))) else none) else if IntKind.i64.wrap ((IntKind.i64.wrap (a2 - a1)) + 1) ≠ 0 then if a0.tmod (IntKind.i64.wrap ((IntKind.i64.wrap (a2 - a1)) + 1)) < 0 then (some (IntKind.i64.wrap (a1 + (IntKind.i64.wrap ((IntKind.i64.wrap ((IntKind.i64.wrap ((a0.tmod (IntKind.i64.wrap ((IntKind.i64.wrap (a2 - a1)) + 1))) + a2)) - a1)) + 1))))) else some (IntKind.i64.wrap (a1 + (a0.tmod (IntKind.i64.wrap ((IntKind.i64.wrap (a2 - a1)) + 1))))) else none
end Go.Pf

namespace Go.Pf
open Go
def qap.f (a1 : Int) (o0_0 : LI) (o0_1 : Int) : Option (Int × Int) := if (o0_0.length : Int) ≤ o0_1 then (some (0,o0_1)) else if a1 < 1 then (some (0,o0_1)) else if 0 ≤ IntKind.i64.wrap ((IntKind.i64.wrap (o0_1 + 1)) - 1) ∧ IntKind.i64.wrap ((IntKind.i64.wrap (o0_1 + 1)) - 1) < (o0_0.length : Int) then (qbi.f (o0_0.getD (IntKind.i64.wrap ((IntKind.i64.wrap (o0_1 + 1)) - 1)).toNat 0) 0 1073741824).bind fun t1 => if a1 ≠ 0 then some (t1.tmod a1,IntKind.i64.wrap (o0_1 + 1)) else none else none
end Go.Pf

namespace Go.Pf
open Go
def qaJ.f (o0_0 : LI) (o0_1 : Int) : Option (Int × Int) := (qap.f 9 o0_0 o0_1).bind fun t1 => if t1.1 = 0 then ((qap.f 6 o0_0 t1.2).bind fun t2 => if 0 ≤ t2.1 ∧ t2.1 < (([9223372036854775807,-9223372036854775808,4611686018427387904,-1099511627776,8589934592,3037000500] : LI).length : Int) then if t2.1.toNat < ([9223372036854775807,-9223372036854775808,4611686018427387904,-1099511627776,8589934592,3037000500] : LI).length then some (([9223372036854775807,-9223372036854775808,4611686018427387904,-1099511627776,8589934592,3037000500] : LI).getD t2.1.toNat 0,t2.2) else none else none) else if t1.1 = 1 then (some (0,t1.2)) else (qap.f 19 o0_0 t1.2).bind fun t3 => some (IntKind.i64.wrap (t3.1 - 9),t3.2)
def qaC.f (a0 : LI) : Option (LI) := if 0 + a0.length ≤ 281474976710656 ∧ (0 + a0.length) * 8 ≤ 140737488355328 then some ([] ++ a0) else none
def qaH.l0 : Nat → LI → LI → Int → Option (Unit ⊕ Bool)
 | 0,_,_,_ => none
 | n + 1,x0,x1,x5 => if x5 < (x0.length : Int) then (if 0 ≤ x5 ∧ x5 < (x0.length : Int) then if 0 ≤ x5 ∧ x5 < (x1.length : Int) then if x0.getD x5.toNat 0 = x1.getD x5.toNat 0 then (qaH.l0 n x0 x1 (IntKind.i64.wrap (x5 + 1))) else some (.inr false) else none else none) else some (.inl ())
def qaH.f (k : Nat) (a0 : LI) (a1 : LI) : Option (Bool) := if (a0.length : Int) = (a1.length : Int) then ((qaH.l0 k a0 a1 0).bind fun t1 => Sum.elim (fun t1 => some true) (fun t1 => some t1) t1) else some false
def qaA.l0 : Nat → Int → LI → LI → LI → LI → Option (Unit ⊕ Bool)
 | 0,_,_,_,_,_ => none
 | n + 1,x5,y0_0,y0_1,y1_0,y1_1 => if x5 < (y0_1.length : Int) then (if 0 ≤ x5 ∧ x5 < (y0_1.length : Int) then if 0 ≤ x5 ∧ x5 < (y1_1.length : Int) then if y0_1.getD x5.toNat 0 = y1_1.getD x5.toNat 0 then (qaA.l0 n (IntKind.i64.wrap (x5 + 1)) y0_0 y0_1 y1_0 y1_1) else some (.inr false) else none else none) else some (.inl ())
def qaA.f (k : Nat) (a0_0 : LI) (a0_1 : LI) (a1_0 : LI) (a1_1 : LI) : Option (Bool) := (qaH.f k a0_0 a1_0).bind fun t1 => if t1 = true then (if (a0_1.length : Int) = (a1_1.length : Int) then ((qaA.l0 k 0 a0_0 a0_1 a1_0 a1_1).bind fun t2 => Sum.elim (fun t2 => some true) (fun t2 => some t2) t2) else some false) else some false
end Go.Pf

namespace Go.Pf
open Go
abbrev BEnt := (Int × Int × Int) × LI × LI
abbrev BMsg := Int × Int × Int × LI × LI
def bmsg (x : BEnt) : BMsg := (x.1.1,x.1.2.1,x.1.2.2,x.2.1,x.2.2)
def bcmp (a b : BMsg) : Int :=
 if a.1 < b.1 then -1 else if b.1 < a.1 then 1 else if a.2.1 < b.2.1 then -1 else if b.2.1 < a.2.1 then 1 else if a.2.2.1 < b.2.2.1 then -1 else if b.2.2.1 < a.2.2.1 then 1 else 0
def blt (a b : BMsg) : Bool := decide (bcmp a b < 0)
def bsort (l : List BMsg) : List BMsg := l.mergeSort fun x y => !blt y x
def bfit (x : BEnt) : Bool := decide (x.2.1.length ≤ 281474976710656) && decide (x.2.1.length * 8 ≤ 140737488355328) && decide (x.2.2.length ≤ 281474976710656) && decide (x.2.2.length * 8 ≤ 140737488355328)
def qar.f (xs : List BEnt) : Option (List BMsg) :=
 if (xs.map (·.1)).Nodup ∧ xs.all bfit = true ∧ xs.length ≤ 281474976710656 ∧ xs.length * 72 ≤ 140737488355328 then some (bsort (xs.map bmsg)) else none
theorem qbF (a b : BMsg) : blt a b = true ↔ a.1 < b.1 ∨ (a.1 = b.1 ∧ (a.2.1 < b.2.1 ∨ (a.2.1 = b.2.1 ∧ a.2.2.1 < b.2.2.1))) := by
 unfold blt bcmp
 rw [decide_eq_true_eq]
 repeat' split
 all_goals omega
theorem qa7 (a b : BMsg) : blt a b = false ↔ ¬ (a.1 < b.1 ∨ (a.1 = b.1 ∧ (a.2.1 < b.2.1 ∨ (a.2.1 = b.2.1 ∧ a.2.2.1 < b.2.2.1)))) := by
 rw [← qbF]; simp
abbrev mkey (m : BMsg) : Int × Int × Int := (m.1,m.2.1,m.2.2.1)
theorem qgM {a b : BMsg} (h1 : blt a b = false) (h2 : blt b a = false) : mkey a = mkey b := by
 rw [qa7] at h1 h2
 have e1 : a.1 = b.1 := by omega
 have e2 : a.2.1 = b.2.1 := by omega
 have e3 : a.2.2.1 = b.2.2.1 := by omega
 show (a.1,a.2.1,a.2.2.1) = (b.1,b.2.1,b.2.2.1)
 rw [e1,e2,e3]
theorem qbW (a : List BMsg) : (bsort a).Pairwise (fun x y => (!blt y x) = true) := by
 refine List.pairwise_mergeSort (fun x y z h1 h2 => ?_) (fun x y => ?_) a
 ·simp only [Bool.not_eq_true'] at *
  rw [qa7] at *; omega
 ·cases h1 : blt y x <;> cases h2 : blt x y <;> simp
  rw [qbF] at h1 h2; omega
theorem qci {a b : List BMsg} (hp : a.Perm b) (hn : (a.map mkey).Nodup) (ha : a.Pairwise (fun x y => (!blt y x) = true)) (hb : b.Pairwise (fun x y => (!blt y x) = true)) : a = b := by
 refine List.Perm.eq_of_pairwise (le := fun x y => (!blt y x) = true) (fun x y hx hy h1 h2 => ?_) ha hb hp
 have hy' : y ∈ a := hp.mem_iff.2 hy
 have e : mkey x = mkey y := (qgM (by simpa using h1) (by simpa using h2)).symm
 obtain ⟨i,hi⟩ := List.mem_iff_getElem?.1 hx
 obtain ⟨j,hj⟩ := List.mem_iff_getElem?.1 hy'
 have hi2 : (a.map mkey)[i]? = some (mkey x) := by rw [List.getElem?_map,hi]; rfl
 have hj2 : (a.map mkey)[j]? = some (mkey x) := by rw [List.getElem?_map,hj]; exact congrArg some e.symm
 have hlt : i < (a.map mkey).length := (List.getElem?_eq_some_iff.1 hi2).1
 have : i = j := (List.getElem?_inj hlt hn).1 (hi2.trans hj2.symm)
 subst this
 exact Option.some.inj (hi.symm.trans hj)
theorem qd1 {a b : List BMsg} (h : a.Perm b) (hn : (a.map mkey).Nodup) : bsort a = bsort b :=
 qci (((List.mergeSort_perm a _).trans h).trans (List.mergeSort_perm b _).symm) ((((List.mergeSort_perm a _).map mkey).nodup_iff).2 hn) (qbW a) (qbW b)
end Go.Pf

namespace Go.Pf
open Go
def qbX.f : Option ((List ((Int × Int × Int) × LI × LI))) := some []
def qat.l0 : Nat → (List (Int × Int × Int × LI × LI)) → Int → Int → Int → Int → Int → Int → Int → Option (Unit ⊕ Int)
 | 0,_,_,_,_,_,_,_,_ => none
 | n + 1,x7,x8,x9,y0_0,y0_1,y0_2,y0_3,y0_4 => if x9 < x8 then (if 0 ≤ x9 ∧ x9 < (x7.length : Int) then if (x7.getD x9.toNat (0,(0,(0,([],[]))))).1 = y0_1 then (if (x7.getD x9.toNat (0,(0,(0,([],[]))))).2.1 = y0_2 then (if (x7.getD x9.toNat (0,(0,(0,([],[]))))).2.2.1 = y0_3 then (some (.inr x9)) else qat.l0 n x7 x8 (IntKind.i64.wrap (x9 + 1)) y0_0 y0_1 y0_2 y0_3 y0_4) else qat.l0 n x7 x8 (IntKind.i64.wrap (x9 + 1)) y0_0 y0_1 y0_2 y0_3 y0_4) else qat.l0 n x7 x8 (IntKind.i64.wrap (x9 + 1)) y0_0 y0_1 y0_2 y0_3 y0_4 else none) else some (.inl ())
def qat.f (k : Nat) (a0 : List (Int × Int × Int × LI × LI)) (a1_0 : Int) (a1_1 : Int) (a1_2 : Int) (a1_3 : Int) (a1_4 : Int) : Option (Int) := (qat.l0 k a0 (a0.length : Int) 0 a1_0 a1_1 a1_2 a1_3 a1_4).bind fun t1 => Sum.elim (fun t1 => some (-1)) (fun t1 => some t1) t1
def qav.f (a1 : Int) (a2 : Int) (a3 : Int) (o1 : List ((Int × Int × Int) × LI × LI)) : Option (LI × LI × Bool × (List ((Int × Int × Int) × LI × LI))) := some (((Go.Vm.mget (k := .pair (.int .i64) (.pair (.int .i64) (.int .i64))) (e := .pair (.sl (.int .i64)) (.sl (.int .i64))) o1 (a1,(a2,a3))).getD ([],[])).1,((Go.Vm.mget (k := .pair (.int .i64) (.pair (.int .i64) (.int .i64))) (e := .pair (.sl (.int .i64)) (.sl (.int .i64))) o1 (a1,(a2,a3))).getD ([],[])).2,(Go.Vm.mget (k := .pair (.int .i64) (.pair (.int .i64) (.int .i64))) (e := .pair (.sl (.int .i64)) (.sl (.int .i64))) o1 (a1,(a2,a3))).isSome,Go.Vm.mdel (k := .pair (.int .i64) (.pair (.int .i64) (.int .i64))) (e := .pair (.sl (.int .i64)) (.sl (.int .i64))) o1 (a1,(a2,a3)))
def qao.f (o1 : List ((Int × Int × Int) × LI × LI)) : Option (Int) := some (o1.length : Int)
def qbc.f (a0_0 : Int) (a0_1 : Int) (a0_2 : Int) (a0_3 : LI) (a0_4 : LI) (a1_0 : Int) (a1_1 : Int) (a1_2 : Int) (a1_3 : LI) (a1_4 : LI) : Option (Bool) := if a0_0 = a1_0 then (if a0_1 = a1_1 then (some (decide (a1_2 < a0_2))) else some (decide (a1_1 < a0_1))) else some (decide (a1_0 < a0_0))
def qad.l1 : Nat → (List (Int × Int × Int × LI × LI)) → Int → Int → Int → Int → (List (Int × Int × Int × LI × LI)) → Option (Int)
 | 0,_,_,_,_,_,_ => none
 | n + 1,x0,x4,x5,x7,x8,y0 => if 0 < x5 then (if 0 ≤ IntKind.i64.wrap (x5 - 1) ∧ IntKind.i64.wrap (x5 - 1) < (y0.length : Int) then if (IntKind.i64.wrap (x5 - 1)).toNat < y0.length then if 0 ≤ x4 ∧ x4 < (x0.length : Int) then (qbc.f (y0.getD (IntKind.i64.wrap (x5 - 1)).toNat (0,(0,(0,([],[]))))).1 (y0.getD (IntKind.i64.wrap (x5 - 1)).toNat (0,(0,(0,([],[]))))).2.1 (y0.getD (IntKind.i64.wrap (x5 - 1)).toNat (0,(0,(0,([],[]))))).2.2.1 (y0.getD (IntKind.i64.wrap (x5 - 1)).toNat (0,(0,(0,([],[]))))).2.2.2.1 (y0.getD (IntKind.i64.wrap (x5 - 1)).toNat (0,(0,(0,([],[]))))).2.2.2.2 (x0.getD x4.toNat (0,(0,(0,([],[]))))).1 (x0.getD x4.toNat (0,(0,(0,([],[]))))).2.1 (x0.getD x4.toNat (0,(0,(0,([],[]))))).2.2.1 (x0.getD x4.toNat (0,(0,(0,([],[]))))).2.2.2.1 (x0.getD x4.toNat (0,(0,(0,([],[]))))).2.2.2.2).bind fun t1 => if t1 = true then (qad.l1 n x0 x4 (IntKind.i64.wrap (x5 - 1)) x7 x8 y0) else some x5 else none else none else none) else some x5
def qad.l0 (k : Nat) : Nat → (List (Int × Int × Int × LI × LI)) → Int → Int → (List (Int × Int × Int × LI × LI)) → Option ((List (Int × Int × Int × LI × LI)))
 | 0,_,_,_,_ => none
 | n + 1,x0,x7,x8,y0 => if x8 < x7 then ((qad.l1 n x0 x8 (y0.length : Int) x7 x8 y0).bind fun t2 => if 0 ≤ ((0 : Nat) : Int) ∧ ((0 : Nat) : Int) ≤ t2 ∧ t2 ≤ (y0.length : Int) then if 0 + ((y0.take t2.toNat).drop 0).length ≤ 281474976710656 ∧ (0 + ((y0.take t2.toNat).drop 0).length) * 72 ≤ 140737488355328 then if 0 ≤ x8 ∧ x8 < (x0.length : Int) then if ([] ++ ((y0.take t2.toNat).drop 0)).length + ([((x0.getD x8.toNat (0,(0,(0,([],[]))))).1,((x0.getD x8.toNat (0,(0,(0,([],[]))))).2.1,((x0.getD x8.toNat (0,(0,(0,([],[]))))).2.2.1,((x0.getD x8.toNat (0,(0,(0,([],[]))))).2.2.2.1,(x0.getD x8.toNat (0,(0,(0,([],[]))))).2.2.2.2))))] : List (Int × Int × Int × LI × LI)).length ≤ 281474976710656 ∧ (([] ++ ((y0.take t2.toNat).drop 0)).length + ([((x0.getD x8.toNat (0,(0,(0,([],[]))))).1,((x0.getD x8.toNat (0,(0,(0,([],[]))))).2.1,((x0.getD x8.toNat (0,(0,(0,([],[]))))).2.2.1,((x0.getD x8.toNat (0,(0,(0,([],[]))))).2.2.2.1,(x0.getD x8.toNat (0,(0,(0,([],[]))))).2.2.2.2))))] : List (Int × Int × Int × LI × LI)).length) * 72 ≤ 140737488355328 then if 0 ≤ t2 ∧ t2 ≤ (y0.length : Int) ∧ (y0.length : Int) ≤ (y0.length : Int) then if (([] ++ ((y0.take t2.toNat).drop 0)) ++ ([((x0.getD x8.toNat (0,(0,(0,([],[]))))).1,((x0.getD x8.toNat (0,(0,(0,([],[]))))).2.1,((x0.getD x8.toNat (0,(0,(0,([],[]))))).2.2.1,((x0.getD x8.toNat (0,(0,(0,([],[]))))).2.2.2.1,(x0.getD x8.toNat (0,(0,(0,([],[]))))).2.2.2.2))))] : List (Int × Int × Int × LI × LI))).length + ((y0.take y0.length).drop t2.toNat).length ≤ 281474976710656 ∧ ((([] ++ ((y0.take t2.toNat).drop 0)) ++ ([((x0.getD x8.toNat (0,(0,(0,([],[]))))).1,((x0.getD x8.toNat (0,(0,(0,([],[]))))).2.1,((x0.getD x8.toNat (0,(0,(0,([],[]))))).2.2.1,((x0.getD x8.toNat (0,(0,(0,([],[]))))).2.2.2.1,(x0.getD x8.toNat (0,(0,(0,([],[]))))).2.2.2.2))))] : List (Int × Int × Int × LI × LI))).length + ((y0.take y0.length).drop t2.toNat).length) * 72 ≤ 140737488355328 then qad.l0 k n x0 x7 (IntKind.i64.wrap (x8 + 1)) ((([] ++ ((y0.take t2.toNat).drop 0)) ++ ([((x0.getD x8.toNat (0,(0,(0,([],[]))))).1,((x0.getD x8.toNat (0,(0,(0,([],[]))))).2.1,((x0.getD x8.toNat (0,(0,(0,([],[]))))).2.2.1,((x0.getD x8.toNat (0,(0,(0,([],[]))))).2.2.2.1,(x0.getD x8.toNat (0,(0,(0,([],[]))))).2.2.2.2))))] : List (Int × Int × Int × LI × LI))) ++ ((y0.take y0.length).drop t2.toNat)) else none else none else none else none else none else none) else some y0
def qad.f (k : Nat) (a0 : List (Int × Int × Int × LI × LI)) : Option ((List (Int × Int × Int × LI × LI))) := (qad.l0 k k a0 (a0.length : Int) 0 []).bind fun t3 => some t3
def qaf.l0 (k : Nat) : Nat → (List (Int × Int × Int × LI × LI)) → (List (Int × Int × Int × LI × LI)) → Int → Int → Option (Unit ⊕ Bool)
 | 0,_,_,_,_ => none
 | n + 1,x0,x1,x12,x13 => if x13 < x12 then (if 0 ≤ x13 ∧ x13 < (x0.length : Int) then if 0 ≤ x13 ∧ x13 < (x1.length : Int) then if (x0.getD x13.toNat (0,(0,(0,([],[]))))).1 = (x1.getD x13.toNat (0,(0,(0,([],[]))))).1 then (if (x0.getD x13.toNat (0,(0,(0,([],[]))))).2.1 = (x1.getD x13.toNat (0,(0,(0,([],[]))))).2.1 then (if (x0.getD x13.toNat (0,(0,(0,([],[]))))).2.2.1 = (x1.getD x13.toNat (0,(0,(0,([],[]))))).2.2.1 then ((qaA.f k (x0.getD x13.toNat (0,(0,(0,([],[]))))).2.2.2.1 (x0.getD x13.toNat (0,(0,(0,([],[]))))).2.2.2.2 (x1.getD x13.toNat (0,(0,(0,([],[]))))).2.2.2.1 (x1.getD x13.toNat (0,(0,(0,([],[]))))).2.2.2.2).bind fun t1 => if t1 = true then (qaf.l0 k n x0 x1 x12 (IntKind.i64.wrap (x13 + 1))) else some (.inr false)) else some (.inr false)) else some (.inr false)) else some (.inr false) else none else none) else some (.inl ())
def qaf.f (k : Nat) (a0 : List (Int × Int × Int × LI × LI)) (a1 : List (Int × Int × Int × LI × LI)) : Option (Bool) := if (a0.length : Int) = (a1.length : Int) then ((qaf.l0 k k a0 a1 (a0.length : Int) 0).bind fun t2 => Sum.elim (fun t2 => some true) (fun t2 => some t2) t2) else some false
def qaU.f (a1 : Int) (a2 : Int) (a3 : Int) (o1 : List ((Int × Int × Int) × LI × LI)) : Option (Bool) := some (Go.Vm.mget (k := .pair (.int .i64) (.pair (.int .i64) (.int .i64))) (e := .pair (.sl (.int .i64)) (.sl (.int .i64))) o1 (a1,(a2,a3))).isSome
def qaw.f (a0 : LI) : Option (LI) := if 0 + a0.length ≤ 281474976710656 ∧ (0 + a0.length) * 8 ≤ 140737488355328 then some ([] ++ a0) else none
def qaQ.f (a0_0 : LI) (a0_1 : LI) : Option LT := (qaC.f a0_0).bind fun t1 => (qaw.f a0_1).bind fun t2 => some (t1,t2)
def qaB.f (a1_0 : Int) (a1_1 : Int) (a1_2 : Int) (a1_3 : LI) (a1_4 : LI) (o1 : List ((Int × Int × Int) × LI × LI)) : Option (Bool × (List ((Int × Int × Int) × LI × LI))) := if (Go.Vm.mget (k := .pair (.int .i64) (.pair (.int .i64) (.int .i64))) (e := .pair (.sl (.int .i64)) (.sl (.int .i64))) o1 (a1_0,(a1_1,a1_2))).isSome = true then (some (false,o1)) else (qaQ.f a1_3 a1_4).bind fun t1 => some (true,Go.Vm.mset (k := .pair (.int .i64) (.pair (.int .i64) (.int .i64))) (e := .pair (.sl (.int .i64)) (.sl (.int .i64))) o1 (a1_0,(a1_1,a1_2)) (t1.1,t1.2))
def qaj.l0 (k : Nat) : Nat → (List (Int × Int × Int × Int × Int)) → Int → (List (Int × Int × Int × LI × LI)) → (List ((Int × Int × Int) × LI × LI)) → Option ((List ((Int × Int × Int) × LI × LI)) ⊕ Bool)
 | 0,_,_,_,_ => none
 | n + 1,x0,x5,y1,y2 => if x5 < (x0.length : Int) then (if x5 < 80 then (if 0 ≤ x5 ∧ x5 < (x0.length : Int) then (qat.f k y1 (x0.getD x5.toNat (0,(0,(0,(0,0))))).1 (x0.getD x5.toNat (0,(0,(0,(0,0))))).2.1 (x0.getD x5.toNat (0,(0,(0,(0,0))))).2.2.1 (x0.getD x5.toNat (0,(0,(0,(0,0))))).2.2.2.1 (x0.getD x5.toNat (0,(0,(0,(0,0))))).2.2.2.2).bind fun t2 => if (x0.getD x5.toNat (0,(0,(0,(0,0))))).1 = 2 then ((qav.f (x0.getD x5.toNat (0,(0,(0,(0,0))))).2.1 (x0.getD x5.toNat (0,(0,(0,(0,0))))).2.2.1 (x0.getD x5.toNat (0,(0,(0,(0,0))))).2.2.2.1 y2).bind fun t3 => if (t3.2.2.1 == (decide (0 ≤ t2))) = true then (if t3.2.2.1 = true then (if 0 ≤ t2 ∧ t2 < (y1.length : Int) then if t2.toNat < y1.length then (qaA.f k t3.1 t3.2.1 (y1.getD t2.toNat (0,(0,(0,([],[]))))).2.2.2.1 (y1.getD t2.toNat (0,(0,(0,([],[]))))).2.2.2.2).bind fun t4 => if t4 = true then (if t3.2.2.1 = true then (if 0 ≤ ((0 : Nat) : Int) ∧ ((0 : Nat) : Int) ≤ t2 ∧ t2 ≤ (y1.length : Int) then if 0 + ((y1.take t2.toNat).drop 0).length ≤ 281474976710656 ∧ (0 + ((y1.take t2.toNat).drop 0).length) * 72 ≤ 140737488355328 then if 0 ≤ IntKind.i64.wrap (t2 + 1) ∧ IntKind.i64.wrap (t2 + 1) ≤ (y1.length : Int) ∧ (y1.length : Int) ≤ (y1.length : Int) then if ([] ++ ((y1.take t2.toNat).drop 0)).length + ((y1.take y1.length).drop (IntKind.i64.wrap (t2 + 1)).toNat).length ≤ 281474976710656 ∧ (([] ++ ((y1.take t2.toNat).drop 0)).length + ((y1.take y1.length).drop (IntKind.i64.wrap (t2 + 1)).toNat).length) * 72 ≤ 140737488355328 then (qao.f t3.2.2.2).bind fun t9 => if t9 = ((([] ++ ((y1.take t2.toNat).drop 0)) ++ ((y1.take y1.length).drop (IntKind.i64.wrap (t2 + 1)).toNat)).length : Int) then ((qar.f t3.2.2.2).bind fun t10 => (qad.f k (([] ++ ((y1.take t2.toNat).drop 0)) ++ ((y1.take y1.length).drop (IntKind.i64.wrap (t2 + 1)).toNat))).bind fun t11 => (qaf.f k t10 t11).bind fun t12 => if t12 = true then (qaj.l0 k n x0 (IntKind.i64.wrap (x5 + 1)) (([] ++ ((y1.take t2.toNat).drop 0)) ++ ((y1.take y1.length).drop (IntKind.i64.wrap (t2 + 1)).toNat)) t3.2.2.2) else some (.inr false)) else some (.inr false) else none else none else none else none) else if (t3.2.1.length : Int) = 0 then (if 0 ≤ ((0 : Nat) : Int) ∧ ((0 : Nat) : Int) ≤ t2 ∧ t2 ≤ (y1.length : Int) then if 0 + ((y1.take t2.toNat).drop 0).length ≤ 281474976710656 ∧ (0 + ((y1.take t2.toNat).drop 0).length) * 72 ≤ 140737488355328 then if 0 ≤ IntKind.i64.wrap (t2 + 1) ∧ IntKind.i64.wrap (t2 + 1) ≤ (y1.length : Int) ∧ (y1.length : Int) ≤ (y1.length : Int) then if ([] ++ ((y1.take t2.toNat).drop 0)).length + ((y1.take y1.length).drop (IntKind.i64.wrap (t2 + 1)).toNat).length ≤ 281474976710656 ∧ (([] ++ ((y1.take t2.toNat).drop 0)).length + ((y1.take y1.length).drop (IntKind.i64.wrap (t2 + 1)).toNat).length) * 72 ≤ 140737488355328 then (qao.f t3.2.2.2).bind fun t5 => if t5 = ((([] ++ ((y1.take t2.toNat).drop 0)) ++ ((y1.take y1.length).drop (IntKind.i64.wrap (t2 + 1)).toNat)).length : Int) then ((qar.f t3.2.2.2).bind fun t6 => (qad.f k (([] ++ ((y1.take t2.toNat).drop 0)) ++ ((y1.take y1.length).drop (IntKind.i64.wrap (t2 + 1)).toNat))).bind fun t7 => (qaf.f k t6 t7).bind fun t8 => if t8 = true then (qaj.l0 k n x0 (IntKind.i64.wrap (x5 + 1)) (([] ++ ((y1.take t2.toNat).drop 0)) ++ ((y1.take y1.length).drop (IntKind.i64.wrap (t2 + 1)).toNat)) t3.2.2.2) else some (.inr false)) else some (.inr false) else none else none else none else none) else some (.inr false)) else some (.inr false) else none else none) else if t3.2.2.1 = true then ((qao.f t3.2.2.2).bind fun t17 => if t17 = (y1.length : Int) then ((qar.f t3.2.2.2).bind fun t18 => (qad.f k y1).bind fun t19 => (qaf.f k t18 t19).bind fun t20 => if t20 = true then (qaj.l0 k n x0 (IntKind.i64.wrap (x5 + 1)) y1 t3.2.2.2) else some (.inr false)) else some (.inr false)) else if (t3.2.1.length : Int) = 0 then ((qao.f t3.2.2.2).bind fun t13 => if t13 = (y1.length : Int) then ((qar.f t3.2.2.2).bind fun t14 => (qad.f k y1).bind fun t15 => (qaf.f k t14 t15).bind fun t16 => if t16 = true then (qaj.l0 k n x0 (IntKind.i64.wrap (x5 + 1)) y1 t3.2.2.2) else some (.inr false)) else some (.inr false)) else some (.inr false)) else some (.inr false)) else if (x0.getD x5.toNat (0,(0,(0,(0,0))))).1 = 3 then ((qaU.f (x0.getD x5.toNat (0,(0,(0,(0,0))))).2.1 (x0.getD x5.toNat (0,(0,(0,(0,0))))).2.2.1 (x0.getD x5.toNat (0,(0,(0,(0,0))))).2.2.2.1 y2).bind fun t21 => if (t21 == (decide (0 ≤ t2))) = true then ((qao.f y2).bind fun t22 => if t22 = (y1.length : Int) then ((qar.f y2).bind fun t23 => (qad.f k y1).bind fun t24 => (qaf.f k t23 t24).bind fun t25 => if t25 = true then (qaj.l0 k n x0 (IntKind.i64.wrap (x5 + 1)) y1 y2) else some (.inr false)) else some (.inr false)) else some (.inr false)) else (qaB.f (x0.getD x5.toNat (0,(0,(0,(0,0))))).2.1 (x0.getD x5.toNat (0,(0,(0,(0,0))))).2.2.1 (x0.getD x5.toNat (0,(0,(0,(0,0))))).2.2.2.1 ([1] : LI) [(x0.getD x5.toNat (0,(0,(0,(0,0))))).2.2.2.2] y2).bind fun t26 => if (t26.1 == (decide (t2 < 0))) = true then (if t2 < 0 then (if y1.length + ([((x0.getD x5.toNat (0,(0,(0,(0,0))))).2.1,((x0.getD x5.toNat (0,(0,(0,(0,0))))).2.2.1,((x0.getD x5.toNat (0,(0,(0,(0,0))))).2.2.2.1,(([1] : LI),[(x0.getD x5.toNat (0,(0,(0,(0,0))))).2.2.2.2]))))] : List (Int × Int × Int × LI × LI)).length ≤ 281474976710656 ∧ (y1.length + ([((x0.getD x5.toNat (0,(0,(0,(0,0))))).2.1,((x0.getD x5.toNat (0,(0,(0,(0,0))))).2.2.1,((x0.getD x5.toNat (0,(0,(0,(0,0))))).2.2.2.1,(([1] : LI),[(x0.getD x5.toNat (0,(0,(0,(0,0))))).2.2.2.2]))))] : List (Int × Int × Int × LI × LI)).length) * 72 ≤ 140737488355328 then (qao.f t26.2).bind fun t27 => if t27 = ((y1 ++ ([((x0.getD x5.toNat (0,(0,(0,(0,0))))).2.1,((x0.getD x5.toNat (0,(0,(0,(0,0))))).2.2.1,((x0.getD x5.toNat (0,(0,(0,(0,0))))).2.2.2.1,(([1] : LI),[(x0.getD x5.toNat (0,(0,(0,(0,0))))).2.2.2.2]))))] : List (Int × Int × Int × LI × LI))).length : Int) then ((qar.f t26.2).bind fun t28 => (qad.f k (y1 ++ ([((x0.getD x5.toNat (0,(0,(0,(0,0))))).2.1,((x0.getD x5.toNat (0,(0,(0,(0,0))))).2.2.1,((x0.getD x5.toNat (0,(0,(0,(0,0))))).2.2.2.1,(([1] : LI),[(x0.getD x5.toNat (0,(0,(0,(0,0))))).2.2.2.2]))))] : List (Int × Int × Int × LI × LI)))).bind fun t29 => (qaf.f k t28 t29).bind fun t30 => if t30 = true then (qaj.l0 k n x0 (IntKind.i64.wrap (x5 + 1)) (y1 ++ ([((x0.getD x5.toNat (0,(0,(0,(0,0))))).2.1,((x0.getD x5.toNat (0,(0,(0,(0,0))))).2.2.1,((x0.getD x5.toNat (0,(0,(0,(0,0))))).2.2.2.1,(([1] : LI),[(x0.getD x5.toNat (0,(0,(0,(0,0))))).2.2.2.2]))))] : List (Int × Int × Int × LI × LI))) t26.2) else some (.inr false)) else some (.inr false) else none) else (qao.f t26.2).bind fun t31 => if t31 = (y1.length : Int) then ((qar.f t26.2).bind fun t32 => (qad.f k y1).bind fun t33 => (qaf.f k t32 t33).bind fun t34 => if t34 = true then (qaj.l0 k n x0 (IntKind.i64.wrap (x5 + 1)) y1 t26.2) else some (.inr false)) else some (.inr false)) else some (.inr false) else none) else some (.inl y2)) else some (.inl y2)
def qaj.f (k : Nat) (a0 : List (Int × Int × Int × Int × Int)) : Option (Bool) := (qbX.f).bind fun t1 => (qaj.l0 k k a0 0 [] t1).bind fun t35 => Sum.elim (fun t35 => some true) (fun t35 => some t35) t35
def qa0.f : Option (Bool) := (qbX.f).bind fun t1 => (qao.f t1).bind fun t2 => if t2 = 0 then ((qaB.f 1 2 3 [] ([5] : LI) t1).bind fun t3 => (qaB.f 1 2 3 [] ([5] : LI) t3.2).bind fun t4 => (qav.f 1 2 3 t4.2).bind fun t5 => (qav.f 1 2 3 t5.2.2.2).bind fun t6 => if t3.1 = true then (if t4.1 = true then (some false) else if t5.2.2.1 = true then (if (t5.2.1.length : Int) = 1 then (if (0 : Int) ≤ 0 ∧ 0 < (t5.2.1.length : Int) then if t5.2.1.getD 0 0 = 5 then (if t6.2.2.1 = true then (some false) else (qaU.f 1 2 3 t6.2.2.2).bind fun t7 => some (!t7)) else some false else none) else some false) else some false) else some false) else some false
def qab.l1 : Nat → Int → Int → (List (Int × Int × Int × Int × Int)) → Option ((List (Int × Int × Int × Int × Int)))
 | 0,_,_,_ => none
 | n + 1,x1,x3,y0 => if x3 < 60 then (if (4 : Int) ≠ 0 then if (3 : Int) ≠ 0 then if y0.length + [((IntKind.i64.wrap ((IntKind.i64.wrap (x3 * x3)) + x1)).tmod 4,((IntKind.i64.wrap (x3 * 7)).tmod 3,((IntKind.i64.wrap (x3 + x1)).tmod 3,(x3.tmod 4,x3))))].length ≤ 281474976710656 ∧ (y0.length + [((IntKind.i64.wrap ((IntKind.i64.wrap (x3 * x3)) + x1)).tmod 4,((IntKind.i64.wrap (x3 * 7)).tmod 3,((IntKind.i64.wrap (x3 + x1)).tmod 3,(x3.tmod 4,x3))))].length) * 40 ≤ 140737488355328 then qab.l1 n x1 (IntKind.i64.wrap (x3 + 1)) (y0 ++ [((IntKind.i64.wrap ((IntKind.i64.wrap (x3 * x3)) + x1)).tmod 4,((IntKind.i64.wrap (x3 * 7)).tmod 3,((IntKind.i64.wrap (x3 + x1)).tmod 3,(x3.tmod 4,x3))))]) else none else none else none) else some y0
def qab.l0 (k : Nat) : Nat → Int → Option (Unit ⊕ Bool)
 | 0,_ => none
 | n + 1,x1 => if x1 < 40 then ((qab.l1 n x1 0 []).bind fun t1 => (qaj.f k t1).bind fun t2 => if t2 = true then (qab.l0 k n (IntKind.i64.wrap (x1 + 1))) else some (.inr false)) else some (.inl ())
def qab.f (k : Nat) : Option (Bool) := (qab.l0 k k 0).bind fun t3 => Sum.elim (fun t3 => (qaj.f k ([(0,(-9223372036854775808,(9223372036854775807,(-5,0)))),(0,(-9223372036854775808,(9223372036854775807,(-6,0)))),(2,(-9223372036854775808,(9223372036854775807,(-5,0))))] : List (Int × Int × Int × Int × Int))).bind fun t4 => if t4 = true then ((qa0.f).bind fun t5 => some t5) else some false) (fun t3 => some t3) t3
def qan.l0 : Nat → (List (Int × Int × Int × Int × Int)) → LI → LI → Int → (List (Int × Int × Int × Int × Int)) → Option ((List (Int × Int × Int × Int × Int)))
 | 0,_,_,_,_,_ => none
 | n + 1,x0,x1,y0_0,y0_1,y1 => if (y1.length : Int) < 60 then (if y0_1 < (x1.length : Int) then ((qap.f 4 y0_0 y0_1).bind fun t1 => (qap.f 3 y0_0 t1.2).bind fun t2 => (qap.f 3 y0_0 t2.2).bind fun t3 => (qap.f 3 y0_0 t3.2).bind fun t4 => (qaJ.f y0_0 t4.2).bind fun t5 => if y1.length + [(t1.1,(t2.1,(t3.1,(t4.1,t5.1))))].length ≤ 281474976710656 ∧ (y1.length + [(t1.1,(t2.1,(t3.1,(t4.1,t5.1))))].length) * 40 ≤ 140737488355328 then qan.l0 n x0 x1 y0_0 t5.2 (y1 ++ [(t1.1,(t2.1,(t3.1,(t4.1,t5.1))))]) else none) else some y1) else some y1
def qan.f (k : Nat) (a0 : List (Int × Int × Int × Int × Int)) (a1 : LI) : Option (Bool) := (qan.l0 k a0 a1 a1 0 []).bind fun t6 => (qaj.f k a0).bind fun t7 => if t7 = true then ((qaj.f k t6).bind fun t8 => if t8 = true then ((qa0.f).bind fun t9 => some t9) else some false) else some false
def qag.l0 : Nat → Int → Int → (List ((Int × Int × Int) × LI × LI)) → (List ((Int × Int × Int) × LI × LI)) → Option (((List ((Int × Int × Int) × LI × LI)) × (List ((Int × Int × Int) × LI × LI))) ⊕ Bool)
 | 0,_,_,_,_ => none
 | n + 1,x6,x7,y2,y3 => if x7 < x6 then (if (3 : Int) ≠ 0 then if (2 : Int) ≠ 0 then (qaB.f (x7.tmod 3) (x7.tmod 2) x7 [] [x7] y2).bind fun t4 => if t4.1 = true then ((qaB.f ((IntKind.i64.wrap ((IntKind.i64.wrap (x6 - 1)) - x7)).tmod 3) ((IntKind.i64.wrap ((IntKind.i64.wrap (x6 - 1)) - x7)).tmod 2) (IntKind.i64.wrap ((IntKind.i64.wrap (x6 - 1)) - x7)) [] [IntKind.i64.wrap ((IntKind.i64.wrap (x6 - 1)) - x7)] y3).bind fun t5 => if t5.1 = true then (qag.l0 n x6 (IntKind.i64.wrap (x7 + 1)) t4.2 t5.2) else some (.inr false)) else some (.inr false) else none else none) else some (.inl (y2,y3))
def qag.l1 : Nat → Int → Int → (List ((Int × Int × Int) × LI × LI)) → (List ((Int × Int × Int) × LI × LI)) → Option ((List ((Int × Int × Int) × LI × LI)) ⊕ Bool)
 | 0,_,_,_,_ => none
 | n + 1,x6,x9,y2,y3 => if x9 < x6 then (if (3 : Int) ≠ 0 then if (2 : Int) ≠ 0 then (qav.f (x9.tmod 3) (x9.tmod 2) x9 y2).bind fun t11 => (qav.f (x9.tmod 3) (x9.tmod 2) x9 t11.2.2.2).bind fun t12 => if t11.2.2.1 = true then (if t12.2.2.1 = true then (some (.inr false)) else if (t11.2.1.length : Int) = 1 then (if (0 : Int) ≤ 0 ∧ 0 < (t11.2.1.length : Int) then if t11.2.1.getD 0 0 = x9 then ((qaU.f (x9.tmod 3) (x9.tmod 2) x9 y3).bind fun t13 => if t13 = true then (qag.l1 n x6 (IntKind.i64.wrap (x9 + 1)) t12.2.2.2 y3) else some (.inr false)) else some (.inr false) else none) else some (.inr false)) else some (.inr false) else none else none) else some (.inl y2)
def qag.f (k : Nat) (a0 : LI) : Option (Bool) := (qbX.f).bind fun t1 => (qbX.f).bind fun t2 => (qap.f 12 a0 0).bind fun t3 => (qag.l0 k t3.1 0 t1 t2).bind fun t6 => Sum.elim (fun t6 => (qar.f t6.1).bind fun t7 => (qar.f t6.2).bind fun t8 => (qaf.f k t7 t8).bind fun t9 => if t9 = true then ((qao.f t6.1).bind fun t10 => if t10 = t3.1 then ((qag.l1 k t3.1 0 t6.1 t6.2).bind fun t14 => Sum.elim (fun t14 => (qao.f t14).bind fun t15 => if t15 = 0 then ((qao.f t6.2).bind fun t16 => if t16 = t3.1 then ((qa0.f).bind fun t17 => some t17) else some false) else some false) (fun t14 => some t14) t14) else some false) else some false) (fun t6 => some t6) t6
def qaX.f (a0 : Int) : Option (Bool) := some (!(decide (a0 = a0)))
def qaG.f (a0 : Int) (a1 : Int) : Option (Int) := (qaX.f a0).bind fun t1 => (qaX.f a1).bind fun t2 => if t1 = true then (if t2 = true then (some 0) else some (-1)) else if t2 = true then (some 1) else if a0 < a1 then (some (-1)) else if a1 < a0 then (some 1) else some 0
def qaz.l0 : Nat → Int → LI → Int → Int → Option (Unit ⊕ Int)
 | 0,_,_,_,_ => none
 | n + 1,x3,x6,x7,x8 => if x8 < x7 then (if 0 ≤ x8 ∧ x8 < (x6.length : Int) then if x6.getD x8.toNat 0 = x3 then (qaz.l0 n x3 x6 x7 (IntKind.i64.wrap (x8 + 1))) else some (.inr (x6.getD x8.toNat 0)) else none) else some (.inl ())
def qaz.f (k : Nat) (a0 : LI) : Option (Int) := (qaz.l0 k 0 a0 (a0.length : Int) 0).bind fun t1 => Sum.elim (fun t1 => some 0) (fun t1 => some t1) t1
def qaY.f (k : Nat) (a0_0 : Int) (a0_1 : Int) (a0_2 : Int) (a0_3 : LI) (a0_4 : LI) (a1_0 : Int) (a1_1 : Int) (a1_2 : Int) (a1_3 : LI) (a1_4 : LI) : Option (Int) := (qaG.f a0_0 a1_0).bind fun t1 => (qaG.f a0_1 a1_1).bind fun t2 => (qaG.f a0_2 a1_2).bind fun t3 => (qaz.f k [t1,t2,t3]).bind fun t4 => some t4
end Go.Pf

namespace Go.Pf
open Go Go.Vm
theorem qaW {n : Int} (h1 : -9223372036854775808 ≤ n) (h2 : n < 9223372036854775808) : IntKind.i64.wrap n = n := by rw [IntKind.wrap_i64]; omega
theorem qhJ {n : Int} (h : (Lit.int .i64 n).wf = true) : -9223372036854775808 ≤ n ∧ n < 9223372036854775808 := by
 simp only [Lit.wf,bAt,decide_eq_true_eq] at h
 have h1 : IntKind.i64.min = -9223372036854775808 := by decide
 have h2 : IntKind.i64.max = 9223372036854775807 := by decide
 omega
theorem qgy {l : LI} (h : Fit (.sl (.int .i64)) l) : l.length ≤ 17592186043904 ∧ ∀ x ∈ l,-9223372036854775808 ≤ x ∧ x < 9223372036854775808 := by
 obtain ⟨h1,h2⟩ := h
 have h3 : l.length * 8 ≤ 140737488351232 := h1
 exact ⟨by omega,fun x hx => qhJ (h2 x hx)⟩
theorem qgD {α : Type} {l : List α} {i : Nat} (h : i < l.length) (d : α) : l.drop i = l.getD i d :: l.drop (i + 1) := by
 rw [List.drop_eq_getElem_cons h,gDg,List.getElem?_eq_getElem h]; rfl
theorem qeo {α : Type} {l : List α} {i : Nat} (h : i < l.length) (d : α) : l.getD i d ∈ l := by
 rw [gDg,List.getElem?_eq_getElem h]; exact List.getElem_mem h
end Go.Pf

namespace Go.Pf
open Go Go.Vm
theorem n0 : ((0 : Nat) : Int) = 0 := rfl
theorem qa4 (n : Int) (L : LI) (hL : L.length ≤ 17592186044415) (hw : ∀ x ∈ L,-9223372036854775808 ≤ x ∧ x < 9223372036854775808) (p : Int) (h0 : 0 ≤ p) (hp : p ≤ 17592186044415) (hn : 1 ≤ n) : ∃ r q,qap.f n L p = some (r,q) ∧ 0 ≤ r ∧ r < n ∧ 0 ≤ q ∧ q ≤ 17592186044415 ∧ p ≤ q ∧ q ≤ p + 1 := by
 unfold qap.f
 by_cases c : (L.length : Int) ≤ p
 ·rw [if_pos c]; exact ⟨_,_,rfl,by omega,by omega,h0,hp,by omega,by omega⟩
 rw [if_neg c,ifq,qaW (n := p + 1) (by omega) (by omega),show p + 1 - 1 = p by omega,qaW (n := p) (by omega) (by omega),if_pos ⟨h0,by omega⟩]
 have hx := hw _ (qeo (show p.toNat < L.length by omega) 0)
 generalize L.getD p.toNat 0 = x at hx
 have key : ∃ r,qbi.f x 0 1073741824 = some r ∧ 0 ≤ r := by
  unfold qbi.f
  rw [qaW (n := 1073741824 - 0) (by omega) (by omega),qaW (n := 1073741824 - 0 + 1) (by omega) (by omega)]
  have t2 := Int.lt_tmod_of_pos x (show (0 : Int) < 1073741824 - 0 + 1 by omega)
  have t3 := Int.tmod_lt_of_pos x (show (0 : Int) < 1073741824 - 0 + 1 by omega)
  have k2 : ∃ r,(if (1073741824 - 0 + 1 : Int) ≠ 0 then if x.tmod (1073741824 - 0 + 1) < 0 then some (IntKind.i64.wrap (0 + (IntKind.i64.wrap ((IntKind.i64.wrap ((IntKind.i64.wrap ((x.tmod (1073741824 - 0 + 1)) + 1073741824)) - 0)) + 1)))) else some (IntKind.i64.wrap (0 + (x.tmod (1073741824 - 0 + 1)))) else none) = some r ∧ 0 ≤ r := by
   rw [ifp]
   split
   ·rw [qaW (n := x.tmod (1073741824 - 0 + 1) + 1073741824) (by omega) (by omega),qaW (n := x.tmod (1073741824 - 0 + 1) + 1073741824 - 0) (by omega) (by omega),qaW (n := x.tmod (1073741824 - 0 + 1) + 1073741824 - 0 + 1) (by omega) (by omega),qaW (by omega) (by omega)]
    exact ⟨_,rfl,by omega⟩
   ·rw [qaW (by omega) (by omega)]
    exact ⟨_,rfl,by omega⟩
  split
  ·split
   ·exact ⟨_,rfl,by omega⟩
   ·exact k2
  ·exact k2
 obtain ⟨r,hr,hr0⟩ := key
 rw [hr,obs,ifp]
 refine ⟨_,_,rfl,?_,?_,by omega,by omega,by omega,by omega⟩
 ·rw [Int.tmod_eq_emod_of_nonneg hr0]; exact Int.emod_nonneg _ (by omega)
 ·rw [Int.tmod_eq_emod_of_nonneg hr0]; exact Int.emod_lt_of_pos _ (by omega)
end Go.Pf

namespace Go.Pf
open Go Go.Vm
theorem qcT (a : LI) (ha : a.length ≤ 17592186043904) : ∀ (d i n : Nat),a.length = i + d → d < n → qaH.l0 n a a i = some (.inl ())
 | 0,i,n,hi,hn => by
  obtain ⟨n,rfl⟩ := sun (n := n)
  rw [qaH.l0,ifq]
 | d + 1,i,n,hi,hn => by
  obtain ⟨n,rfl⟩ := sun (n := n)
  rw [qaH.l0,ifp,ifp,ifp,if_pos rfl,qaW (n := (i : Int) + 1) (by omega) (by omega),show (i : Int) + 1 = ((i + 1 : Nat) : Int) by omega]
  exact qcT a ha d (i + 1) n (by omega) (by omega)
theorem qcS (s a : LI) (ha : a.length ≤ 17592186043904) : ∀ (d i n : Nat),a.length = i + d → d < n → qaA.l0 n i s a s a = some (.inl ())
 | 0,i,n,hi,hn => by
  obtain ⟨n,rfl⟩ := sun (n := n)
  rw [qaA.l0,ifq]
 | d + 1,i,n,hi,hn => by
  obtain ⟨n,rfl⟩ := sun (n := n)
  rw [qaA.l0,ifp,ifp,ifp,if_pos rfl,qaW (n := (i : Int) + 1) (by omega) (by omega),show (i : Int) + 1 = ((i + 1 : Nat) : Int) by omega]
  exact qcS s a ha d (i + 1) n (by omega) (by omega)
theorem qb2 (s d : LI) (k : Nat) (h1 : s.length < k) (h2 : d.length < k) (h3 : s.length ≤ 17592186043904) (h4 : d.length ≤ 17592186043904) : qaA.f k s d s d = some true := by
 have e1 := qcT s h3 s.length 0 k (by omega) (by omega)
 have e2 := qcS s d h4 d.length 0 k (by omega) (by omega)
 unfold qaA.f qaH.f
 rw [n0] at e1 e2
 rw [if_pos rfl,e1]
 show (if (d.length : Int) = d.length then _ else _) = _
 rw [if_pos rfl,e2]; rfl
end Go.Pf

namespace Go.Pf
open Go Go.Vm
abbrev Ky := Int × Int × Int
abbrev k3 : Ty := .pair (.int .i64) (.pair (.int .i64) (.int .i64))
abbrev t2 : Ty := .pair (.sl (.int .i64)) (.sl (.int .i64))
theorem key3 (a b : Ky) : keyEq k3 a b = decide (a = b) := by
 obtain ⟨a1,a2,a3⟩ := a
 obtain ⟨b1,b2,b3⟩ := b
 simp only [keyEq]
 by_cases h1 : a1 = b1 <;> by_cases h2 : a2 = b2 <;> by_cases h3 : a3 = b3 <;> simp [h1,h2,h3]
def bix (q : Ky) : List BEnt → Option Nat
 | [] => none
 | x :: r => if q = x.1 then some 0 else (bix q r).map (· + 1)
theorem qha (q : Ky) (x : BEnt) (r : List BEnt) : bix q (x :: r) = if q = x.1 then some 0 else (bix q r).map (· + 1) := rfl
theorem qcR (q : Ky) (d : BEnt) : ∀ m : List BEnt,mget (k := k3) (e := t2) m q = (bix q m).map fun i => (m.getD i d).2
 | [] => rfl
 | x :: r => by
  unfold mget bix
  rw [key3,qcR q d r]
  by_cases h : q = x.1
  ·simp [h]
  ·simp only [h,decide_false,if_false,Option.map_map]; rfl
theorem qfo (q : Ky) : ∀ m : List BEnt,mdel (k := k3) (e := t2) m q = match bix q m with | some i => m.eraseIdx i | none => m
 | [] => rfl
 | x :: r => by
  unfold mdel bix
  rw [key3,qfo q r]
  by_cases h : q = x.1
  ·simp [h]
  ·simp only [h,decide_false,if_false]
   cases bix q r <;> rfl
theorem qe1 {q : Ky} {v : LI × LI} : ∀ {m : List BEnt},bix q m = none → mset (k := k3) (e := t2) m q v = m ++ [(q,v)]
 | [],_ => rfl
 | x :: r,h => by
  unfold bix at h
  unfold mset
  rw [key3]
  split at h
  ·cases h
  ·rename_i hq
   simp only [hq,decide_false]
   rw [qe1 (by simpa using h)]; rfl
theorem qfO {q : Ky} (d : BEnt) : ∀ {m : List BEnt} {i : Nat},bix q m = some i → i < m.length ∧ (m.getD i d).1 = q
 | [],i,h => by cases h
 | x :: r,i,h => by
  unfold bix at h
  split at h
  ·rename_i hq; cases h; exact ⟨Nat.zero_lt_succ _,hq.symm⟩
  ·cases hb : bix q r with
   | none => rw [hb] at h; cases h
   | some j =>
    rw [hb] at h; cases h
    obtain ⟨h1,h2⟩ := qfO d hb
    exact ⟨Nat.succ_lt_succ h1,h2⟩
theorem qfP {q : Ky} : ∀ {m : List BEnt},bix q m = none → q ∉ m.map (·.1)
 | [],_ => by simp
 | x :: r,h => by
  unfold bix at h
  split at h
  ·cases h
  ·rename_i hq
   have := qfP (m := r) (by simpa using h)
   simp only [List.map_cons,List.mem_cons,not_or]
   exact ⟨hq,this⟩
abbrev bd : BEnt := ((0,0,0),[],[])
abbrev md : BMsg := (0,(0,(0,([],[]))))
theorem qe2 (m : List BEnt) (i : Nat) (h : i < m.length) : (m.map bmsg).getD i md = bmsg (m.getD i bd) := by
 rw [gDg,List.getElem?_map,gDg,List.getElem?_eq_getElem h]; rfl
theorem qgz (m : List BEnt) (hm : m.length ≤ 17592186043904) (c f t g N : Int) : ∀ (d i n : Nat),m.length = i + d → d < n →
  qat.l0 n (m.map bmsg) (m.length : Int) i c f t g N = match bix (f,t,g) (m.drop i) with | some j => some (.inr ((i + j : Nat) : Int)) | none => some (.inl ())
 | 0,i,n,hi,hn => by
  obtain ⟨n,rfl⟩ := sun (n := n)
  rw [qat.l0,ifq,List.drop_of_length_le (by omega)]; rfl
 | d + 1,i,n,hi,hn => by
  obtain ⟨n,rfl⟩ := sun (n := n)
  have hlt : i < m.length := by omega
  have ih := qgz m hm c f t g N d (i + 1) n (by omega) (by omega)
  rw [qat.l0,ifp,if_pos (by rw [List.length_map]; omega),tNc,qe2 m i hlt,qaW (by omega) (by omega),show (i : Int) + 1 = ((i + 1 : Nat) : Int) by omega,ih,qgD hlt bd,qha]
  have hb : ∀ x : Option Nat,(match x.map (· + 1) with | some j => some (Sum.inr ((i + j : Nat) : Int)) | none => some (.inl ())) = (match x with | some j => some (.inr ((i + 1 + j : Nat) : Int)) | none => some (Sum.inl () : Unit ⊕ Int)) := fun x => by
   cases x with
   | none => rfl
   | some j => simp only [Option.map_some]; congr 3; omega
  by_cases h1 : (m.getD i bd).1.1 = f
  ·by_cases h2 : (m.getD i bd).1.2.1 = t
   ·by_cases h3 : (m.getD i bd).1.2.2 = g
    ·rw [if_pos (show (bmsg (m.getD i bd)).1 = f from h1),if_pos (show (bmsg (m.getD i bd)).2.1 = t from h2),if_pos (show (bmsg (m.getD i bd)).2.2.1 = g from h3),if_pos (by rw [← h1,← h2,← h3])]
     rfl
    ·rw [if_pos (show (bmsg (m.getD i bd)).1 = f from h1),if_pos (show (bmsg (m.getD i bd)).2.1 = t from h2),if_neg (show ¬ (bmsg (m.getD i bd)).2.2.1 = g from h3),if_neg (fun h => h3 (by rw [← h])),hb]
   ·rw [if_pos (show (bmsg (m.getD i bd)).1 = f from h1),if_neg (show ¬ (bmsg (m.getD i bd)).2.1 = t from h2),if_neg (fun h => h2 (by rw [← h])),hb]
  ·rw [if_neg (show ¬ (bmsg (m.getD i bd)).1 = f from h1),if_neg (fun h => h1 (by rw [← h])),hb]
theorem qhM (m : List BEnt) (hm : m.length ≤ 17592186043904) (c f t g N : Int) (k : Nat) (hk : m.length < k) : qat.f k (m.map bmsg) c f t g N = some (match bix (f,t,g) m with | some j => (j : Int) | none => -1) := by
 unfold qat.f
 have h := qgz m hm c f t g N m.length 0 k (by omega) hk
 rw [List.length_map]
 rw [Int.natCast_zero] at h
 rw [h,dZr]
 cases bix (f,t,g) m with
 | none => rfl
 | some j => simp only [obs,Sum.elim_inr,Nat.zero_add]
def sml (x : BMsg) : Prop := x.2.2.2.1.length ≤ 100000 ∧ x.2.2.2.2.length ≤ 100000
theorem qgr (l : List BMsg) (hl : l.length ≤ 17592186043904) (hs : ∀ x ∈ l,sml x) (k : Nat) (hk : 100000 < k) : ∀ (d i n : Nat),l.length = i + d → d < n → qaf.l0 k n l l (l.length : Int) i = some (.inl ())
 | 0,i,n,hi,hn => by
  obtain ⟨n,rfl⟩ := sun (n := n)
  rw [qaf.l0,ifq]
 | d + 1,i,n,hi,hn => by
  obtain ⟨n,rfl⟩ := sun (n := n)
  have hx : sml (l.getD i (0,(0,(0,([],[]))))) := hs _ (qeo (show i < l.length by omega) md)
  rw [qaf.l0,ifp,ifp,ifp,tNc,if_pos rfl,if_pos rfl,if_pos rfl,qb2 _ _ k (by have := hx.1; omega) (by have := hx.2; omega) (by have := hx.1; omega) (by have := hx.2; omega),obs,if_pos rfl,
   qaW (by omega) (by omega),show (i : Int) + 1 = ((i + 1 : Nat) : Int) by omega]
  exact qgr l hl hs k hk d (i + 1) n (by omega) (by omega)
theorem qhe (l : List BMsg) (hl : l.length ≤ 100000) (hs : ∀ x ∈ l,sml x) (k : Nat) (hk : 100000 < k) : qaf.f k l l = some true := by
 unfold qaf.f
 have h := qgr l (by omega) hs k hk l.length 0 k (by omega) (by omega)
 rw [Int.natCast_zero] at h
 rw [if_pos rfl,h]; rfl
end Go.Pf

namespace Go.Pf
open Go Go.Vm
theorem qhv (a b : BMsg) : qbc.f a.1 a.2.1 a.2.2.1 a.2.2.2.1 a.2.2.2.2 b.1 b.2.1 b.2.2.1 b.2.2.2.1 b.2.2.2.2 = some (blt b a) := by
 unfold qbc.f
 have h : ∀ (p : Prop) [Decidable p],(blt b a = true ↔ p) → blt b a = decide p := fun p _ h => by
  by_cases hp : p
  ·rw [h.2 hp]; simp [hp]
  ·cases hb : blt b a with
   | true => exact absurd (h.1 hb) hp
   | false => simp [hp]
 split
 ·split
  ·rw [h (a.2.2.1 > b.2.2.1) (by rw [qbF]; omega)]
  ·rw [h (a.2.1 > b.2.1) (by rw [qbF]; omega)]
 ·rw [h (a.1 > b.1) (by rw [qbF]; omega)]
theorem place (w out : List BMsg) (i : Nat) (hi : i < w.length) (hl : out.length ≤ 17592186043904) (x7 x8 : Int) : ∀ (p n : Nat),p ≤ out.length → p < n →
  ∃ q : Nat,qad.l1 n w i p x7 x8 out = some (q : Int) ∧ q ≤ p ∧ (∀ j,q ≤ j → j < p → blt (w.getD i md) (out.getD j md) = true) ∧ (0 < q → blt (w.getD i md) (out.getD (q - 1) md) = false)
 | 0,n,_,hn => by
  obtain ⟨n,rfl⟩ := sun (n := n)
  exact ⟨0,by rw [qad.l1,ifq],Nat.le_refl _,fun j h1 h2 => by omega,fun h => by omega⟩
 | p + 1,n,hp,hn => by
  obtain ⟨n,rfl⟩ := sun (n := n)
  have e : IntKind.i64.wrap (((p + 1 : Nat) : Int) - 1) = (p : Int) := by rw [qaW (by omega) (by omega)]; omega
  rw [qad.l1,ifp,e,ifp,tNc,ifp,ifp,tNc]
  have hL := qhv (out.getD p (0,(0,(0,([],[]))))) (w.getD i (0,(0,(0,([],[])))))
  rw [hL,obs]
  cases hb : blt (w.getD i (0,(0,(0,([],[]))))) (out.getD p (0,(0,(0,([],[]))))) with
  | true =>
   rw [if_pos rfl]
   obtain ⟨q,h1,h2,h3,h4⟩ := place w out i hi hl x7 x8 p n (by omega) (by omega)
   refine ⟨q,h1,by omega,fun j hj1 hj2 => ?_,h4⟩
   by_cases hjp : j = p
   ·subst hjp; exact hb
   ·exact h3 j hj1 (by omega)
  | false =>
   rw [if_neg (by decide)]
   exact ⟨p + 1,rfl,Nat.le_refl _,fun j h1 h2 => by omega,fun _=>by rw [Nat.add_sub_cancel]; exact hb⟩
abbrev Srt (l : List BMsg) : Prop := l.Pairwise (fun x y => (!blt y x) = true)
theorem qhl {out : List BMsg} (hs : Srt out) {x : BMsg} {q : Nat} (hq : q ≤ out.length) (h1 : ∀ j,q ≤ j → j < out.length → blt x (out.getD j md) = true) (h2 : 0 < q → blt x (out.getD (q - 1) md) = false) : Srt (out.take q ++ x :: out.drop q) := by
 have htr : ∀ a b c : BMsg,blt b a = false → blt c b = false → blt c a = false := fun a b c p1 p2 => by rw [qa7] at *; omega
 refine List.pairwise_append.2 ⟨hs.sublist (List.take_sublist _ _),List.pairwise_cons.2 ⟨fun y hy => ?_,hs.sublist (List.drop_sublist _ _)⟩,fun a ha b hb => ?_⟩
 ·obtain ⟨j,hj⟩ := List.mem_iff_getElem?.1 hy
  rw [List.getElem?_drop] at hj
  have hlt : q + j < out.length := (List.getElem?_eq_some_iff.1 hj).1
  have := h1 (q + j) (by omega) hlt
  rw [gDg,hj,Option.getD_some] at this
  have h := (qbF _ _).1 this
  simp only [Bool.not_eq_true']
  rw [qa7]; omega
 ·have hab : ∀ b ∈ out.drop q,(!blt b a) = true := by
   have := hs
   rw [← List.take_append_drop q out] at this
   exact fun b hb => (List.pairwise_append.1 this).2.2 a ha b hb
  rcases List.mem_cons.1 hb with rfl | hb
  ·have hq0 : 0 < q := by
    rcases Nat.eq_zero_or_pos q with h | h
    ·subst h; simp at ha
    ·exact h
   have hx := h2 hq0
   have hlast : blt (out.getD (q - 1) md) a = false ∨ a = out.getD (q - 1) md := by
    obtain ⟨j,hj⟩ := List.mem_iff_getElem?.1 ha
    rw [List.getElem?_take] at hj
    split at hj
    ·rename_i hjq
     have hjl : j < out.length := by omega
     rw [List.getElem?_eq_getElem hjl] at hj
     cases hj
     rw [gDg,List.getElem?_eq_getElem (by omega : q - 1 < out.length),Option.getD_some]
     by_cases hjj : j = q - 1
     ·subst hjj; exact .inr rfl
     ·left
      have := List.pairwise_iff_getElem.1 hs j (q - 1) hjl (by omega) (by omega)
      simpa using this
    ·cases hj
   rcases hlast with h | rfl
   ·simp only [Bool.not_eq_true']; exact htr _ _ _ h hx
   ·simp only [Bool.not_eq_true']; exact hx
  ·exact hab b hb
theorem qeA (w : List BMsg) (hw : w.length ≤ 100000) (K : Nat) : ∀ (d i n : Nat) (out : List BMsg),w.length = i + d → 100000 + d < n → out.Perm (w.take i) → Srt out →
  ∃ r,qad.l0 K n w (w.length : Int) i out = some r ∧ r.Perm w ∧ Srt r
 | 0,i,n,out,hi,hn,hp,hs => by
  obtain ⟨n,rfl⟩ := sun (n := n)
  exact ⟨out,by rw [qad.l0,ifq],by rwa [List.take_of_length_le (by omega)] at hp,hs⟩
 | d + 1,i,n,out,hi,hn,hp,hs => by
  obtain ⟨n,rfl⟩ := sun (n := n)
  have hol : out.length = i := by rw [hp.length_eq,lTk]; omega
  obtain ⟨q,h1,h2,h3,h4⟩ := place w out i (by omega) (by omega) (w.length : Int) i out.length n (Nat.le_refl _) (by omega)
  rw [qad.l0,ifp,h1,obs,ifp,tNc]
  have e1 : ((out.take q).drop 0) = out.take q := dZr
  have e2 : ((out.take out.length).drop q) = out.drop q := by rw [List.take_length]
  have hlt : (out.take q).length = q := by rw [lTk]; omega
  have hld : (out.drop q).length = out.length - q := List.length_drop
  rw [e1,if_pos (by rw [hlt]; omega),ifp,if_pos (by simp only [nAp,lCo,List.length_nil,hlt]; omega),ifp,e2,
   if_pos (by simp only [nAp,lAp,lCo,List.length_nil,hlt,hld]; omega),qaW (by omega) (by omega),show (i : Int) + 1 = ((i + 1 : Nat) : Int) by omega]
  have hx : (w.getD i md) = w[i]'(by omega) := by rw [gDg,List.getElem?_eq_getElem (by omega)]; rfl
  have hperm : (out.take q ++ w.getD i md :: out.drop q).Perm (w.take (i + 1)) := by
   rw [List.take_succ_eq_append_getElem (by omega),← hx]
   refine List.perm_middle.trans ?_
   rw [List.take_append_drop]
   exact ((hp.cons _)).trans (List.perm_append_singleton _ _).symm
  obtain ⟨r,hr,hr2,hr3⟩ := qeA w hw K d (i + 1) n _ (by omega) (by omega) hperm (qhl hs h2 (fun j a b => h3 j a b) h4)
  refine ⟨r,?_,hr2,hr3⟩
  rw [← hr]
  simp [aAs]
theorem qgR (w : List BMsg) (hw : w.length ≤ 100000) (hn : (w.map mkey).Nodup) (k : Nat) (hk : 200000 < k) : qad.f k w = some (bsort w) := by
 unfold qad.f
 obtain ⟨r,h1,h2,h3⟩ := qeA w hw k w.length 0 k [] (by omega) (by omega) (by simp) List.Pairwise.nil
 rw [Int.natCast_zero] at h1
 rw [h1,obs]
 congr 1
 exact qci (h2.trans (List.mergeSort_perm w _).symm) ((h2.map mkey).nodup_iff.2 hn) h3 (qbW w)
end Go.Pf

namespace Go.Pf
open Go Go.Vm
structure Inv (m : List BEnt) : Prop where
 nd : (m.map (·.1)).Nodup
 sm : ∀ x ∈ m,x.2.1.length ≤ 1 ∧ x.2.2.length ≤ 1
theorem Inv.nil : Inv [] := ⟨List.nodup_nil,fun x hx => by cases hx⟩
theorem Inv.app {m : List BEnt} (h : Inv m) {q : Ky} {v : LI × LI} (hq : bix q m = none) (h1 : v.1.length ≤ 1) (h2 : v.2.length ≤ 1) : Inv (m ++ [(q,v)]) := by
 refine ⟨?_,fun x hx => ?_⟩
 ·rw [List.map_append,List.nodup_append]
  refine ⟨h.nd,by simp,fun a ha b hb => ?_⟩
  have := qfP hq
  rintro rfl
  simp only [List.map_cons,List.map_nil,List.mem_singleton] at hb
  subst hb
  exact this ha
 ·rcases List.mem_append.1 hx with hx | hx
  ·exact h.sm x hx
  ·rw [List.mem_singleton] at hx; subst hx; exact ⟨h1,h2⟩
theorem Inv.era {m : List BEnt} (h : Inv m) (i : Nat) : Inv (m.eraseIdx i) :=
 ⟨h.nd.sublist ((List.eraseIdx_sublist m i).map _),fun x hx => h.sm x ((List.eraseIdx_sublist m i).subset hx)⟩
theorem qgb {a b c : Int} {m : List BEnt} (h : bix (a,b,c) m = none) : qav.f a b c m = some ([],[],false,m) := by
 unfold qav.f
 have hg := qcR (a,b,c) bd m
 have hd := qfo (a,b,c) m
 rw [h] at hg hd
 rw [hg,hd]; rfl
theorem qga {a b c : Int} {m : List BEnt} {i : Nat} (h : bix (a,b,c) m = some i) : qav.f a b c m = some ((m.getD i bd).2.1,(m.getD i bd).2.2,true,m.eraseIdx i) := by
 unfold qav.f
 have hg := qcR (a,b,c) bd m
 have hd := qfo (a,b,c) m
 rw [h] at hg hd
 rw [hg,hd]; rfl
theorem qhK (a b c : Int) (m : List BEnt) : qaU.f a b c m = some (bix (a,b,c) m).isSome := by
 unfold qaU.f
 rw [qcR (a,b,c) bd m,Option.isSome_map]
theorem qgU {a b c : Int} {m : List BEnt} {i : Nat} (h : bix (a,b,c) m = some i) (s d : LI) : qaB.f a b c s d m = some (false,m) := by
 unfold qaB.f
 rw [qcR (a,b,c) bd m,h]; rfl
theorem cp_f (s d : LI) (hs : s.length ≤ 1) (hd : d.length ≤ 1) : qaQ.f s d = some (s,d) := by
 unfold qaQ.f qaC.f qaw.f
 rw [ifp,ifp]; rfl
theorem qgV {a b c : Int} {m : List BEnt} (h : bix (a,b,c) m = none) (s d : LI) (hs : s.length ≤ 1) (hd : d.length ≤ 1) : qaB.f a b c s d m = some (true,m ++ [((a,b,c),s,d)]) := by
 unfold qaB.f
 rw [qcR (a,b,c) bd m,h,cp_f s d hs hd]
 show some (true,mset (k := k3) (e := t2) m (a,b,c) (s,d)) = _
 rw [qe1 h]
theorem Inv.fit {m : List BEnt} (h : Inv m) : m.all bfit = true := List.all_eq_true.2 fun x hx => by
 have := h.sm x hx
 unfold bfit
 simp only [bAt,decide_eq_true_eq]; omega
theorem mkeys (m : List BEnt) : (m.map bmsg).map mkey = m.map (·.1) := by rw [List.map_map]; rfl
theorem qhE {m : List BEnt} (h : Inv m) (hl : m.length ≤ 100000) : qar.f m = some (bsort (m.map bmsg)) := by
 unfold qar.f
 rw [if_pos ⟨h.nd,h.fit,by omega,by omega⟩]
theorem qe0 (l : List BMsg) : (bsort l).length = l.length := (List.mergeSort_perm l _).length_eq
theorem qgO {m : List BEnt} (h : Inv m) : ∀ x ∈ bsort (m.map bmsg),sml x := fun x hx => by
 have hx := (List.mergeSort_perm (m.map bmsg) _).mem_iff.1 hx
 obtain ⟨y,hy,rfl⟩ := List.mem_map.1 hx
 have := h.sm y hy
 exact ⟨show y.2.1.length ≤ 100000 by omega,show y.2.2.length ≤ 100000 by omega⟩
theorem qcx {m : List BEnt} (h : Inv m) (hl : m.length ≤ 100000) {k : Nat} (hk : 200000 < k) {α : Type} (c : Option (α ⊕ Bool)) :
  ((qao.f m).bind fun t => if t = ((m.map bmsg).length : Int) then ((qar.f m).bind fun t1 => (qad.f k (m.map bmsg)).bind fun t2 => (qaf.f k t1 t2).bind fun t3 => if t3 = true then c else some (.inr false)) else some (.inr false)) = c := by
 rw [show qao.f m = some (m.length : Int) from rfl,obs,if_pos (by rw [List.length_map]),qhE h hl,obs,
  qgR _ (by rw [List.length_map]; omega) (by rw [mkeys]; exact h.nd) k hk,obs,qhe _ (by rw [qe0,List.length_map]; omega) (qgO h) k (by omega),obs,if_pos rfl]
theorem qhN (m : List BEnt) (i : Nat) : ([] ++ (((m.map bmsg).take i).drop 0)) ++ (((m.map bmsg).take (m.map bmsg).length).drop (i + 1)) = (m.eraseIdx i).map bmsg := by
 rw [List.take_length,dZr,nAp,← List.map_take,← List.map_drop,← List.map_append,List.eraseIdx_eq_take_drop_succ]
theorem qgl (x0 : List (Int × Int × Int × Int × Int)) (i : Nat) (hi : i < x0.length) (hi80 : i < 80) (m : List BEnt) (h : Inv m) (hm : m.length ≤ i) (k n : Nat) (hk : 200000 < k) :
  ∃ m',Inv m' ∧ m'.length ≤ i + 1 ∧ qaj.l0 k (n + 1) x0 i (m.map bmsg) m = qaj.l0 k n x0 ((i + 1 : Nat) : Int) (m'.map bmsg) m' := by
 rw [qaj.l0,ifp,ifp,ifp,tNc,qaW (n := (i : Int) + 1) (by omega) (by omega),show (i : Int) + 1 = ((i + 1 : Nat) : Int) by omega]
 generalize x0.getD i (0,(0,(0,(0,0)))) = P
 obtain ⟨o,f,t,g,v⟩ := P
 rw [qhM m (by omega) o f t g v k (by omega),obs]
 dsimp only
 cases hb : bix (f,t,g) m with
 | none =>
  dsimp only
  by_cases h2 : o = 2
  ·refine ⟨m,h,by omega,?_⟩
   rw [if_pos h2,qgb hb,obs]
   dsimp only
   rw [if_pos (by decide),if_neg (by decide),if_neg (by decide),if_pos (by simp)]
   exact qcx h (by omega) hk _
  ·by_cases h3 : o = 3
   ·refine ⟨m,h,by omega,?_⟩
    rw [if_neg h2,if_pos h3,qhK,hb,obs,if_pos (show ((none : Option Nat).isSome == decide ((0 : Int) ≤ -1)) = true by decide)]
    exact qcx h (by omega) hk _
   ·have h' : Inv (m ++ [((f,t,g),([1] : LI),[v])]) := h.app hb (by simp) (by simp)
    refine ⟨_,h',by simp; omega,?_⟩
    rw [if_neg h2,if_neg h3,qgV hb _ _ (by simp) (by simp),obs]
    dsimp only
    rw [if_pos (by decide),if_pos (by decide),if_pos (by simp only [List.length_map,lCo,List.length_nil]; omega)]
    have e : m.map bmsg ++ ([(f,(t,(g,(([1] : LI),[v]))))] : List (Int × Int × Int × LI × LI)) = (m ++ [((f,t,g),([1] : LI),[v])]).map bmsg := by rw [List.map_append]; rfl
    rw [e]
    exact qcx h' (by simp; omega) hk _
 | some j =>
  obtain ⟨hj,hjk⟩ := qfO bd hb
  dsimp only
  by_cases h2 : o = 2
  ·have h' : Inv (m.eraseIdx j) := h.era j
   have hl' : (m.eraseIdx j).length ≤ m.length := (List.eraseIdx_sublist m j).length_le
   refine ⟨_,h',by omega,?_⟩
   have hx := h.sm _ (qeo hj bd)
   have hw : (m.map bmsg).length = m.length := List.length_map _
   rw [if_pos h2,qga hb,obs,if_pos (by simp),if_pos rfl,if_pos (by rw [hw]; omega),tNc,if_pos (by rw [hw]; exact hj),qe2 m j hj]
   rw [show qaA.f k (m.getD j bd).2.1 (m.getD j bd).2.2 (bmsg (m.getD j bd)).2.2.2.1 (bmsg (m.getD j bd)).2.2.2.2 = some true from qb2 _ _ k (by omega) (by omega) (by omega) (by omega),obs,if_pos rfl,if_pos rfl,if_pos (by rw [hw]; omega),if_pos (by simp only [dZr,lTk,hw]; omega),
    qaW (n := (j : Int) + 1) (by omega) (by omega),if_pos (by rw [hw]; omega),show ((j : Int) + 1).toNat = j + 1 by omega,qhN,if_pos (by simp only [nAp,dZr,lTk,List.length_drop,hw]; omega)]
   exact qcx h' (by omega) hk _
  ·by_cases h3 : o = 3
   ·refine ⟨m,h,by omega,?_⟩
    rw [if_neg h2,if_pos h3,qhK,hb,obs,if_pos (by simp)]
    exact qcx h (by omega) hk _
   ·refine ⟨m,h,by omega,?_⟩
    rw [if_neg h2,if_neg h3,qgU hb,obs,if_pos (by simp),ifq]
    exact qcx h (by omega) hk _
theorem qgm (x0 : List (Int × Int × Int × Int × Int)) (k : Nat) (hk : 200000 < k) : ∀ (d i n : Nat) (m : List BEnt),i + d = 80 → d < n → Inv m → m.length ≤ i → ∃ m',qaj.l0 k n x0 i (m.map bmsg) m = some (.inl m')
 | 0,i,n,m,hd,hn,_,_ => by
  obtain ⟨n,rfl⟩ := sun (n := n)
  by_cases hi : i < x0.length
  ·exact ⟨m,by rw [qaj.l0,ifp,ifq]⟩
  ·exact ⟨m,by rw [qaj.l0,ifq]⟩
 | d + 1,i,n,m,hd,hn,h,hm => by
  obtain ⟨n,rfl⟩ := sun (n := n)
  by_cases hi : i < x0.length
  ·obtain ⟨m',h1,h2,h3⟩ := qgl x0 i hi (by omega) m h hm k n hk
   rw [h3]
   exact qgm x0 k hk d (i + 1) n m' (by omega) (by omega) h1 h2
  ·exact ⟨m,by rw [qaj.l0,ifq]⟩
theorem qfv (x0 : List (Int × Int × Int × Int × Int)) (k : Nat) (hk : 200000 < k) : qaj.f k x0 = some true := by
 unfold qaj.f qbX.f
 obtain ⟨m',h⟩ := qgm x0 k hk 80 0 k [] (by omega) (by omega) Inv.nil (Nat.le_refl _)
 rw [Int.natCast_zero] at h
 rw [obs,show ([] : List BMsg) = ([] : List BEnt).map bmsg from rfl,h]; rfl
theorem qfb : qa0.f = some true := by decide +kernel
end Go.Pf

namespace Go.Pf
open Go Go.Vm
theorem qe6 (L : LI) (hL : L.length ≤ 17592186044415) (hw : ∀ x ∈ L,-9223372036854775808 ≤ x ∧ x < 9223372036854775808) (p : Int) (h0 : 0 ≤ p) (hp : p ≤ 17592186000000) :
  ∃ r q,qaJ.f L p = some (r,q) ∧ 0 ≤ q ∧ q ≤ p + 2 := by
 unfold qaJ.f
 obtain ⟨r,q,e,r0,r1,q0,_,_,q1⟩ := qa4 9 L hL hw p h0 (by omega) (by omega)
 rw [e,obs]
 dsimp only
 by_cases c : r = 0
 ·obtain ⟨r',q',e',r0',r1',q0',_,_,q1'⟩ := qa4 6 L hL hw q q0 (by omega) (by omega)
  rw [if_pos c,e',obs]
  dsimp only
  rw [if_pos ⟨r0',by show r' < 6; omega⟩,if_pos (by show r'.toNat < 6; omega)]
  exact ⟨_,_,rfl,q0',by omega⟩
 ·rw [if_neg c]
  by_cases c1 : r = 1
  ·rw [if_pos c1]; exact ⟨_,_,rfl,q0,by omega⟩
  ·obtain ⟨r',q',e',r0',r1',q0',_,_,q1'⟩ := qa4 19 L hL hw q q0 (by omega) (by omega)
   rw [if_neg c1,e',obs]
   exact ⟨_,_,rfl,q0',by omega⟩
end Go.Pf

namespace Go.Pf
open Go Go.Vm
theorem qgo (a : Int) : ∀ (d i n : Nat) (y : List (Int × Int × Int × Int × Int)),i + d = 60 → d < n → y.length = i → ∃ L,qab.l1 n a i y = some L
 | 0,i,n,y,hi,hn,_ => by
  obtain ⟨n,rfl⟩ := sun (n := n)
  exact ⟨y,by rw [qab.l1,ifq]⟩
 | d + 1,i,n,y,hi,hn,hy => by
  obtain ⟨n,rfl⟩ := sun (n := n)
  rw [qab.l1,ifp,if_pos (by decide),if_pos (by decide),if_pos (by rw [lSi]; omega),qaW (n := (i : Int) + 1) (by omega) (by omega),show (i : Int) + 1 = ((i + 1 : Nat) : Int) by omega]
  exact qgo a d (i + 1) n _ (by omega) (by omega) (by rw [lAp,lSi]; omega)
theorem qgp (k : Nat) (hk : 200000 < k) : ∀ (d i n : Nat),i + d = 40 → d + 100 < n → qab.l0 k n i = some (.inl ())
 | 0,i,n,hi,hn => by
  obtain ⟨n,rfl⟩ := sun (n := n)
  rw [qab.l0,ifq]
 | d + 1,i,n,hi,hn => by
  obtain ⟨n,rfl⟩ := sun (n := n)
  obtain ⟨L,hL⟩ := qgo i 60 0 n [] (by omega) (by omega) rfl
  rw [Int.natCast_zero] at hL
  rw [qab.l0,ifp,hL,obs,qfv L k hk,obs,if_pos rfl,qaW (n := (i : Int) + 1) (by omega) (by omega),show (i : Int) + 1 = ((i + 1 : Nat) : Int) by omega]
  exact qgp k hk d (i + 1) n (by omega) (by omega)
theorem qev : ∃ k,qab.f k = some true := by
 refine ⟨300000,?_⟩
 generalize hk' : (300000 : Nat) = k
 have hk : 200000 < k := by omega
 clear hk'
 unfold qab.f
 have h := qgp k hk 40 0 k (by omega) (by omega)
 rw [Int.natCast_zero] at h
 rw [h,obs]
 simp only [Sum.elim_inl]
 rw [qfv _ k hk,obs,if_pos rfl,qfb]; rfl
theorem qfu (x0 : List (Int × Int × Int × Int × Int)) (L : LI) (hL : L.length ≤ 17592186044415) (hw : ∀ x ∈ L,-9223372036854775808 ≤ x ∧ x < 9223372036854775808) : ∀ (d n : Nat) (p : Int) (y : List (Int × Int × Int × Int × Int)),y.length + d = 60 → d < n → 0 ≤ p → p + 6 * d ≤ 1000 → ∃ r,qan.l0 n x0 L L p y = some r
 | 0,n,p,y,hy,hn,_,_ => by
  obtain ⟨n,rfl⟩ := sun (n := n)
  exact ⟨y,by rw [qan.l0,ifq]⟩
 | d + 1,n,p,y,hy,hn,h0,hp => by
  obtain ⟨n,rfl⟩ := sun (n := n)
  by_cases c : p < (L.length : Int)
  ·obtain ⟨r1,q1,e1,_,_,a1,_,_,b1⟩ := qa4 4 L hL hw p h0 (by omega) (by omega)
   obtain ⟨r2,q2,e2,_,_,a2,_,_,b2⟩ := qa4 3 L hL hw q1 a1 (by omega) (by omega)
   obtain ⟨r3,q3,e3,_,_,a3,_,_,b3⟩ := qa4 3 L hL hw q2 a2 (by omega) (by omega)
   obtain ⟨r4,q4,e4,_,_,a4,_,_,b4⟩ := qa4 3 L hL hw q3 a3 (by omega) (by omega)
   obtain ⟨r5,q5,e5,a5,b5⟩ := qe6 L hL hw q4 a4 (by omega)
   rw [qan.l0,ifp,if_pos c,e1,obs,e2,obs,e3,obs,e4,obs,e5,obs,if_pos (by rw [lSi]; omega)]
   exact qfu x0 L hL hw d n q5 _ (by rw [lAp,lSi]; omega) (by omega) a5 (by omega)
  ·exact ⟨y,by rw [qan.l0,ifp,if_neg c]⟩
theorem qhG (a0 : List (Int × Int × Int × Int × Int)) (a1 : LI) (_ : Fit (.sl (.pair (.int .i64) (.pair (.int .i64) (.pair (.int .i64) (.pair (.int .i64) (.int .i64)))))) a0) (w1 : Fit (.sl (.int .i64)) a1) : ∃ k,qan.f k a0 a1 = some true := by
 refine ⟨300000,?_⟩
 generalize hk' : (300000 : Nat) = k
 have hk : 200000 < k := by omega
 clear hk'
 obtain ⟨f1,f2⟩ := qgy w1
 obtain ⟨r,hr⟩ := qfu a0 a1 (by omega) f2 60 k 0 [] rfl (by omega) (by omega) (by omega)
 unfold qan.f
 rw [hr,obs,qfv _ k hk,obs,if_pos rfl,qfv _ k hk,obs,if_pos rfl,qfb]; rfl
def ent (i : Nat) : BEnt := (((i : Int).tmod 3,(i : Int).tmod 2,(i : Int)),[],[(i : Int)])
def bagA (n : Nat) : List BEnt := (List.range n).map ent
def bagB (n : Nat) : List BEnt := ((List.range n).map ent).reverse
theorem invA (n : Nat) : Inv (bagA n) := by
 refine ⟨?_,fun x hx => ?_⟩
 ·unfold bagA
  rw [List.map_map,List.nodup_iff_pairwise_ne,List.pairwise_map]
  refine List.nodup_range.imp fun {a b} h1 h2 => h1 ?_
  simp only [Function.comp,ent,Prod.mk.injEq] at h2
  omega
 ·obtain ⟨i,_,rfl⟩ := List.mem_map.1 hx
  exact ⟨Nat.zero_le _,Nat.le_refl _⟩
theorem invB (n : Nat) : Inv (bagB n) := by
 have h := invA n
 refine ⟨?_,fun x hx => h.sm x (List.mem_reverse.1 hx)⟩
 unfold bagB
 exact ((List.reverse_perm (bagA n)).map (·.1)).nodup_iff.2 h.nd
theorem qhI (m : Nat) : ∀ n : Nat,n < 12 → qag.l0 (m + 12) n 0 [] [] = some (.inl (bagA n,bagB n))
 | 0,_ => rfl
 | 1,_ => rfl
 | 2,_ => rfl
 | 3,_ => rfl
 | 4,_ => rfl
 | 5,_ => rfl
 | 6,_ => rfl
 | 7,_ => rfl
 | 8,_ => rfl
 | 9,_ => rfl
 | 10,_ => rfl
 | 11,_ => rfl
 | n + 12,h => absurd h (by omega)
theorem qhH (m : Nat) : ∀ n : Nat,n < 12 → qag.l1 (m + 12) n 0 (bagA n) (bagB n) = some (.inl [])
 | 0,_ => rfl
 | 1,_ => rfl
 | 2,_ => rfl
 | 3,_ => rfl
 | 4,_ => rfl
 | 5,_ => rfl
 | 6,_ => rfl
 | 7,_ => rfl
 | 8,_ => rfl
 | 9,_ => rfl
 | 10,_ => rfl
 | 11,_ => rfl
 | n + 12,h => absurd h (by omega)
theorem qhj (a0 : LI) (w0 : Fit (.sl (.int .i64)) a0) : ∃ k,qag.f k a0 = some true := by
 refine ⟨300000 + 12,?_⟩
 obtain ⟨f1,f2⟩ := qgy w0
 generalize hk' : (300000 : Nat) = k
 have hk : 200000 < k := by omega
 clear hk'
 obtain ⟨r,q,e,r0,r1,_⟩ := qa4 12 a0 (by omega) f2 0 (by omega) (by omega) (by omega)
 obtain ⟨n,rfl⟩ : ∃ n : Nat,r = n := ⟨r.toNat,by omega⟩
 have hn : n < 12 := by omega
 have lA : (bagA n).length = n := by unfold bagA; rw [List.length_map,List.length_range]
 have lB : (bagB n).length = n := by unfold bagB; rw [List.length_reverse,List.length_map,List.length_range]
 unfold qag.f
 rw [show qbX.f = some [] from rfl,obs,obs,e,obs]
 dsimp only
 rw [qhI k n hn,obs]
 simp only [Sum.elim_inl]
 have hs : bsort ((bagB n).map bmsg) = bsort ((bagA n).map bmsg) := qd1 ((List.reverse_perm _).map bmsg) (by rw [mkeys]; exact (invB n).nd)
 rw [qhE (invA n) (by omega),obs,qhE (invB n) (by omega),obs,hs,qhe _ (by rw [qe0,List.length_map]; omega) (qgO (invA n)) _ (by omega),obs,if_pos rfl,
  show qao.f (bagA n) = some (n : Int) from (congrArg (fun x : Nat => some (x : Int)) lA),obs,if_pos rfl,qhH k n hn,obs]
 simp only [Sum.elim_inl]
 rw [show qao.f [] = some (0 : Int) from rfl,obs,if_pos rfl,show qao.f (bagB n) = some (n : Int) from (congrArg (fun x : Nat => some (x : Int)) lB),obs,if_pos rfl,qfb]; rfl
end Go.Pf
