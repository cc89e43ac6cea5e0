/- Own texts put together: M12f, M12g, M12h .. -/
import Derived.Test.YtkfjccimkjnfoaaGreatDoorPl1
set_option linter.unusedVariables false
set_option linter.unusedSimpArgs false
namespace Go.Pf
open Go Go.Vm
theorem qlu (s : List UInt8) (hs : s.length ≤ 100000000000) (nm : ByteArray) (x : Nd) (rank : Int) (hx : wtN x) (F : ByteArray → Option ByteArray) (k : Nat) (hk : 300000 ≤ k) (g1 : LI) (g3 : List Nd) (g4 : LI) (hn : nm.size ≤ 100000) :
    ((qcL.f x.1).bind fun t4 => if (bA s).size + t4.size ≤ 9223372036854775807 then (qba.f k x.2.1).bind fun t5 => if ((bA s) ++ t4).size + t5.size ≤ 9223372036854775807 then (qba.f k x.2.2.1).bind fun t6 => if (((bA s) ++ t4) ++ t5).size + t6.size ≤ 9223372036854775807 then (qba.f k x.2.2.2.1).bind fun t7 => if ((((bA s) ++ t4) ++ t5) ++ t6).size + t7.size ≤ 9223372036854775807 then if (((((bA s) ++ t4) ++ t5) ++ t6) ++ t7).size + (ByteArray.mk #[32]).size ≤ 9223372036854775807 then (qaA.f k x.2.2.2.2.1).bind fun t8 => if ((((((bA s) ++ t4) ++ t5) ++ t6) ++ t7) ++ (ByteArray.mk #[32])).size + t8.size ≤ 9223372036854775807 then if (((((((bA s) ++ t4) ++ t5) ++ t6) ++ t7) ++ (ByteArray.mk #[32])) ++ t8).size + (ByteArray.mk #[32]).size ≤ 9223372036854775807 then (qaA.f k x.2.2.2.2.2.1).bind fun t9 => if ((((((((bA s) ++ t4) ++ t5) ++ t6) ++ t7) ++ (ByteArray.mk #[32])) ++ t8) ++ (ByteArray.mk #[32])).size + t9.size ≤ 9223372036854775807 then if (((((((((bA s) ++ t4) ++ t5) ++ t6) ++ t7) ++ (ByteArray.mk #[32])) ++ t8) ++ (ByteArray.mk #[32])) ++ t9).size + (ByteArray.mk #[32]).size ≤ 9223372036854775807 then (qc8.f k g1 nm g3 g4 x.1 x.2.1 x.2.2.1 x.2.2.2.1 x.2.2.2.2.1 x.2.2.2.2.2.1 x.2.2.2.2.2.2 rank).bind fun t10 => if ((((((((((bA s) ++ t4) ++ t5) ++ t6) ++ t7) ++ (ByteArray.mk #[32])) ++ t8) ++ (ByteArray.mk #[32])) ++ t9) ++ (ByteArray.mk #[32])).size + t10.size ≤ 9223372036854775807 then if (((((((((((bA s) ++ t4) ++ t5) ++ t6) ++ t7) ++ (ByteArray.mk #[32])) ++ t8) ++ (ByteArray.mk #[32])) ++ t9) ++ (ByteArray.mk #[32])) ++ t10).size + (ByteArray.mk #[10]).size ≤ 9223372036854775807 then F ((((((((((((bA s) ++ t4) ++ t5) ++ t6) ++ t7) ++ (ByteArray.mk #[32])) ++ t8) ++ (ByteArray.mk #[32])) ++ t9) ++ (ByteArray.mk #[32])) ++ t10) ++ (ByteArray.mk #[10])) else none else none else none else none else none else none else none else none else none else none else none)
      = F (bA (s ++ zLn (zWds nm x rank))) := by
  have h1 := qcZ hx.ri; have h2 := qcZ hx.rs; have h3 := qcZ hx.ra
  have l1 := hx.i; have l2 := hx.s; have l3 := hx.a
  have h4 := qdZ hx.rn; have h5 := qdZ hx.rh
  have h6 := qfE x.1; have h7 := qh4 nm x.2.2.2.2.2.2 rank
  have s1 : (bA ([32,40] ++ zTl x.2.1 ++ [32,41])).size ≤ 3000000 := by rw [qbR]; simp only [List.length_append,List.length_cons,List.length_nil]; omega
  have s2 : (bA ([32,40] ++ zTl x.2.2.1 ++ [32,41])).size ≤ 3000000 := by rw [qbR]; simp only [List.length_append,List.length_cons,List.length_nil]; omega
  have s3 : (bA ([32,40] ++ zTl x.2.2.2.1 ++ [32,41])).size ≤ 3000000 := by rw [qbR]; simp only [List.length_append,List.length_cons,List.length_nil]; omega
  have s0 : (bA s).size ≤ 100000000000 := hs
  have b32 : (ByteArray.mk #[32]).size = 1 := rfl
  have b10 : (ByteArray.mk #[10]).size = 1 := rfl
  rw [qgd,obs,ifp,qd5 _ (by omega) hx.ri k (by omega),obs]
  generalize e1 : bA ([32,40] ++ zTl x.2.1 ++ [32,41]) = L1 at s1
  rw [if_pos (by rw [qaL]; omega),qd5 _ (by omega) hx.rs k (by omega),obs]
  generalize e2 : bA ([32,40] ++ zTl x.2.2.1 ++ [32,41]) = L2 at s2
  rw [if_pos (by rw [qaL,qaL]; omega),qd5 _ (by omega) hx.ra k (by omega),obs]
  generalize e3 : bA ([32,40] ++ zTl x.2.2.2.1 ++ [32,41]) = L3 at s3
  rw [if_pos (by simp only [qaL]; omega),if_pos (by simp only [qaL]; omega),qbI hx.rn.1 hx.rn.2 k (by omega),obs,
    if_pos (by simp only [qaL]; omega),if_pos (by simp only [qaL]; omega),qbI hx.rh.1 hx.rh.2 k (by omega),obs,
    if_pos (by simp only [qaL]; omega),if_pos (by simp only [qaL]; omega),qjd g1 nm g3 g4 _ _ _ _ _ _ _ _ hn hx.nt k hk,obs,
    if_pos (by simp only [qaL]; omega),if_pos (by simp only [qaL]; omega)]
  congr 1
  rw [qfF,← e1,← e2,← e3]
  have c32 : ByteArray.mk #[32] = bA [32] := rfl
  have c10 : ByteArray.mk #[10] = bA [10] := rfl
  rw [c32,c10,← qm3 (zName x.1),← qm3 (zNW nm x.2.2.2.2.2.2 rank)]
  simp only [zNum,qeE,qiG]
  congr 1
  simp only [List.append_assoc,List.cons_append,List.nil_append,List.singleton_append]
theorem qil (s : LI) (nm : ByteArray) (N : List Nd) (O : LI) (S : List LI) (hS : S.length = N.length) (hN : N.length ≤ 1000) (hn : nm.size ≤ 100000) (hw : ∀ x ∈ N,wtN x) (s0 : List UInt8) (hs0 : s0.length ≤ 1000000000) (k : Nat) (hk : 300000 ≤ k) :
    qau.l1 k k (bA s0) N N.length 0 s nm N O S = some (bA (s0 ++ (zNs nm N S).flatMap zLn)) := by
  have hl := qd0 (nm := nm) hS
  have := iter0 (L := fun n i y => qau.l1 k n y N N.length i s nm N O S) (st := fun i => bA (s0 ++ ((zNs nm N S).take i).flatMap zLn)) (fun _=>bA (s0 ++ (zNs nm N S).flatMap zLn)) (m := N.length) 0
    (fun n _ => by rw [qau.l1,ifq,List.take_of_length_le (by rw [hl]; omega)])
    (fun i n hi _ ih => by
      have hx := hw _ (qan hi nd0)
      have hb : (((zNs nm N S).take i).flatMap zLn).length ≤ 100000000000 - 1000000000 := by
        have h3 := qet (B := 3000000) (L := (zNs nm N S).take i) fun l h => by
          obtain ⟨j,hj,rfl⟩ := List.getElem_of_mem (List.mem_of_mem_take h)
          have hj' : j < N.length := by rw [← hl]; exact hj
          have hy := hw _ (qan hj' nd0)
          have e : (zNs nm N S)[j] = zWds nm (N.getD j nd0) ((S.getD j []).length : Int) := by
            rw [← qgI hS hj',List.getD_eq_getElem?_getD,List.getElem?_eq_getElem hj]; rfl
          rw [e]
          have h1 := hy.i; have h2 := hy.s; have h3 := hy.a
          have := qeM nm _ ((S.getD j []).length : Int) hy
          omega
        rw [List.length_take,hl] at h3
        omega
      rw [qfG (show i < (zNs nm N S).length by rw [hl]; exact hi) ([] : List ByteArray),qgI hS hi,List.flatMap_append,List.flatMap_cons,List.flatMap_nil,List.append_nil,← List.append_assoc] at ih
      rw [qau.l1,ifp,ifp,Int.toNat_natCast,qas hi (by omega)]
      have p1 : 0 ≤ (i : Int) ∧ (i : Int) < (S.length : Int) := by rw [hS]; omega
      have p2 : i < S.length := by rw [hS]; exact hi
      simp only [if_pos p1,if_pos p2]
      refine (qlu _ (by rw [List.length_append]; omega) nm (N.getD i nd0) ((S.getD i []).length : Int) hx (fun y => qau.l1 k n y N N.length ((i + 1 : Nat) : Int) s nm N O S) k hk s N O hn).trans ?_
      exact ih) k (by omega)
  rw [List.take_zero,List.flatMap_nil,List.append_nil] at this
  exact this
theorem qje {s : LI} {nm : ByteArray} {N : List Nd} {O : LI} (hw : wtG s nm N O) (k : Nat) (hk : 300000 ≤ k) :
    qau.f k s nm N O = some (if (zShs s nm N O).1 = 0 then zTx2 s nm N O (zShs s nm N O).2 else (ByteArray.empty,(zShs s nm N O).1)) := by
  unfold qau.f
  rw [qhy s nm N O hw.nm (fun x hx => (hw.n x hx).ok) k (by omega),obs]
  by_cases h0 : (zShs s nm N O).1 = 0
  rotate_left
  · rw [if_neg h0,if_neg h0]
  obtain ⟨h1,h2,h3,h4,_,_⟩ := qfD h0
  rw [if_pos h0,if_pos h0]
  generalize (zShs s nm N O).2 = S at h4
  have hl := qd0 (nm := nm) h4
  have hz := qcZ hw.rs; have hzo := qcZ hw.ro
  have hnm := hw.nm
  -- behind the first line
  have rest : ∀ s0 : List UInt8,s0.length ≤ 1000000 → s0 ++ zTl s ++ [10] = zLn (zHd s nm) →
      ((qau.l0 k k (bA s0) (s.length : Int) 0 s nm N O S).bind fun t14 => if t14.size + (ByteArray.mk #[10]).size ≤ 9223372036854775807 then (qau.l1 k k (t14 ++ (ByteArray.mk #[10])) N (N.length : Int) 0 s nm N O S).bind fun t15 => if t15.size + (ByteArray.mk #[111,117,116,115]).size ≤ 9223372036854775807 then (qau.l2 k k (t15 ++ (ByteArray.mk #[111,117,116,115])) (O.length : Int) 0 s nm N O).bind fun t16 => if t16.size + (ByteArray.mk #[10]).size ≤ 9223372036854775807 then if 65536 < ((t16 ++ (ByteArray.mk #[10])).size : Int) then (some (ByteArray.empty,3)) else some (t16 ++ (ByteArray.mk #[10]),(0 : Int)) else none else none else none)
        = some (zTx2 s nm N O S) := by
    intro s0 hs0 he
    have a1 := qfL s0 (fun n y i => qau.l0 k n y s.length i s nm N O S) s (by omega) hw.rs (by omega)
      (fun n y => by rw [qau.l0,ifq])
      (fun i n y hi hy => by
        have hm := hw.rs _ (qan hi 0)
        have hz := qdZ hm
        rw [qau.l0,ifp,if_pos (by show _ + 1 ≤ _; omega),ifp,Int.toNat_natCast,qbI hm.1 hm.2 k (by omega),obs,if_pos (by rw [qaL]; show _ + 1 + _ ≤ _; omega),qas hi (by omega)]
        rfl) k (by omega)
    have c10 : ByteArray.mk #[10] = bA [10] := rfl
    have co : ByteArray.mk #[111,117,116,115] = bA outs4 := rfl
    rw [a1,obs,c10,co,if_pos (by rw [qbR,qbR,List.length_append]; simp only [List.length_singleton]; omega),qeE,he]
    have hlen : (zLn (zHd s nm)).length ≤ 2000000 := by
      rw [← he]; simp only [List.length_append,List.length_singleton]; omega
    have hns : ((zNs nm N S).flatMap zLn).length ≤ 3000000 * 48 := by
      refine Nat.le_trans (qet (B := 3000000) fun l h => ?_) (by rw [hl]; omega)
      obtain ⟨j,hj,rfl⟩ := List.getElem_of_mem h
      have hj' : j < N.length := by rw [← hl]; exact hj
      have hy := hw.n _ (qan hj' nd0)
      have e : (zNs nm N S)[j] = zWds nm (N.getD j nd0) ((S.getD j []).length : Int) := by
        rw [← qgI h4 hj',List.getD_eq_getElem?_getD,List.getElem?_eq_getElem hj]; rfl
      rw [e]
      have h1 := hy.i; have h2 := hy.s; have h3 := hy.a
      have := qeM nm _ ((S.getD j []).length : Int) hy
      omega
    rw [qil s nm N O S h4 (by omega) hw.nm hw.n _ (by omega) k hk,obs,if_pos (by rw [qbR,qbR,List.length_append,show outs4.length = 4 from rfl]; omega),qeE]
    have a2 := qfL (zLn (zHd s nm) ++ (zNs nm N S).flatMap zLn ++ outs4) (fun n y i => qau.l2 k n y O.length i s nm N O) O (by omega) hw.ro (by simp only [List.length_append,show outs4.length = 4 from rfl]; omega)
      (fun n y => by rw [qau.l2,ifq])
      (fun i n y hi hy => by
        have hm := hw.ro _ (qan hi 0)
        have hz := qdZ hm
        rw [qau.l2,ifp,if_pos (by show _ + 1 ≤ _; omega),ifp,Int.toNat_natCast,qbI hm.1 hm.2 k (by omega),obs,if_pos (by rw [qaL]; show _ + 1 + _ ≤ _; omega),qas hi (by omega)]
        rfl) k (by omega)
    rw [a2,obs,if_pos (by rw [qbR,qbR]; simp only [List.length_append,List.length_singleton,show outs4.length = 4 from rfl]; omega),qeE,qbR]
    have hT : zLn (zHd s nm) ++ (zNs nm N S).flatMap zLn ++ outs4 ++ zTl O ++ [10] = zTB s nm N O S := by
      unfold zTB zLs
      rw [List.flatMap_append,List.flatMap_append,List.flatMap_cons,List.flatMap_cons,List.flatMap_nil,List.append_nil,List.append_nil,qiQ]
      simp only [List.append_assoc]
    rw [hT]
    unfold zTx2
    by_cases c : 65536 < (zTB s nm N O S).length
    · rw [ifp,if_pos c]
    · rw [ifq,if_neg c]
  by_cases hne : nm = ByteArray.empty
  · rw [if_pos ((qbN _ _).2 hne)]
    refine rest [109,101,115,104,32,45] (by decide) ?_
    rw [qhG,if_pos hne]; rfl
  · rw [if_neg (fun h => hne ((qbN _ _).1 h)),if_pos (by show 5 + _ ≤ _; omega)]
    have e : (ByteArray.mk #[109,101,115,104,32]) ++ nm = bA ([109,101,115,104,32] ++ nm.data.toList) := by rw [← qeE,qm3]; rfl
    have el : nm.data.toList.length = nm.size := Array.length_toList
    rw [e]
    refine rest _ (by simp only [List.length_append,List.length_cons,List.length_nil,el]; omega) ?_
    rw [qhG,if_neg hne]
    simp [mesh5]
end Go.Pf

namespace Go.Pf
open Go Go.Vm
def sml (l : LI) : Prop := ∀ x ∈ l,0 ≤ x ∧ x ≤ 32
theorem qeO : sml [] := fun x h => by cases h
theorem qmd {l : LI} (h : l.length = 0) : sml l := by rw [List.eq_nil_of_length_eq_zero h]; exact qeO
theorem qjV {l : LI} (h : l.length = 1) (h1 : 0 ≤ l.getD 0 0 ∧ l.getD 0 0 ≤ 32) : sml l := by
 match l,h with
 | [x],_ => intro y hy; rw [List.mem_singleton] at hy; subst hy; exact h1
theorem qme {s : LI} (h : mSR s = true) : sml s := fun x hx => by have := (qak h).2.1 x hx; omega
theorem qog {op : Int} {ls la : Nat} {n h m : Int} (hF : zF op ls la n h m = true) : ∃ lo more s a v w,tq op = some (lo,more,s,a,v,w) ∧ (s = false → ls = 0) ∧ (a = false → la = 0) ∧ (v = false → n = 0) ∧ (w = false → h = 0) := by
 unfold zF at hF
 cases ht : tq op with
 | none => rw [ht] at hF; cases hF
 | some t =>
  obtain ⟨lo,more,s,a,v,w⟩ := t
  rw [ht] at hF
  simp only [Bool.and_eq_true,Bool.or_eq_true,decide_eq_true_eq] at hF
  obtain ⟨⟨⟨⟨⟨_,_⟩,h1⟩,h2⟩,h3⟩,h4⟩ := hF
  exact ⟨lo,more,s,a,v,w,rfl,fun e => by subst e; simpa using h1,fun e => by subst e; simpa using h2,fun e => by subst e; simpa using h3,fun e => by subst e; simpa using h4⟩
theorem qnQ : ∀ {s f z : LI},sml s → zSl s f z = true → sml f ∧ sml z
 | [],[],[],_,_ => ⟨qeO,qeO⟩
 | a :: s,f :: fr,z :: sz,h,hz => by
  obtain ⟨h1,h2⟩ := qbS.1 hz
  obtain ⟨h3,h4⟩ := qnQ (fun x hx => h x (List.mem_cons_of_mem _ hx)) h2
  have := h a (List.mem_cons_self ..)
  exact ⟨fun x hx => (List.mem_cons.1 hx).elim (fun e => by rw [e]; omega) (h3 x),fun x hx => (List.mem_cons.1 hx).elim (fun e => by rw [e]; omega) (h4 x)⟩
 | [],[],_ :: _,_,h | [],_ :: _,[],_,h | [],_ :: _,_ :: _,_,h | _ :: _,[],_,_,h | _ :: _,_ :: _,[],_,h => by cases h
theorem qlV : ∀ {s f z : LI},zMay s f z = true → sml f ∧ sml z
 | [],[],[],_ => ⟨qeO,qeO⟩
 | a :: s,f :: fr,z :: sz,hz => by
  obtain ⟨⟨h1,h5⟩,h2⟩ := qbT.1 hz
  obtain ⟨h3,h4⟩ := qlV h2
  exact ⟨fun x hx => (List.mem_cons.1 hx).elim (fun e => by rw [e]; omega) (h3 x),fun x hx => (List.mem_cons.1 hx).elim (fun e => by rw [e]; omega) (h4 x)⟩
 | [],[],_ :: _,h | [],_ :: _,[],h | [],_ :: _,_ :: _,h | _ :: _,[],_,h | _ :: _,_ :: _,[],h => by cases h
theorem qnP {o : LI} (ho : o.length ≤ 4) : ∀ {l : Int} {s a : LI},-1 ≤ l → zWi o l s a = true → sml a
 | _,[],[],_,_ => qeO
 | l,x :: s,k :: a,hl,h => by
  obtain ⟨h1,h2⟩ := qcQ.1 h
  have := qnP ho (show -1 ≤ k by omega) h2
  exact fun y hy => (List.mem_cons.1 hy).elim (fun e => by rw [e]; omega) (this y)
 | _,[],_ :: _,_,h | _,_ :: _,[],_,h => by cases h
theorem qnT {m : Int} (hm : m ≤ 4) : ∀ {l : Int} {a : LI},-1 ≤ l → zRi m l a = true → sml a
 | _,[],_,_ => qeO
 | l,k :: a,hl,h => by
  obtain ⟨h1,h2⟩ := qcd.1 h
  have := qnT hm (show -1 ≤ k by omega) h2
  exact fun y hy => (List.mem_cons.1 hy).elim (fun e => by rw [e]; omega) (this y)
theorem qnX {a : LI} (n : Nat) (h1 : sml (a.take n)) (h2 : sml (a.drop n)) : sml a := fun x hx => by
 rw [← List.take_append_drop n a] at hx
 rcases List.mem_append.1 hx with hx | hx
 ·exact h1 x hx
 ·exact h2 x hx
theorem qlQ {op : Int} {s a : LI} {n h : Int} {l : List LI} (e : (zSh op s a n h l).1 = 0) : sml s ∧ sml a ∧ 0 ≤ h ∧ h ≤ 4 := by
 unfold zSh at e
 by_cases hF : zF op s.length a.length n h l.length = true
 rotate_left
 ·rw [if_neg hF] at e; simp at e
 rw [if_pos hF] at e
 by_cases hA : l.all mSR = true
 rotate_left
 ·rw [if_neg hA] at e; simp at e
 rw [if_pos hA] at e
 have hR : mSR (l.getD 0 []) = true := by
  cases l with
  | nil => decide
  | cons x l => exact List.all_eq_true.1 hA x (List.mem_cons_self ..)
 have hl4 := (qak hR).1
 have hsm := qme hR
 obtain ⟨lo,more,fs,fa,fv,fw,ht,z1,z2,z3,z4⟩ := qog hF
 have n1 : ∀ {p : Prop} [Decidable p] {x : Int × LI} {c : Int},c ≠ 0 → (if p then x else (c,([] : LI))).1 = 0 → p ∧ x.1 = 0 := fun hc h => by
  split at h
  ·exact ⟨‹_›,h⟩
  ·exact absurd h hc
 unfold zShape at e
 rcases qc1 op with rfl | rfl | rfl | rfl | rfl | rfl | rfl | rfl | rfl | rfl | rfl | rfl | rfl | rfl | rfl | rfl | rfl | rfl | rfl | rfl | hout
 case inr.inr.inr.inr.inr.inr.inr.inr.inr.inr.inr.inr.inr.inr.inr.inr.inr.inr.inr.inr => rw [qiZ hout] at ht; cases ht
 all_goals
  simp only [tq,Int.reduceEq,reduceIte,or_self,or_true,true_or,Int.reduceLE,and_true,and_self,true_and,false_and,and_false,or_false,false_or,Option.some.injEq,Prod.mk.injEq] at ht e
  obtain ⟨_,_,rfl,rfl,rfl,rfl⟩ := ht
 all_goals try (have hs0 := qmd (z1 rfl))
 all_goals try (have ha0 := qmd (z2 rfl))
 all_goals try (have hh0 := z4 rfl)
 all_goals try exact ⟨hs0,ha0,by omega,by omega⟩
 ·exact ⟨qme (n1 (by decide) e).1,ha0,by omega,by omega⟩
 ·exact ⟨qme (n1 (by decide) e).1,ha0,by omega,by omega⟩
 ·obtain ⟨h1,h2⟩ := n1 (by decide) e
  have h3 := (n1 (by decide) h2).1
  have := (qak h1).1
  exact ⟨qme h1,qjV h3.1 (by omega),by omega,by omega⟩
 ·have h1 := qer.1 (n1 (by decide) e).1
  exact ⟨hs0,fun x hx => by have := h1.mem x hx; omega,by omega,by omega⟩
 ·obtain ⟨h1,h2⟩ := n1 (by decide) e
  have h3 := (n1 (by decide) h2).1
  exact ⟨qme h1,qnP (qak h1).1 (by omega) h3,by omega,by omega⟩
 ·have h1 := (n1 (by decide) e).1
  obtain ⟨h2,h3⟩ := qnQ hsm h1.2
  exact ⟨hs0,qnX _ h2 h3,by omega,by omega⟩
 ·have h1 := (n1 (by decide) e).1
  obtain ⟨h2,h3⟩ := qlV h1.2
  exact ⟨hs0,qnX _ h2 h3,by omega,by omega⟩
 ·obtain ⟨h1,h2⟩ := n1 (by decide) e
  have h3 : 0 ≤ a.getD 0 0 ∧ a.getD 0 0 < ((l.getD 0 []).length : Int) := by
   unfold zJs at h2
   by_cases c : l = [] ∨ a.getD 0 0 < 0 ∨ ((l.getD 0 []).length : Int) ≤ a.getD 0 0
   ·rw [if_pos c] at h2; cases h2
   ·omega
  exact ⟨hs0,qjV h1 (by omega),by omega,by omega⟩
 ·obtain ⟨h1,h2⟩ := n1 (by decide) e
  have h3 := (n1 (by decide) h2).1
  exact ⟨hs0,qnT (by omega) (by omega) h3,by omega,by omega⟩
 ·obtain ⟨h1,h2⟩ := n1 (by decide) e
  have h3 : 0 ≤ a.getD 0 0 ∧ a.getD 0 0 < ((l.getD 0 []).length : Int) := by
   unfold zDS at h2
   by_cases c : a.getD 0 0 < 0 ∨ ((l.getD 0 []).length : Int) ≤ a.getD 0 0 ∨ ((l.getD 1 []).length : Int) ≤ a.getD 0 0
   ·rw [if_pos c] at h2; cases h2
   ·omega
  exact ⟨hs0,qjV h1 (by omega),by omega,by omega⟩
 ·have h1 := (n1 (by decide) e).1
  obtain ⟨h2,⟨h3,h4,h5⟩,h6⟩ := h1
  refine ⟨hs0,?_,by omega,by omega⟩
  match a,h2 with
  | [x,y,z],_ =>
   simp only [List.getD_cons_zero,List.getD_cons_succ] at h4 h5 h6
   intro v hv
   rcases List.mem_cons.1 hv with rfl | hv
   ·omega
   rcases List.mem_cons.1 hv with rfl | hv
   ·omega
   rw [List.mem_singleton] at hv; subst hv; omega
end Go.Pf

namespace Go.Pf
open Go Go.Vm
def Giv {α : Type} (p : α → Prop) (o : Option α) : Prop := ∀ r,o = some r → p r
theorem Giv.none {α : Type} {p : α → Prop} : Giv p none := fun _ h => by cases h
theorem Giv.some {α : Type} {p : α → Prop} {x : α} (h : p x) : Giv p (some x) := fun _ e => by cases e; exact h
theorem Giv.bind {α β : Type} {p : β → Prop} {o : Option α} {f : α → Option β} (h : ∀ x,o = Option.some x → Giv p (f x)) : Giv p (o.bind f) := fun r e => by
 cases ho : o with
 | none => rw [ho] at e; cases e
 | some x => rw [ho] at e; exact h x ho r e
theorem Giv.ite {α : Type} {p : α → Prop} {c : Prop} [Decidable c] {x y : Option α} (h1 : c → Giv p x) (h2 : ¬ c → Giv p y) : Giv p (if c then x else y) := by
 split
 ·exact h1 ‹_›
 ·exact h2 ‹_›
theorem rng0 : rng 0 := by unfold rng; omega
theorem qoz (L : LI) (p : Int) : Giv (fun r => rng r.1) (qa6.f L p) := by
 unfold qa6.f
 refine Giv.bind fun t1 _ => Giv.ite (fun _=>Giv.bind fun t2 _ => Giv.ite (fun h => Giv.ite (fun h' => Giv.some ?_) fun _=>Giv.none) fun _=>Giv.none) fun _=>Giv.ite (fun _=>Giv.some rng0) fun _=>Giv.bind fun t3 _ => Giv.some (qmL _)
 dsimp only
 have hm := qan h' 0
 generalize List.getD _ _ _ = x at hm
 unfold rng
 simp only [List.mem_cons,List.not_mem_nil,or_false] at hm
 omega
theorem qlf (k : Nat) : ∀ (n : Nat) (x1 : List LI) (x2 : Int) (x7 : LI) (x8 x9 x10 : Int) (L : LI) (p y0 y1 y2 : Int) (y3 : ByteArray),Giv (fun r => Sum.elim (fun _=>True) (fun t => rng t.2.1) r) (qao.l1 k n x1 x2 x7 x8 x9 x10 L p y0 y1 y2 y3)
 | 0,_,_,_,_,_,_,_,_,_,_,_,_ => by unfold qao.l1; exact Giv.none
 | n + 1,_,_,_,_,_,_,_,_,_,_,_,_ => by
  unfold qao.l1
  have ih := qlf k n
  exact Giv.ite (fun _=>Giv.ite (fun _=>Giv.bind fun t2 _ => Giv.ite (fun _=>Giv.bind fun t3 _ => Giv.ite (fun _=>Giv.some rng0) fun _=>ih _ _ _ _ _ _ _ _ _ _ _ _) fun _=>ih _ _ _ _ _ _ _ _ _ _ _ _) fun _=>Giv.none) fun _=>Giv.some trivial
theorem qlg (k : Nat) : ∀ (n : Nat) (x1 : List LI) (x2 : Int) (x7 : LI) (x8 : Int) (L : LI) (p y0 y1 y2 : Int) (y3 : ByteArray),Giv (fun r => Sum.elim (fun _=>True) (fun t => rng t.2.2.1) r) (qao.l0 k n x1 x2 x7 x8 L p y0 y1 y2 y3)
 | 0,_,_,_,_,_,_,_,_,_,_ => by unfold qao.l0; exact Giv.none
 | n + 1,_,_,_,_,_,_,_,_,_,_ => by
  unfold qao.l0
  have ih := qlg k n
  refine Giv.ite (fun _=>Giv.bind fun t1 _ => Giv.ite (fun _=>Giv.bind fun t4 h4 => ?_) fun _=>Giv.none) fun _=>Giv.some trivial
  have h := qlf _ _ _ _ _ _ _ _ _ _ _ _ _ _ _ h4
  cases t4 with
  | inl u => exact ih _ _ _ _ _ _ _ _ _ _
  | inr u => exact Giv.some h
theorem qoM (k : Nat) (S : List LI) (a : Int) (L : LI) (p : Int) : Giv (fun r => rng r.2.1) (qao.f k S a L p) := by
 unfold qao.f
 refine Giv.ite (fun _=>Giv.bind fun t5 h5 => ?_) fun _=>Giv.none
 have h := qlg _ _ _ _ _ _ _ _ _ _ _ _ _ h5
 cases t5 with
 | inl u => exact Giv.some rng0
 | inr u => exact Giv.some h
set_option maxRecDepth 100000 in
theorem qnl (S : List LI) (L : LI) (p : Int) (k : Nat) : Giv (fun r => rng r.2.2.2.1) (qad.f k S L p) := by
 unfold qad.f
 repeat' first
  | exact Giv.none
  | exact Giv.some rng0
  | (refine Giv.some ?_; dsimp only; exact qoz _ _ _ (by assumption))
  | refine Giv.ite (fun _=>?_) (fun _=>?_)
  | refine Giv.bind fun _ _ => ?_
  | (refine Giv.some ?_; dsimp only; exact qoM _ _ _ _ _ _ (by assumption))
theorem qhU (k : Nat) : ∀ (n : Nat) (x6 : Int) (y0 : ByteArray) (L : LI) (p : Int) (y2 : ByteArray) (S : List LI) (y4 : LI) (N : List Nd),(∀ x ∈ N,rng x.2.2.2.2.1) →
  Giv (fun r => ∀ x ∈ r.2.2,rng x.2.2.2.2.1) (qaq.l0 k n x6 y0 L p y2 S y4 N)
 | 0,_,_,_,_,_,_,_,_,_ => by unfold qaq.l0; exact Giv.none
 | n + 1,x6,y0,L,p,y2,S,y4,N,h => by
  unfold qaq.l0
  have ih := qhU k n
  refine Giv.ite (fun _=>Giv.bind fun t3 h3 => ?_) fun _=>Giv.some h
  have hr : rng t3.2.2.2.1 := qnl _ _ _ _ _ h3
  have snoc : ∀ (x : Nd),x.2.2.2.2.1 = t3.2.2.2.1 → ∀ y ∈ N ++ [x],rng y.2.2.2.2.1 := fun x e y hy => by
   rcases List.mem_append.1 hy with hy | hy
   ·exact h y hy
   ·rw [List.mem_singleton] at hy; rw [hy,e]; exact hr
  refine Giv.bind fun t4 _ => Giv.bind fun t5 _ => Giv.ite (fun _=>Giv.bind fun t6 _ => Giv.ite (fun _=>ih _ _ _ _ _ _ _ _ h) fun _=>Giv.bind fun t7 _ => Giv.ite (fun _=>Giv.bind fun t8 _ => Giv.bind fun t9 _ => Giv.ite (fun _=>Giv.ite (fun _=>ih _ _ _ _ _ _ _ _ (snoc _ rfl)) fun _=>Giv.none) fun _=>Giv.none)
   fun _=>Giv.ite (fun _=>Giv.ite (fun _=>ih _ _ _ _ _ _ _ _ (snoc _ rfl)) fun _=>Giv.none) fun _=>Giv.none) fun _=>ih _ _ _ _ _ _ _ _ h
theorem qmM (L : LI) (k : Nat) : Giv (fun r => ∀ x ∈ r.2.2.1,rng x.2.2.2.2.1) (qaq.f k L) := by
 unfold qaq.f
 exact Giv.bind fun t1 _ => Giv.bind fun t2 _ => Giv.bind fun t10 h10 => Giv.bind fun t11 _ => Giv.bind fun t14 _ => Giv.some (qhU _ _ _ _ _ _ _ _ _ _ (fun _ h => by cases h) _ h10)
theorem qmc {l : LI} (h : sml l) : ∀ n ∈ l,rng n := fun n hn => by have := h n hn; unfold rng; omega
theorem qlY {out : List LI} : ∀ {l : LI} {r : List LI},zIn out l = some r → ∀ x ∈ l,0 ≤ x ∧ x < (out.length : Int)
 | [],_,_,x,hx => by cases hx
 | y :: l,r,h,x,hx => by
  rw [zIn] at h
  split at h
  ·cases h
  ·rename_i hc
   cases e : zIn out l with
   | none => rw [e] at h; cases h
   | some q =>
    rcases List.mem_cons.1 hx with rfl | hx
    ·omega
    ·exact qlY e x hx
theorem qlS {nm : LI} {out : List LI} {x : Nd} (h : (zNd nm out x).1 = 0) : (∀ n ∈ x.2.1,0 ≤ n ∧ n < (out.length : Int)) ∧ sml x.2.2.1 ∧ sml x.2.2.2.1 ∧ 0 ≤ x.2.2.2.2.2.1 ∧ x.2.2.2.2.2.1 ≤ 4 := by
 unfold zNd at h
 cases e : zIn out x.2.1 with
 | none => rw [e] at h; cases h
 | some l =>
  rw [e] at h
  dsimp only at h
  by_cases c : (zSh x.1 x.2.2.1 x.2.2.2.1 x.2.2.2.2.1 x.2.2.2.2.2.1 l).1 = 0
  ·exact ⟨qlY e,qlQ c⟩
  ·rw [if_neg c] at h; exact absurd h c
theorem qgK {nm : LI} : ∀ {N : List Nd} {out : List LI},(zGo nm N out).1 = 0 → ∀ x ∈ N,(∀ n ∈ x.2.1,0 ≤ n ∧ n < ((out.length + N.length : Nat) : Int)) ∧ sml x.2.2.1 ∧ sml x.2.2.2.1 ∧ 0 ≤ x.2.2.2.2.2.1 ∧ x.2.2.2.2.2.1 ≤ 4
 | [],_,_,x,hx => by cases hx
 | y :: N,out,h,x,hx => by
  rw [zGo] at h
  by_cases c : (zNd nm out y).1 = 0
  ·rw [if_pos c] at h
   rcases List.mem_cons.1 hx with rfl | hx
   ·obtain ⟨h1,h2⟩ := qlS c
    exact ⟨fun n hn => by have := h1 n hn; rw [List.length_cons]; omega,h2⟩
   ·obtain ⟨h1,h2⟩ := qgK h x hx
    exact ⟨fun n hn => by have := h1 n hn; rw [List.length_append,List.length_singleton] at this; rw [List.length_cons]; omega,h2⟩
  ·rw [if_neg c] at h; exact absurd h c
theorem ql6 {L : LI} (T : Tp L) (k : Nat) (hk : 300000 ≤ k) : ∃ nm sz N O S,qaq.f k L = some (nm,sz,N,O) ∧ MeshOK nm sz ∧ GrOK (rs nm) S N ∧ N.length ≤ 10 ∧ O.length ≤ 10 ∧ (∀ x ∈ O,0 ≤ x ∧ x < (N.length : Int)) ∧ wtG sz nm N O ∧ zShs sz nm N O = (0,S) := by
 obtain ⟨nm,sz,N,O,S,e,hm,hG,h1,h2,h3⟩ := qln T k hk
 have hr := qmM L k _ e
 have hz := GrOK.shs hm hG (by omega) (by omega : O.length ≤ 48) h3
 have h0 : (zGo (rs nm) N []).1 = 0 := by rw [hG.go]
 refine ⟨nm,sz,N,O,S,e,hm,hG,h1,h2,h3,⟨fun x hx => ?_,by have := hm.size; omega,fun n hn => ?_,fun n hn => ?_⟩,hz⟩
 ·obtain ⟨a1,a2,a3,a4⟩ := hG.ti x hx
  obtain ⟨b1,b2,b3,b4,b5⟩ := qgK h0 x hx
  exact ⟨by omega,by omega,by omega,by omega,fun n hn => by have := b1 n hn; rw [List.length_nil] at this; unfold rng; omega,qmc b2,qmc b3,hr x hx,by unfold rng; omega⟩
 ·have := hm.right.1
  have h5 := List.all_eq_true.1 (qha this).2.1 n hn
  unfold okD at h5
  simp only [Bool.and_eq_true,decide_eq_true_eq] at h5
  unfold rng; omega
 ·have := h3 n hn; unfold rng; omega
end Go.Pf

namespace Go.Pf
open Go Go.Vm
theorem qju {s : LI} {nm : ByteArray} {N : List Nd} {O : LI} (hw : wtG s nm N O) (k : Nat) (hk : 300000 ≤ k) : qdD.f k s nm N O = some true := by
 unfold qdD.f
 rw [qcJ hw k hk,obs,qje hw k hk,obs,if_pos ((qbN _ _).2 rfl),decide_eq_true rfl]
theorem qgE {n : Nat} (h : n < 10) : Lib.itoa (n : Int) = [UInt8.ofNat (48 + n)] := by
 unfold Lib.itoa
 rw [ifq,Int.toNat_natCast,Lib.decDigits,dif_pos h]
theorem qk1 {n : Nat} (h0 : 0 < n) (h : n < 10) : Lib.itoa (-(n : Int)) = [45,UInt8.ofNat (48 + n)] := by
 unfold Lib.itoa
 rw [ifp,Int.natAbs_neg,Int.natAbs_natCast,Lib.decDigits,dif_pos h]
theorem qoi : wtG [] ByteArray.empty [] [] := ⟨(fun x h => by cases h),by decide,(fun x h => by cases h),(fun x h => by cases h)⟩
theorem known12 (k : Nat) (hk : 300000 ≤ k) : qcO.f k = some true := by
  have w2 : wtG ([2] : LI) (ByteArray.mk #[120]) ([(2,([],(([3] : LI),([],(-5,(0,(ByteArray.mk #[32,120])))))))] : List Nd) ([0] : LI) :=
    ⟨(fun x hx => by
      rw [List.mem_singleton] at hx; subst hx
      exact ⟨by decide,by decide,by decide,by decide,(fun n h => by cases h),(fun n h => by rw [List.mem_singleton] at h; subst h; unfold rng; omega),(fun n h => by cases h),(show rng (-5) by unfold rng; omega),rng0⟩),by decide,(fun n h => by rw [List.mem_singleton] at h; subst h; unfold rng; omega),(fun n h => by rw [List.mem_singleton] at h; subst h; exact rng0)⟩
  have w3 : wtG [] ByteArray.empty [] [0] := ⟨(fun x h => by cases h),by decide,(fun x h => by cases h),(fun n h => by rw [List.mem_singleton] at h; subst h; exact rng0)⟩
  have s1 : zShs [] ByteArray.empty [] [] = (0,[]) := by decide
  have s2 : zShs ([2] : LI) (ByteArray.mk #[120]) ([(2,([],(([3] : LI),([],(-5,(0,(ByteArray.mk #[32,120])))))))] : List Nd) ([0] : LI) = (0,[[3]]) := by decide
  have s3 : zShs [] ByteArray.empty [] [0] = (23,[]) := by decide
  have d0 : Lib.itoa 0 = [48] := qgE (n := 0) (by omega)
  have d2 : Lib.itoa 2 = [50] := qgE (n := 2) (by omega)
  have d3 : Lib.itoa 3 = [51] := qgE (n := 3) (by omega)
  have d5 : Lib.itoa (-5) = [45,53] := qk1 (n := 5) (by omega) (by omega)
  have t1 : zTB [] ByteArray.empty [] [] [] = [109,101,115,104,32,45,10,111,117,116,115,10] := by decide
  have nw : zNW (ByteArray.mk #[120]) (ByteArray.mk #[32,120]) 1 = ByteArray.mk #[120] := by decide
  have nn : zName 2 = ByteArray.mk #[102,105,108,108] := rfl
  have t2 : zTB ([2] : LI) (ByteArray.mk #[120]) ([(2,([],(([3] : LI),([],(-5,(0,(ByteArray.mk #[32,120])))))))] : List Nd) ([0] : LI) [[3]] = [109,101,115,104,32,120,32,50,10,102,105,108,108,32,40,32,41,32,40,32,51,32,41,32,40,32,41,32,45,53,32,48,32,120,10,111,117,116,115,32,48,10] := by
    have hne : ¬ (ByteArray.mk #[120]) = ByteArray.empty := by decide
    unfold zTB zLs zNs
    rw [List.flatMap_append,List.flatMap_append,List.flatMap_cons,List.flatMap_cons,List.flatMap_nil,List.append_nil,List.append_nil,qhG,qiQ,List.zipWith_cons_cons,List.zipWith_nil_left,List.flatMap_cons,List.flatMap_nil,qfF,if_neg hne]
    dsimp only
    rw [show (([3] : LI).length : Int) = 1 from rfl,nw,nn,d5,d0]
    simp only [zTl,List.flatMap_cons,List.flatMap_nil,d0,d2,d3]
    rfl
  unfold qcO.f
  rw [qcJ qoi k hk,obs,qcJ w2 k hk,obs,qcJ w3 k hk,obs,s1,s2,s3]
  have x1 : zTx2 [] ByteArray.empty [] [] [] = (bA [109,101,115,104,32,45,10,111,117,116,115,10],0) := by
    unfold zTx2
    rw [t1,if_neg (by decide)]
  have x2 : zTx2 ([2] : LI) (ByteArray.mk #[120]) ([(2,([],(([3] : LI),([],(-5,(0,(ByteArray.mk #[32,120])))))))] : List Nd) ([0] : LI) [[3]] = (bA [109,101,115,104,32,120,32,50,10,102,105,108,108,32,40,32,41,32,40,32,51,32,41,32,40,32,41,32,45,53,32,48,32,120,10,111,117,116,115,32,48,10],0) := by
    unfold zTx2
    rw [t2,if_neg (by decide)]
  dsimp only
  rw [if_pos rfl,if_pos rfl,if_neg (show ¬ (23 : Int) = 0 by decide),x1,x2]
  dsimp only
  refine (if_pos rfl).trans ((if_pos ((qbN _ _).2 rfl)).trans ((if_pos rfl).trans ((if_pos ((qbN _ _).2 rfl)).trans ((if_pos rfl).trans ?_))))
  rw [qeN,obs]
  refine (if_pos ((qbN _ _).2 rfl)).trans ?_
  rw [qb8 (by omega) (by omega),obs,(qbN _ _).2]
  unfold zNum Lib.itoa
  rw [ifp]
  have : (-9223372036854775808 : Int).natAbs = 9223372036854775808 := rfl
  rw [this]
  have dd : ∀ u,10 ≤ u → Lib.decDigits u = Lib.decDigits (u / 10) ++ [UInt8.ofNat (48 + u % 10)] := fun u h => by
    rw [Lib.decDigits,dif_neg (by omega)]
  have d1 : ∀ u,u < 10 → Lib.decDigits u = [UInt8.ofNat (48 + u)] := fun u h => by rw [Lib.decDigits,dif_pos h]
  rw [dd 9223372036854775808 (by omega),dd (9223372036854775808 / 10) (by omega),dd (9223372036854775808 / 10 / 10) (by omega)]
  simp only [Nat.reduceDiv,Nat.reduceMod]
  rw [dd 9223372036854775 (by omega),dd (9223372036854775 / 10) (by omega),dd (9223372036854775 / 10 / 10) (by omega),dd (9223372036854775 / 10 / 10 / 10) (by omega)]
  simp only [Nat.reduceDiv,Nat.reduceMod]
  rw [dd 922337203685 (by omega),dd (922337203685 / 10) (by omega),dd (922337203685 / 10 / 10) (by omega),dd (922337203685 / 10 / 10 / 10) (by omega),dd (922337203685 / 10 / 10 / 10 / 10) (by omega),dd (922337203685 / 10 / 10 / 10 / 10 / 10) (by omega)]
  simp only [Nat.reduceDiv,Nat.reduceMod]
  rw [dd 922337 (by omega),dd (922337 / 10) (by omega),dd (922337 / 10 / 10) (by omega),dd (922337 / 10 / 10 / 10) (by omega),dd (922337 / 10 / 10 / 10 / 10) (by omega),d1 (922337 / 10 / 10 / 10 / 10 / 10) (by omega)]
  simp only [Nat.reduceDiv,Nat.reduceMod]
  rfl
theorem qjt (x : Int) (k : Nat) (hk : 1000 ≤ k) : ∃ L,qbK.f k x = some L ∧ Tp L := by
 have : ∀ (e i n : Nat) (y : LI),200 = i + e → e < n → y.length = i → (∀ x ∈ y,-9223372036854775808 ≤ x ∧ x < 9223372036854775808) → ∃ L,qbK.l0 n x i y = some L ∧ L.length = 200 ∧ ∀ x ∈ L,-9223372036854775808 ≤ x ∧ x < 9223372036854775808 := by
  intro e
  induction e with
  | zero =>
   intro i n y hi hn hy hx
   obtain ⟨n,rfl⟩ := sun (n := n)
   rw [qbK.l0,ifq]
   exact ⟨y,rfl,by omega,hx⟩
  | succ e ih =>
   intro i n y hi hn hy hx
   obtain ⟨n,rfl⟩ := sun (n := n)
   rw [qbK.l0,ifp,if_pos (by decide),if_pos (by rw [List.length_singleton]; omega),qas (show i < 200 by omega) (by omega)]
   refine ih (i + 1) n _ (by omega) (by omega) (by rw [List.length_append,List.length_singleton]; omega) fun v hv => ?_
   rcases List.mem_append.1 hv with hv | hv
   ·exact hx v hv
   ·rw [List.mem_singleton] at hv
    generalize (IntKind.i64.wrap _ : Int) = u at hv
    have t2 := Int.lt_tmod_of_pos u (show (0 : Int) < 211 by omega)
    have t3 := Int.tmod_lt_of_pos u (show (0 : Int) < 211 by omega)
    omega
 obtain ⟨L,e,hl,hx⟩ := this 200 0 k [] (by omega) (by omega) rfl (fun x h => by cases h)
 rw [n0] at e
 unfold qbK.f
 rw [e,obs]
 exact ⟨L,rfl,by omega,hx⟩
theorem qhF : ∃ k,qag.f k = some true := by
 refine ⟨400000,?_⟩
 generalize hk' : (400000 : Nat) = k
 have hk : 300000 ≤ k := by omega
 clear hk'
 have l0 : qag.l0 k k 0 = some (.inl ()) := by
  refine upTo (L := fun n i => qag.l0 k n i) 0 80 0 (fun n _ => by rw [qag.l0,ifq]) (fun i n h0 h1' _ ih => ?_) 80 0 k (by omega) (by omega) (by omega)
  obtain ⟨L,e1,hT⟩ := qjt i k (by omega)
  obtain ⟨nm,sz,N,O,S,e,_,_,_,_,_,hw,_⟩ := ql6 hT k hk
  rw [qag.l0,if_pos h1',e1,obs,e,obs,qju hw k hk,obs,if_pos rfl,qal (n := i + 1) (by omega) (by omega)]
  exact ih
 have l1 : qag.l1 k (-2) = some (.inl ()) := by
  refine upTo (L := fun n i => qag.l1 n i) (-2) 25 0 (fun n _ => by rw [qag.l1,ifq]) (fun i n h0 h1' _ ih => ?_) 27 (-2) k (by omega) (by omega) (by omega)
  rw [qag.l1,if_pos h1',qeN,obs,qgd,obs,if_pos ((qbN _ _).2 rfl),qal (n := i + 1) (by omega) (by omega)]
  exact ih
 have l2 : ∀ Y : LI,Y.length ≤ 100 → (∀ x ∈ Y,rng x) → qag.l2 k k (Y.length : Int) 0 Y = some (.inl ()) := by
  intro Y hY hr
  refine upTo (L := fun n i => qag.l2 k n Y.length i Y) 0 Y.length 0 (fun n _ => by rw [qag.l2,ifq]) (fun i n h0 h1' _ ih => ?_) Y.length 0 k (by omega) (by omega) (by omega)
  have hm := hr _ (qan (show i.toNat < Y.length by omega) 0)
  have b1 := qmL (0 - (Y.getD i.toNat 0))
  have b2 := qmL (IntKind.i64.wrap (0 - (Y.getD i.toNat 0)) - 1)
  rw [qag.l2,if_pos h1',if_pos ⟨h0,h1'⟩,ifp,qb8 hm.1 hm.2,obs,qbI hm.1 hm.2 k (by omega),obs,if_pos ((qbN _ _).2 rfl),
   qb8 b1.1 b1.2,obs,qbI b1.1 b1.2 k (by omega),obs,if_pos ((qbN _ _).2 rfl),qb8 b2.1 b2.2,obs,qbI b2.1 b2.2 k (by omega),obs,if_pos ((qbN _ _).2 rfl),qal (n := i + 1) (by omega) (by omega)]
  exact ih
 unfold qag.f
 rw [l0,obs,Sum.elim_inl,l1,obs,Sum.elim_inl,l2 _ (by decide) (by
  intro x hx
  simp only [List.mem_cons,List.not_mem_nil,or_false] at hx
  unfold rng; omega),obs,Sum.elim_inl,known12 k hk]; rfl
end Go.Pf

namespace Go.Pf
open Go Go.Vm
def nms : List ByteArray := [ByteArray.mk #[120],ByteArray.mk #[121,195,169],ByteArray.mk #[97,98,228,184,150],ByteArray.empty]
theorem qnm (L : LI) (p : Int) : Giv (fun r => r.1 ∈ nms) (qb1.f L p) := by
 unfold qb1.f
 refine Giv.bind fun t1 _ => ?_
 repeat' first
  | exact Giv.none
  | refine Giv.ite (fun _=>?_) (fun _=>?_)
  | (refine Giv.some ?_; dsimp only; first | exact List.mem_cons_of_mem _ (List.mem_cons_of_mem _ (List.mem_cons_of_mem _ (List.mem_singleton_self _))) | exact List.mem_cons_of_mem _ (List.mem_cons_self ..) | (have hm := qan (by assumption) (ByteArray.empty); exact List.mem_append_left [ByteArray.empty] hm))
theorem qmN (L : LI) (k : Nat) : Giv (fun r => r.1 ∈ nms) (qaq.f k L) := by
 unfold qaq.f
 exact Giv.bind fun t1 h1 => Giv.bind fun t2 _ => Giv.bind fun t10 h10 => Giv.bind fun t11 _ => Giv.bind fun t14 _ => Giv.some (qnm _ _ _ h1)
abbrev nol (l : List UInt8) : Prop := (10 : UInt8) ∉ l
theorem qdf {a b : List UInt8} (h1 : nol a) (h2 : nol b) : nol (a ++ b) := fun h => (List.mem_append.1 h).elim h1 h2
theorem qmz : nol [] := fun h => by cases h
theorem qiD : ∀ (n u : Nat),u ≤ n → nol (Lib.decDigits u)
 | 0,u,h => by
  have : u = 0 := by omega
  subst this
  rw [Lib.decDigits,dif_pos (by omega)]; decide
 | n + 1,u,h => by
  have dg : ∀ d,d < 10 → nol [UInt8.ofNat (48 + d)] := fun d hd => by
   match d,hd with
   | 0,_ | 1,_ | 2,_ | 3,_ | 4,_ | 5,_ | 6,_ | 7,_ | 8,_ | 9,_ => decide
   | d + 10,h => omega
  rw [Lib.decDigits]
  split
  ·exact dg _ ‹_›
  ·exact qdf (qiD n (u / 10) (by omega)) (dg _ (Nat.mod_lt _ (by omega)))
theorem qk0 (n : Int) : nol (Lib.itoa n) := by
 unfold Lib.itoa
 split
 ·exact qdf (a := [45]) (by decide) (qiD _ _ (Nat.le_refl _))
 ·exact qiD _ _ (Nat.le_refl _)
theorem qh2 : ∀ l : LI,nol (zTl l)
 | [] => qmz
 | n :: l => by rw [qgu]; exact qdf (qdf (a := [32]) (by decide) (qk0 n)) (qh2 l)
theorem qlT (op : Int) : nol (zName op).data.toList := by
 rcases qc1 op with rfl | rfl | rfl | rfl | rfl | rfl | rfl | rfl | rfl | rfl | rfl | rfl | rfl | rfl | rfl | rfl | rfl | rfl | rfl | rfl | hout
 iterate 20 decide
 unfold zName
 rw [if_pos hout]; decide
theorem qmR : ∀ {l : LI},(∀ r ∈ l,nol (Utf8.encode r).data.toList) → nol (enc l).data.toList
 | [],_ => qmz
 | r :: l,h => by
  rw [enc,ByteArray.data_append,Array.toList_append]
  exact qdf (h r (List.mem_cons_self ..)) (qmR fun x hx => h x (List.mem_cons_of_mem _ hx))
theorem qm7 {nm : ByteArray} (h : nm ∈ nms) (sp : LI) : nol (zTxt nm sp).data.toList := by
 have key : ∀ l : LI,(∀ r ∈ l,nol (Utf8.encode r).data.toList) → ∀ k,nol (Utf8.encode (zTx l k)).data.toList := fun l hl k => by
  unfold zTx
  split
  ·decide
  ·exact hl _ (qan (by omega) 0)
 refine qmR fun r hr => ?_
 obtain ⟨k,_,rfl⟩ := List.mem_map.1 hr
 refine key _ ?_ k
 unfold nms at h
 simp only [List.mem_cons,List.not_mem_nil,or_false] at h
 rcases h with rfl | rfl | rfl | rfl
 ·rw [show rs (ByteArray.mk #[120]) = [120] by decide]; decide
 ·rw [show rs (ByteArray.mk #[121,195,169]) = [121,233] by decide]; decide
 ·rw [show rs (ByteArray.mk #[97,98,228,184,150]) = [97,98,19990] by decide]; decide
 ·intro r hr; cases hr
theorem qoe {nm : ByteArray} (h : nm ∈ nms) (nt : ByteArray) (rank : Int) : nol (zNW nm nt rank).data.toList := by
 unfold zNW
 split
 ·exact qm7 h _
 ·decide
theorem qoC {nm : ByteArray} (h : nm ∈ nms) : nol nm.data.toList := by
 unfold nms at h
 simp only [List.mem_cons,List.not_mem_nil,or_false] at h
 rcases h with rfl | rfl | rfl | rfl <;> decide
def cnt (l : List UInt8) : Nat := l.count 10
theorem qei (a b : List UInt8) : cnt (a ++ b) = cnt a + cnt b := List.count_append
theorem qfY {l : List UInt8} (h : nol l) : cnt l = 0 := List.count_eq_zero.2 h
theorem qoQ {nm : ByteArray} (h : nm ∈ nms) (x : Nd) (rank : Int) : cnt (zLn (zWds nm x rank)) = 1 := by
 rw [qfF]
 have e1 : ∀ l : LI,cnt ([32,40] ++ zTl l ++ [32,41]) = 0 := fun l => qfY (qdf (qdf (by decide) (qh2 l)) (by decide))
 have e2 : ∀ n : Int,cnt (32 :: Lib.itoa n) = 0 := fun n => qfY (qdf (a := [32]) (by decide) (qk0 n))
 have e3 : cnt (32 :: (zNW nm x.2.2.2.2.2.2 rank).data.toList) = 0 := qfY (qdf (a := [32]) (by decide) (qoe h _ _))
 have f1 := e1 x.2.1; have f2 := e1 x.2.2.1; have f3 := e1 x.2.2.2.1
 have g1 := e2 x.2.2.2.2.1; have g2 := e2 x.2.2.2.2.2.1; have g0 := qfY (qlT x.1)
 simp only [qei] at f1 f2 f3 g1 g2 g0 e3 ⊢
 have z : cnt [10] = 1 := rfl
 omega
theorem qpo {nm : ByteArray} (h : nm ∈ nms) (s : LI) : cnt (zLn (zHd s nm)) = 1 := by
 rw [qhG]
 have e : cnt (32 :: (if nm = ByteArray.empty then bA [45] else nm).data.toList ++ zTl s) = 0 := qfY (qdf (qdf (a := [32]) (by decide) (by split; decide; exact qoC h)) (qh2 s))
 rw [qei,qei,e]; rfl
theorem qpn (O : LI) : cnt (zLn (zOt O)) = 1 := by
 rw [qiQ,qei,qei,qfY (qh2 O)]; rfl
theorem qnI {B : List (List ByteArray)} (h : ∀ l ∈ B,cnt (zLn l) = 1) : cnt (B.flatMap zLn) = B.length := by
 induction B with
 | nil => rfl
 | cons l B ih => rw [List.flatMap_cons,qei,h l (List.mem_cons_self ..),ih fun m hm => h m (List.mem_cons_of_mem _ hm),List.length_cons]; omega
theorem qlR {nm : ByteArray} {N : List Nd} {S : List LI} {l : List ByteArray} (h : l ∈ zNs nm N S) : ∃ x ∈ N,∃ s ∈ S,l = zWds nm x (s.length : Int) := by
 unfold zNs at h
 rw [← List.map_uncurry_zip_eq_zipWith] at h
 obtain ⟨p,hp,rfl⟩ := List.mem_map.1 h
 exact ⟨p.1,(List.of_mem_zip hp).1,p.2,(List.of_mem_zip hp).2,rfl⟩
theorem qoa {nm : ByteArray} (h : nm ∈ nms) (s : LI) (N : List Nd) (O : LI) (S : List LI) (hS : S.length = N.length) : cnt (zTB s nm N O S) = N.length + 2 := by
 unfold zTB
 rw [qnI]
 ·unfold zLs
  simp only [List.length_append,List.length_singleton,qd0 hS]; omega
 ·intro l hl
  unfold zLs at hl
  rcases List.mem_append.1 hl with hl | hl
  ·rcases List.mem_append.1 hl with hl | hl
   ·rw [List.mem_singleton] at hl; rw [hl]; exact qpo h s
   ·obtain ⟨x,_,t,_,rfl⟩ := qlR hl
    exact qoQ h x _
  ·rw [List.mem_singleton] at hl; rw [hl]; exact qpn O
theorem qn4 {n : Int} (h0 : 0 ≤ n) (h : n ≤ 99) : (Lib.itoa n).length ≤ 2 := by
 unfold Lib.itoa
 rw [ifq]
 have := qiE 2 n.toNat (by omega)
 have hh : (Lib.decDigits n.toNat).length ≤ 2 := by
  rw [Lib.decDigits]
  split
  ·simp
  ·rw [List.length_append,Lib.decDigits,dif_pos (by omega)]; simp
 exact hh
theorem qlj : ∀ {l : LI},(∀ n ∈ l,0 ≤ n ∧ n ≤ 99) → (zTl l).length ≤ 3 * l.length
 | [],_ => Nat.le_refl _
 | n :: l,h => by
  have h1 := qn4 (h n (List.mem_cons_self ..)).1 (h n (List.mem_cons_self ..)).2
  have h2 := qlj (l := l) fun m hm => h m (List.mem_cons_of_mem _ hm)
  rw [qgu,List.length_append,List.length_cons,List.length_cons]; omega
theorem qnY {l : LI} (h : sml l) : ∀ n ∈ l,0 ≤ n ∧ n ≤ 99 := fun n hn => by have := h n hn; omega
theorem qnN {nm : ByteArray} {s : LI} {N : List Nd} {O : LI} {S : List LI} (hG : zShs s nm N O = (0,S)) (hw : wtG s nm N O) (hn : nm.size ≤ 10) (hN : N.length ≤ 11) (hti : ∀ x ∈ N,tiN x) : (zTB s nm N O S).length ≤ 65000 := by
 have h0 : (zShs s nm N O).1 = 0 := by rw [hG]
 obtain ⟨g1,g2,g3,g4,g5,g6⟩ := qfD h0
 rw [hG] at g4 g5
 have hsz : ∀ n ∈ s,0 ≤ n ∧ n ≤ 99 := fun n hn => by
  have c1 : zMs s (rs nm) = true := by
   unfold zShs at hG
   by_cases c : zMs s (rs nm) = true
   ·exact c
   ·rw [if_neg c] at hG; cases hG
  unfold zMs at c1
  rw [Bool.and_eq_true] at c1
  have h5 := List.all_eq_true.1 (qha c1.1).2.1 n hn
  unfold okD at h5
  simp only [Bool.and_eq_true,decide_eq_true_eq] at h5
  omega
 have a1 : (zLn (zHd s nm)).length ≤ 100 := by
  have h1 := qlj hsz
  have e : (if nm = ByteArray.empty then bA [45] else nm).data.toList.length ≤ 10 := by
   rw [Array.length_toList]
   split
   ·decide
   ·exact hn
  rw [qhG]
  simp only [List.length_append,List.length_cons,List.length_nil,show mesh5.length = 4 from rfl]
  omega
 have a2 : (zLn (zOt O)).length ≤ 200 := by
  have h1 := qlj (l := O) fun n hn => by have := g6 n hn; omega
  rw [qiQ]
  simp only [List.length_append,List.length_singleton,show outs4.length = 4 from rfl]
  omega
 have a3 : ((zNs nm N S).flatMap zLn).length ≤ 3000 * 11 := by
  refine Nat.le_trans (qet (B := 3000) fun l h => ?_) (by rw [qd0 g4]; omega)
  obtain ⟨x,hx,t,_,rfl⟩ := qlR h
  obtain ⟨b1,b2,b3,b4,b5⟩ := qgK (by rw [← g5] : (zGo (rs nm) N []).1 = 0) x hx
  obtain ⟨c1,c2,c3,c4⟩ := hti x hx
  have h1 := qlj (l := x.2.1) fun n hn => by have := b1 n hn; rw [List.length_nil] at this; omega
  have h2 := qlj (qnY b2); have h3 := qlj (qnY b3)
  have h4 := qfr (hw.n x hx).rn
  have h5 := qn4 b4 (by omega)
  have h6 := qfE x.1; have h7 := qh4 nm x.2.2.2.2.2.2 (t.length : Int)
  have e6 : (zName x.1).data.toList.length = (zName x.1).size := Array.length_toList
  have e7 : (zNW nm x.2.2.2.2.2.2 (t.length : Int)).data.toList.length = (zNW nm x.2.2.2.2.2.2 (t.length : Int)).size := Array.length_toList
  rw [qfF]
  simp only [List.length_append,List.length_cons,List.length_nil,e6,e7]
  omega
 unfold zTB zLs
 rw [List.flatMap_append,List.flatMap_append,List.flatMap_cons,List.flatMap_cons,List.flatMap_nil,List.append_nil,List.append_nil]
 simp only [List.length_append]
 omega
end Go.Pf

namespace Go.Pf
open Go Go.Vm
theorem qnr (L : List UInt8) (hL : L.length ≤ 1000000) (x7 : ByteArray) (y0 : ByteArray) (y1 : LI) (y2 : List Nd) (y3 : LI) (x10 : Int) (k : Nat) (hk : 1000001 < k) :
    qap.l0 k (bA L) x7 0 x10 0 y0 y1 y2 y3 = some (cnt L : Int) := by
  have := iter0 (L := fun n i y => qap.l0 n (bA L) x7 y x10 i y0 y1 y2 y3) (st := fun i => ((cnt (L.take i) : Nat) : Int)) (fun _=>(cnt L : Int)) (m := L.length) 0
    (fun n _ => by rw [qap.l0,qbR,ifq,List.take_length])
    (fun i n hi _ ih => by
      have hc : cnt (L.take i) ≤ 1000000 := by have := List.count_le_length (a := (10 : UInt8)) (l := L.take i); rw [List.length_take] at this; unfold cnt; omega
      have e : (bA L).data.getD i 0 = L.getD i 0 := by
        rw [Array.getD_eq_getD_getElem?,List.getD_eq_getElem?_getD,← Array.getElem?_toList,qiG]
      rw [qfG hi (0 : UInt8),qei] at ih
      rw [qap.l0,qbR,ifp,ifp,Int.toNat_natCast,e,qas hi (by omega)]
      by_cases c : L.getD i 0 = 10
      · rw [if_pos (by rw [c]; rfl),qal (by omega) (by omega)]
        rw [c] at ih
        exact ih
      · rw [if_neg (fun h => c (by
          apply UInt8.toNat_inj.1
          show (L.getD i 0).toNat = 10
          omega))]
        rw [show cnt [L.getD i 0] = 0 from List.count_eq_zero.2 (fun h => c (List.mem_singleton.1 h).symm),Nat.add_zero] at ih
        exact ih) k (by omega)
  rw [List.take_zero] at this
  exact this
theorem qnq (L : List UInt8) (hL : L.length ≤ 1000000) (x4 : ByteArray) (x9 : Int) (y0 : ByteArray) (y1 : LI) (y2 : List Nd) (y3 : LI) (k : Nat) (hk : 1000001 < k) :
    qap.l1 k x4 (bA L) x9 0 0 y0 y1 y2 y3 = some (cnt L : Int) := by
  have := iter0 (L := fun n i y => qap.l1 n x4 (bA L) x9 y i y0 y1 y2 y3) (st := fun i => ((cnt (L.take i) : Nat) : Int)) (fun _=>(cnt L : Int)) (m := L.length) 0
    (fun n _ => by rw [qap.l1,qbR,ifq,List.take_length])
    (fun i n hi _ ih => by
      have hc : cnt (L.take i) ≤ 1000000 := by have := List.count_le_length (a := (10 : UInt8)) (l := L.take i); rw [List.length_take] at this; unfold cnt; omega
      have e : (bA L).data.getD i 0 = L.getD i 0 := by
        rw [Array.getD_eq_getD_getElem?,List.getD_eq_getElem?_getD,← Array.getElem?_toList,qiG]
      rw [qfG hi (0 : UInt8),qei] at ih
      rw [qap.l1,qbR,ifp,ifp,Int.toNat_natCast,e,qas hi (by omega)]
      by_cases c : L.getD i 0 = 10
      · rw [if_pos (by rw [c]; rfl),qal (by omega) (by omega)]
        rw [c] at ih
        exact ih
      · rw [if_neg (fun h => c (by
          apply UInt8.toNat_inj.1
          show (L.getD i 0).toNat = 10
          omega))]
        rw [show cnt [L.getD i 0] = 0 from List.count_eq_zero.2 (fun h => c (List.mem_singleton.1 h).symm),Nat.add_zero] at ih
        exact ih) k (by omega)
  rw [List.take_zero] at this
  exact this
def fil : Nd := (2,([],([],([],(-7,(0,ByteArray.empty))))))
theorem qnz (nm : ByteArray) : (zLn (zWds nm fil 0)).length = 24 := by
 have d7 : Lib.itoa (-7) = [45,55] := qk1 (n := 7) (by omega) (by omega)
 have d0 : Lib.itoa 0 = [48] := qgE (n := 0) (by omega)
 have nw : zNW nm ByteArray.empty 0 = bA [45] := rfl
 rw [qfF]
 show ((zName 2).data.toList ++ (([32,40] ++ zTl [] ++ [32,41]) ++ (([32,40] ++ zTl [] ++ [32,41]) ++ ([32,40] ++ zTl [] ++ [32,41]))) ++ (32 :: Lib.itoa (-7) ++ (32 :: Lib.itoa 0 ++ (32 :: (zNW nm ByteArray.empty 0).data.toList ++ [10])))).length = 24
 rw [d7,d0,nw]; rfl
theorem qoU (s : LI) (nm : ByteArray) (N : List Nd) (O : LI) (S : List LI) (hS : S.length = N.length) : (zTB s nm (N ++ [fil]) O (S ++ [[]])).length = (zTB s nm N O S).length + 24 := by
 have e : zNs nm (N ++ [fil]) (S ++ [[]]) = zNs nm N S ++ [zWds nm fil 0] := by
  unfold zNs
  rw [List.zipWith_append hS.symm]; rfl
 have h := qnz nm
 unfold zTB zLs
 rw [e]
 simp only [List.flatMap_append,List.flatMap_cons,List.flatMap_nil,List.length_append,List.append_nil]
 omega
theorem qoV (s : LI) (nm : ByteArray) (N : List Nd) (O : LI) (S : List LI) : ∃ A,zTB s nm N O S = A ++ [10] := by
 unfold zTB zLs
 rw [List.flatMap_append,List.flatMap_cons,List.flatMap_nil,List.append_nil,qiQ,← List.append_assoc]
 exact ⟨_,rfl⟩
theorem qob (a0 : LI) (w0 : Fit (.sl (.int .i64)) a0) : ∃ k,qap.f k a0 = some true := by
 refine ⟨2000000,?_⟩
 generalize hk' : (2000000 : Nat) = k
 have hk : 2000000 ≤ k := by omega
 clear hk'
 obtain ⟨nm,sz,N,O,S,e1,hm,hG,hN,hO,hx,hw,hz⟩ := ql6 (qpj w0) k (by omega)
 have hnm := qmN a0 k _ e1
 dsimp only at hnm
 have hlen := hG.len
 have hnew : GrOK (rs nm) (S ++ [[]]) (N ++ [fil]) := hG.snoc rfl ⟨by decide,by decide,by decide,by decide⟩ rfl
 have hO2 : ∀ x ∈ O,0 ≤ x ∧ x < ((N ++ [fil]).length : Int) := fun x h => by
  rw [List.length_append,List.length_singleton]; have := hx x h; omega
 have z2 : zShs sz nm (N ++ [fil]) O = (0,S ++ [[]]) := GrOK.shs hm hnew (by rw [List.length_append,List.length_singleton]; omega) (by omega) hO2
 have hw2 : wtG sz nm (N ++ [fil]) O := ⟨fun x h => by
  rcases List.mem_append.1 h with h | h
  ·exact hw.n x h
  ·rw [List.mem_singleton] at h; subst h
   exact ⟨by decide,by decide,by decide,by decide,(fun n h => by cases h),(fun n h => by cases h),(fun n h => by cases h),(show rng (-7) by unfold rng; omega),rng0⟩,hw.nm,hw.rs,hw.ro⟩
 have b1 := qnN hz hw hm.size (by omega) hG.ti
 have b2 := qoU sz nm N O S hlen
 have c1 := qoa hnm sz N O S hlen
 have c2 := qoa hnm sz (N ++ [fil]) O (S ++ [[]]) (by rw [List.length_append,List.length_append,hlen]; rfl)
 obtain ⟨A,hA⟩ := qoV sz nm N O S
 have x1 : zTx2 sz nm N O S = (bA (zTB sz nm N O S),0) := by unfold zTx2; rw [ifq]
 have x2 : zTx2 sz nm (N ++ [fil]) O (S ++ [[]]) = (bA (zTB sz nm (N ++ [fil]) O (S ++ [[]])),0) := by unfold zTx2; rw [ifq]
 rw [List.length_append,List.length_singleton] at c2
 unfold qap.f
 rw [e1,obs]
 dsimp only
 rw [qcJ hw k (by omega),obs,hz,if_pos rfl,x1,ifp,List.nil_append,if_pos (by rw [List.length_singleton]; omega)]
 have hf : ([(2,([],([],([],(-7,(0,ByteArray.empty))))))] : List Nd) = [fil] := rfl
 rw [hf,qcJ hw2 k (by omega),obs,z2,if_pos rfl,x2]
 dsimp only
 generalize hT : zTB sz nm N O S = T at *
 generalize zTB sz nm (N ++ [fil]) O (S ++ [[]]) = U at *
 rw [if_pos rfl,if_pos rfl,qnr T (by omega) _ _ _ _ _ _ k (by omega),obs,qnq U (by omega) _ _ _ _ _ _ k (by omega),obs,c1,c2,
  if_pos (by rw [qal (by omega) (by omega)]; omega),if_pos (by rw [qal (by omega) (by omega)]; omega),qbR,qbR,b2,if_pos (by rw [qal (by omega) (by omega)]; omega)]
 have hTl : T.length = A.length + 1 := by rw [hA,List.length_append]; rfl
 have hi : IntKind.i64.wrap ((T.length : Int) - 1) = (A.length : Int) := by rw [qal (by omega) (by omega)]; omega
 have e : (bA T).data.getD A.length 0 = 10 := by
  rw [Array.getD_eq_getD_getElem?,hA]
  simp [bA]
 rw [hi,ifp,Int.toNat_natCast,e,if_pos (by decide),known12 k (by omega)]; rfl
end Go.Pf
