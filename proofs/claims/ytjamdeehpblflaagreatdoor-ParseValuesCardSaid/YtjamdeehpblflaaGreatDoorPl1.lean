/- Own texts put together: M13i .. -/
import Derived.Test.YtjamdeehpblflaaGreatDoorPl0
set_option linter.unusedVariables false
set_option linter.unusedSimpArgs false
namespace Go.Pf
open Go Go.Vm
theorem qjz {u : Nat} (hu : u ≠ 0) : ∀ c r,Lib.decDigits u = c :: r → c.toNat ≠ 48 := by
 induction u using Nat.strongRecOn with
 | _ u ih =>
  intro c r e
  by_cases h : u < 10
  ·rw [Lib.decDigits,dif_pos h] at e
   cases e
   rw [qdZ _ h]; omega
  ·rw [Lib.decDigits,dif_neg h] at e
   obtain ⟨c',r',e',_,_⟩ := qjA (u / 10)
   rw [e',List.cons_append] at e
   cases e
   exact ih (u / 10) (by omega) (by omega) c r' e'
theorem qgh {n : Int} : ∀ c ∈ Lib.itoa n,c.toNat = 45 ∨ (48 ≤ c.toNat ∧ c.toNat ≤ 57) := by
 intro c hc
 unfold Lib.itoa at hc
 split at hc
 ·rcases List.mem_cons.1 hc with rfl | hc
  ·exact .inl rfl
  ·exact .inr (qhd _ c hc)
 ·exact .inr (qhd _ c hc)
theorem qjm {n : Int} {r : List UInt8} (h : Lib.itoa n = 48 :: r) : n = 0 ∧ r = [] := by
 unfold Lib.itoa at h
 split at h
 ·cases h
 ·rename_i hn
  by_cases h0 : n.toNat = 0
  ·rw [h0,Lib.decDigits,dif_pos (by omega)] at h
   cases h
   exact ⟨by omega,rfl⟩
  ·exact absurd rfl (qjz h0 48 r h)
theorem qj1 {n : Int} {r : List UInt8} (h : Lib.itoa n = 45 :: r) : n < 0 ∧ r = Lib.decDigits n.natAbs := by
 unfold Lib.itoa at h
 split at h
 ·rename_i hn; cases h; exact ⟨hn,rfl⟩
 ·have := qhd n.toNat 45 (by rw [h]; simp)
  exact absurd this.1 (by decide)
theorem qgB {l : List UInt8} (h : ∀ n,Lib.itoa n ≠ l) : zV2 (bA l) = (0,false) :=
 qhS (qgA fun n _ e => h n (qkG e.symm))
def kn : List UInt8 := [109,101,115,104,32,45,10,111,117,116,115,10]
theorem known13 (k : Nat) (hk : 2000000 ≤ k) : qb8.f k = some true := by
 have t1 : zTB [] ByteArray.empty [] [] [] = kn := by decide +kernel
 have hs : (zShs [] ByteArray.empty [] []) = (0,[]) := by decide +kernel
 have z1 : zRd (bA kn) = some (ByteArray.empty,[],[],[]) := by rfl
 have x1 : zTx2 [] ByteArray.empty [] [] [] = (bA kn,0) := by
  unfold zTx2; rw [t1,if_neg (by decide)]
 have p1 : zPa (bA kn) = (ByteArray.empty,0,[],[],[]) := by
  unfold zPa
  rw [if_neg (by decide),z1]
  unfold zGr
  dsimp only
  rw [hs]
  dsimp only
  rw [if_pos rfl,x1,if_pos rfl]
 have p2 : zPa ByteArray.empty = zE 12 := by
  unfold zPa
  rw [if_neg (by decide),show zRd ByteArray.empty = none from rfl]
 have n1 : zV2 (ByteArray.mk #[45,55]) = (-7,true) := by
  have e : ByteArray.mk #[45,55] = zNum (-7) := by
   unfold zNum Lib.itoa
   rw [if_pos (by decide),show (-7 : Int).natAbs = 7 from rfl,Lib.decDigits,dif_pos (by decide)]; rfl
  rw [e,qeD (qfS ⟨by decide,by decide⟩)]
 have n2 : zV2 (ByteArray.mk #[48,49]) = (0,false) := qgB (l := [48,49]) fun n e => by cases (qjm e).2
 unfold qb8.f
 rw [show ByteArray.mk #[109,101,115,104,32,45,10,111,117,116,115,10] = bA kn from rfl,qdM _ k hk,obs,qdM _ k hk,obs,qaM _ (by decide),obs,qaM _ (by decide),obs,p1,p2,n1,n2]
 dsimp only
 rw [if_pos rfl,if_pos (by decide),if_pos (by decide),if_pos rfl,if_pos rfl,if_neg (by decide),qbw _ (by decide) k (by show 4 < k; omega),obs,if_pos (by rfl),qbw _ (by decide) k (by show 0 < k; omega),obs]
 rfl
theorem qfv (a0 : Int) (w0 : (Lit.int .i64 a0).wf = true) : ∃ k,qbg.f k a0 = some true := by
 obtain ⟨b1,b2⟩ := qlq w0
 refine ⟨2000000,?_⟩
 generalize hk' : (2000000 : Nat) = k
 have hk : 2000000 ≤ k := by omega
 clear hk'
 have hlen := qiD (n := a0) ⟨b1,b2⟩
 have hpos := qic a0
 have hsz : (zNum a0).size = (Lib.itoa a0).length := rfl
 have s48 : (ByteArray.mk #[48]) ++ zNum a0 = bA (48 :: Lib.itoa a0) := qfo [48] _
 have s32 : zNum a0 ++ (ByteArray.mk #[32]) = bA (Lib.itoa a0 ++ [32]) := qfo _ [32]
 have s43 : (ByteArray.mk #[43]) ++ zNum a0 = bA (43 :: Lib.itoa a0) := qfo [43] _
 have s45 : (ByteArray.mk #[45]) ++ zNum a0 = bA (45 :: Lib.itoa a0) := qfo [45] _
 have n48 : zV2 (bA (48 :: Lib.itoa a0)) = (0,false) := qgB fun n e => by
  have := (qjm e).2; rw [this] at hpos; simp at hpos
 have n32 : zV2 (bA (Lib.itoa a0 ++ [32])) = (0,false) := qgB fun n e => by
  rcases qgh (n := n) 32 (by rw [e]; simp) with h | h
  ·exact absurd h (by decide)
  ·exact absurd h.1 (by decide)
 have n43 : zV2 (bA (43 :: Lib.itoa a0)) = (0,false) := qgB fun n e => by
  rcases qgh (n := n) 43 (by rw [e]; simp) with h | h
  ·exact absurd h (by decide)
  ·exact absurd h.1 (by decide)
 have n45 : (zV2 (bA (45 :: Lib.itoa a0))).2 = decide (0 < a0) := by
  by_cases h : 0 < a0
  ·have e : bA (45 :: Lib.itoa a0) = zNum (-a0) := by
    unfold zNum Lib.itoa
    rw [ifq,ifp,Int.natAbs_neg,show a0.natAbs = a0.toNat by omega]
   rw [e,qeD (qfS ⟨by omega,by omega⟩),decide_eq_true h]
  ·rw [decide_eq_false h,qgB fun n e => ?_]
   obtain ⟨h1,h2⟩ := qj1 e
   by_cases h0 : a0 = 0
   ·have : Lib.itoa a0 = 48 :: [] := by rw [h0]; unfold Lib.itoa; rw [if_neg (by decide),show (0 : Int).toNat = 0 from rfl,Lib.decDigits,dif_pos (by decide)]; rfl
    rw [this] at h2
    exact absurd rfl (qjz (show n.natAbs ≠ 0 by omega) 48 [] h2.symm)
   ·have : Lib.itoa a0 = 45 :: Lib.decDigits a0.natAbs := by unfold Lib.itoa; rw [ifp]
    have := qhd n.natAbs 45 (by rw [← h2,this]; simp)
    exact absurd this.1 (by decide)
 have hno : ∀ x ∈ Lib.itoa a0,x ≠ 32 := fun x hx e => by
  rcases qgh (n := a0) x hx with h | h
  ·rw [e] at h; exact absurd h (by decide)
  ·rw [e] at h; exact absurd h.1 (by decide)
 have hw : zWd 32 (bA (Lib.itoa a0 ++ [32]) ++ zNum a0) = [zNum a0,zNum a0] := by
  have e : bA (Lib.itoa a0 ++ [32]) ++ zNum a0 = bA (Lib.itoa a0 ++ (32 :: (Lib.itoa a0 ++ []))) := by
   rw [show zNum a0 = bA (Lib.itoa a0) from rfl,qfo]; simp
  unfold zWd
  rw [e,qhP,qfZ 32 _ _ _ hno,qi8,qfZ 32 _ _ _ hno]
  simp [sp,zNum]
 unfold qbg.f
 rw [qfs b1 b2 k (by omega),obs,qaM _ (by omega),obs,qeD (qfS ⟨b1,b2⟩),if_pos (by show 1 + _ ≤ _; omega),s48,qaM _ (by rw [qbd]; simp only [List.length_cons]; omega),obs,n48,
  if_pos (by show _ + 1 ≤ _; omega),s32,qaM _ (by rw [qbd]; simp only [List.length_append,List.length_singleton]; omega),obs,n32,if_pos (by show 1 + _ ≤ _; omega),s43,qaM _ (by rw [qbd]; simp only [List.length_cons]; omega),obs,n43,
  if_pos (by show 1 + _ ≤ _; omega),s45,qaM _ (by rw [qbd]; simp only [List.length_cons]; omega),obs,if_pos (by rw [qbd]; simp only [List.length_append,List.length_singleton]; omega),
  qbw _ (by rw [qcg,qbd]; simp only [List.length_append,List.length_singleton]; omega) k (by rw [qcg,qbd]; simp only [List.length_append,List.length_singleton]; omega),obs,hw,n45]
 dsimp only
 rw [if_pos rfl,if_pos rfl,if_neg (by decide),if_neg (by decide),if_neg (by decide),if_pos (by simp),if_pos (by simp),if_pos (by simp),qbS,if_pos (by rw [decide_eq_true_eq]; rfl),if_pos (by simp),qbS,if_pos (by rw [decide_eq_true_eq]; rfl),known13 k hk]
 rfl
end Go.Pf
