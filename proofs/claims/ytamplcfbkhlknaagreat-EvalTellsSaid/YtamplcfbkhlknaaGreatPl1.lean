/- Own texts put together: M5b, M5c, M5d .. -/
import Derived.Test.YtamplcfbkhlknaaGreatPl0
set_option linter.unusedVariables false
set_option linter.unusedSimpArgs false
namespace Go.Pf
open Go Go.Vm
theorem qpl : ∀ {s : LI},(∀ a ∈ s,0 < a) → ∀ (x m : Int),pl s (x + m * pr s) = pl s x
 | [],_,_,_ => rfl
 | a :: s,h,x,m => by
  have hs : ∀ b ∈ s,0 < b := fun b hb => h b (List.mem_cons_of_mem _ hb)
  have hp := qkL hs
  have e : x + m * pr (a :: s) = x + (m * a) * pr s := by show x + m * (a * pr s) = _; rw [Int.mul_assoc]
  rw [e]
  show ((x + m * a * pr s) / pr s) % a :: pl s (x + m * a * pr s) = (x / pr s) % a :: pl s x
  rw [qpl hs,Int.add_mul_ediv_right _ _ (by omega),Int.add_mul_emod_self_right]
theorem qnW : ∀ {s p : LI},mIn s p = true → pl s (ix s p) = p
 | [],[],_ => rfl
 | a :: s,b :: p,h => by
  have h' := h
  simp only [mIn,Bool.and_eq_true,decide_eq_true_eq] at h
  have hb := qgB h.2
  have hs : ∀ x ∈ s,0 < x := by
   have : ∀ {s p : LI},mIn s p = true → ∀ x ∈ s,0 < x := fun {s} => by
    induction s with
    | nil => intro p _ x hx; cases hx
    | cons y s ih =>
     intro p hh x hx
     cases p with
     | nil => simp [mIn] at hh
     | cons z p =>
      simp only [mIn,Bool.and_eq_true,decide_eq_true_eq] at hh
      rcases List.mem_cons.1 hx with e | hx
      ·omega
      ·exact ih hh.2 x hx
   exact this h.2
  show ((b * pr s + ix s p) / pr s) % a :: pl s (b * pr s + ix s p) = b :: p
  rw [Int.add_comm (b * pr s),qpl hs,qnW h.2,Int.add_mul_ediv_right _ _ (by omega),Int.ediv_eq_zero_of_lt hb.1 hb.2,Int.zero_add,Int.emod_eq_of_lt h.1.1 h.1.2]
 | [],_ :: _,h => by simp [mIn] at h
 | _ :: _,[],h => by simp [mIn] at h
theorem qeT {α : Type} (l : List α) (i j : Nat) (x d : α) : (l.set i x).getD j d = if i = j ∧ i < l.length then x else l.getD j d := by
 simp only [List.getD_eq_getElem?_getD,List.getElem?_set]
 by_cases h : i = j
 ·subst h
  by_cases h2 : i < l.length
  ·simp [h2]
  ·simp [h2]
 ·simp [h]
theorem qnP {i : Nat} {x : Int} {r : LI} : (List.replicate (i + 1) (0 : Int) ++ r).set i x = List.replicate i 0 ++ x :: r := by
 rw [List.set_append,if_pos (by simp)]
 have : List.replicate (i + 1) (0 : Int) = List.replicate i 0 ++ [0] := List.replicate_succ'
 rw [this,List.set_append,if_neg (by simp)]
 simp
theorem qfE (s : LI) (hs : ∀ a ∈ s,0 < a ∧ a ≤ 32) (hl : s.length ≤ 4) (x : Int) (hx : 0 ≤ x) (hx2 : x ≤ 1048576) : ∀ (i n : Nat),i ≤ s.length → i < n →
  qaY.l0 n s (x / pr (s.drop i)) ((i : Int) - 1) (List.replicate i 0 ++ pl (s.drop i) x) = some (pl s x)
 | 0,n,hi,hn => by
  obtain ⟨n,rfl⟩ : ∃ m,n = m + 1 := ⟨n - 1,by omega⟩
  rw [qaY.l0,if_neg (by omega)]; simp
 | i + 1,n,hi,hn => by
  obtain ⟨n,rfl⟩ : ∃ m,n = m + 1 := ⟨n - 1,by omega⟩
  have ha := hs _ (qan (show i < s.length by omega) 0)
  have hd := qae (show i < s.length by omega) (0 : Int)
  have hp : 0 < pr (s.drop (i + 1)) := qkL fun b hb => (hs b (List.mem_of_mem_drop hb)).1
  have ih := qfE s hs hl x hx hx2 i n (by omega) (by omega)
  rw [hd] at ih
  have hlen : (List.replicate (i + 1) (0 : Int) ++ pl (s.drop (i + 1)) x).length = s.length := by
   rw [List.length_append,qco,List.length_replicate,List.length_drop]; omega
  have hq : 0 ≤ x / pr (s.drop (i + 1)) := Int.ediv_nonneg hx (by omega)
  have hq2 : x / pr (s.drop (i + 1)) ≤ x := Int.ediv_le_self _ hx
  rw [qaY.l0,show ((i + 1 : Nat) : Int) - 1 = (i : Int) by omega,if_pos (by omega),if_pos (by omega),Int.toNat_natCast,if_pos (by omega),if_pos (by rw [hlen]; omega),if_pos (by rw [hlen]; omega),qal (n := (i : Int) - 1) (by omega) (by omega),qnP]
  generalize s.getD i 0 = a at ha ih ⊢
  rw [Int.tdiv_eq_ediv_of_nonneg hq,Int.tmod_eq_emod_of_nonneg hq]
  have hq3 : 0 ≤ x / pr (s.drop (i + 1)) / a := Int.ediv_nonneg hq (by omega)
  have hq4 : x / pr (s.drop (i + 1)) / a ≤ x / pr (s.drop (i + 1)) := Int.ediv_le_self _ hq
  rw [qal (by omega) (by omega),Int.ediv_ediv_of_nonneg (by omega)]
  rw [show pr (a :: s.drop (i + 1)) = a * pr (s.drop (i + 1)) from rfl,Int.mul_comm] at ih
  exact ih
theorem qgp (s : LI) (hs : ∀ a ∈ s,0 < a ∧ a ≤ 32) (hl : s.length ≤ 4) (x : Int) (hx : 0 ≤ x) (hx2 : x ≤ 1048576) : ∀ (i n : Nat),i ≤ s.length → i < n →
  qbk.l0 n s (x / pr (s.drop i)) ((i : Int) - 1) (List.replicate i 0 ++ pl (s.drop i) x) = some (pl s x)
 | 0,n,hi,hn => by
  obtain ⟨n,rfl⟩ : ∃ m,n = m + 1 := ⟨n - 1,by omega⟩
  rw [qbk.l0,if_neg (by omega)]; simp
 | i + 1,n,hi,hn => by
  obtain ⟨n,rfl⟩ : ∃ m,n = m + 1 := ⟨n - 1,by omega⟩
  have ha := hs _ (qan (show i < s.length by omega) 0)
  have hd := qae (show i < s.length by omega) (0 : Int)
  have hp : 0 < pr (s.drop (i + 1)) := qkL fun b hb => (hs b (List.mem_of_mem_drop hb)).1
  have ih := qgp s hs hl x hx hx2 i n (by omega) (by omega)
  rw [hd] at ih
  have hlen : (List.replicate (i + 1) (0 : Int) ++ pl (s.drop (i + 1)) x).length = s.length := by
   rw [List.length_append,qco,List.length_replicate,List.length_drop]; omega
  have hq : 0 ≤ x / pr (s.drop (i + 1)) := Int.ediv_nonneg hx (by omega)
  have hq2 : x / pr (s.drop (i + 1)) ≤ x := Int.ediv_le_self _ hx
  rw [qbk.l0,show ((i + 1 : Nat) : Int) - 1 = (i : Int) by omega,if_pos (by omega),if_pos (by omega),Int.toNat_natCast,if_pos (by omega),if_pos (by rw [hlen]; omega),if_pos (by rw [hlen]; omega),qal (n := (i : Int) - 1) (by omega) (by omega),qnP]
  generalize s.getD i 0 = a at ha ih ⊢
  rw [Int.tdiv_eq_ediv_of_nonneg hq,Int.tmod_eq_emod_of_nonneg hq]
  have hq3 : 0 ≤ x / pr (s.drop (i + 1)) / a := Int.ediv_nonneg hq (by omega)
  have hq4 : x / pr (s.drop (i + 1)) / a ≤ x / pr (s.drop (i + 1)) := Int.ediv_le_self _ hq
  rw [qal (by omega) (by omega),Int.ediv_ediv_of_nonneg (by omega)]
  rw [show pr (a :: s.drop (i + 1)) = a * pr (s.drop (i + 1)) from rfl,Int.mul_comm] at ih
  exact ih
theorem qcQ {s : LI} (h : mSR s = true) (hp : 0 < pr s) : ∀ a ∈ s,0 < a ∧ a ≤ 32 := fun a ha =>
 ⟨qii (fun b hb => ((qah h).2.1 b hb).1) hp a ha,((qah h).2.1 a ha).2⟩
theorem qbH {s : LI} (h : mSR s = true) {x : Int} (h0 : 0 ≤ x) (h1 : x < pr s) (k : Nat) (hk : 20 ≤ k) : qaY.f k s x = some (pl s x) := by
 obtain ⟨hl,_,hb⟩ := qah h
 have := qfE s (qcQ h (by omega)) hl x h0 (by omega) s.length k (Nat.le_refl _) (by omega)
 rw [List.drop_length] at this
 unfold qaY.f
 rw [if_neg (by omega),qbR s k (by omega),obs,zSz,if_pos h,if_neg (by omega),if_pos (by omega),qal (n := (s.length : Int) - 1) (by omega) (by omega),Int.toNat_natCast]
 rw [show x / pr ([] : LI) = x from Int.ediv_one x,show pl ([] : LI) x = [] from rfl,List.append_nil] at this
 rw [this,obs]
theorem qcs {s : LI} (h : mSR s = true) {x : Int} (h0 : 0 ≤ x) (h1 : x < pr s) (k : Nat) (hk : 20 ≤ k) : qbk.f k s x = some (pl s x) := by
 obtain ⟨hl,_,hb⟩ := qah h
 have := qgp s (qcQ h (by omega)) hl x h0 (by omega) s.length k (Nat.le_refl _) (by omega)
 rw [List.drop_length] at this
 unfold qbk.f
 rw [if_neg (by omega),qdr s k (by omega),obs,zSz,if_pos h,if_neg (by omega),if_pos (by omega),qal (n := (s.length : Int) - 1) (by omega) (by omega),Int.toNat_natCast]
 rw [show x / pr ([] : LI) = x from Int.ediv_one x,show pl ([] : LI) x = [] from rfl,List.append_nil] at this
 rw [this,obs]
def zIx (s p : LI) : Int := if mSR s = true ∧ mIn s p = true then ix s p else -1
theorem qbw {a b : Int} {s p : LI} : mIn (a :: s) (b :: p) = true ↔ (0 ≤ b ∧ b < a) ∧ mIn s p = true := by
 simp only [mIn,Bool.and_eq_true,decide_eq_true_eq]
theorem qfF (s p : LI) (hs : ∀ a ∈ s,0 ≤ a ∧ a ≤ 32) (hl : s.length ≤ 4) (hp : p.length = s.length) : ∀ (d i : Nat) (q : Int) (n : Nat),s.length = i + d → 0 ≤ q → q < 32 ^ i → d < n →
  qbs.l0 n s q p p.length i = some (if mIn (s.drop i) (p.drop i) = true then .inl (q * pr (s.drop i) + ix (s.drop i) (p.drop i)) else .inr (-1))
 | 0,i,q,n,hi,h0,h1,hn => by
  obtain ⟨n,rfl⟩ : ∃ m,n = m + 1 := ⟨n - 1,by omega⟩
  rw [qbs.l0,if_neg (by omega),List.drop_eq_nil_of_le (by omega),List.drop_eq_nil_of_le (by omega)]
  simp [mIn,pr,ix]
 | d + 1,i,q,n,hi,h0,h1,hn => by
  obtain ⟨n,rfl⟩ : ∃ m,n = m + 1 := ⟨n - 1,by omega⟩
  have ha := hs _ (qan (show i < s.length by omega) 0)
  rw [qbs.l0,if_pos (by omega),if_pos (by omega),Int.toNat_natCast,qae (show i < s.length by omega) (0 : Int),qae (show i < p.length by omega) (0 : Int)]
  generalize s.getD i 0 = a at ha ⊢
  generalize p.getD i 0 = b
  by_cases c1 : b < 0
  ·rw [if_pos c1,if_neg (by rw [qbw]; omega)]
  rw [if_neg c1,if_pos (by omega)]
  by_cases c2 : a ≤ b
  ·rw [if_pos c2,if_neg (by rw [qbw]; omega)]
  rw [if_neg c2]
  have h8 := p32 (show i + 1 ≤ 4 by omega)
  have e8 : (32 : Int) ^ (i + 1) = 32 ^ i * 32 := Int.pow_succ ..
  have hm0 : 0 ≤ q * a := Int.mul_nonneg h0 (by omega)
  have hm1 : q * a + a ≤ 32 ^ (i + 1) := by
   have := Int.mul_le_mul_of_nonneg_right (show q + 1 ≤ 32 ^ i by omega) (show 0 ≤ a by omega)
   rw [Int.add_mul,Int.one_mul] at this
   have h3 : (32 : Int) ^ i * a ≤ 32 ^ i * 32 := Int.mul_le_mul_of_nonneg_left (by omega) (by omega)
   omega
  rw [qal (n := q * a) (by omega) (by omega),qal (n := q * a + b) (by omega) (by omega),qal (n := (i : Int) + 1) (by omega) (by omega)]
  have := qfF s p hs hl hp d (i + 1) (q * a + b) n (by omega) (by omega) (by omega) (by omega)
  rw [show (i : Int) + 1 = ((i + 1 : Nat) : Int) by omega,this]
  by_cases c : mIn (s.drop (i + 1)) (p.drop (i + 1)) = true
  ·rw [if_pos c,if_pos (qbw.2 ⟨by omega,c⟩)]
   show some (Sum.inl ((q * a + b) * pr (s.drop (i + 1)) + ix (s.drop (i + 1)) (p.drop (i + 1)))) = some (Sum.inl (q * (a * pr (s.drop (i + 1))) + (b * pr (s.drop (i + 1)) + ix (s.drop (i + 1)) (p.drop (i + 1)))))
   rw [Int.add_mul,Int.mul_assoc,Int.add_assoc]
  ·rw [if_neg c,if_neg (by rw [qbw]; exact fun h => c h.2)]
theorem qgq (s p : LI) (hs : ∀ a ∈ s,0 ≤ a ∧ a ≤ 32) (hl : s.length ≤ 4) (hp : p.length = s.length) : ∀ (d i : Nat) (q : Int) (n : Nat),s.length = i + d → 0 ≤ q → q < 32 ^ i → d < n →
  qbQ.l0 n s p q i = some (if mIn (s.drop i) (p.drop i) = true then .inl (q * pr (s.drop i) + ix (s.drop i) (p.drop i)) else .inr (-1))
 | 0,i,q,n,hi,h0,h1,hn => by
  obtain ⟨n,rfl⟩ : ∃ m,n = m + 1 := ⟨n - 1,by omega⟩
  rw [qbQ.l0,if_neg (by omega),List.drop_eq_nil_of_le (by omega),List.drop_eq_nil_of_le (by omega)]
  simp [mIn,pr,ix]
 | d + 1,i,q,n,hi,h0,h1,hn => by
  obtain ⟨n,rfl⟩ : ∃ m,n = m + 1 := ⟨n - 1,by omega⟩
  have ha := hs _ (qan (show i < s.length by omega) 0)
  rw [qbQ.l0,if_pos (by omega),if_pos (by omega),Int.toNat_natCast,qae (show i < s.length by omega) (0 : Int),qae (show i < p.length by omega) (0 : Int)]
  generalize s.getD i 0 = a at ha ⊢
  generalize p.getD i 0 = b
  by_cases c1 : b < 0
  ·rw [if_pos c1,if_neg (by rw [qbw]; omega)]
  rw [if_neg c1,if_pos (by omega)]
  by_cases c2 : a ≤ b
  ·rw [if_pos c2,if_neg (by rw [qbw]; omega)]
  rw [if_neg c2]
  have h8 := p32 (show i + 1 ≤ 4 by omega)
  have e8 : (32 : Int) ^ (i + 1) = 32 ^ i * 32 := Int.pow_succ ..
  have hm0 : 0 ≤ q * a := Int.mul_nonneg h0 (by omega)
  have hm1 : q * a + a ≤ 32 ^ (i + 1) := by
   have := Int.mul_le_mul_of_nonneg_right (show q + 1 ≤ 32 ^ i by omega) (show 0 ≤ a by omega)
   rw [Int.add_mul,Int.one_mul] at this
   have h3 : (32 : Int) ^ i * a ≤ 32 ^ i * 32 := Int.mul_le_mul_of_nonneg_left (by omega) (by omega)
   omega
  rw [qal (n := q * a) (by omega) (by omega),qal (n := q * a + b) (by omega) (by omega),qal (n := (i : Int) + 1) (by omega) (by omega)]
  have := qgq s p hs hl hp d (i + 1) (q * a + b) n (by omega) (by omega) (by omega) (by omega)
  rw [show (i : Int) + 1 = ((i + 1 : Nat) : Int) by omega,this]
  by_cases c : mIn (s.drop (i + 1)) (p.drop (i + 1)) = true
  ·rw [if_pos c,if_pos (qbw.2 ⟨by omega,c⟩)]
   show some (Sum.inl ((q * a + b) * pr (s.drop (i + 1)) + ix (s.drop (i + 1)) (p.drop (i + 1)))) = some (Sum.inl (q * (a * pr (s.drop (i + 1))) + (b * pr (s.drop (i + 1)) + ix (s.drop (i + 1)) (p.drop (i + 1)))))
   rw [Int.add_mul,Int.mul_assoc,Int.add_assoc]
  ·rw [if_neg c,if_neg (by rw [qbw]; exact fun h => c h.2)]
theorem qdN (s p : LI) (k : Nat) (hk : 20 ≤ k) : qbs.f k s p = some (zIx s p) := by
 unfold qbs.f zIx
 rw [qbg s k (by omega),obs]
 by_cases h : mSR s = true
 ·obtain ⟨hl,h2,_⟩ := qah h
  rw [if_pos h]
  by_cases hp : p.length = s.length
  ·have := qfF s p h2 hl hp s.length 0 0 k (by omega) (by omega) (by simp) (by omega)
   rw [n0,List.drop_zero,List.drop_zero] at this
   rw [if_pos (by omega),this]
   by_cases c : mIn s p = true
   ·rw [if_pos c,if_pos ⟨h,c⟩]; simp
   ·rw [if_neg c,if_neg (fun hh => c hh.2)]; simp
  ·rw [if_neg (by omega),if_neg (fun hh => hp (qen hh.2))]
 ·rw [if_neg h,if_neg (fun hh => h hh.1)]
theorem qeh (s p : LI) (k : Nat) (hk : 20 ≤ k) : qbQ.f k s p = some (zIx s p) := by
 unfold qbQ.f zIx
 rw [qbv s k (by omega),obs]
 by_cases h : mSR s = true
 ·obtain ⟨hl,h2,_⟩ := qah h
  rw [if_pos h]
  by_cases hp : p.length = s.length
  ·have := qgq s p h2 hl hp s.length 0 0 k (by omega) (by omega) (by simp) (by omega)
   rw [n0,List.drop_zero,List.drop_zero] at this
   rw [if_pos (by omega),this]
   by_cases c : mIn s p = true
   ·rw [if_pos c,if_pos ⟨h,c⟩]; simp
   ·rw [if_neg c,if_neg (fun hh => c hh.2)]; simp
  ·rw [if_neg (by omega),if_neg (fun hh => hp (qen hh.2))]
 ·rw [if_neg h,if_neg (fun hh => h hh.1)]
theorem qiV (s d p : LI) (k : Nat) (hk : 20 ≤ k) : qdA.f k s d p = some (if zT s d = true then zIx s p else -1) := by
 unfold qdA.f
 rw [qbj s d k (by omega),obs]
 by_cases h : zT s d = true
 ·rw [if_pos h,if_pos h,qdN s p k hk]; rfl
 ·rw [if_neg h,if_neg h]
theorem qe2 {s d : LI} (h : zT s d = true) (p : LI) (k : Nat) (hk : 20 ≤ k) : qdq.f k s d p = some (if mIn s p = true then (d.getD (ix s p).toNat 0,true) else (0,false)) := by
 obtain ⟨h1,h2⟩ := qaM h
 unfold qdq.f
 rw [qiV s d p k hk,obs,if_pos h]
 by_cases c : mIn s p = true
 ·have hb := qgB c
  have hz : zIx s p = ix s p := if_pos ⟨h1,c⟩
  rw [hz,if_neg (by omega),if_pos (by omega),if_pos c]
 ·have hz : zIx s p = -1 := if_neg (fun hh => c hh.2)
  rw [hz,if_pos (by omega),if_neg c]
theorem qgN {s d : LI} (h : zT s d = true) (p : LI) (k : Nat) (hk : 20 ≤ k) : qfp.f k s d p = some (if mIn s p = true then d.getD (ix s p).toNat 0 else 0) := by
 unfold qfp.f
 rw [qe2 h p k hk,obs]
 by_cases c : mIn s p = true
 ·rw [if_pos c,if_pos c]
 ·rw [if_neg c,if_neg c]
theorem qc3 {s d p : LI} (h : zT s d = true) (c : mIn s p = true) (k : Nat) (hk : 20 ≤ k) : qcw.f k s d p = some (d.getD (ix s p).toNat 0) := by
 obtain ⟨h1,h2⟩ := qaM h
 have hb := qgB c
 unfold qcw.f
 have hz : zIx s p = ix s p := if_pos ⟨h1,c⟩
 rw [qeh s p k hk,obs,hz,if_pos (by omega)]
end Go.Pf

namespace Go.Pf
open Go Go.Vm
theorem setL {α : Type} (L r : List α) (x v : α) : (L ++ x :: r).set L.length v = (L ++ [v]) ++ r := by
 rw [List.set_append,if_neg (by omega),Nat.sub_self]; simp
theorem getL {α : Type} (L r : List α) (x d : α) : (L ++ x :: r).getD L.length d = x := by
 simp [List.getD_eq_getElem?_getD]
theorem qdT (g : Nat → Int) (i d : Nat) (c : Int) : ((List.range i).map g ++ List.replicate (d + 1) c).set i (g i) = (List.range (i + 1)).map g ++ List.replicate d c := by
 have := setL ((List.range i).map g) (List.replicate d c) c (g i)
 rw [List.length_map,List.length_range] at this
 rw [List.replicate_succ,this,List.range_succ,List.map_append]; rfl
theorem qhy (s : LI) (c : Int) (k : Nat) (hk : 10 ≤ k) (hz : zSz s ≤ 4096) : ∀ (d i n : Nat),(zSz s).toNat = i + d → d < n →
  qa6.l0 k n s c i ([] ++ s) (List.replicate i c) = some (List.replicate (i + d) c)
 | 0,i,n,hi,hn => by
  obtain ⟨n,rfl⟩ : ∃ m,n = m + 1 := ⟨n - 1,by omega⟩
  rw [qa6.l0,qdr s k hk,obs,if_neg (by omega)]; rfl
 | d + 1,i,n,hi,hn => by
  obtain ⟨n,rfl⟩ : ∃ m,n = m + 1 := ⟨n - 1,by omega⟩
  rw [qa6.l0,qdr s k hk,obs,if_pos (by omega),if_pos (by simp only [List.length_replicate,List.length_singleton]; omega),qal (n := (i : Int) + 1) (by omega) (by omega)]
  have := qhy s c k hk hz d (i + 1) n (by omega) (by omega)
  rw [show (i : Int) + 1 = ((i + 1 : Nat) : Int) by omega,show List.replicate i c ++ [c] = List.replicate (i + 1) c from List.replicate_succ'.symm,this]
  congr 2; omega
theorem qpd (s : LI) : 0 ≤ zSz s ∧ zSz s ≤ 4096 := by
 unfold zSz
 by_cases h : mSR s = true
 ·rw [if_pos h]; exact ⟨qbE fun x hx => ((qah h).2.1 x hx).1,(qah h).2.2⟩
 ·rw [if_neg h]; omega
theorem qbu (s : LI) (c : Int) (h : s.length ≤ 1000) (k : Nat) (hk : 5000 ≤ k) : qa6.f k s c = some (s,List.replicate (zSz s).toNat c) := by
 have hz := qpd s
 have := qhy s c k (by omega) hz.2 (zSz s).toNat 0 k (by omega) (by omega)
 unfold qa6.f
 rw [n0,Nat.zero_add] at this
 rw [if_pos (by omega),show ([] : LI) = List.replicate 0 c from rfl,show (List.replicate 0 c ++ s) = [] ++ s from rfl,this,obs]
 rfl
theorem qaH (s : LI) (h : s.length ≤ 1000000) : qaz.f s = some s := by
 unfold qaz.f
 rw [if_pos (by omega)]; rfl
def made (s : LI) (f : LI → Int) : LI := (List.range (pr s).toNat).map fun (i : Nat) => f (pl s i)
theorem qoP {s : LI} (h : 0 ≤ pr s) (f : LI → Int) : ((made s f).length : Int) = pr s := by
 unfold made; rw [List.length_map,List.length_range]; omega
theorem qhB {s : LI} (h : mSR s = true) (f : LI → Int) : zT s (made s f) = true := by
 have := qbE fun x hx => ((qah h).2.1 x hx).1
 unfold zT; rw [qoP this]; simp [h]
theorem qne {s : LI} (h : mSR s = true) {f g : LI → Int} (hfg : ∀ p,mIn s p = true → f p = g p) : made s f = made s g := by
 unfold made
 apply List.map_congr_left
 intro i hi
 rw [List.mem_range] at hi
 exact hfg _ (qgt (fun a ha => (qcQ h (by omega) a ha).1) _)
def zAdd : LI → LI → LI := List.zipWith (· + ·)
def zSl : LI → LI → LI → Bool
 | [],[],[] => true
 | a :: s,f :: fr,z :: sz => decide (0 ≤ f ∧ f ≤ a ∧ 0 ≤ z ∧ z ≤ a - f) && zSl s fr sz
 | _,_,_ => false
theorem qcF {a f z : Int} {s fr sz : LI} : zSl (a :: s) (f :: fr) (z :: sz) = true ↔ (0 ≤ f ∧ f ≤ a ∧ 0 ≤ z ∧ z ≤ a - f) ∧ zSl s fr sz = true := by
 simp only [zSl,Bool.and_eq_true,decide_eq_true_eq]
theorem qeZ : ∀ {s f z : LI},zSl s f z = true → f.length = s.length ∧ z.length = s.length
 | [],[],[],_ => ⟨rfl,rfl⟩
 | _ :: s,_ :: f,_ :: z,h => by
  have := qeZ (qcF.1 h).2
  simp [this.1,this.2]
 | [],_ :: _,_,h => by simp [zSl] at h
 | [],[],_ :: _,h => by simp [zSl] at h
 | _ :: _,[],_,h => by simp [zSl] at h
 | _ :: _,_ :: _,[],h => by simp [zSl] at h
theorem qfP (s f z : LI) (hs : ∀ a ∈ s,0 ≤ a ∧ a ≤ 32) (hl : s.length ≤ 4) (hf : f.length = s.length) (hz : z.length = s.length) : ∀ (d i n : Nat),s.length = i + d → d < n →
  qbN.l0 n f z s s.length i = some (if zSl (s.drop i) (f.drop i) (z.drop i) = true then .inl () else .inr 1)
 | 0,i,n,hi,hn => by
  obtain ⟨n,rfl⟩ : ∃ m,n = m + 1 := ⟨n - 1,by omega⟩
  rw [qbN.l0,if_neg (by omega),List.drop_eq_nil_of_le (by omega),List.drop_eq_nil_of_le (by omega),List.drop_eq_nil_of_le (by omega)]; rfl
 | d + 1,i,n,hi,hn => by
  obtain ⟨n,rfl⟩ : ∃ m,n = m + 1 := ⟨n - 1,by omega⟩
  have ha := hs _ (qan (show i < s.length by omega) 0)
  have ih := qfP s f z hs hl hf hz d (i + 1) n (by omega) (by omega)
  rw [qbN.l0,if_pos (by omega),if_pos (by omega),if_pos (by omega),if_pos (show 0 ≤ (i : Int) ∧ (i : Int) < (z.length : Int) by omega),Int.toNat_natCast,qae (show i < s.length by omega) (0 : Int),qae (show i < f.length by omega) (0 : Int),qae (show i < z.length by omega) (0 : Int)]
  generalize s.getD i 0 = a at ha ⊢
  generalize f.getD i 0 = b
  generalize z.getD i 0 = c
  by_cases c1 : b < 0
  ·rw [if_pos c1,if_neg (by rw [qcF]; omega)]
  by_cases c2 : a < b
  ·rw [if_neg c1,if_pos c2,if_neg (by rw [qcF]; omega)]
  by_cases c3 : c < 0
  ·rw [if_neg c1,if_neg c2,if_pos c3,if_neg (by rw [qcF]; omega)]
  rw [if_neg c1,if_neg c2,if_neg c3,qal (n := a - b) (by omega) (by omega)]
  by_cases c4 : a - b < c
  ·rw [if_pos c4,if_neg (by rw [qcF]; omega)]
  rw [if_neg c4,qal (n := (i : Int) + 1) (by omega) (by omega),show (i : Int) + 1 = ((i + 1 : Nat) : Int) by omega,ih]
  by_cases c : zSl (s.drop (i + 1)) (f.drop (i + 1)) (z.drop (i + 1)) = true
  ·rw [if_pos c,if_pos (qcF.2 ⟨by omega,c⟩)]
  ·rw [if_neg c,if_neg (fun hh => c (qcF.1 hh).2)]
theorem qgQ {s : LI} (h : mSR s = true) (f z : LI) (k : Nat) (hk : 10 ≤ k) : qbN.f k s f z = some (if zSl s f z = true then 0 else 1) := by
 obtain ⟨hl,hs,_⟩ := qah h
 unfold qbN.f
 by_cases hf : f.length = s.length
 ·by_cases hz : z.length = s.length
  ·have := qfP s f z hs hl hf hz s.length 0 k (by omega) (by omega)
   rw [n0,List.drop_zero,List.drop_zero,List.drop_zero] at this
   rw [if_pos (by omega),if_pos (by omega),this]
   by_cases c : zSl s f z = true
   ·rw [if_pos c,if_pos c]; rfl
   ·rw [if_neg c,if_neg c]; rfl
  ·rw [if_pos (by omega),if_neg (by omega),if_neg (fun hh => hz (qeZ hh).2)]
 ·rw [if_neg (by omega),if_neg (fun hh => hf (qeZ hh).1)]
theorem qfr (f : LI) (p : LI) (hf : ∀ a ∈ f,0 ≤ a ∧ a ≤ 32) (hp : ∀ a ∈ p,0 ≤ a ∧ a ≤ 32) (hl : f.length ≤ 4) (hlen : p.length = f.length) (y1 y2 y3 : LI) : ∀ (d : Nat) (L : LI) (n : Nat),f.length = L.length + d → d < n →
  qbG.l0 n f f.length L.length (L ++ p.drop L.length) y1 y2 y3 = some (L ++ zAdd (p.drop L.length) (f.drop L.length))
 | 0,L,n,hi,hn => by
  obtain ⟨n,rfl⟩ : ∃ m,n = m + 1 := ⟨n - 1,by omega⟩
  rw [qbG.l0,if_neg (by omega),List.drop_eq_nil_of_le (by omega)]; rfl
 | d + 1,L,n,hi,hn => by
  obtain ⟨n,rfl⟩ : ∃ m,n = m + 1 := ⟨n - 1,by omega⟩
  have ha := hf _ (qan (show L.length < f.length by omega) 0)
  have hb := hp _ (qan (show L.length < p.length by omega) 0)
  have ih := qfr f p hf hp hl hlen y1 y2 y3 d (L ++ [p.getD L.length 0 + f.getD L.length 0]) n (by simp; omega) (by omega)
  have hL : (L ++ p.drop L.length).length = f.length := by rw [List.length_append,List.length_drop]; omega
  rw [qbG.l0,if_pos (by omega),if_pos (by omega),if_pos (by rw [hL]; omega),if_pos (by rw [hL]; omega),Int.toNat_natCast,qae (show L.length < p.length by omega) (0 : Int),qae (show L.length < f.length by omega) (0 : Int),getL,setL,qal (n := p.getD L.length 0 + f.getD L.length 0) (by omega) (by omega),qal (n := (L.length : Int) + 1) (by omega) (by omega)]
  rw [List.length_append,List.length_singleton] at ih
  rw [show (L.length : Int) + 1 = ((L.length + 1 : Nat) : Int) by omega,ih]
  simp [zAdd]
theorem qgl (f : LI) (p : LI) (hf : ∀ a ∈ f,0 ≤ a ∧ a ≤ 32) (hp : ∀ a ∈ p,0 ≤ a ∧ a ≤ 32) (hl : f.length ≤ 4) (hlen : p.length = f.length) (x2 : LI) (x10 x84 x85 : Int) (y1 y2 y4 y5 : LI) : ∀ (d : Nat) (L : LI) (n : Nat),f.length = L.length + d → d < n →
  qaT.l2 n f x2 x10 x84 x85 p.length L.length y1 y2 (L ++ p.drop L.length) y4 y5 = some (L ++ zAdd (p.drop L.length) (f.drop L.length))
 | 0,L,n,hi,hn => by
  obtain ⟨n,rfl⟩ : ∃ m,n = m + 1 := ⟨n - 1,by omega⟩
  rw [qaT.l2,if_neg (by omega),List.drop_eq_nil_of_le (by omega)]; rfl
 | d + 1,L,n,hi,hn => by
  obtain ⟨n,rfl⟩ : ∃ m,n = m + 1 := ⟨n - 1,by omega⟩
  have ha := hf _ (qan (show L.length < f.length by omega) 0)
  have hb := hp _ (qan (show L.length < p.length by omega) 0)
  have ih := qgl f p hf hp hl hlen x2 x10 x84 x85 y1 y2 y4 y5 d (L ++ [p.getD L.length 0 + f.getD L.length 0]) n (by simp; omega) (by omega)
  have hL : (L ++ p.drop L.length).length = f.length := by rw [List.length_append,List.length_drop]; omega
  rw [qaT.l2,if_pos (by omega),if_pos (by rw [hL]; omega),if_pos (by rw [hL]; omega),if_pos (by omega),Int.toNat_natCast,qae (show L.length < p.length by omega) (0 : Int),qae (show L.length < f.length by omega) (0 : Int),getL,setL,qal (n := p.getD L.length 0 + f.getD L.length 0) (by omega) (by omega),qal (n := (L.length : Int) + 1) (by omega) (by omega)]
  rw [List.length_append,List.length_singleton] at ih
  rw [show (L.length : Int) + 1 = ((L.length + 1 : Nat) : Int) by omega,ih]
  simp [zAdd]
theorem qnX {s : LI} (h : mSR s = true) (hp : 0 < pr s) (x : Int) : ∀ a ∈ pl s x,0 ≤ a ∧ a ≤ 32 := by
 have hs := qcQ h hp
 clear h hp
 induction s with
 | nil => intro a ha; cases ha
 | cons b s ih =>
  have hb := hs b (List.mem_cons_self ..)
  intro a ha
  rcases List.mem_cons.1 ha with e | ha
  ·have h1 := Int.emod_nonneg (x / pr s) (show b ≠ 0 by omega)
   have h2 := Int.emod_lt_of_pos (x / pr s) hb.1
   omega
  ·exact ih (fun c hc => hs c (List.mem_cons_of_mem _ hc)) a ha
theorem qi8 : ∀ {s f z : LI},(∀ a ∈ s,0 ≤ a ∧ a ≤ 32) → zSl s f z = true → (∀ a ∈ f,0 ≤ a ∧ a ≤ 32) ∧ (∀ a ∈ z,0 ≤ a ∧ a ≤ 32) ∧ 0 ≤ pr z ∧ pr z ≤ pr s
 | [],[],[],_,_ => ⟨(by intro a ha; cases ha),(by intro a ha; cases ha),by decide,by decide⟩
 | a :: s,f :: fr,z :: sz,hs,h => by
  obtain ⟨h1,h2⟩ := qcF.1 h
  have ha := hs a (List.mem_cons_self ..)
  obtain ⟨i1,i2,i3,i4⟩ := qi8 (fun b hb => hs b (List.mem_cons_of_mem _ hb)) h2
  refine ⟨fun b hb => ?_,fun b hb => ?_,Int.mul_nonneg (by omega) i3,?_⟩
  ·rcases List.mem_cons.1 hb with e | hb
   ·omega
   ·exact i1 b hb
  ·rcases List.mem_cons.1 hb with e | hb
   ·omega
   ·exact i2 b hb
  ·show z * pr sz ≤ a * pr s
   exact Int.mul_le_mul (by omega) i4 i3 (by omega)
 | [],_ :: _,_,_,h => by simp [zSl] at h
 | [],[],_ :: _,_,h => by simp [zSl] at h
 | _ :: _,[],_,_,h => by simp [zSl] at h
 | _ :: _,_ :: _,[],_,h => by simp [zSl] at h
theorem qkm {s f z : LI} (h : mSR s = true) (hc : zSl s f z = true) : mSR z = true := by
 obtain ⟨h1,h2,h3⟩ := qah h
 obtain ⟨_,i2,_,i4⟩ := qi8 h2 hc
 have hl := (qeZ hc).2
 unfold mSR
 simp only [Bool.and_eq_true,decide_eq_true_eq,List.all_eq_true]
 exact ⟨⟨by omega,fun x hx => qdp.2 (i2 x hx)⟩,by omega⟩
theorem qnv : ∀ {s f z p : LI},zSl s f z = true → mIn z p = true → mIn s (zAdd p f) = true
 | [],[],[],[],_,_ => rfl
 | a :: s,f :: fr,z :: sz,b :: p,h,hp => by
  obtain ⟨h1,h2⟩ := qcF.1 h
  obtain ⟨h3,h4⟩ := qbw.1 hp
  exact qbw.2 ⟨by show 0 ≤ b + f ∧ b + f < a; omega,qnv h2 h4⟩
 | [],_ :: _,_,_,h,_ => by simp [zSl] at h
 | [],[],_ :: _,_,h,_ => by simp [zSl] at h
 | _ :: _,[],_,_,h,_ => by simp [zSl] at h
 | _ :: _,_ :: _,[],_,h,_ => by simp [zSl] at h
 | [],[],[],_ :: _,_,h => by simp [mIn] at h
 | _ :: _,_ :: _,_ :: _,[],_,h => by simp [mIn] at h
def zCut (s d f z : LI) : LI := made z fun p => d.getD (ix s (zAdd p f)).toNat 0
theorem qi2 {s d f z : LI} (h : zT s d = true) (hc : zSl s f z = true) (x : Int) (h0 : 0 ≤ x) (h1 : x < pr z) (k : Nat) (hk : 20 ≤ k) :
  qbG.f k (pl z x) f s d = some (d.getD (ix s (zAdd (pl z x) f)).toNat 0,zAdd (pl z x) f) := by
 obtain ⟨hr,_⟩ := qaM h
 obtain ⟨g1,g2,g3⟩ := qah hr
 have hz := qkm hr hc
 have hl := qeZ hc
 have := qfr f (pl z x) (qi8 g2 hc).1 (qnX hz (by omega) x) (by omega) (by rw [qco]; omega) f s d f.length [] k (by simp) (by omega)
 unfold qbG.f
 rw [List.length_nil,n0,List.drop_zero,List.drop_zero,List.nil_append,List.nil_append] at this
 rw [this,obs,qgN h _ k hk,if_pos (qnv hc (qgt (fun a ha => (qcQ hz (by omega) a ha).1) x)),obs]
theorem qdI {s d f z : LI} (h : zT s d = true) (hc : zSl s f z = true) (k : Nat) (hk : 20 ≤ k) (y4 : LI) : ∀ (e i n : Nat),(pr z).toNat = i + e → e < n →
  qau.l0 k n z (pr z) i f s d y4 ((List.range i).map (fun (i : Nat) => d.getD (ix s (zAdd (pl z i) f)).toNat 0) ++ List.replicate e 0) = some (zCut s d f z)
 | 0,i,n,hi,hn => by
  obtain ⟨n,rfl⟩ : ∃ m,n = m + 1 := ⟨n - 1,by omega⟩
  have hz := (qi8 (qah (qaM h).1).2.1 hc).2.2.1
  rw [qau.l0,if_neg (by omega)]
  unfold zCut made
  rw [hi]; simp
 | e + 1,i,n,hi,hn => by
  obtain ⟨n,rfl⟩ : ∃ m,n = m + 1 := ⟨n - 1,by omega⟩
  have hr := qkm (qaM h).1 hc
  have hb := (qah hr).2.2
  have ih := qdI h hc k hk y4 e (i + 1) n (by omega) (by omega)
  rw [qau.l0,if_pos (by omega),qbH hr (by omega) (by omega) k hk,obs,qi2 h hc i (by omega) (by omega) k hk,obs,
   if_pos (by simp; omega),if_pos (by simp),Int.toNat_natCast,qdT (fun (i : Nat) => d.getD (ix s (zAdd (pl z i) f)).toNat 0),qal (n := (i : Int) + 1) (by omega) (by omega),show (i : Int) + 1 = ((i + 1 : Nat) : Int) by omega]
  exact ih
theorem qlg (s d f z : LI) (k : Nat) (hk : 5000 ≤ k) : qeH.f k s d f z = some (if zT s d = true then (if zSl s f z = true then (0,z,zCut s d f z) else (1,[],[])) else (13,[],[])) := by
 unfold qeH.f
 rw [qbj s d k (by omega),obs]
 by_cases h : zT s d = true
 ·obtain ⟨hr,_⟩ := qaM h
  rw [if_pos h,if_pos h,qgQ hr f z k (by omega),obs]
  by_cases hc : zSl s f z = true
  ·have hz := qkm hr hc
   have hb := qah hz
   have h0 := qbE fun x hx => (hb.2.1 x hx).1
   have := qdI h hc k (by omega) z (pr z).toNat 0 k (by omega) (by omega)
   rw [if_pos hc,if_pos hc,if_pos rfl]
   unfold qau.f
   rw [qaH z (by omega),obs,qbR z k (by omega),obs,zSz,if_pos hz,if_pos (by omega),List.length_replicate,show (((pr z).toNat : Nat) : Int) = pr z by omega]
   rw [n0] at this
   rw [show List.replicate (pr z).toNat (0 : Int) = (List.range 0).map (fun (i : Nat) => d.getD (ix s (zAdd (pl z i) f)).toNat 0) ++ List.replicate (pr z).toNat 0 from rfl,this]
   rfl
  ·rw [if_neg hc,if_neg hc,if_neg (by decide)]
 ·rw [if_neg h,if_neg h]
end Go.Pf

namespace Go.Pf
open Go Go.Vm
theorem qgn (s d f z : LI) (hs : ∀ a ∈ s,0 ≤ a ∧ a ≤ 32) (hl : s.length ≤ 4) (hf : f.length = s.length) (hz : z.length = s.length) : ∀ (e i n : Nat),s.length = i + e → e < n →
  qaT.l0 n f z f.length i s d = some (if zSl (s.drop i) (f.drop i) (z.drop i) = true then .inl () else .inr 1)
 | 0,i,n,hi,hn => by
  obtain ⟨n,rfl⟩ : ∃ m,n = m + 1 := ⟨n - 1,by omega⟩
  rw [qaT.l0,if_neg (by omega),List.drop_eq_nil_of_le (by omega),List.drop_eq_nil_of_le (by omega),List.drop_eq_nil_of_le (by omega)]; rfl
 | e + 1,i,n,hi,hn => by
  obtain ⟨n,rfl⟩ : ∃ m,n = m + 1 := ⟨n - 1,by omega⟩
  have ha := hs _ (qan (show i < s.length by omega) 0)
  have ih := qgn s d f z hs hl hf hz e (i + 1) n (by omega) (by omega)
  rw [qaT.l0,if_pos (by omega),if_pos (by omega),if_pos (show 0 ≤ (i : Int) ∧ (i : Int) < (z.length : Int) by omega),if_pos (show 0 ≤ (i : Int) ∧ (i : Int) < (s.length : Int) by omega),Int.toNat_natCast,qae (show i < s.length by omega) (0 : Int),qae (show i < f.length by omega) (0 : Int),qae (show i < z.length by omega) (0 : Int)]
  generalize s.getD i 0 = a at ha ⊢
  generalize f.getD i 0 = b
  generalize z.getD i 0 = c
  by_cases c1 : b < 0
  ·rw [if_pos c1,if_neg (by rw [qcF]; omega)]
  by_cases c3 : c < 0
  ·rw [if_neg c1,if_pos c3,if_neg (by rw [qcF]; omega)]
  by_cases c2 : a < b
  ·rw [if_neg c1,if_neg c3,if_pos c2,if_neg (by rw [qcF]; omega)]
  rw [if_neg c1,if_neg c3,if_neg c2,qal (n := a - b) (by omega) (by omega)]
  by_cases c4 : a - b < c
  ·rw [if_pos c4,if_neg (by rw [qcF]; omega)]
  rw [if_neg c4,qal (n := (i : Int) + 1) (by omega) (by omega),show (i : Int) + 1 = ((i + 1 : Nat) : Int) by omega,ih]
  by_cases c : zSl (s.drop (i + 1)) (f.drop (i + 1)) (z.drop (i + 1)) = true
  ·rw [if_pos c,if_pos (qcF.2 ⟨by omega,c⟩)]
  ·rw [if_neg c,if_neg (fun hh => c (qcF.1 hh).2)]
theorem qgm {s d f z : LI} (h : zT s d = true) (hc : zSl s f z = true) (k : Nat) (hk : 20 ≤ k) (y3 : LI) : ∀ (e i n : Nat),(pr z).toNat = i + e → e + 10 < n →
  qaT.l1 k n f z (pr z) i s d y3 ((List.range i).map (fun (i : Nat) => d.getD (ix s (zAdd (pl z i) f)).toNat 0) ++ List.replicate e 0) = some (zCut s d f z)
 | 0,i,n,hi,hn => by
  obtain ⟨n,rfl⟩ : ∃ m,n = m + 1 := ⟨n - 1,by omega⟩
  have hz := (qi8 (qah (qaM h).1).2.1 hc).2.2.1
  rw [qaT.l1,if_neg (by omega)]
  unfold zCut made
  rw [hi]; simp
 | e + 1,i,n,hi,hn => by
  obtain ⟨n,rfl⟩ : ∃ m,n = m + 1 := ⟨n - 1,by omega⟩
  have hr := qkm (qaM h).1 hc
  have hb := (qah hr).2.2
  have hl := qeZ hc
  have h4 := (qah (qaM h).1).1
  have ih := qgm h hc k hk y3 e (i + 1) n (by omega) (by omega)
  have l2 := qgl f (pl z i) (qi8 (qah (qaM h).1).2.1 hc).1 (qnX hr (by omega) i) (by omega) (by rw [qco]; omega) z i (pr z) i s d y3 ((List.range i).map (fun (i : Nat) => d.getD (ix s (zAdd (pl z i) f)).toNat 0) ++ List.replicate (e + 1) 0) f.length [] n (by simp) (by omega)
  rw [List.length_nil,n0,List.drop_zero,List.drop_zero,List.nil_append,List.nil_append] at l2
  rw [qaT.l1,if_pos (by omega),qcs hr (by omega) (by omega) k hk,obs,l2,obs,qc3 h (qnv hc (qgt (fun a ha => (qcQ hr (by omega) a ha).1) i)) k hk,obs,
   if_pos (by simp; omega),if_pos (by simp),Int.toNat_natCast,qdT (fun (i : Nat) => d.getD (ix s (zAdd (pl z i) f)).toNat 0),qal (n := (i : Int) + 1) (by omega) (by omega),show (i : Int) + 1 = ((i + 1 : Nat) : Int) by omega]
  exact ih
theorem qkE (s d f z : LI) (k : Nat) (hk : 5000 ≤ k) : qaT.f k s d f z = some (if zT s d = true then (if zSl s f z = true then (0,z,zCut s d f z) else (1,[],[])) else (13,[],[])) := by
 unfold qaT.f
 rw [qbz s d k (by omega),obs]
 by_cases h : zT s d = true
 ·obtain ⟨hr,_⟩ := qaM h
  obtain ⟨hl,hs,_⟩ := qah hr
  rw [if_pos h,if_pos h]
  by_cases hf : f.length = s.length
  ·by_cases hz : z.length = s.length
   ·have l0 := qgn s d f z hs hl hf hz s.length 0 k (by omega) (by omega)
    rw [n0,List.drop_zero,List.drop_zero,List.drop_zero] at l0
    rw [if_pos (by omega),if_pos (by omega),l0,obs]
    by_cases hc : zSl s f z = true
    ·have hz := qkm hr hc
     have hb := qah hz
     have h0 := qbE fun x hx => (hb.2.1 x hx).1
     have := qgm h hc k (by omega) z (pr z).toNat 0 k (by omega) (by omega)
     rw [if_pos hc,if_pos hc,Sum.elim_inl,qbu z 0 (by omega) k hk,obs,zSz,if_pos hz,List.length_replicate,show (((pr z).toNat : Nat) : Int) = pr z by omega]
     rw [n0] at this
     rw [show List.replicate (pr z).toNat (0 : Int) = (List.range 0).map (fun (i : Nat) => d.getD (ix s (zAdd (pl z i) f)).toNat 0) ++ List.replicate (pr z).toNat 0 from rfl,this]
     rfl
    ·rw [if_neg hc,if_neg hc]; rfl
   ·rw [if_pos (by omega),if_neg (by omega),if_neg (fun hh => hz (qeZ hh).2)]
  ·rw [if_neg (by omega),if_neg (fun hh => hf (qeZ hh).1)]
 ·rw [if_neg h,if_neg h]
theorem qhx (a : LI) (ha : a.length ≤ 17592186043904) : ∀ (d i n : Nat),a.length = i + d → d < n → qby.l0 n a a i = some (.inl ())
 | 0,i,n,hi,hn => by
  obtain ⟨n,rfl⟩ : ∃ m,n = m + 1 := ⟨n - 1,by omega⟩
  rw [qby.l0,if_neg (by omega)]
 | d + 1,i,n,hi,hn => by
  obtain ⟨n,rfl⟩ : ∃ m,n = m + 1 := ⟨n - 1,by omega⟩
  rw [qby.l0,if_pos (by omega),if_pos (by omega),if_pos (by omega),if_pos rfl,qal (n := (i : Int) + 1) (by omega) (by omega),show (i : Int) + 1 = ((i + 1 : Nat) : Int) by omega]
  exact qhx a ha d (i + 1) n (by omega) (by omega)
theorem qhw (s a : LI) (ha : a.length ≤ 17592186043904) : ∀ (d i n : Nat),a.length = i + d → d < n → qcn.l0 n i s a s a = some (.inl ())
 | 0,i,n,hi,hn => by
  obtain ⟨n,rfl⟩ : ∃ m,n = m + 1 := ⟨n - 1,by omega⟩
  rw [qcn.l0,if_neg (by omega)]
 | d + 1,i,n,hi,hn => by
  obtain ⟨n,rfl⟩ : ∃ m,n = m + 1 := ⟨n - 1,by omega⟩
  rw [qcn.l0,if_pos (by omega),if_pos (by omega),if_pos (by omega),if_pos rfl,qal (n := (i : Int) + 1) (by omega) (by omega),show (i : Int) + 1 = ((i + 1 : Nat) : Int) by omega]
  exact qhw s a ha d (i + 1) n (by omega) (by omega)
theorem qel (s d : LI) (k : Nat) (h1 : s.length < k) (h2 : d.length < k) (h3 : s.length ≤ 17592186043904) (h4 : d.length ≤ 17592186043904) : qcn.f k s d s d = some true := by
 have e1 := qhx s h3 s.length 0 k (by omega) (by omega)
 have e2 := qhw s d h4 d.length 0 k (by omega) (by omega)
 unfold qcn.f qby.f
 rw [n0] at e1 e2
 rw [if_pos rfl,e1]
 show (if (d.length : Int) = d.length then _ else _) = _
 rw [if_pos rfl,e2]; rfl
end Go.Pf

namespace Go.Pf
open Go Go.Vm
def zWi (o : LI) : Int → LI → LI → Bool
 | _,[],[] => true
 | last,x :: s,k :: a => decide (last < k ∧ k < (o.length : Int) ∧ o.getD k.toNat 0 = x) && zWi o k s a
 | _,_,_ => false
theorem qdJ {o : LI} {l x k : Int} {s a : LI} : zWi o l (x :: s) (k :: a) = true ↔ (l < k ∧ k < (o.length : Int) ∧ o.getD k.toNat 0 = x) ∧ zWi o k s a = true := by
 simp only [zWi,Bool.and_eq_true,decide_eq_true_eq]
theorem qgW {o : LI} : ∀ {l : Int} {s a : LI},zWi o l s a = true → a.length = s.length
 | _,[],[],_ => rfl
 | _,_ :: s,_ :: a,h => by have := qgW (qdJ.1 h).2; simp [this]
 | _,[],_ :: _,h => by simp [zWi] at h
 | _,_ :: _,[],h => by simp [zWi] at h
def zRi (m : Int) : Int → LI → Bool
 | _,[] => true
 | last,k :: a => decide (last < k ∧ k < m) && zRi m k a
theorem qc1 {m l k : Int} {a : LI} : zRi m l (k :: a) = true ↔ (l < k ∧ k < m) ∧ zRi m k a = true := by
 simp only [zRi,Bool.and_eq_true,decide_eq_true_eq]
def zEq (o : LI) : LI → LI → Bool
 | x :: s,k :: a => decide (o.getD k.toNat 0 = x) && zEq o s a
 | _,_ => true
theorem qhS {o : LI} {x k : Int} {s a : LI} : zEq o (x :: s) (k :: a) = true ↔ o.getD k.toNat 0 = x ∧ zEq o s a = true := by
 simp only [zEq,Bool.and_eq_true,decide_eq_true_eq]
theorem qgX {o : LI} : ∀ {l : Int} {s a : LI},a.length = s.length → (zWi o l s a = true ↔ zRi o.length l a = true ∧ zEq o s a = true)
 | _,[],[],_ => by simp [zWi,zRi,zEq]
 | l,x :: s,k :: a,h => by
  rw [qdJ,qc1,qhS,qgX (by simpa using h)]
  exact ⟨fun ⟨⟨h1,h2,h3⟩,h4,h5⟩ => ⟨⟨⟨h1,h2⟩,h4⟩,h3,h5⟩,fun ⟨⟨⟨h1,h2⟩,h4⟩,h3,h5⟩ => ⟨⟨h1,h2,h3⟩,h4,h5⟩⟩
 | _,[],_ :: _,h => by simp at h
 | _,_ :: _,[],h => by simp at h
theorem qju {m : Int} : ∀ {l : Int} {a : LI},zRi m l a = true → ∀ k ∈ a,l < k ∧ k < m
 | _,[],_,k,h => by cases h
 | l,b :: a,h,k,hk => by
  obtain ⟨h1,h2⟩ := qc1.1 h
  rcases List.mem_cons.1 hk with e | hk
  ·omega
  ·have := qju h2 k hk; omega
theorem qfQ (m : Int) (a : LI) (hl : a.length ≤ 1000) : ∀ (d i : Nat) (l : Int) (n : Nat),a.length = i + d → d < n →
  qbi.l0 n m l a a.length i = some (if zRi m l (a.drop i) = true then .inl () else .inr false)
 | 0,i,l,n,hi,hn => by
  obtain ⟨n,rfl⟩ : ∃ m,n = m + 1 := ⟨n - 1,by omega⟩
  rw [qbi.l0,if_neg (by omega),List.drop_eq_nil_of_le (by omega)]; rfl
 | d + 1,i,l,n,hi,hn => by
  obtain ⟨n,rfl⟩ : ∃ m,n = m + 1 := ⟨n - 1,by omega⟩
  have ih := qfQ m a hl d (i + 1) (a.getD i 0) n (by omega) (by omega)
  rw [qbi.l0,if_pos (by omega),if_pos (by omega),Int.toNat_natCast,qae (show i < a.length by omega) (0 : Int)]
  generalize a.getD i 0 = b at ih ⊢
  by_cases c1 : b ≤ l
  ·rw [if_pos c1,if_neg (by rw [qc1]; omega)]
  by_cases c2 : m ≤ b
  ·rw [if_neg c1,if_pos c2,if_neg (by rw [qc1]; omega)]
  rw [if_neg c1,if_neg c2,qal (n := (i : Int) + 1) (by omega) (by omega),show (i : Int) + 1 = ((i + 1 : Nat) : Int) by omega,ih]
  by_cases c : zRi m b (a.drop (i + 1)) = true
  ·rw [if_pos c,if_pos (qc1.2 ⟨by omega,c⟩)]
  ·rw [if_neg c,if_neg (fun hh => c (qc1.1 hh).2)]
theorem qgO (s o a : LI) (hl : s.length ≤ 4) (ha : a.length = s.length) (hr : ∀ k ∈ a,0 ≤ k ∧ k < (o.length : Int)) : ∀ (d i n : Nat),a.length = i + d → d < n →
  qcd.l0 n s o a a.length i = some (if zEq o (s.drop i) (a.drop i) = true then .inl () else .inr 1)
 | 0,i,n,hi,hn => by
  obtain ⟨n,rfl⟩ : ∃ m,n = m + 1 := ⟨n - 1,by omega⟩
  rw [qcd.l0,if_neg (by omega),List.drop_eq_nil_of_le (by omega),List.drop_eq_nil_of_le (by omega)]; rfl
 | d + 1,i,n,hi,hn => by
  obtain ⟨n,rfl⟩ : ∃ m,n = m + 1 := ⟨n - 1,by omega⟩
  have ih := qgO s o a hl ha hr d (i + 1) n (by omega) (by omega)
  have hk := hr _ (qan (show i < a.length by omega) 0)
  rw [qcd.l0,if_pos (by omega),if_pos (by omega),Int.toNat_natCast,if_pos hk,if_pos (by omega),qae (show i < a.length by omega) (0 : Int),qae (show i < s.length by omega) (0 : Int)]
  generalize a.getD i 0 = b
  generalize s.getD i 0 = x
  by_cases c1 : o.getD b.toNat 0 = x
  ·rw [if_pos c1,qal (n := (i : Int) + 1) (by omega) (by omega),show (i : Int) + 1 = ((i + 1 : Nat) : Int) by omega,ih]
   by_cases c : zEq o (s.drop (i + 1)) (a.drop (i + 1)) = true
   ·rw [if_pos c,if_pos (qhS.2 ⟨c1,c⟩)]
   ·rw [if_neg c,if_neg (fun hh => c (qhS.1 hh).2)]
  ·rw [if_neg c1,if_neg (fun hh => c1 (qhS.1 hh).1)]
theorem qhG {s : LI} (hl : s.length ≤ 4) (o a : LI) (k : Nat) (hk : 10 ≤ k) : qcd.f k s o a = some (if mSR o = true then (if zWi o (-1) s a = true then 0 else 1) else 13) := by
  unfold qcd.f
  rw [qbg o k hk,obs]
  by_cases ho : mSR o = true
  · rw [if_pos ho,if_pos ho]
    by_cases ha : a.length = s.length
    · have e1 := qfQ o.length a (by omega) a.length 0 (-1) k (by omega) (by omega)
      rw [n0,List.drop_zero] at e1
      rw [if_pos (by omega)]
      unfold qbi.f
      rw [e1]
      by_cases hr : zRi o.length (-1) a = true
      · have e2 := qgO s o a hl ha (fun k hk => by have := qju hr k hk; omega) a.length 0 k (by omega) (by omega)
        rw [n0,List.drop_zero,List.drop_zero] at e2
        rw [if_pos hr,obs,Sum.elim_inl,obs,if_pos rfl,e2]
        by_cases c : zEq o s a = true
        · rw [if_pos c,if_pos ((qgX ha).2 ⟨hr,c⟩)]; rfl
        · rw [if_neg c,if_neg (fun hh => c ((qgX ha).1 hh).2)]; rfl
      · rw [if_neg hr,if_neg (fun hh => hr ((qgX ha).1 hh).1)]; rfl
    · rw [if_neg (by omega),if_neg (fun hh => ha (qgW hh))]
  · rw [if_neg ho,if_neg ho]
def pick (p a : LI) : LI := a.map fun k => p.getD k.toNat 0
theorem qnZ {o p : LI} (hp : mIn o p = true) : ∀ {l : Int} {s a : LI},-1 ≤ l → zWi o l s a = true → mIn s (pick p a) = true := by
 have hg : ∀ {o p : LI},mIn o p = true → ∀ j,j < o.length → 0 ≤ p.getD j 0 ∧ p.getD j 0 < o.getD j 0 := fun {o} => by
  induction o with
  | nil => intro p _ j hj; cases hj
  | cons x o ih =>
   intro p h j hj
   cases p with
   | nil => simp [mIn] at h
   | cons y p =>
    obtain ⟨h1,h2⟩ := qbw.1 h
    cases j with
    | zero => exact h1
    | succ j => exact ih h2 j (by simpa using hj)
 intro l s
 induction s generalizing l with
 | nil =>
  intro a _ h
  cases a with
  | nil => rfl
  | cons _ _ => simp [zWi] at h
 | cons x s ih =>
  intro a hl h
  cases a with
  | nil => simp [zWi] at h
  | cons k a =>
   obtain ⟨⟨h1,h2,h3⟩,h4⟩ := qdJ.1 h
   have := hg hp k.toNat (by omega)
   exact qbw.2 ⟨by show 0 ≤ p.getD k.toNat 0 ∧ p.getD k.toNat 0 < x; omega,ih (by omega) h4⟩
def zSpr (s d o a : LI) : LI := made o fun p => d.getD (ix s (pick p a)).toNat 0
theorem qeY (p a : LI) (hl : a.length ≤ 4) (hr : ∀ k ∈ a,0 ≤ k ∧ k < (p.length : Int)) (y1 s d y : LI) (hy : y.length = a.length) : ∀ (e : Nat) (L : LI) (n : Nat),a.length = L.length + e → e < n →
  qbr.l0 n a a.length L.length p y1 s d (L ++ y.drop L.length) = some (L ++ pick p (a.drop L.length))
 | 0,L,n,hi,hn => by
  obtain ⟨n,rfl⟩ : ∃ m,n = m + 1 := ⟨n - 1,by omega⟩
  rw [qbr.l0,if_neg (by omega),List.drop_eq_nil_of_le (by omega),List.drop_eq_nil_of_le (by omega)]; rfl
 | e + 1,L,n,hi,hn => by
  obtain ⟨n,rfl⟩ : ∃ m,n = m + 1 := ⟨n - 1,by omega⟩
  have hk := hr _ (qan (show L.length < a.length by omega) 0)
  have ih := qeY p a hl hr y1 s d y hy e (L ++ [p.getD (a.getD L.length 0).toNat 0]) n (by simp; omega) (by omega)
  have hL : (L ++ y.drop L.length).length = a.length := by rw [List.length_append,List.length_drop]; omega
  rw [qbr.l0,if_pos (by omega),if_pos (by omega),Int.toNat_natCast,if_pos hk,if_pos (by omega),if_pos (by rw [hL]; omega),if_pos (by rw [hL]; omega),qae (show L.length < y.length by omega) (0 : Int),qae (show L.length < a.length by omega) (0 : Int),setL,qal (n := (L.length : Int) + 1) (by omega) (by omega)]
  rw [List.length_append,List.length_singleton] at ih
  rw [show (L.length : Int) + 1 = ((L.length + 1 : Nat) : Int) by omega,ih]
  simp [pick]
theorem qfG (p a : LI) (hl : a.length ≤ 4) (hr : ∀ k ∈ a,0 ≤ k ∧ k < (p.length : Int)) (x1 : LI) (x10 x86 x87 : Int) (s d y5 y6 : LI) : ∀ (e : Nat) (L : LI) (n : Nat),a.length = L.length + e → e < n →
  qaG.l2 n x1 a x10 x86 x87 a.length L.length s d p L y5 y6 = some (L ++ pick p (a.drop L.length))
 | 0,L,n,hi,hn => by
  obtain ⟨n,rfl⟩ : ∃ m,n = m + 1 := ⟨n - 1,by omega⟩
  rw [qaG.l2,if_neg (by omega),List.drop_eq_nil_of_le (by omega)]
  simp [pick]
 | e + 1,L,n,hi,hn => by
  obtain ⟨n,rfl⟩ : ∃ m,n = m + 1 := ⟨n - 1,by omega⟩
  have hk := hr _ (qan (show L.length < a.length by omega) 0)
  have ih := qfG p a hl hr x1 x10 x86 x87 s d y5 y6 e (L ++ [p.getD (a.getD L.length 0).toNat 0]) n (by simp; omega) (by omega)
  rw [qaG.l2,if_pos (by omega),if_pos (by omega),Int.toNat_natCast,if_pos hk,if_pos (by omega),if_pos (by simp only [List.length_singleton]; omega),qal (n := (L.length : Int) + 1) (by omega) (by omega)]
  rw [List.length_append,List.length_singleton] at ih
  rw [show (L.length : Int) + 1 = ((L.length + 1 : Nat) : Int) by omega,ih,qae (show L.length < a.length by omega) (0 : Int)]
  simp [pick]
theorem qiN {s d o a : LI} (h : zT s d = true) (ho : mSR o = true) (hc : zWi o (-1) s a = true) (y : LI) (hy : y.length = a.length) (x : Int) (h0 : 0 ≤ x) (h1 : x < pr o) (k : Nat) (hk : 20 ≤ k) :
  qbr.f k (pl o x) a s d y = some (d.getD (ix s (pick (pl o x) a)).toNat 0,pick (pl o x) a) := by
 have ha := qgW hc
 have hr := ((qgX ha).1 hc).1
 have h4 := (qah (qaM h).1).1
 have := qeY (pl o x) a (by omega) (fun k hk => by rw [qco]; have := qju hr k hk; omega) a s d y hy a.length [] k (by simp) (by omega)
 rw [List.length_nil,n0,List.drop_zero,List.drop_zero,List.nil_append,List.nil_append] at this
 unfold qbr.f
 rw [this,obs,qgN h _ k hk,if_pos (qnZ (qgt (fun b hb => (qcQ ho (by omega) b hb).1) x) (by omega) hc),obs]
theorem qdB {s d o a : LI} (h : zT s d = true) (ho : mSR o = true) (hc : zWi o (-1) s a = true) (k : Nat) (hk : 20 ≤ k) (y6 : LI) : ∀ (e i : Nat) (y : LI) (n : Nat),y.length = a.length → (pr o).toNat = i + e → e < n →
  ∃ y',qas.l0 k n o (pr o) i a s d y y6 ((List.range i).map (fun (i : Nat) => d.getD (ix s (pick (pl o i) a)).toNat 0) ++ List.replicate e 0) = some (y',zSpr s d o a)
 | 0,i,y,n,hy,hi,hn => by
  obtain ⟨n,rfl⟩ : ∃ m,n = m + 1 := ⟨n - 1,by omega⟩
  refine ⟨y,?_⟩
  rw [qas.l0,if_neg (by omega)]
  unfold zSpr made
  rw [hi]; simp
 | e + 1,i,y,n,hy,hi,hn => by
  obtain ⟨n,rfl⟩ : ∃ m,n = m + 1 := ⟨n - 1,by omega⟩
  have hb := (qah ho).2.2
  obtain ⟨y',ih⟩ := qdB h ho hc k hk y6 e (i + 1) (pick (pl o i) a) n (by simp [pick]) (by omega) (by omega)
  refine ⟨y',?_⟩
  rw [qas.l0,if_pos (by omega),qbH ho (by omega) (by omega) k hk,obs,qiN h ho hc y hy i (by omega) (by omega) k hk,obs,
   if_pos (by simp; omega),if_pos (by simp),Int.toNat_natCast,qdT (fun (i : Nat) => d.getD (ix s (pick (pl o i) a)).toNat 0),qal (n := (i : Int) + 1) (by omega) (by omega),show (i : Int) + 1 = ((i + 1 : Nat) : Int) by omega]
  exact ih
theorem qkf (s d o a : LI) (k : Nat) (hk : 5000 ≤ k) : qeb.f k s d o a = some (if zT s d = true then (if mSR o = true then (if zWi o (-1) s a = true then (0,o,zSpr s d o a) else (1,[],[])) else (13,[],[])) else (13,[],[])) := by
 unfold qeb.f
 rw [qbj s d k (by omega),obs]
 by_cases h : zT s d = true
 ·obtain ⟨hr,_⟩ := qaM h
  have h4 := (qah hr).1
  rw [if_pos h,if_pos h,qhG h4 o a k (by omega),obs]
  by_cases ho : mSR o = true
  ·rw [if_pos ho,if_pos ho]
   by_cases hc : zWi o (-1) s a = true
   ·have ha := qgW hc
    have hb := qah ho
    have h0 := qbE fun x hx => (hb.2.1 x hx).1
    obtain ⟨y',this⟩ := qdB h ho hc k (by omega) o (pr o).toNat 0 (List.replicate (a.length : Int).toNat 0) k (by simp) (by omega) (by omega)
    rw [if_pos hc,if_pos hc,if_pos rfl,if_pos (by omega)]
    unfold qas.f
    rw [qaH o (by omega),obs,qbR o k (by omega),obs,zSz,if_pos ho,if_pos (by omega),List.length_replicate,show (((pr o).toNat : Nat) : Int) = pr o by omega]
    rw [n0] at this
    rw [show List.replicate (pr o).toNat (0 : Int) = (List.range 0).map (fun (i : Nat) => d.getD (ix s (pick (pl o i) a)).toNat 0) ++ List.replicate (pr o).toNat 0 from rfl,this]
    rfl
   ·rw [if_neg hc,if_neg hc,if_neg (by decide)]
  ·rw [if_neg ho,if_neg ho,if_neg (by decide)]
 ·rw [if_neg h,if_neg h]
theorem qfI (s d o a : LI) (hl : s.length ≤ 4) (ha : a.length = s.length) : ∀ (e i n : Nat),a.length = i + e → e < n → ∀ (l : Int),(i = 0 → l = -1) → (0 < i → l = a.getD (i - 1) 0 ∧ 0 ≤ l) →
  qaG.l0 n o a a.length i s d = some (if zWi o l (s.drop i) (a.drop i) = true then .inl () else .inr 1)
 | 0,i,n,hi,hn,l,l0,l1 => by
  obtain ⟨n,rfl⟩ : ∃ m,n = m + 1 := ⟨n - 1,by omega⟩
  rw [qaG.l0,if_neg (by omega),List.drop_eq_nil_of_le (by omega),List.drop_eq_nil_of_le (by omega)]; rfl
 | e + 1,i,n,hi,hn,l,l0,l1 => by
  obtain ⟨n,rfl⟩ : ∃ m,n = m + 1 := ⟨n - 1,by omega⟩
  have ih := qfI s d o a hl ha e (i + 1) n (by omega) (by omega) (a.getD i 0) (by omega)
  rw [Nat.add_sub_cancel] at ih
  rw [qaG.l0,if_pos (by omega),if_pos (by omega),Int.toNat_natCast,qae (show i < a.length by omega) (0 : Int),qae (show i < s.length by omega) (0 : Int)]
  rw [qal (n := (i : Int) + 1) (by omega) (by omega),show (i : Int) + 1 = ((i + 1 : Nat) : Int) by omega]
  rw [show IntKind.i64.wrap ((i : Int) - 1) = (i : Int) - 1 from qal (by omega) (by omega),show ((i : Int) - 1).toNat = i - 1 by omega]
  generalize a.getD i 0 = b at ih ⊢
  generalize s.getD i 0 = x
  by_cases c1 : b < 0
  ·rw [if_pos c1,if_neg (fun hh => by
    have hlb := (qdJ.1 hh).1.1
    rcases Nat.eq_zero_or_pos i with e | e
    ·have := l0 e; omega
    ·have := (l1 e).2; omega)]
  by_cases c2 : (o.length : Int) ≤ b
  ·rw [if_neg c1,if_pos c2,if_neg (by rw [qdJ]; omega)]
  rw [if_neg c1,if_neg c2]
  have tail : ∀ (hlb : l < b),(if 0 ≤ b ∧ b < (o.length : Int) then if 0 ≤ (i : Int) ∧ (i : Int) < (s.length : Int) then if o.getD b.toNat 0 = x then (qaG.l0 n o a a.length ((i + 1 : Nat) : Int) s d) else some (.inr 1) else none else none) = some (if zWi o l (x :: s.drop (i + 1)) (b :: a.drop (i + 1)) = true then .inl () else .inr 1) := by
   intro hlb
   rw [if_pos (by omega),if_pos (by omega)]
   by_cases c3 : o.getD b.toNat 0 = x
   ·rw [if_pos c3,ih (fun _=>⟨rfl,by omega⟩)]
    by_cases c : zWi o b (s.drop (i + 1)) (a.drop (i + 1)) = true
    ·rw [if_pos c,if_pos (qdJ.2 ⟨⟨hlb,by omega,c3⟩,c⟩)]
    ·rw [if_neg c,if_neg (fun hh => c (qdJ.1 hh).2)]
   ·rw [if_neg c3,if_neg (fun hh => c3 (qdJ.1 hh).1.2.2)]
  by_cases ci : 0 < (i : Int)
  ·obtain ⟨e1,e2⟩ := l1 (by omega)
   rw [if_pos ci,if_pos (by omega),← e1]
   by_cases c3 : b ≤ l
   ·rw [if_pos c3,if_neg (by rw [qdJ]; omega)]
   ·rw [if_neg c3]; exact tail (by omega)
  ·rw [if_neg ci]
   have := l0 (by omega)
   exact tail (by omega)
theorem qfH {s d o a : LI} (h : zT s d = true) (ho : mSR o = true) (hc : zWi o (-1) s a = true) (k : Nat) (hk : 20 ≤ k) (y3 : LI) : ∀ (e i n : Nat),(pr o).toNat = i + e → e + 10 < n →
  qaG.l1 k n o a (pr o) i s d y3 ((List.range i).map (fun (i : Nat) => d.getD (ix s (pick (pl o i) a)).toNat 0) ++ List.replicate e 0) = some (zSpr s d o a)
 | 0,i,n,hi,hn => by
  obtain ⟨n,rfl⟩ : ∃ m,n = m + 1 := ⟨n - 1,by omega⟩
  rw [qaG.l1,if_neg (by omega)]
  unfold zSpr made
  rw [hi]; simp
 | e + 1,i,n,hi,hn => by
  obtain ⟨n,rfl⟩ : ∃ m,n = m + 1 := ⟨n - 1,by omega⟩
  have hb := (qah ho).2.2
  have ha := qgW hc
  have hr := ((qgX ha).1 hc).1
  have h4 := (qah (qaM h).1).1
  have ih := qfH h ho hc k hk y3 e (i + 1) n (by omega) (by omega)
  have l2 := qfG (pl o i) a (by omega) (fun k hk => by rw [qco]; have := qju hr k hk; omega) o i (pr o) i s d y3 ((List.range i).map (fun (i : Nat) => d.getD (ix s (pick (pl o i) a)).toNat 0) ++ List.replicate (e + 1) 0) a.length [] n (by simp) (by omega)
  rw [List.length_nil,n0,List.drop_zero,List.nil_append] at l2
  rw [qaG.l1,if_pos (by omega),qcs ho (by omega) (by omega) k hk,obs,l2,obs,qc3 h (qnZ (qgt (fun b hb => (qcQ ho (by omega) b hb).1) i) (by omega) hc) k hk,obs,
   if_pos (by simp; omega),if_pos (by simp),Int.toNat_natCast,qdT (fun (i : Nat) => d.getD (ix s (pick (pl o i) a)).toNat 0),qal (n := (i : Int) + 1) (by omega) (by omega),show (i : Int) + 1 = ((i + 1 : Nat) : Int) by omega]
  exact ih
theorem qjQ (s d o a : LI) (k : Nat) (hk : 5000 ≤ k) : qaG.f k s d o a = some (if zT s d = true then (if mSR o = true then (if zWi o (-1) s a = true then (0,o,zSpr s d o a) else (1,[],[])) else (13,[],[])) else (13,[],[])) := by
  unfold qaG.f
  rw [qbz s d k (by omega),obs]
  by_cases h : zT s d = true
  · obtain ⟨hr,_⟩ := qaM h
    have h4 := (qah hr).1
    rw [if_pos h,if_pos h,qbv o k (by omega),obs]
    by_cases ho : mSR o = true
    · rw [if_pos ho,if_pos ho]
      by_cases ha : a.length = s.length
      · have l0 := qfI s d o a h4 ha a.length 0 k (by omega) (by omega) (-1) (fun _=>rfl) (by omega)
        rw [n0,List.drop_zero,List.drop_zero] at l0
        rw [if_pos (by omega),l0,obs]
        by_cases hc : zWi o (-1) s a = true
        · have hb := qah ho
          have h0 := qbE fun x hx => (hb.2.1 x hx).1
          have this := qfH h ho hc k (by omega) o (pr o).toNat 0 k (by omega) (by omega)
          rw [if_pos hc,if_pos hc,Sum.elim_inl,qbu o 0 (by omega) k hk,obs,zSz,if_pos ho,List.length_replicate,show (((pr o).toNat : Nat) : Int) = pr o by omega]
          rw [n0] at this
          rw [show List.replicate (pr o).toNat (0 : Int) = (List.range 0).map (fun (i : Nat) => d.getD (ix s (pick (pl o i) a)).toNat 0) ++ List.replicate (pr o).toNat 0 from rfl,this]
          rfl
        · rw [if_neg hc,if_neg hc]; rfl
      · rw [if_neg (by omega),if_neg (fun hh => ha (qgW hh))]
    · rw [if_neg ho,if_neg ho]
  · rw [if_neg h,if_neg h]
end Go.Pf

namespace Go.Pf
open Go Go.Vm
def zPm (m : Int) : LI → LI → Bool
 | _,[] => true
 | seen,k :: a => decide (0 ≤ k ∧ k < m ∧ k ∉ seen) && zPm m (k :: seen) a
theorem qdd {m k : Int} {seen a : LI} : zPm m seen (k :: a) = true ↔ (0 ≤ k ∧ k < m ∧ k ∉ seen) ∧ zPm m (k :: seen) a = true := by
 simp only [zPm,Bool.and_eq_true,decide_eq_true_eq]
theorem qlk {m : Int} : ∀ {a seen : LI},zPm m seen a = true → (∀ k ∈ a,0 ≤ k ∧ k < m ∧ k ∉ seen) ∧ a.Nodup
 | [],_,_ => ⟨fun k hk => (by cases hk),List.nodup_nil⟩
 | b :: a,seen,h => by
  obtain ⟨h1,h2⟩ := qdd.1 h
  obtain ⟨i1,i2⟩ := qlk h2
  refine ⟨fun k hk => ?_,List.nodup_cons.2 ⟨fun hb => (i1 b hb).2.2 (List.mem_cons_self ..),i2⟩⟩
  rcases List.mem_cons.1 hk with e | hk
  ·subst e; exact h1
  ·have := i1 k hk
   exact ⟨this.1,this.2.1,fun hs => this.2.2 (List.mem_cons_of_mem _ hs)⟩
theorem qpf {m : Int} : ∀ {a seen : LI},(∀ k ∈ a,0 ≤ k ∧ k < m ∧ k ∉ seen) → a.Nodup → zPm m seen a = true
 | [],_,_,_ => rfl
 | b :: a,seen,h,hn => by
  obtain ⟨n1,n2⟩ := List.nodup_cons.1 hn
  refine qdd.2 ⟨h b (List.mem_cons_self ..),qpf (fun k hk => ?_) n2⟩
  have := h k (List.mem_cons_of_mem _ hk)
  refine ⟨this.1,this.2.1,fun hs => ?_⟩
  rcases List.mem_cons.1 hs with e | hs
  ·subst e; exact n1 hk
  ·exact this.2.2 hs
theorem php : ∀ (n : Nat) (l : LI),l.Nodup → (∀ x ∈ l,0 ≤ x ∧ x < (n : Int)) → l.length ≤ n
 | 0,l,_,h => by
  cases l with
  | nil => exact Nat.le_refl _
  | cons x l => have := h x (List.mem_cons_self ..); omega
 | n + 1,l,hn,h => by
  by_cases hm : (n : Int) ∈ l
  ·have h1 := php n (l.erase n) (hn.erase _) fun x hx => by
    have h2 := (hn.mem_erase_iff).1 hx
    have := h x h2.2
    have h3 := h2.1
    omega
   rw [List.length_erase_of_mem hm] at h1
   omega
  ·have h1 := php n l hn fun x hx => by
    have := h x hx
    have h3 : x ≠ n := fun e => hm (e ▸ hx)
    omega
   omega
theorem qn0 {n : Nat} {l : LI} (hn : l.Nodup) (h : ∀ x ∈ l,0 ≤ x ∧ x < (n : Int)) (hl : l.length = n) {j : Int} (h0 : 0 ≤ j) (h1 : j < n) : j ∈ l := by
 refine Classical.byContradiction fun hj => ?_
 have := php n (j :: l) (List.nodup_cons.2 ⟨hj,hn⟩) fun x hx => by
  rcases List.mem_cons.1 hx with e | hx
  ·omega
  ·exact h x hx
 rw [List.length_cons] at this; omega
def scat : LI → LI → LI → LI
 | y,k :: a,x :: p => scat (y.set k.toNat x) a p
 | y,_,_ => y
theorem qfw : ∀ (y a p : LI),(scat y a p).length = y.length
 | y,k :: a,x :: p => by rw [scat,qfw]; simp
 | y,[],_ => by rw [scat]; intros; simp_all
 | y,_ :: _,[] => by rw [scat]; intros; simp_all
theorem qmr : ∀ (y a p : LI) (j : Nat),(∀ k ∈ a,0 ≤ k) → (j : Int) ∉ a → (scat y a p).getD j 0 = y.getD j 0
 | y,k :: a,x :: p,j,hk,hj => by
  have h0 := hk k (List.mem_cons_self ..)
  have h1 : k ≠ j := fun e => hj (e ▸ List.mem_cons_self ..)
  rw [scat,qmr _ a p j (fun z hz => hk z (List.mem_cons_of_mem _ hz)) (fun h => hj (List.mem_cons_of_mem _ h)),qeT,if_neg (by omega)]
 | y,[],_,j,_,_ => by rw [scat]; intros; simp_all
 | y,_ :: _,[],j,_,_ => by rw [scat]; intros; simp_all
theorem qjK : ∀ (y a p : LI) (i : Nat),(∀ k ∈ a,0 ≤ k ∧ k < (y.length : Int)) → a.Nodup → i < a.length → i < p.length → (scat y a p).getD (a.getD i 0).toNat 0 = p.getD i 0
 | y,k :: a,x :: p,0,hk,hn,_,_ => by
  have h0 := hk k (List.mem_cons_self ..)
  obtain ⟨n1,n2⟩ := List.nodup_cons.1 hn
  show (scat (y.set k.toNat x) a p).getD k.toNat 0 = x
  rw [qmr _ a p _ (fun z hz => (hk z (List.mem_cons_of_mem _ hz)).1) (by rw [show ((k.toNat : Nat) : Int) = k by omega]; exact n1),qeT,if_pos (by omega)]
 | y,k :: a,x :: p,i + 1,hk,hn,h1,h2 => by
  obtain ⟨n1,n2⟩ := List.nodup_cons.1 hn
  exact qjK (y.set k.toNat x) a p i (fun z hz => by rw [List.length_set]; exact hk z (List.mem_cons_of_mem _ hz)) n2 (by simpa using h1) (by simpa using h2)
 | _,[],_,_,_,_,h,_ => by simp at h
 | _,_ :: _,[],_,_,_,_,h => by simp at h
structure Perm' (n : Nat) (a : LI) : Prop where
 len : a.length = n
 mem : ∀ k ∈ a,0 ≤ k ∧ k < (n : Int)
 nd : a.Nodup
theorem ql4 {n : Nat} {a : LI} (hl : a.length = n) : zPm n [] a = true ↔ Perm' n a :=
 ⟨fun h => ⟨hl,fun k hk => by have := (qlk h).1 k hk; omega,(qlk h).2⟩,fun h => qpf (fun k hk => by have := h.mem k hk; exact ⟨this.1,this.2,by simp⟩) h.nd⟩
theorem Perm'.get {n : Nat} {a : LI} (h : Perm' n a) {j : Nat} (hj : j < n) : ∃ i,i < n ∧ a.getD i 0 = j := by
 have := qn0 h.nd h.mem h.len (j := (j : Int)) (by omega) (by omega)
 obtain ⟨i,hi,he⟩ := List.getElem_of_mem this
 exact ⟨i,by have := h.len; omega,by rw [List.getD_eq_getElem?_getD,List.getElem?_eq_getElem hi,he]; rfl⟩
theorem qmU {a b : LI} (hl : a.length = b.length) (h : ∀ i,i < a.length → a.getD i 0 = b.getD i 0) : a = b := by
 apply List.ext_getElem hl
 intro i h1 h2
 have := h i h1
 rwa [List.getD_eq_getElem?_getD,List.getD_eq_getElem?_getD,List.getElem?_eq_getElem h1,List.getElem?_eq_getElem h2] at this
theorem qoL {n : Nat} {a p y y' : LI} (h : Perm' n a) (hp : p.length = n) (hy : y.length = n) (hy' : y'.length = n) : scat y a p = scat y' a p := by
 refine qmU (by rw [qfw,qfw,hy,hy']) fun j hj => ?_
 rw [qfw,hy] at hj
 obtain ⟨i,hi,e⟩ := h.get hj
 have e1 := qjK y a p i (fun k hk => by rw [hy]; exact h.mem k hk) h.nd (by rw [h.len]; exact hi) (by omega)
 have e2 := qjK y' a p i (fun k hk => by rw [hy']; exact h.mem k hk) h.nd (by rw [h.len]; exact hi) (by omega)
 rw [e,Int.toNat_natCast] at e1 e2
 rw [e1,e2]
theorem qoO {p a : LI} {i : Nat} (h : i < a.length) : (pick p a).getD i 0 = p.getD (a.getD i 0).toNat 0 := by
 unfold pick
 rw [List.getD_eq_getElem?_getD,List.getElem?_map,List.getElem?_eq_getElem h,List.getD_eq_getElem?_getD (l := a),List.getElem?_eq_getElem h]; rfl
theorem qfh : ∀ {s p : LI},mIn s p = true → ∀ j,j < s.length → 0 ≤ p.getD j 0 ∧ p.getD j 0 < s.getD j 0
 | [],[],_,j,hj => by simp at hj
 | x :: s,y :: p,h,0,_ => (qbw.1 h).1
 | x :: s,y :: p,h,j + 1,hj => qfh (qbw.1 h).2 j (by simpa using hj)
 | [],_ :: _,h,_,_ => by simp [mIn] at h
 | _ :: _,[],h,_,_ => by simp [mIn] at h
theorem qkT : ∀ {s p : LI},p.length = s.length → (∀ j,j < s.length → 0 ≤ p.getD j 0 ∧ p.getD j 0 < s.getD j 0) → mIn s p = true
 | [],[],_,_ => rfl
 | x :: s,y :: p,hl,h => qbw.2 ⟨h 0 (by simp),qkT (by simpa using hl) fun j hj => h (j + 1) (by simpa using hj)⟩
 | [],_ :: _,hl,_ => by simp at hl
 | _ :: _,[],hl,_ => by simp at hl
theorem qnJ {s a p y : LI} (h : Perm' s.length a) (hp : mIn (pick s a) p = true) (hy : y.length = s.length) : mIn s (scat y a p) = true := by
 have hl := qen hp
 rw [pick,List.length_map,h.len] at hl
 refine qkT (by rw [qfw,hy]) fun j hj => ?_
 obtain ⟨i,hi,e⟩ := h.get hj
 have e1 := qjK y a p i (fun k hk => by rw [hy]; exact h.mem k hk) h.nd (by rw [h.len]; exact hi) (by omega)
 have e2 := qfh hp i (by rw [pick,List.length_map,h.len]; exact hi)
 rw [qoO (by rw [h.len]; exact hi)] at e2
 rw [e,Int.toNat_natCast] at e1 e2
 rw [e1]; exact e2
end Go.Pf

namespace Go.Pf
open Go Go.Vm
theorem qp9 {a b : LI} (h : a.Perm b) : pr a = pr b := by
 induction h with
 | nil => rfl
 | cons x _ ih => show x * _ = x * _; rw [ih]
 | swap x y l => show y * (x * pr l) = x * (y * pr l); rw [Int.mul_left_comm]
 | trans _ _ h1 h2 => rw [h1,h2]
theorem qnb {n : Nat} {a : LI} (h : Perm' n a) : a.Perm ((List.range n).map fun (i : Nat) => (i : Int)) := by
 refine (List.perm_ext_iff_of_nodup h.nd ?_).2 fun x => ⟨fun hx => ?_,fun hx => ?_⟩
 ·refine List.Pairwise.map _ (fun i j hij => ?_) List.nodup_range
  exact fun e => hij (by omega)
 ·have := h.mem x hx
  exact List.mem_map.2 ⟨x.toNat,List.mem_range.2 (by omega),by show ((x.toNat : Nat) : Int) = x; omega⟩
 ·obtain ⟨i,hi,rfl⟩ := List.mem_map.1 hx
  rw [List.mem_range] at hi
  exact qn0 h.nd h.mem h.len (by omega) (by omega)
theorem qnU (s : LI) : ((List.range s.length).map fun (i : Nat) => s.getD i 0) = s := by
 apply List.ext_getElem (by simp)
 intro i h1 h2
 rw [List.getElem_map,List.getElem_range,List.getD_eq_getElem?_getD,List.getElem?_eq_getElem h2]; rfl
theorem qnY {s a : LI} (h : Perm' s.length a) : (pick s a).Perm s := by
 have h1 := (qnb h).map (fun k : Int => s.getD k.toNat 0)
 rw [List.map_map] at h1
 have e : ((List.range s.length).map ((fun k : Int => s.getD k.toNat 0) ∘ fun (i : Nat) => (i : Int))) = s := by
  have := qnU s
  simpa [Function.comp_def] using this
 rw [e] at h1
 exact h1
theorem qil {s a : LI} (hs : mSR s = true) (h : Perm' s.length a) : mSR (pick s a) = true := by
 obtain ⟨h1,h2,h3⟩ := qah hs
 have hp := qnY h
 unfold mSR
 simp only [Bool.and_eq_true,decide_eq_true_eq,List.all_eq_true]
 refine ⟨⟨?_,fun x hx => qdp.2 (h2 x (hp.mem_iff.1 hx))⟩,by rw [qp9 hp]; exact h3⟩
 rw [hp.length_eq]; exact h1
theorem qkO {s a : LI} {i : Nat} (h : i < a.length) : pick s (a.take i) ++ [s.getD (a.getD i 0).toNat 0] = pick s (a.take (i + 1)) := by
 rw [qdl h,pick,pick,List.map_append]; rfl
theorem qfN (s a : LI) (hl : s.length ≤ 4) (ha : a.length = s.length) (y : LI) (hy : y.length = s.length) : ∀ (e i n : Nat) (seen : LI) (b : List Bool),s.length = i + e → e < n → b.length = s.length → (∀ j : Nat,j < s.length → (b.getD j false = true ↔ (j : Int) ∈ seen)) →
  qbM.l0 n s a a.length i (pick s (a.take i) ++ y.drop i) b = some (if zPm s.length seen (a.drop i) = true then .inl (pick s a) else .inr 1)
 | 0,i,n,seen,b,hi,hn,hb,hbs => by
  obtain ⟨n,rfl⟩ : ∃ m,n = m + 1 := ⟨n - 1,by omega⟩
  rw [qbM.l0,if_neg (by omega),List.drop_eq_nil_of_le (by omega),List.drop_eq_nil_of_le (by omega),List.take_of_length_le (by omega),List.append_nil]; rfl
 | e + 1,i,n,seen,b,hi,hn,hb,hbs => by
  obtain ⟨n,rfl⟩ : ∃ m,n = m + 1 := ⟨n - 1,by omega⟩
  have hps := qkO (s := s) (a := a) (i := i) (by omega)
  have hL : (pick s (a.take i)).length = i := by rw [pick,List.length_map,List.length_take]; omega
  have hset : (pick s (a.take i) ++ y.drop i).set i (s.getD (a.getD i 0).toNat 0) = pick s (a.take (i + 1)) ++ y.drop (i + 1) := by
   rw [qae (show i < y.length by omega) (0 : Int)]
   have := setL (pick s (a.take i)) (y.drop (i + 1)) (y.getD i 0) (s.getD (a.getD i 0).toNat 0)
   rw [hL] at this
   rw [this,hps]
  have hlen : (pick s (a.take i) ++ y.drop i).length = s.length := by rw [List.length_append,hL,List.length_drop]; omega
  rw [qbM.l0,if_pos (by omega),if_pos (by omega),Int.toNat_natCast,hset,qae (show i < a.length by omega) (0 : Int),hlen]
  generalize a.getD i 0 = k
  by_cases c1 : k < 0
  ·rw [if_pos c1,if_neg (by rw [qdd]; omega)]
  by_cases c2 : (s.length : Int) ≤ k
  ·rw [if_neg c1,if_pos c2,if_neg (by rw [qdd]; omega)]
  have hk := hbs k.toNat (by omega)
  rw [show ((k.toNat : Nat) : Int) = k by omega] at hk
  rw [if_neg c1,if_neg c2,if_pos (by omega),if_pos (by omega)]
  by_cases c3 : b.getD k.toNat false = true
  ·rw [if_pos c3,if_neg (fun hh => (qdd.1 hh).1.2.2 (hk.1 c3))]
  have hns : k ∉ seen := fun h => c3 (hk.2 h)
  have ih := qfN s a hl ha y hy e (i + 1) n (k :: seen) (b.set k.toNat true) (by omega) (by omega) (by simp [hb]) fun j hj => by
   rw [qeT]
   by_cases ej : k.toNat = j
   ·rw [if_pos ⟨ej,by omega⟩]
    exact ⟨fun _=>by rw [show (j : Int) = k by omega]; exact List.mem_cons_self ..,fun _=>rfl⟩
   ·rw [if_neg (fun hh => ej hh.1),hbs j hj,List.mem_cons]
    exact ⟨fun h => .inr h,fun h => h.resolve_left (by omega)⟩
  rw [if_neg c3,if_pos (by omega),if_pos (by omega),if_pos (by omega),qal (n := (i : Int) + 1) (by omega) (by omega),show (i : Int) + 1 = ((i + 1 : Nat) : Int) by omega,ih]
  by_cases c : zPm s.length (k :: seen) (a.drop (i + 1)) = true
  ·rw [if_pos c,if_pos (qdd.2 ⟨⟨by omega,by omega,hns⟩,c⟩)]
  ·rw [if_neg c,if_neg (fun hh => c (qdd.1 hh).2)]
def isPerm (n : Nat) (a : LI) : Bool := decide (a.length = n) && zPm n [] a
theorem qey {n : Nat} {a : LI} : isPerm n a = true ↔ Perm' n a := by
 unfold isPerm
 rw [Bool.and_eq_true,decide_eq_true_eq]
 exact ⟨fun h => (ql4 h.1).1 h.2,fun h => ⟨h.len,(ql4 h.len).2 h⟩⟩
theorem qgP {s : LI} (hl : s.length ≤ 4) (a : LI) (k : Nat) (hk : 10 ≤ k) : qbM.f k s a = some (if isPerm s.length a = true then (0,pick s a) else (1,[])) := by
 unfold qbM.f isPerm
 by_cases ha : a.length = s.length
 ·have l0 := qfN s a hl ha (List.replicate (s.length : Int).toNat 0) (by simp) s.length 0 k [] (List.replicate (s.length : Int).toNat false) (by omega) (by omega) (by simp) (fun j hj => by simp [List.getD_eq_getElem?_getD,List.getElem?_replicate,hj])
  rw [n0,List.drop_zero,List.drop_zero,List.take_zero] at l0
  rw [if_pos (by omega),if_pos (by omega),if_pos (by omega)]
  rw [show pick s [] ++ List.replicate (s.length : Int).toNat (0 : Int) = List.replicate (s.length : Int).toNat (0 : Int) from rfl] at l0
  rw [l0]
  by_cases c : zPm s.length [] a = true
  ·rw [if_pos c]; simp [ha,c]
  ·rw [if_neg c]; simp [c]
 ·rw [if_neg (by omega)]; simp [ha]
def zTurn (s d a : LI) : LI := made (pick s a) fun p => d.getD (ix s (scat (List.replicate s.length 0) a p)).toNat 0
theorem qky {y a p : LI} {i : Nat} (h1 : i < a.length) (h2 : i < p.length) : scat y (a.drop i) (p.drop i) = scat (y.set (a.getD i 0).toNat (p.getD i 0)) (a.drop (i + 1)) (p.drop (i + 1)) := by
 rw [qae h1 (0 : Int),qae h2 (0 : Int)]; rfl
theorem qms (y p : LI) : scat y [] p = y := by rw [scat]; intros; simp_all
theorem qfO (p a : LI) (hl : a.length ≤ 4) (hp : p.length = a.length) (m : Nat) (hr : ∀ k ∈ a,0 ≤ k ∧ k < (m : Int)) (y1 s d : LI) : ∀ (e i : Nat) (y : LI) (n : Nat),y.length = m → a.length = i + e → e < n →
  qb2.l0 n a a.length i p y1 s d y = some (scat y (a.drop i) (p.drop i))
 | 0,i,y,n,hy,hi,hn => by
  obtain ⟨n,rfl⟩ : ∃ m,n = m + 1 := ⟨n - 1,by omega⟩
  rw [qb2.l0,if_neg (by omega),List.drop_eq_nil_of_le (by omega),qms]
 | e + 1,i,y,n,hy,hi,hn => by
  obtain ⟨n,rfl⟩ : ∃ m,n = m + 1 := ⟨n - 1,by omega⟩
  have hk := hr _ (qan (show i < a.length by omega) 0)
  have ih := qfO p a hl hp m hr y1 s d e (i + 1) (y.set (a.getD i 0).toNat (p.getD i 0)) n (by simp [hy]) (by omega) (by omega)
  rw [qb2.l0,if_pos (by omega),if_pos (by omega),Int.toNat_natCast,if_pos (by omega),if_pos (by omega),if_pos (by omega),if_pos (by omega),qal (n := (i : Int) + 1) (by omega) (by omega),show (i : Int) + 1 = ((i + 1 : Nat) : Int) by omega,ih,← qky (by omega) (by omega)]
theorem qhn (p a : LI) (hl : a.length ≤ 4) (hp : p.length = a.length) (m : Nat) (hr : ∀ k ∈ a,0 ≤ k ∧ k < (m : Int)) (x10 x83 x84 : Int) (s d y2 y6 y7 : LI) : ∀ (e i : Nat) (y : LI) (n : Nat),y.length = m → a.length = i + e → e < n →
  qa5.l2 n a x10 x83 x84 p.length i s d y2 p y y6 y7 = some (scat y (a.drop i) (p.drop i))
 | 0,i,y,n,hy,hi,hn => by
  obtain ⟨n,rfl⟩ : ∃ m,n = m + 1 := ⟨n - 1,by omega⟩
  rw [qa5.l2,if_neg (by omega),List.drop_eq_nil_of_le (by omega),qms]
 | e + 1,i,y,n,hy,hi,hn => by
  obtain ⟨n,rfl⟩ : ∃ m,n = m + 1 := ⟨n - 1,by omega⟩
  have hk := hr _ (qan (show i < a.length by omega) 0)
  have ih := qhn p a hl hp m hr x10 x83 x84 s d y2 y6 y7 e (i + 1) (y.set (a.getD i 0).toNat (p.getD i 0)) n (by simp [hy]) (by omega) (by omega)
  rw [qa5.l2,if_pos (by omega),if_pos (by omega),if_pos (by omega),if_pos (by omega),Int.toNat_natCast,if_pos (by omega),if_pos (by omega),qal (n := (i : Int) + 1) (by omega) (by omega),show (i : Int) + 1 = ((i + 1 : Nat) : Int) by omega,ih,← qky (by omega) (by omega)]
def tn (s d a : LI) (i : Nat) : Int := d.getD (ix s (scat (List.replicate s.length 0) a (pl (pick s a) i))).toNat 0
theorem qke {s d a : LI} (h : zT s d = true) (ha : Perm' s.length a) (y : LI) (hy : y.length = s.length) (i : Nat) (h1 : (i : Int) < pr (pick s a)) (k : Nat) (hk : 20 ≤ k) :
  qb2.f k (pl (pick s a) i) a s d y = some (tn s d a i,scat y a (pl (pick s a) i)) := by
 have h4 := (qah (qaM h).1).1
 have ho := qil (qaM h).1 ha
 have hpl : (pl (pick s a) i).length = a.length := by rw [qco,pick,List.length_map]
 have := qfO (pl (pick s a) i) a (by rw [ha.len]; exact h4) hpl s.length ha.mem a s d a.length 0 y k hy (by omega) (by rw [ha.len]; omega)
 rw [n0,List.drop_zero,List.drop_zero] at this
 unfold qb2.f
 rw [this,obs,qgN h _ k hk,if_pos (qnJ ha (qgt (fun b hb => (qcQ ho (by omega) b hb).1) i) hy),obs,qoL ha (by rw [hpl,ha.len]) hy (y' := List.replicate s.length 0) (by simp)]
 rfl
theorem qdY {s d a : LI} (h : zT s d = true) (ha : Perm' s.length a) (k : Nat) (hk : 20 ≤ k) (y6 : LI) : ∀ (e i : Nat) (y : LI) (n : Nat),y.length = s.length → (pr (pick s a)).toNat = i + e → e < n →
  ∃ y',qax.l0 k n (pr (pick s a)) i (pick s a) a s d y y6 ((List.range i).map (tn s d a) ++ List.replicate e 0) = some (y',zTurn s d a)
 | 0,i,y,n,hy,hi,hn => by
  obtain ⟨n,rfl⟩ : ∃ m,n = m + 1 := ⟨n - 1,by omega⟩
  refine ⟨y,?_⟩
  rw [qax.l0,if_neg (by omega)]
  unfold zTurn made
  rw [hi,List.replicate_zero,List.append_nil]; rfl
 | e + 1,i,y,n,hy,hi,hn => by
  obtain ⟨n,rfl⟩ : ∃ m,n = m + 1 := ⟨n - 1,by omega⟩
  have ho := qil (qaM h).1 ha
  have hb := (qah ho).2.2
  obtain ⟨y',ih⟩ := qdY h ha k hk y6 e (i + 1) (scat y a (pl (pick s a) i)) n (by rw [qfw,hy]) (by omega) (by omega)
  refine ⟨y',?_⟩
  rw [qax.l0,if_pos (by omega),qbH ho (by omega) (by omega) k hk,obs,qke h ha y hy i (by omega) k hk,obs,
   if_pos (by simp; omega),if_pos (by simp),Int.toNat_natCast,qdT (tn s d a),qal (n := (i : Int) + 1) (by omega) (by omega),show (i : Int) + 1 = ((i + 1 : Nat) : Int) by omega]
  exact ih
theorem qlZ (s d a : LI) (k : Nat) (hk : 5000 ≤ k) : qfq.f k s d a = some (if zT s d = true then (if isPerm s.length a = true then (0,pick s a,zTurn s d a) else (1,[],[])) else (13,[],[])) := by
 unfold qfq.f
 rw [qbj s d k (by omega),obs]
 by_cases h : zT s d = true
 ·obtain ⟨hr,_⟩ := qaM h
  have h4 := (qah hr).1
  rw [if_pos h,if_pos h,qgP h4 a k (by omega),obs]
  by_cases hc : isPerm s.length a = true
  ·have ha := qey.1 hc
   have ho := qil hr ha
   have hb := qah ho
   have h0 := qbE fun x hx => (hb.2.1 x hx).1
   have hlen : (pick s a).length = s.length := by rw [pick,List.length_map,ha.len]
   obtain ⟨y',this⟩ := qdY h ha k (by omega) (pick s a) (pr (pick s a)).toNat 0 (List.replicate ((pick s a).length : Int).toNat 0) k (by simp [hlen]) (by omega) (by omega)
   rw [if_pos hc,if_pos hc]
   dsimp only
   rw [if_pos rfl,if_pos (by omega)]
   unfold qax.f
   rw [qaH (pick s a) (by omega),obs,qbR (pick s a) k (by omega),obs,zSz,if_pos ho,if_pos (by omega),List.length_replicate,show (((pr (pick s a)).toNat : Nat) : Int) = pr (pick s a) by omega]
   rw [n0] at this
   rw [show List.replicate (pr (pick s a)).toNat (0 : Int) = (List.range 0).map (tn s d a) ++ List.replicate (pr (pick s a)).toNat 0 from rfl,this]
   rfl
  ·rw [if_neg hc,if_neg hc,if_neg (by decide)]
 ·rw [if_neg h,if_neg h]
end Go.Pf

namespace Go.Pf
open Go Go.Vm
theorem qhp (s d a : LI) (hl : s.length ≤ 4) (ha : a.length = s.length) : ∀ (e i n : Nat) (seen : LI) (b : LI),s.length = i + e → e < n → b.length = s.length → (∀ j : Nat,j < s.length → b.getD j 0 = if (j : Int) ∈ seen then 1 else 0) →
    qa5.l0 n a a.length i s d b (pick s (a.take i)) = some (if zPm s.length seen (a.drop i) = true then .inl (pick s a) else .inr 1)
  | 0,i,n,seen,b,hi,hn,hb,hbs => by
    obtain ⟨n,rfl⟩ : ∃ m,n = m + 1 := ⟨n - 1,by omega⟩
    rw [qa5.l0,if_neg (by omega),List.drop_eq_nil_of_le (by omega),List.take_of_length_le (by omega)]; rfl
  | e + 1,i,n,seen,b,hi,hn,hb,hbs => by
    obtain ⟨n,rfl⟩ : ∃ m,n = m + 1 := ⟨n - 1,by omega⟩
    have hps := qkO (s := s) (a := a) (i := i) (by omega)
    have hL : (pick s (a.take i)).length = i := by rw [pick,List.length_map,List.length_take]; omega
    rw [qa5.l0,if_pos (by omega),if_pos (by omega),Int.toNat_natCast,hps,qae (show i < a.length by omega) (0 : Int),hb,hL]
    generalize a.getD i 0 = k
    by_cases c1 : k < 0
    · rw [if_pos c1,if_neg (by rw [qdd]; omega)]
    by_cases c2 : (s.length : Int) ≤ k
    · rw [if_neg c1,if_pos c2,if_neg (by rw [qdd]; omega)]
    have hk := hbs k.toNat (by omega)
    rw [show ((k.toNat : Nat) : Int) = k by omega] at hk
    rw [if_neg c1,if_neg c2,if_pos (by omega),if_pos (by omega),hk]
    by_cases c3 : k ∈ seen
    · rw [if_pos (by rw [if_pos c3]; omega),if_neg (fun hh => (qdd.1 hh).1.2.2 c3)]
    rw [if_neg c3] at hk ⊢
    have ih := qhp s d a hl ha e (i + 1) n (k :: seen) (b.set k.toNat 1) (by omega) (by omega) (by simp [hb]) fun j hj => by
      rw [qeT]
      by_cases ej : k.toNat = j
      · rw [if_pos ⟨ej,by omega⟩,if_pos (by rw [show (j : Int) = k by omega]; exact List.mem_cons_self ..)]
      · rw [if_neg (fun hh => ej hh.1),hbs j hj]
        by_cases cj : (j : Int) ∈ seen
        · rw [if_pos cj,if_pos (List.mem_cons_of_mem _ cj)]
        · rw [if_neg cj,if_neg (fun hh => by
            rcases List.mem_cons.1 hh with e | hh
            · omega
            · exact cj hh)]
    rw [if_neg (by omega),if_pos (by omega),if_pos (by simp only [List.length_singleton]; omega),show IntKind.i64.wrap (0 + 1) = 1 from qal (by omega) (by omega),qal (n := (i : Int) + 1) (by omega) (by omega),show (i : Int) + 1 = ((i + 1 : Nat) : Int) by omega,ih]
    by_cases c : zPm s.length (k :: seen) (a.drop (i + 1)) = true
    · rw [if_pos c,if_pos (qdd.2 ⟨⟨by omega,by omega,c3⟩,c⟩)]
    · rw [if_neg c,if_neg (fun hh => c (qdd.1 hh).2)]
theorem qho {s d a : LI} (h : zT s d = true) (ha : Perm' s.length a) (k : Nat) (hk : 20 ≤ k) (y4 : LI) : ∀ (e i n : Nat),(pr (pick s a)).toNat = i + e → e + 10 < n →
  qa5.l1 k n a (pr (pick s a)) i s d (pick s a) y4 ((List.range i).map (tn s d a) ++ List.replicate e 0) = some (zTurn s d a)
 | 0,i,n,hi,hn => by
  obtain ⟨n,rfl⟩ : ∃ m,n = m + 1 := ⟨n - 1,by omega⟩
  rw [qa5.l1,if_neg (by omega)]
  unfold zTurn made
  rw [hi,List.replicate_zero,List.append_nil]; rfl
 | e + 1,i,n,hi,hn => by
  obtain ⟨n,rfl⟩ : ∃ m,n = m + 1 := ⟨n - 1,by omega⟩
  have ho := qil (qaM h).1 ha
  have hb := (qah ho).2.2
  have h4 := (qah (qaM h).1).1
  have hpl : (pl (pick s a) i).length = a.length := by rw [qco,pick,List.length_map]
  have hal := ha.len
  have ih := qho h ha k hk y4 e (i + 1) n (by omega) (by omega)
  have l2 := qhn (pl (pick s a) i) a (by omega) hpl s.length ha.mem i (pr (pick s a)) i s d (pick s a) y4 ((List.range i).map (tn s d a) ++ List.replicate (e + 1) 0) a.length 0 (List.replicate s.length 0) n (by simp) (by omega) (by omega)
  rw [n0,List.drop_zero,List.drop_zero] at l2
  rw [qa5.l1,if_pos (by omega),qcs ho (by omega) (by omega) k hk,obs,if_pos (by rw [hpl]; omega),show ((pl (pick s a) i).length : Int).toNat = s.length by rw [hpl]; omega,l2,obs,
   qc3 h (qnJ ha (qgt (fun b hb => (qcQ ho (by omega) b hb).1) i) (by simp)) k hk,obs,
   if_pos (by simp; omega),if_pos (by simp),Int.toNat_natCast,show d.getD (ix s (scat (List.replicate s.length 0) a (pl (pick s a) i))).toNat 0 = tn s d a i from rfl,qdT (tn s d a),qal (n := (i : Int) + 1) (by omega) (by omega),show (i : Int) + 1 = ((i + 1 : Nat) : Int) by omega]
  exact ih
theorem qlz (s d a : LI) (k : Nat) (hk : 5000 ≤ k) : qa5.f k s d a = some (if zT s d = true then (if isPerm s.length a = true then (0,pick s a,zTurn s d a) else (1,[],[])) else (13,[],[])) := by
 unfold qa5.f
 rw [qbz s d k (by omega),obs]
 by_cases h : zT s d = true
 ·obtain ⟨hr,_⟩ := qaM h
  have h4 := (qah hr).1
  rw [if_pos h,if_pos h,if_pos (by omega)]
  by_cases hl : a.length = s.length
  ·have l0 := qhp s d a h4 hl s.length 0 k [] (List.replicate (s.length : Int).toNat 0) (by omega) (by omega) (by simp) (fun j hj => by simp [List.getD_eq_getElem?_getD,List.getElem?_replicate,hj])
   rw [n0,List.drop_zero,List.take_zero,show pick s [] = [] from rfl] at l0
   rw [if_pos (by simp; omega),l0,obs]
   by_cases hc : zPm s.length [] a = true
   ·have hp : isPerm s.length a = true := by simp [isPerm,hl,hc]
    have ha := qey.1 hp
    have ho := qil hr ha
    have hb := qah ho
    have h0 := qbE fun x hx => (hb.2.1 x hx).1
    have this := qho h ha k (by omega) (pick s a) (pr (pick s a)).toNat 0 k (by omega) (by omega)
    rw [if_pos hc,if_pos hp,Sum.elim_inl,qbu (pick s a) 0 (by omega) k hk,obs,zSz,if_pos ho,List.length_replicate,show (((pr (pick s a)).toNat : Nat) : Int) = pr (pick s a) by omega]
    rw [n0] at this
    rw [show List.replicate (pr (pick s a)).toNat (0 : Int) = (List.range 0).map (tn s d a) ++ List.replicate (pr (pick s a)).toNat 0 from rfl,this]
    rfl
   ·have hp : ¬ isPerm s.length a = true := by simp [isPerm,hc]
    rw [if_neg hc,if_neg hp]; rfl
  ·have hp : ¬ isPerm s.length a = true := by simp [isPerm,hl]
   rw [if_neg (by simp; omega),if_neg hp]
 ·rw [if_neg h,if_neg h]
end Go.Pf

namespace Go.Pf
open Go Go.Vm
def zp : LI → LI → LI → LI
 | a :: s,l :: lo,h :: hi => (l + a + h) :: zp s lo hi
 | _,_,_ => []
def zMay : LI → LI → LI → Bool
 | [],[],[] => true
 | _ :: s,l :: lo,h :: hi => okS l && okS h && zMay s lo hi
 | _,_,_ => false
theorem qcH {a l h : Int} {s lo hi : LI} : zMay (a :: s) (l :: lo) (h :: hi) = true ↔ ((0 ≤ l ∧ l ≤ 32) ∧ (0 ≤ h ∧ h ≤ 32)) ∧ zMay s lo hi = true := by
 simp only [zMay,Bool.and_eq_true,qdp]
theorem qed : ∀ {s lo hi : LI},zMay s lo hi = true → lo.length = s.length ∧ hi.length = s.length
 | [],[],[],_ => ⟨rfl,rfl⟩
 | _ :: s,_ :: f,_ :: z,h => by
  have := qed (qcH.1 h).2
  simp [this.1,this.2]
 | [],_ :: _,_,h => by simp [zMay] at h
 | [],[],_ :: _,h => by simp [zMay] at h
 | _ :: _,[],_,h => by simp [zMay] at h
 | _ :: _,_ :: _,[],h => by simp [zMay] at h
theorem qlm : ∀ {s lo hi : LI},zMay s lo hi = true → ∀ x ∈ lo,0 ≤ x ∧ x ≤ 32
 | [],[],[],_,x,hx => by cases hx
 | _ :: s,_ :: f,_ :: z,h,x,hx => by
  obtain ⟨⟨h1,_⟩,h2⟩ := qcH.1 h
  rcases List.mem_cons.1 hx with e | hx
  ·subst e; exact h1
  ·exact qlm h2 x hx
 | [],_ :: _,_,h,_,_ => by simp [zMay] at h
 | [],[],_ :: _,h,_,_ => by simp [zMay] at h
 | _ :: _,[],_,h,_,_ => by simp [zMay] at h
 | _ :: _,_ :: _,[],h,_,_ => by simp [zMay] at h
theorem ql2 : ∀ {s lo hi : LI},lo.length = s.length → hi.length = s.length → (zp s lo hi).length = s.length
 | [],[],[],_,_ => rfl
 | _ :: s,_ :: lo,_ :: hi,h1,h2 => by simp [zp,ql2 (s := s) (by simpa using h1) (by simpa using h2)]
 | [],_ :: _,_,h,_ => by simp at h
 | [],[],_ :: _,_,h => by simp at h
 | _ :: _,[],_,h,_ => by simp at h
 | _ :: _,_ :: _,[],_,h => by simp at h
theorem qfs (a : Int) : qda.f a = some (okS a) := by
 unfold qda.f okS
 by_cases h : 0 ≤ a
 ·rw [if_pos h]; simp [h]
 ·rw [if_neg h]; simp [h]
theorem qfR (s lo hi : LI) (hs : ∀ a ∈ s,0 ≤ a ∧ a ≤ 32) (hl : s.length ≤ 4) (h1 : lo.length = s.length) (h2 : hi.length = s.length) (y : LI) (hy : y.length = s.length) : ∀ (e : Nat) (L : LI) (n : Nat),s.length = L.length + e → e < n →
  qbO.l0 n lo hi s s.length L.length (L ++ y.drop L.length) = some (if zMay (s.drop L.length) (lo.drop L.length) (hi.drop L.length) = true then .inl (L ++ zp (s.drop L.length) (lo.drop L.length) (hi.drop L.length)) else .inr 1)
 | 0,L,n,hi',hn => by
  obtain ⟨n,rfl⟩ : ∃ m,n = m + 1 := ⟨n - 1,by omega⟩
  rw [qbO.l0,if_neg (by omega),List.drop_eq_nil_of_le (by omega),List.drop_eq_nil_of_le (by omega),List.drop_eq_nil_of_le (by omega),List.drop_eq_nil_of_le (by omega)]; rfl
 | e + 1,L,n,hi',hn => by
  obtain ⟨n,rfl⟩ : ∃ m,n = m + 1 := ⟨n - 1,by omega⟩
  have ha := hs _ (qan (show L.length < s.length by omega) 0)
  have ih := qfR s lo hi hs hl h1 h2 y hy e (L ++ [lo.getD L.length 0 + s.getD L.length 0 + hi.getD L.length 0]) n (by simp; omega) (by omega)
  have hL : (L ++ y.drop L.length).length = s.length := by rw [List.length_append,List.length_drop]; omega
  rw [List.length_append,List.length_singleton] at ih
  rw [qbO.l0,if_pos (by omega),if_pos (by omega),if_pos (by omega),Int.toNat_natCast,qfs,obs,if_pos (show 0 ≤ (L.length : Int) ∧ (L.length : Int) < (hi.length : Int) by omega),qfs,obs,hL,
   qae (show L.length < s.length by omega) (0 : Int),qae (show L.length < lo.length by omega) (0 : Int),qae (show L.length < hi.length by omega) (0 : Int),qae (show L.length < y.length by omega) (0 : Int),setL]
  generalize s.getD L.length 0 = a at *
  generalize lo.getD L.length 0 = l at *
  generalize hi.getD L.length 0 = h at *
  by_cases c1 : okS l = true
  ·by_cases c2 : okS h = true
   ·have b1 := qdp.1 c1
    have b2 := qdp.1 c2
    rw [if_pos c1,if_pos c2,if_pos (by omega),if_pos (by omega),qal (n := l + a) (by omega) (by omega),qal (n := l + a + h) (by omega) (by omega),qal (n := (L.length : Int) + 1) (by omega) (by omega),show (L.length : Int) + 1 = ((L.length + 1 : Nat) : Int) by omega,ih]
    by_cases c : zMay (s.drop (L.length + 1)) (lo.drop (L.length + 1)) (hi.drop (L.length + 1)) = true
    ·rw [if_pos c,if_pos (qcH.2 ⟨⟨b1,b2⟩,c⟩)]; simp [zp]
    ·rw [if_neg c,if_neg (fun hh => c (qcH.1 hh).2)]
   ·rw [if_pos c1,if_neg c2,if_neg (fun hh => c2 (qdp.2 (qcH.1 hh).1.2))]
  ·rw [if_neg c1,if_neg (fun hh => c1 (qdp.2 (qcH.1 hh).1.1))]
theorem qgR {s : LI} (h : mSR s = true) (lo hi : LI) (k : Nat) (hk : 10 ≤ k) : qbO.f k s lo hi = some (if zMay s lo hi = true then (if mSR (zp s lo hi) = true then (0,zp s lo hi) else (13,[])) else (1,[])) := by
 obtain ⟨hl,hs,_⟩ := qah h
 unfold qbO.f
 by_cases h1 : lo.length = s.length
 ·by_cases h2 : hi.length = s.length
  ·have l0 := qfR s lo hi hs hl h1 h2 (List.replicate (s.length : Int).toNat 0) (by simp) s.length [] k (by simp) (by omega)
   rw [List.length_nil,n0,List.drop_zero,List.drop_zero,List.drop_zero,List.drop_zero,List.nil_append,List.nil_append] at l0
   rw [if_pos (by omega),if_pos (by omega),if_pos (by omega),l0,obs]
   by_cases c : zMay s lo hi = true
   ·rw [if_pos c,if_pos c,Sum.elim_inl,qbg _ k hk,obs]
    by_cases c2 : mSR (zp s lo hi) = true
    ·rw [if_pos c2,if_pos c2]
    ·rw [if_neg c2,if_neg c2]
   ·rw [if_neg c,if_neg c,Sum.elim_inr]
  ·rw [if_pos (by omega),if_neg (by omega),if_neg (fun hh => h2 (qed hh).2)]
 ·rw [if_neg (by omega),if_neg (fun hh => h1 (qed hh).1)]
def zSub : LI → LI → LI := List.zipWith (· - ·)
theorem qgS (f : LI) (p : LI) (hf : ∀ a ∈ f,0 ≤ a ∧ a ≤ 32) (hp : ∀ a ∈ p,0 ≤ a ∧ a ≤ 32) (hl : f.length ≤ 4) (hlen : p.length = f.length) (y1 y2 y3 : LI) (y4 : Int) : ∀ (d : Nat) (L : LI) (n : Nat),f.length = L.length + d → d < n →
  qck.l0 n f f.length L.length (L ++ p.drop L.length) y1 y2 y3 y4 = some (L ++ zSub (p.drop L.length) (f.drop L.length))
 | 0,L,n,hi,hn => by
  obtain ⟨n,rfl⟩ : ∃ m,n = m + 1 := ⟨n - 1,by omega⟩
  rw [qck.l0,if_neg (by omega),List.drop_eq_nil_of_le (by omega)]; rfl
 | d + 1,L,n,hi,hn => by
  obtain ⟨n,rfl⟩ : ∃ m,n = m + 1 := ⟨n - 1,by omega⟩
  have ha := hf _ (qan (show L.length < f.length by omega) 0)
  have hb := hp _ (qan (show L.length < p.length by omega) 0)
  have ih := qgS f p hf hp hl hlen y1 y2 y3 y4 d (L ++ [p.getD L.length 0 - f.getD L.length 0]) n (by simp; omega) (by omega)
  have hL : (L ++ p.drop L.length).length = f.length := by rw [List.length_append,List.length_drop]; omega
  rw [qck.l0,if_pos (by omega),if_pos (by omega),if_pos (by rw [hL]; omega),if_pos (by rw [hL]; omega),Int.toNat_natCast,qae (show L.length < p.length by omega) (0 : Int),qae (show L.length < f.length by omega) (0 : Int),getL,setL,qal (n := p.getD L.length 0 - f.getD L.length 0) (by omega) (by omega),qal (n := (L.length : Int) + 1) (by omega) (by omega)]
  rw [List.length_append,List.length_singleton] at ih
  rw [show (L.length : Int) + 1 = ((L.length + 1 : Nat) : Int) by omega,ih]
  simp [zSub]
def pdF (s d lo : LI) (c : Int) (p : LI) : Int := if mIn s (zSub p lo) = true then d.getD (ix s (zSub p lo)).toNat 0 else c
def zPad (s d lo hi : LI) (c : Int) : LI := made (zp s lo hi) (pdF s d lo c)
theorem qlh {s d lo o : LI} (h : zT s d = true) (hlo : ∀ x ∈ lo,0 ≤ x ∧ x ≤ 32) (hl : lo.length = s.length) (ho : mSR o = true) (hol : o.length = s.length) (c x : Int) (h0 : 0 ≤ x) (h1 : x < pr o) (k : Nat) (hk : 20 ≤ k) :
  qck.f k (pl o x) lo s d c = some (pdF s d lo c (pl o x),zSub (pl o x) lo) := by
 have h4 := (qah (qaM h).1).1
 have := qgS lo (pl o x) hlo (qnX ho (by omega) x) (by omega) (by rw [qco]; omega) lo s d c lo.length [] k (by simp) (by omega)
 rw [List.length_nil,n0,List.drop_zero,List.drop_zero,List.nil_append,List.nil_append] at this
 unfold qck.f pdF
 rw [this,obs,qe2 h _ k hk]
 by_cases hc : mIn s (zSub (pl o x) lo) = true
 ·rw [if_pos hc,if_pos hc]; rfl
 ·rw [if_neg hc,if_neg hc]; rfl
theorem qee {s d lo o : LI} (h : zT s d = true) (hlo : ∀ x ∈ lo,0 ≤ x ∧ x ≤ 32) (hl : lo.length = s.length) (ho : mSR o = true) (hol : o.length = s.length) (c : Int) (k : Nat) (hk : 20 ≤ k) (y6 : LI) : ∀ (e i n : Nat),(pr o).toNat = i + e → e < n →
  qaD.l0 k n (pr o) i o lo s d c y6 ((List.range i).map (fun (i : Nat) => pdF s d lo c (pl o i)) ++ List.replicate e 0) = some (made o (pdF s d lo c))
 | 0,i,n,hi,hn => by
  obtain ⟨n,rfl⟩ : ∃ m,n = m + 1 := ⟨n - 1,by omega⟩
  rw [qaD.l0,if_neg (by omega)]
  unfold made
  rw [hi,List.replicate_zero,List.append_nil]; rfl
 | e + 1,i,n,hi,hn => by
  obtain ⟨n,rfl⟩ : ∃ m,n = m + 1 := ⟨n - 1,by omega⟩
  have hb := (qah ho).2.2
  have ih := qee h hlo hl ho hol c k hk y6 e (i + 1) n (by omega) (by omega)
  rw [qaD.l0,if_pos (by omega),qbH ho (by omega) (by omega) k hk,obs,qlh h hlo hl ho hol c i (by omega) (by omega) k hk,obs,
   if_pos (by simp; omega),if_pos (by simp),Int.toNat_natCast,qdT (fun (i : Nat) => pdF s d lo c (pl o i)),qal (n := (i : Int) + 1) (by omega) (by omega),show (i : Int) + 1 = ((i + 1 : Nat) : Int) by omega]
  exact ih
theorem qnr (s d lo hi : LI) (c : Int) (k : Nat) (hk : 5000 ≤ k) : qgT.f k s d lo hi c = some (if zT s d = true then (if zMay s lo hi = true then (if mSR (zp s lo hi) = true then (0,zp s lo hi,zPad s d lo hi c) else (13,[],[])) else (1,[],[])) else (13,[],[])) := by
 unfold qgT.f
 rw [qbj s d k (by omega),obs]
 by_cases h : zT s d = true
 ·obtain ⟨hr,_⟩ := qaM h
  have h4 := (qah hr).1
  rw [if_pos h,if_pos h,qgR hr lo hi k (by omega),obs]
  by_cases hm : zMay s lo hi = true
  ·rw [if_pos hm,if_pos hm]
   by_cases ho : mSR (zp s lo hi) = true
   ·obtain ⟨l1,l2⟩ := qed hm
    have hol := ql2 l1 l2
    have hb := qah ho
    have h0 := qbE fun x hx => (hb.2.1 x hx).1
    have this := qee h (qlm hm) l1 ho hol c k (by omega) (zp s lo hi) (pr (zp s lo hi)).toNat 0 k (by omega) (by omega)
    rw [if_pos ho,if_pos ho]
    dsimp only
    rw [if_pos rfl]
    unfold qaD.f
    rw [qaH _ (by omega),obs,qbR _ k (by omega),obs,zSz,if_pos ho,if_pos (by omega),List.length_replicate,show (((pr (zp s lo hi)).toNat : Nat) : Int) = pr (zp s lo hi) by omega]
    rw [n0] at this
    rw [show List.replicate (pr (zp s lo hi)).toNat (0 : Int) = (List.range 0).map (fun (i : Nat) => pdF s d lo c (pl (zp s lo hi) i)) ++ List.replicate (pr (zp s lo hi)).toNat 0 from rfl,this]
    rfl
   ·rw [if_neg ho,if_neg ho,if_neg (by decide)]
  ·rw [if_neg hm,if_neg hm,if_neg (by decide)]
 ·rw [if_neg h,if_neg h]
end Go.Pf

namespace Go.Pf
open Go Go.Vm
theorem qid (s d lo hi : LI) (c : Int) (hs : ∀ a ∈ s,0 ≤ a ∧ a ≤ 32) (hl : s.length ≤ 4) (h1 : lo.length = s.length) (h2 : hi.length = s.length) : ∀ (e : Nat) (L : LI) (n : Nat),s.length = L.length + e → e < n →
  qbn.l0 n lo hi c lo.length L.length s d L = some (if zMay (s.drop L.length) (lo.drop L.length) (hi.drop L.length) = true then .inl (L ++ zp (s.drop L.length) (lo.drop L.length) (hi.drop L.length)) else .inr 1)
 | 0,L,n,hi',hn => by
  obtain ⟨n,rfl⟩ : ∃ m,n = m + 1 := ⟨n - 1,by omega⟩
  rw [qbn.l0,if_neg (by omega),List.drop_eq_nil_of_le (by omega),List.drop_eq_nil_of_le (by omega),List.drop_eq_nil_of_le (by omega)]
  simp [zMay,zp]
 | e + 1,L,n,hi',hn => by
  obtain ⟨n,rfl⟩ : ∃ m,n = m + 1 := ⟨n - 1,by omega⟩
  have ha := hs _ (qan (show L.length < s.length by omega) 0)
  have ih := qid s d lo hi c hs hl h1 h2 e (L ++ [lo.getD L.length 0 + s.getD L.length 0 + hi.getD L.length 0]) n (by simp; omega) (by omega)
  rw [List.length_append,List.length_singleton] at ih
  rw [qbn.l0,if_pos (by omega),if_pos (by omega),if_pos (show 0 ≤ (L.length : Int) ∧ (L.length : Int) < (hi.length : Int) by omega),if_pos (show 0 ≤ (L.length : Int) ∧ (L.length : Int) < (s.length : Int) by omega),Int.toNat_natCast,
   qae (show L.length < s.length by omega) (0 : Int),qae (show L.length < lo.length by omega) (0 : Int),qae (show L.length < hi.length by omega) (0 : Int)]
  generalize s.getD L.length 0 = a at *
  generalize lo.getD L.length 0 = l at *
  generalize hi.getD L.length 0 = h at *
  by_cases c1 : l < 0
  ·rw [if_pos c1,if_neg (by rw [qcH]; omega)]
  by_cases c2 : h < 0
  ·rw [if_neg c1,if_pos c2,if_neg (by rw [qcH]; omega)]
  by_cases c3 : 32 < l
  ·rw [if_neg c1,if_neg c2,if_pos c3,if_neg (by rw [qcH]; omega)]
  by_cases c4 : 32 < h
  ·rw [if_neg c1,if_neg c2,if_neg c3,if_pos c4,if_neg (by rw [qcH]; omega)]
  rw [if_neg c1,if_neg c2,if_neg c3,if_neg c4,if_pos (by simp only [List.length_singleton]; omega),qal (n := l + a) (by omega) (by omega),qal (n := l + a + h) (by omega) (by omega),qal (n := (L.length : Int) + 1) (by omega) (by omega),show (L.length : Int) + 1 = ((L.length + 1 : Nat) : Int) by omega,ih]
  by_cases c : zMay (s.drop (L.length + 1)) (lo.drop (L.length + 1)) (hi.drop (L.length + 1)) = true
  ·rw [if_pos c,if_pos (qcH.2 ⟨by omega,c⟩)]; simp [zp]
  ·rw [if_neg c,if_neg (fun hh => c (qcH.1 hh).2)]
theorem qib (f : LI) (p : LI) (hf : ∀ a ∈ f,0 ≤ a ∧ a ≤ 32) (hp : ∀ a ∈ p,0 ≤ a ∧ a ≤ 32) (hl : f.length ≤ 4) (hlen : p.length = f.length) (x13 x95 x96 : Int) (s d y2 y5 y6 : LI) : ∀ (e : Nat) (L : LI) (n : Nat),f.length = L.length + e → e < n →
  qbn.l2 n f x13 x95 x96 p.length L.length s d y2 (L ++ p.drop L.length) y5 y6 = some (L ++ zAdd (p.drop L.length) (f.drop L.length))
 | 0,L,n,hi,hn => by
  obtain ⟨n,rfl⟩ : ∃ m,n = m + 1 := ⟨n - 1,by omega⟩
  rw [qbn.l2,if_neg (by omega),List.drop_eq_nil_of_le (by omega)]; rfl
 | e + 1,L,n,hi,hn => by
  obtain ⟨n,rfl⟩ : ∃ m,n = m + 1 := ⟨n - 1,by omega⟩
  have ha := hf _ (qan (show L.length < f.length by omega) 0)
  have hb := hp _ (qan (show L.length < p.length by omega) 0)
  have ih := qib f p hf hp hl hlen x13 x95 x96 s d y2 y5 y6 e (L ++ [p.getD L.length 0 + f.getD L.length 0]) n (by simp; omega) (by omega)
  have hL : (L ++ p.drop L.length).length = f.length := by rw [List.length_append,List.length_drop]; omega
  rw [qbn.l2,if_pos (by omega),if_pos (by rw [hL]; omega),if_pos (by rw [hL]; omega),if_pos (by omega),Int.toNat_natCast,qae (show L.length < p.length by omega) (0 : Int),qae (show L.length < f.length by omega) (0 : Int),getL,setL,qal (n := p.getD L.length 0 + f.getD L.length 0) (by omega) (by omega),qal (n := (L.length : Int) + 1) (by omega) (by omega)]
  rw [List.length_append,List.length_singleton] at ih
  rw [show (L.length : Int) + 1 = ((L.length + 1 : Nat) : Int) by omega,ih]
  simp [zAdd]
theorem qkl : ∀ {p f : LI},p.length = f.length → zSub (zAdd p f) f = p
 | [],[],_ => rfl
 | a :: p,b :: f,h => by
  have := qkl (p := p) (f := f) (by simpa using h)
  show (a + b - b) :: zSub (zAdd p f) f = a :: p
  rw [this,Int.add_sub_cancel]
 | [],_ :: _,h => by simp at h
 | _ :: _,[],h => by simp at h
theorem qkq : ∀ {p f : LI},p.length = f.length → zAdd (zSub p f) f = p
 | [],[],_ => rfl
 | a :: p,b :: f,h => by
  have := qkq (p := p) (f := f) (by simpa using h)
  show (a - b + b) :: zAdd (zSub p f) f = a :: p
  rw [this,Int.sub_add_cancel]
 | [],_ :: _,h => by simp at h
 | _ :: _,[],h => by simp at h
theorem qqp : ∀ {s lo hi p : LI},zMay s lo hi = true → mIn s p = true → mIn (zp s lo hi) (zAdd p lo) = true
 | [],[],[],[],_,_ => rfl
 | a :: s,l :: lo,h :: hi,b :: p,hm,hp => by
  obtain ⟨h1,h2⟩ := qcH.1 hm
  obtain ⟨h3,h4⟩ := qbw.1 hp
  exact qbw.2 ⟨by show 0 ≤ b + l ∧ b + l < l + a + h; omega,qqp h2 h4⟩
 | [],_ :: _,_,_,h,_ => by simp [zMay] at h
 | [],[],_ :: _,_,h,_ => by simp [zMay] at h
 | _ :: _,[],_,_,h,_ => by simp [zMay] at h
 | _ :: _,_ :: _,[],_,h,_ => by simp [zMay] at h
 | [],[],[],_ :: _,_,h => by simp [mIn] at h
 | _ :: _,_ :: _,_ :: _,[],_,h => by simp [mIn] at h
theorem qn9 (m t : Nat) (v : Int) (g g' : Nat → Int) (h : g' t = v) (ho : ∀ j,j ≠ t → j < m → g' j = g j) : ((List.range m).map g).set t v = (List.range m).map g' := by
 apply List.ext_getElem (by simp)
 intro j h1 h2
 have hj : j < m := by simpa using h2
 rw [List.getElem_set,List.getElem_map,List.getElem_map,List.getElem_range]
 by_cases e : t = j
 ·subst e; rw [if_pos rfl,h]
 ·rw [if_neg e,ho j (fun h => e h.symm) hj]
def pdI (s d lo : LI) (c : Int) (i : Nat) (p : LI) : Int := if mIn s (zSub p lo) = true ∧ ix s (zSub p lo) < i then d.getD (ix s (zSub p lo)).toNat 0 else c
theorem qic {s d lo hi : LI} (h : zT s d = true) (hm : zMay s lo hi = true) (ho : mSR (zp s lo hi) = true) (c : Int) (k : Nat) (hk : 20 ≤ k) (y4 : LI) : ∀ (e i n : Nat),d.length = i + e → e + 10 < n →
  qbn.l1 k n lo d.length i s d (zp s lo hi) y4 ((List.range (pr (zp s lo hi)).toNat).map fun (j : Nat) => pdI s d lo c i (pl (zp s lo hi) j)) = some (zPad s d lo hi c)
 | 0,i,n,hi',hn => by
  obtain ⟨n,rfl⟩ : ∃ m,n = m + 1 := ⟨n - 1,by omega⟩
  obtain ⟨_,hd⟩ := qaM h
  rw [qbn.l1,if_neg (by omega)]
  unfold zPad made
  congr 1
  apply List.map_congr_left
  intro j _
  unfold pdI pdF
  by_cases hc : mIn s (zSub (pl (zp s lo hi) j) lo) = true
  ·have := qgB hc
   rw [if_pos ⟨hc,by omega⟩,if_pos hc]
  ·rw [if_neg (fun hh => hc hh.1),if_neg hc]
 | e + 1,i,n,hi',hn => by
  obtain ⟨n,rfl⟩ : ∃ m,n = m + 1 := ⟨n - 1,by omega⟩
  obtain ⟨hr,hd⟩ := qaM h
  obtain ⟨g1,g2,g3⟩ := qah hr
  obtain ⟨l1,l2⟩ := qed hm
  have hpos := qcQ hr (by omega)
  have hpi : mIn s (pl s i) = true := qgt (fun b hb => (hpos b hb).1) i
  have hpo := qqp hm hpi
  have hb := qgB hpo
  have hz : zIx (zp s lo hi) (zAdd (pl s i) lo) = ix (zp s lo hi) (zAdd (pl s i) lo) := if_pos ⟨ho,hpo⟩
  have ih := qic h hm ho c k hk y4 e (i + 1) n (by omega) (by omega)
  have l2 := qib lo (pl s i) (qlm hm) (qnX hr (by omega) i) (by omega) (by rw [qco]; omega) i d.length i s d (zp s lo hi) y4 ((List.range (pr (zp s lo hi)).toNat).map fun (j : Nat) => pdI s d lo c i (pl (zp s lo hi) j)) lo.length [] n (by simp) (by omega)
  rw [List.length_nil,n0,List.drop_zero,List.drop_zero,List.nil_append,List.nil_append] at l2
  have hix : ix s (pl s i) = i := qoX (fun x hx => (g2 x hx).1) (by omega) (by omega)
  have hset := qn9 (pr (zp s lo hi)).toNat (ix (zp s lo hi) (zAdd (pl s i) lo)).toNat (d.getD i 0) (fun (j : Nat) => pdI s d lo c i (pl (zp s lo hi) j)) (fun (j : Nat) => pdI s d lo c (i + 1) (pl (zp s lo hi) j))
   (by
    rw [show (((ix (zp s lo hi) (zAdd (pl s i) lo)).toNat : Nat) : Int) = ix (zp s lo hi) (zAdd (pl s i) lo) by omega,qnW hpo]
    unfold pdI
    rw [qkl (by rw [qco]; omega),hix,if_pos ⟨hpi,by omega⟩,Int.toNat_natCast])
   (fun j hj hjm => by
    have hpo0 : 0 < pr (zp s lo hi) := by omega
    have hposo := qcQ ho hpo0
    unfold pdI
    by_cases hc : mIn s (zSub (pl (zp s lo hi) j) lo) = true
    ·have hne : ix s (zSub (pl (zp s lo hi) j) lo) ≠ i := fun e => by
      have e1 := qnW hc
      rw [e] at e1
      have e2 : zAdd (pl s i) lo = pl (zp s lo hi) j := by rw [e1]; exact qkq (by rw [qco,ql2 l1 (qed hm).2]; omega)
      have e3 := qoX (s := zp s lo hi) (fun x hx => ((hposo x hx).1 |> Int.le_of_lt)) (x := (j : Int)) (by omega) (by omega)
      rw [← e2] at e3
      omega
     by_cases ha : ix s (zSub (pl (zp s lo hi) j) lo) < i
     ·rw [if_pos ⟨hc,by omega⟩,if_pos ⟨hc,ha⟩]
     ·rw [if_neg (fun hh => by have := hh.2; omega),if_neg (fun hh => ha hh.2)]
    ·rw [if_neg (fun hh => hc hh.1),if_neg (fun hh => hc hh.1)])
  rw [qbn.l1,if_pos (by omega),qcs hr (by omega) (by omega) k hk,obs,l2,obs,qeh _ _ k hk,obs,hz,
   if_pos (by omega),if_pos (by rw [List.length_map,List.length_range]; omega),if_pos (by rw [List.length_map,List.length_range]; omega),Int.toNat_natCast,hset,qal (n := (i : Int) + 1) (by omega) (by omega),show (i : Int) + 1 = ((i + 1 : Nat) : Int) by omega]
  exact ih
theorem qm9 (s d lo hi : LI) (c : Int) (k : Nat) (hk : 5000 ≤ k) : qbn.f k s d lo hi c = some (if zT s d = true then (if zMay s lo hi = true then (if mSR (zp s lo hi) = true then (0,zp s lo hi,zPad s d lo hi c) else (13,[],[])) else (1,[],[])) else (13,[],[])) := by
  unfold qbn.f
  rw [qbz s d k (by omega),obs]
  by_cases h : zT s d = true
  · obtain ⟨hr,hd⟩ := qaM h
    obtain ⟨h4,hs,hpr⟩ := qah hr
    rw [if_pos h,if_pos h]
    by_cases h1 : lo.length = s.length
    · by_cases h2 : hi.length = s.length
      · have l0 := qid s d lo hi c hs h4 h1 h2 s.length [] k (by simp) (by omega)
        rw [List.length_nil,n0,List.drop_zero,List.drop_zero,List.drop_zero,List.nil_append] at l0
        rw [if_pos (by omega),if_pos (by omega),l0,obs]
        by_cases hm : zMay s lo hi = true
        · rw [if_pos hm,if_pos hm,Sum.elim_inl,qbv _ k (by omega),obs]
          by_cases ho : mSR (zp s lo hi) = true
          · have hol := ql2 h1 h2
            have hb := qah ho
            have h0 := qbE fun x hx => (hb.2.1 x hx).1
            have this := qic h hm ho c k (by omega) (zp s lo hi) d.length 0 k (by omega) (by omega)
            rw [if_pos ho,if_pos ho,qbu _ c (by omega) k hk,obs,zSz,if_pos ho]
            rw [n0] at this
            have e : List.replicate (pr (zp s lo hi)).toNat c = (List.range (pr (zp s lo hi)).toNat).map fun (j : Nat) => pdI s d lo c 0 (pl (zp s lo hi) j) := by
              apply List.ext_getElem (by simp)
              intro j _ _
              rw [List.getElem_replicate,List.getElem_map]
              unfold pdI
              rw [if_neg (fun hh => by have := qgB hh.1; have := hh.2; omega)]
            rw [e,this]; rfl
          · rw [if_neg ho,if_neg ho]
        · rw [if_neg hm,if_neg hm,Sum.elim_inr]
      · rw [if_pos (by omega),if_neg (by omega),if_neg (fun hh => h2 (qed hh).2)]
    · rw [if_neg (by omega),if_neg (fun hh => h1 (qed hh).1)]
  · rw [if_neg h,if_neg h]
end Go.Pf

namespace Go.Pf
open Go Go.Vm
theorem qaA {l : LI} {i : Nat} {x d : Int} (h : i < l.length) : (l.set i x).getD i d = x := by rw [qeT,if_pos ⟨rfl,h⟩]
abbrev Tn := LI × LI
def zMt (ax : Nat) (s out : LI) : Nat → Nat → Bool
 | 0,_ => true
 | d + 1,i => (decide (i = ax) || decide (s.getD i 0 = out.getD i 0)) && zMt ax s out d (i + 1)
theorem qnw {ax : Nat} {s out : LI} : ∀ {d i : Nat},zMt ax s out d i = true → ∀ j,i ≤ j → j < i + d → j ≠ ax → s.getD j 0 = out.getD j 0
 | 0,i,_,j,h1,h2,_ => by omega
 | d + 1,i,h,j,h1,h2,hj => by
  simp only [zMt,Bool.and_eq_true,Bool.or_eq_true,decide_eq_true_eq] at h
  by_cases e : i = j
  ·subst e; exact h.1.resolve_left hj
  ·exact qnw h.2 j (by omega) (by omega) hj
theorem qdy {ax : Nat} {s out : LI} {d i : Nat} : zMt ax s out (d + 1) i = true ↔ (i = ax ∨ s.getD i 0 = out.getD i 0) ∧ zMt ax s out d (i + 1) = true := by
 simp only [zMt,Bool.and_eq_true,Bool.or_eq_true,decide_eq_true_eq]
def zJo (ax : Nat) : List LI → LI → Option LI
 | [],out => some out
 | s :: r,out => if s.length = out.length ∧ zMt ax s out s.length 0 = true ∧ out.getD ax 0 + s.getD ax 0 ≤ 32 then zJo ax r (out.set ax (out.getD ax 0 + s.getD ax 0)) else none
theorem qfS (ax : Nat) (s out : LI) (hl : s.length ≤ 1000) (he : s.length = out.length) (x33 : List LI) (x34 x35 : Int) (x8 : LI) : ∀ (d i n : Nat),s.length = i + d → d < n →
  qa0.l1 n ax x8 x33 x34 x35 s s.length i out = some (if zMt ax s out d i = true then .inl () else .inr 13)
 | 0,i,n,hi,hn => by
  obtain ⟨n,rfl⟩ : ∃ m,n = m + 1 := ⟨n - 1,by omega⟩
  rw [qa0.l1,if_neg (by omega)]; rfl
 | d + 1,i,n,hi,hn => by
  obtain ⟨n,rfl⟩ : ∃ m,n = m + 1 := ⟨n - 1,by omega⟩
  have ih := qfS ax s out hl he x33 x34 x35 x8 d (i + 1) n (by omega) (by omega)
  rw [qa0.l1,if_pos (by omega),if_pos (by omega),qal (n := (i : Int) + 1) (by omega) (by omega),show (i : Int) + 1 = ((i + 1 : Nat) : Int) by omega,ih,Int.toNat_natCast]
  by_cases c1 : (i : Int) = ax
  ·rw [if_pos c1]
   by_cases c : zMt ax s out d (i + 1) = true
   ·rw [if_pos c,if_pos (qdy.2 ⟨.inl (by omega),c⟩)]
   ·rw [if_neg c,if_neg (fun hh => c (qdy.1 hh).2)]
  rw [if_neg c1,if_pos (by omega),if_pos (by omega)]
  by_cases c2 : s.getD i 0 = out.getD i 0
  ·rw [if_pos c2]
   by_cases c : zMt ax s out d (i + 1) = true
   ·rw [if_pos c,if_pos (qdy.2 ⟨.inr c2,c⟩)]
   ·rw [if_neg c,if_neg (fun hh => c (qdy.1 hh).2)]
  ·rw [if_neg c2,if_neg (fun hh => by
    rcases (qdy.1 hh).1 with e | e
    ·omega
    ·exact c2 e)]
theorem qfT (ax : Nat) (k : Nat) (sh : List LI) (hsh : ∀ s ∈ sh,s.length ≤ 4 ∧ ∀ x ∈ s,0 ≤ x ∧ x ≤ 32) (hl : sh.length ≤ 17592186043904) : ∀ (d i n : Nat) (out : LI),sh.length = i + d → d + 10 < n → ax < out.length → 0 ≤ out.getD ax 0 → out.getD ax 0 ≤ 32 →
    qa0.l0 k n ax sh sh.length i out = some (match zJo ax (sh.drop i) out with | some o => .inl o | none => .inr 13)
  | 0,i,n,out,hi,hn,hax,h0,h1 => by
    obtain ⟨n,rfl⟩ : ∃ m,n = m + 1 := ⟨n - 1,by omega⟩
    rw [qa0.l0,if_neg (by omega),List.drop_eq_nil_of_le (by omega)]; rfl
  | d + 1,i,n,out,hi,hn,hax,h0,h1 => by
    obtain ⟨n,rfl⟩ : ∃ m,n = m + 1 := ⟨n - 1,by omega⟩
    have hs := hsh _ (qan (show i < sh.length by omega) [])
    rw [qa0.l0,if_pos (by omega),if_pos (by omega),Int.toNat_natCast,qae (show i < sh.length by omega) ([] : LI)]
    generalize sh.getD i [] = s at hs ⊢
    by_cases c1 : s.length = out.length
    · rw [if_pos (by omega)]
      have l1 := qfS ax s out (by omega) c1 sh sh.length i s s.length 0 n (by omega) (by omega)
      rw [n0] at l1
      rw [l1,obs]
      by_cases c2 : zMt ax s out s.length 0 = true
      · have hx := hs.2 _ (qan (show ax < s.length by omega) 0)
        rw [if_pos c2,Sum.elim_inl,Int.toNat_natCast,if_pos (by omega),if_pos (by omega),if_pos (by omega),qal (n := out.getD ax 0 + s.getD ax 0) (by omega) (by omega),if_pos (by rw [List.length_set]; omega),if_pos (by rw [List.length_set]; omega),qaA hax]
        by_cases c3 : 32 < out.getD ax 0 + s.getD ax 0
        · rw [if_pos c3,zJo,if_neg (by omega)]
        · have ih := qfT ax k sh hsh hl d (i + 1) n (out.set ax (out.getD ax 0 + s.getD ax 0)) (by omega) (by omega) (by rw [List.length_set]; exact hax) (by rw [qaA hax]; omega) (by rw [qaA hax]; omega)
          rw [if_neg c3,qal (n := (i : Int) + 1) (by omega) (by omega),show (i : Int) + 1 = ((i + 1 : Nat) : Int) by omega,ih,zJo,if_pos ⟨c1,c2,by omega⟩]
      · rw [if_neg c2,Sum.elim_inr,zJo,if_neg (fun hh => c2 hh.2.1)]
    · rw [if_neg (by omega),zJo,if_neg (fun hh => c1 hh.1)]
def zJs (ax : Int) (sh : List LI) : Int × LI :=
 if sh = [] ∨ ax < 0 ∨ ((sh.getD 0 []).length : Int) ≤ ax then (1,[]) else
 match zJo ax.toNat sh ((sh.getD 0 []).set ax.toNat 0) with
 | some o => if mSR o = true then (0,o) else (13,[])
 | none => (13,[])
theorem qgU (ax : Int) (sh : List LI) (hsh : ∀ s ∈ sh,s.length ≤ 4 ∧ ∀ x ∈ s,0 ≤ x ∧ x ≤ 32) (hl : sh.length ≤ 17592186043904) (k : Nat) (hk : sh.length + 100 ≤ k) : qa0.f k ax sh = some (zJs ax sh) := by
 unfold qa0.f zJs
 by_cases c1 : sh = []
 ·subst c1; rw [if_pos (show (([] : List LI).length : Int) = 0 from rfl),if_pos (.inl rfl)]
 have hpos : 0 < sh.length := List.length_pos_iff.2 c1
 rw [if_neg (by omega)]
 by_cases c2 : ax < 0
 ·rw [if_pos c2,if_pos (.inr (.inl c2))]
 rw [if_neg c2,if_pos (by omega)]
 by_cases c3 : ((sh.getD 0 []).length : Int) ≤ ax
 ·rw [if_pos c3,if_pos (.inr (.inr c3))]
 have hs := hsh _ (qan hpos [])
 rw [if_neg c3,if_neg (fun hh => hh.elim c1 fun hh => hh.elim c2 c3),qaH _ (by omega),obs,if_pos (by omega),if_pos (by omega)]
 have l0 := qfT ax.toNat k sh hsh hl sh.length 0 k ((sh.getD 0 []).set ax.toNat 0) (by omega) (by omega) (by rw [List.length_set]; omega) (by rw [qaA (by omega)]; omega) (by rw [qaA (by omega)]; omega)
 rw [n0,List.drop_zero,show ((ax.toNat : Nat) : Int) = ax by omega] at l0
 rw [l0,obs]
 cases zJo ax.toNat sh ((sh.getD 0 []).set ax.toNat 0) with
 | none => rfl
 | some o =>
  dsimp only
  rw [Sum.elim_inl,qbg o k (by omega),obs]
  by_cases c : mSR o = true
  ·rw [if_pos c,if_pos c]
  ·rw [if_neg c,if_neg c]
def zJ (ax : Nat) : List Tn → LI → Int
 | [],_ => 0
 | t :: r,p => if p.getD ax 0 < t.1.getD ax 0 then (if mIn t.1 p = true then t.2.getD (ix t.1 p).toNat 0 else 0) else zJ ax r (p.set ax (p.getD ax 0 - t.1.getD ax 0))
theorem qfU (ax : Nat) (l : List Tn) (hl : l.length ≤ 17592186043904) (hT : ∀ t ∈ l,zT t.1 t.2 = true ∧ ax < t.1.length) (k : Nat) (hk : 20 ≤ k) : ∀ (d i n : Nat) (p : LI),l.length = i + d → d < n → ax < p.length → 0 ≤ p.getD ax 0 → p.getD ax 0 ≤ 32 →
  ∃ r,qb3.l0 k n l l.length i p l ax = some r ∧ Sum.elim (fun _=>(0 : Int)) (fun x => x.1) r = zJ ax (l.drop i) p
 | 0,i,n,p,hi,hn,hax,h0,h1 => by
  obtain ⟨n,rfl⟩ : ∃ m,n = m + 1 := ⟨n - 1,by omega⟩
  refine ⟨.inl p,?_,?_⟩
  ·rw [qb3.l0,if_neg (by omega)]
  ·rw [List.drop_eq_nil_of_le (by omega)]; rfl
 | d + 1,i,n,p,hi,hn,hax,h0,h1 => by
  obtain ⟨n,rfl⟩ : ∃ m,n = m + 1 := ⟨n - 1,by omega⟩
  obtain ⟨ht,hta⟩ := hT _ (qan (show i < l.length by omega) ([],[]))
  rw [qb3.l0,if_pos (by omega),if_pos (by omega),if_pos (by omega),if_pos (by omega),Int.toNat_natCast,Int.toNat_natCast,if_pos (by omega),qae (show i < l.length by omega) (([],[]) : Tn)]
  generalize l.getD i ([],[]) = t at ht hta ⊢
  have hx := (qah (qaM ht).1).2.1 _ (qan hta 0)
  by_cases c : p.getD ax 0 < t.1.getD ax 0
  ·refine ⟨.inr (if mIn t.1 p = true then t.2.getD (ix t.1 p).toNat 0 else 0,p),?_,?_⟩
   ·rw [if_pos c,qgN ht p k hk,obs]
   ·rw [zJ,if_pos c]; rfl
  ·obtain ⟨r,e1,e2⟩ := qfU ax l hl hT k hk d (i + 1) n (p.set ax (p.getD ax 0 - t.1.getD ax 0)) (by omega) (by omega) (by rw [List.length_set]; exact hax) (by rw [qaA hax]; omega) (by rw [qaA hax]; omega)
   refine ⟨r,?_,?_⟩
   ·rw [if_neg c,qal (n := p.getD ax 0 - t.1.getD ax 0) (by omega) (by omega),qal (n := (i : Int) + 1) (by omega) (by omega),show (i : Int) + 1 = ((i + 1 : Nat) : Int) by omega]; exact e1
   ·rw [e2,zJ,if_neg c]
theorem qkh (ax : Nat) (l : List Tn) (hl : l.length ≤ 17592186043904) (hT : ∀ t ∈ l,zT t.1 t.2 = true ∧ ax < t.1.length) (k : Nat) (hk : l.length + 100 ≤ k) (p : LI) (hax : ax < p.length) (h0 : 0 ≤ p.getD ax 0) (h1 : p.getD ax 0 ≤ 32) :
  ∃ p',qb3.f k p l ax = some (zJ ax l p,p') := by
 obtain ⟨r,e1,e2⟩ := qfU ax l hl hT k (by omega) l.length 0 k p (by omega) (by omega) hax h0 h1
 unfold qb3.f
 rw [n0] at e1
 rw [List.drop_zero] at e2
 rw [e1,obs]
 cases r with
 | inl p' => exact ⟨p',by rw [← e2]; rfl⟩
 | inr x => exact ⟨x.2,by rw [← e2]; rfl⟩
end Go.Pf

namespace Go.Pf
open Go Go.Vm
theorem qcv {l : LI} {i : Nat} {x : Int} : (l.set i x).length = l.length := List.length_set
theorem qdh {l : LI} {i j : Nat} {x d : Int} (h : i ≠ j) : (l.set i x).getD j d = l.getD j d := by rw [qeT,if_neg (fun hh => h hh.1)]
theorem ql7 {ax : Nat} : ∀ {sh : List LI} {o0 o : LI},zJo ax sh o0 = some o → ax < o0.length →
  o.length = o0.length ∧ (∀ s ∈ sh,s.length = o0.length ∧ ∀ j,j < s.length → j ≠ ax → s.getD j 0 = o0.getD j 0) ∧ (∀ j,j ≠ ax → o.getD j 0 = o0.getD j 0) ∧ o.getD ax 0 = o0.getD ax 0 + sm (sh.map fun s => s.getD ax 0)
 | [],o0,o,h,hax => by
  cases h
  exact ⟨rfl,(fun s hs => by cases hs),fun _ _ => rfl,(by simp [sm])⟩
 | s :: r,o0,o,h,hax => by
  unfold zJo at h
  split at h
  rotate_left
  ·cases h
  rename_i hc
  obtain ⟨h1,h2,h3⟩ := hc
  obtain ⟨i1,i2,i3,i4⟩ := ql7 h (by rw [qcv]; exact hax)
  rw [qcv] at i1
  rw [qaA hax] at i4
  refine ⟨i1,fun t ht => ?_,fun j hj => by rw [i3 j hj,qdh (fun e => hj e.symm)],?_⟩
  ·rcases List.mem_cons.1 ht with e | ht
   ·subst e; exact ⟨h1,fun j hj hne => qnw h2 j (by omega) (by omega) hne⟩
   ·obtain ⟨k1,k2⟩ := i2 t ht
    rw [qcv] at k1
    exact ⟨k1,fun j hj hne => by rw [k2 j hj hne,qdh (fun e => hne e.symm)]⟩
  ·rw [i4,List.map_cons]
   show _ = o0.getD ax 0 + (s.getD ax 0 + sm (r.map fun s => s.getD ax 0))
   omega
theorem qhH (k : Nat) (hk : 10 ≤ k) (l : List Tn) (hl : l.length ≤ 1000) (a0 : Int) (y1 : List Tn) : ∀ (d i n : Nat),l.length = i + d → d < n →
  qcK.l0 k n l l.length i a0 y1 ((l.take i).map (·.1)) = some (if (l.drop i).all (fun t => zT t.1 t.2) = true then .inl (l.map (·.1)) else .inr 13)
 | 0,i,n,hi,hn => by
  obtain ⟨n,rfl⟩ : ∃ m,n = m + 1 := ⟨n - 1,by omega⟩
  rw [qcK.l0,if_neg (by omega),List.drop_eq_nil_of_le (by omega),List.take_of_length_le (by omega)]; rfl
 | d + 1,i,n,hi,hn => by
  obtain ⟨n,rfl⟩ : ∃ m,n = m + 1 := ⟨n - 1,by omega⟩
  have ih := qhH k hk l hl a0 y1 d (i + 1) n (by omega) (by omega)
  have ht : (l.take (i + 1)).map (·.1) = (l.take i).map (·.1) ++ [(l.getD i ([],[])).1] := by
   rw [List.take_add_one,List.map_append,List.getD_eq_getElem?_getD,List.getElem?_eq_getElem (show i < l.length by omega)]; rfl
  rw [ht] at ih
  rw [qcK.l0,if_pos (by omega),if_pos (by omega),Int.toNat_natCast,qbj _ _ k hk,obs,qae (show i < l.length by omega) (([],[]) : Tn),List.all_cons]
  by_cases c : zT (l.getD i ([],[])).1 (l.getD i ([],[])).2 = true
  ·rw [if_pos c,if_pos (by rw [List.length_map,List.length_take,List.length_singleton]; omega),qal (n := (i : Int) + 1) (by omega) (by omega),show (i : Int) + 1 = ((i + 1 : Nat) : Int) by omega,ih,c,Bool.true_and]
  ·rw [if_neg c,if_neg (by rw [Bool.and_eq_true]; exact fun hh => c hh.1)]
theorem qdZ (ax : Nat) (l : List Tn) (hl : l.length ≤ 1000) (hT : ∀ t ∈ l,zT t.1 t.2 = true ∧ ax < t.1.length) {o : LI} (ho : mSR o = true) (hax : ax < o.length) (k : Nat) (hk : 5000 ≤ k) (y6 : LI) : ∀ (e i n : Nat),(pr o).toNat = i + e → e < n →
  qay.l0 k n (pr o) i o l ax y6 ((List.range i).map (fun (i : Nat) => zJ ax l (pl o i)) ++ List.replicate e 0) = some (made o (zJ ax l))
 | 0,i,n,hi,hn => by
  obtain ⟨n,rfl⟩ : ∃ m,n = m + 1 := ⟨n - 1,by omega⟩
  rw [qay.l0,if_neg (by omega)]
  unfold made
  rw [hi,List.replicate_zero,List.append_nil]; rfl
 | e + 1,i,n,hi,hn => by
  obtain ⟨n,rfl⟩ : ∃ m,n = m + 1 := ⟨n - 1,by omega⟩
  have hb := (qah ho).2.2
  have ih := qdZ ax l hl hT ho hax k hk y6 e (i + 1) n (by omega) (by omega)
  have hp := qnX ho (by omega) i _ (qan (show ax < (pl o i).length by rw [qco]; exact hax) 0)
  obtain ⟨p',e1⟩ := qkh ax l (by omega) hT k (by omega) (pl o i) (by rw [qco]; exact hax) hp.1 hp.2
  rw [qay.l0,if_pos (by omega),qbH ho (by omega) (by omega) k (by omega),obs,e1,obs,
   if_pos (by simp; omega),if_pos (by simp),Int.toNat_natCast,qdT (fun (i : Nat) => zJ ax l (pl o i)),qal (n := (i : Int) + 1) (by omega) (by omega),show (i : Int) + 1 = ((i + 1 : Nat) : Int) by omega]
  exact ih
def zJoin (ax : Int) (l : List Tn) : Int × LI × LI :=
 if l.all (fun t => zT t.1 t.2) = true then
  (if (zJs ax (l.map (·.1))).1 = 0 then (0,(zJs ax (l.map (·.1))).2,made (zJs ax (l.map (·.1))).2 (zJ ax.toNat l)) else ((zJs ax (l.map (·.1))).1,[],[]))
 else (13,[],[])
theorem qpg {ax : Int} {l : List Tn} (hT : l.all (fun t => zT t.1 t.2) = true) (h : (zJs ax (l.map (·.1))).1 = 0) :
  ∃ o,(zJs ax (l.map (·.1))).2 = o ∧ mSR o = true ∧ 0 < l.length ∧ 0 ≤ ax ∧ ax.toNat < o.length ∧ zJo ax.toNat (l.map (·.1)) ((l.getD 0 ([],[])).1.set ax.toNat 0) = some o ∧
   o.length = (l.getD 0 ([],[])).1.length ∧ (∀ t ∈ l,t.1.length = o.length ∧ ∀ j,j < o.length → j ≠ ax.toNat → t.1.getD j 0 = o.getD j 0) ∧ o.getD ax.toNat 0 = sm (l.map fun t => t.1.getD ax.toNat 0) := by
 unfold zJs at h ⊢
 split at h
 ·simp at h
 rename_i hc
 rw [if_neg hc]
 have hl : 0 < l.length := by
  refine Nat.pos_of_ne_zero fun e => hc (.inl ?_)
  rw [List.length_eq_zero_iff.1 e]; rfl
 have h0 : ((l.map (·.1)).getD 0 []) = (l.getD 0 ([],[])).1 := by
  cases l with
  | nil => simp at hl
  | cons _ _ => rfl
 rw [h0] at h hc ⊢
 have hax : ax.toNat < ((l.getD 0 ([],[])).1.set ax.toNat 0).length := by rw [qcv]; omega
 cases hz : zJo ax.toNat (l.map (·.1)) ((l.getD 0 ([],[])).1.set ax.toNat 0) with
 | none => rw [hz] at h; simp at h
 | some o =>
  rw [hz] at h
  dsimp only at h ⊢
  by_cases ho : mSR o = true
  ·rw [if_pos ho]
   obtain ⟨i1,i2,i3,i4⟩ := ql7 hz hax
   rw [qcv] at i1
   rw [qcv] at hax
   refine ⟨o,rfl,ho,hl,by omega,by omega,rfl,i1,fun t ht => ?_,?_⟩
   ·obtain ⟨k1,k2⟩ := i2 t.1 (List.mem_map_of_mem ht)
    rw [qcv] at k1
    exact ⟨by omega,fun j hj hne => by rw [k2 j (by omega) hne,i3 j hne]⟩
   ·rw [i4,qaA hax,Int.zero_add,List.map_map]; rfl
  ·rw [if_neg ho] at h; simp at h
theorem ql0 (ax : Int) (l : List Tn) (hl : l.length ≤ 1000) (k : Nat) (hk : 5000 ≤ k) : qcK.f k ax l = some (zJoin ax l) := by
 unfold qcK.f zJoin
 have l0 := qhH k (by omega) l hl ax l l.length 0 k (by omega) (by omega)
 rw [n0,List.take_zero,List.drop_zero] at l0
 rw [show ([] : List LI) = ([] : List Tn).map (·.1) from rfl,l0,obs]
 by_cases hT : l.all (fun t => zT t.1 t.2) = true
 ·have hT' : ∀ t ∈ l,zT t.1 t.2 = true := List.all_eq_true.1 hT
  rw [if_pos hT,if_pos hT,Sum.elim_inl,qgU ax (l.map (·.1)) (fun s hs => by
   obtain ⟨t,ht,rfl⟩ := List.mem_map.1 hs
   have := qah (qaM (hT' t ht)).1
   exact ⟨this.1,this.2.1⟩) (by rw [List.length_map]; omega) k (by rw [List.length_map]; omega),obs]
  by_cases hc : (zJs ax (l.map (·.1))).1 = 0
  ·obtain ⟨o,e,ho,hpos,hax0,hax,hz,hlen,hall,hsum⟩ := qpg hT hc
   rw [if_pos hc,if_pos hc,e]
   have hb := qah ho
   have h0 := qbE fun x hx => (hb.2.1 x hx).1
   have this := qdZ ax.toNat l hl (fun t ht => ⟨hT' t ht,by rw [(hall t ht).1]; exact hax⟩) ho hax k hk o (pr o).toNat 0 k (by omega) (by omega)
   unfold qay.f
   rw [qaH _ (by omega),obs,qbR _ k (by omega),obs,zSz,if_pos ho,if_pos (by omega),List.length_replicate,show (((pr o).toNat : Nat) : Int) = pr o by omega]
   rw [n0,show ((ax.toNat : Nat) : Int) = ax by omega] at this
   rw [show List.replicate (pr o).toNat (0 : Int) = (List.range 0).map (fun (i : Nat) => zJ ax.toNat l (pl o i)) ++ List.replicate (pr o).toNat 0 from rfl,this]
   rfl
  ·rw [if_neg hc,if_neg hc]
 ·rw [if_neg hT,if_neg hT]; rfl
end Go.Pf

namespace Go.Pf
open Go Go.Vm
theorem qhu (k : Nat) (hk : 10 ≤ k) (l : List Tn) (hl : l.length ≤ 1000) (a0 : Int) : ∀ (d i n : Nat),l.length = i + d → d < n →
  qav.l0 k n a0 l l.length i = some (if (l.drop i).all (fun t => zT t.1 t.2) = true then .inl () else .inr 13)
 | 0,i,n,hi,hn => by
  obtain ⟨n,rfl⟩ : ∃ m,n = m + 1 := ⟨n - 1,by omega⟩
  rw [qav.l0,if_neg (by omega),List.drop_eq_nil_of_le (by omega)]; rfl
 | d + 1,i,n,hi,hn => by
  obtain ⟨n,rfl⟩ : ∃ m,n = m + 1 := ⟨n - 1,by omega⟩
  have ih := qhu k hk l hl a0 d (i + 1) n (by omega) (by omega)
  rw [qav.l0,if_pos (by omega),if_pos (by omega),Int.toNat_natCast,qbz _ _ k hk,obs,qae (show i < l.length by omega) (([],[]) : Tn),List.all_cons]
  by_cases c : zT (l.getD i ([],[])).1 (l.getD i ([],[])).2 = true
  ·rw [if_pos c,qal (n := (i : Int) + 1) (by omega) (by omega),show (i : Int) + 1 = ((i + 1 : Nat) : Int) by omega,ih,c,Bool.true_and]
  ·rw [if_neg c,if_neg (by rw [Bool.and_eq_true]; exact fun hh => c hh.1)]
theorem qhs (ax : Nat) (l : List Tn) (q : Nat) (hq : q < l.length) (out : LI) (hl : out.length ≤ 1000) (he : (l.getD q ([],[])).1.length = out.length) (x55 x56 : Int) : ∀ (d i n : Nat),out.length = i + d → d < n →
  qav.l2 n ax l q x55 x56 out.length i out = some (if zMt ax (l.getD q ([],[])).1 out d i = true then .inl () else .inr 13)
 | 0,i,n,hi,hn => by
  obtain ⟨n,rfl⟩ : ∃ m,n = m + 1 := ⟨n - 1,by omega⟩
  rw [qav.l2,if_neg (by omega)]; rfl
 | d + 1,i,n,hi,hn => by
  obtain ⟨n,rfl⟩ : ∃ m,n = m + 1 := ⟨n - 1,by omega⟩
  have ih := qhs ax l q hq out hl he x55 x56 d (i + 1) n (by omega) (by omega)
  rw [qav.l2,if_pos (by omega),qal (n := (i : Int) + 1) (by omega) (by omega),show (i : Int) + 1 = ((i + 1 : Nat) : Int) by omega,ih,Int.toNat_natCast,Int.toNat_natCast]
  by_cases c1 : (i : Int) = ax
  ·rw [if_pos c1]
   by_cases c : zMt ax (l.getD q ([],[])).1 out d (i + 1) = true
   ·rw [if_pos c,if_pos (qdy.2 ⟨.inl (by omega),c⟩)]
   ·rw [if_neg c,if_neg (fun hh => c (qdy.1 hh).2)]
  rw [if_neg c1,if_pos (by omega),if_pos (by omega),if_pos (by omega),if_pos (by omega)]
  by_cases c2 : (l.getD q ([],[])).1.getD i 0 = out.getD i 0
  ·rw [if_pos c2]
   by_cases c : zMt ax (l.getD q ([],[])).1 out d (i + 1) = true
   ·rw [if_pos c,if_pos (qdy.2 ⟨.inr c2,c⟩)]
   ·rw [if_neg c,if_neg (fun hh => c (qdy.1 hh).2)]
  ·rw [if_neg c2,if_neg (fun hh => by
    rcases (qdy.1 hh).1 with e | e
    ·omega
    ·exact c2 e)]
theorem qht (ax : Nat) (k : Nat) (l : List Tn) (hsh : ∀ t ∈ l,t.1.length ≤ 4 ∧ ∀ x ∈ t.1,0 ≤ x ∧ x ≤ 32) (hl : l.length ≤ 1000) : ∀ (d i n : Nat) (out : LI),l.length = i + d → d + 10 < n → ax < out.length → 0 ≤ out.getD ax 0 → out.getD ax 0 ≤ 32 →
    qav.l1 k n ax l l.length i out = some (match zJo ax ((l.drop i).map (·.1)) out with | some o => .inl o | none => .inr 13)
  | 0,i,n,out,hi,hn,hax,h0,h1 => by
    obtain ⟨n,rfl⟩ : ∃ m,n = m + 1 := ⟨n - 1,by omega⟩
    rw [qav.l1,if_neg (by omega),List.drop_eq_nil_of_le (by omega)]; rfl
  | d + 1,i,n,out,hi,hn,hax,h0,h1 => by
    obtain ⟨n,rfl⟩ : ∃ m,n = m + 1 := ⟨n - 1,by omega⟩
    have hs := hsh _ (qan (show i < l.length by omega) ([],[]))
    rw [qav.l1,if_pos (by omega),if_pos (by omega),qae (show i < l.length by omega) (([],[]) : Tn),List.map_cons,show ((i : Int)).toNat = i from Int.toNat_natCast i]
    by_cases c1 : (l.getD i ([],[])).1.length = out.length
    · rw [if_pos (by omega)]
      have l2 := qhs ax l i (by omega) out (by omega) c1 l.length i out.length 0 n (by omega) (by omega)
      rw [n0] at l2
      rw [l2,obs]
      generalize (l.getD i ([],[])).1 = s at hs c1 ⊢
      by_cases c2 : zMt ax s out out.length 0 = true
      · have hx := hs.2 _ (qan (show ax < s.length by omega) 0)
        rw [if_pos c2,Sum.elim_inl,Int.toNat_natCast,if_pos (by omega),if_pos (by omega),if_pos (by omega),qal (n := out.getD ax 0 + s.getD ax 0) (by omega) (by omega),if_pos (by rw [List.length_set]; omega),if_pos (by rw [List.length_set]; omega),qaA hax]
        by_cases c3 : 32 < out.getD ax 0 + s.getD ax 0
        · rw [if_pos c3,zJo,if_neg (by omega)]
        · have ih := qht ax k l hsh hl d (i + 1) n (out.set ax (out.getD ax 0 + s.getD ax 0)) (by omega) (by omega) (by rw [List.length_set]; exact hax) (by rw [qaA hax]; omega) (by rw [qaA hax]; omega)
          rw [if_neg c3,qal (n := (i : Int) + 1) (by omega) (by omega),show (i : Int) + 1 = ((i + 1 : Nat) : Int) by omega,ih,zJo,if_pos ⟨c1,by rw [c1]; exact c2,by omega⟩]
      · rw [if_neg c2,Sum.elim_inr,zJo,if_neg (fun hh => c2 (by rw [← c1]; exact hh.2.1))]
    · rw [if_neg (by omega),zJo,if_neg (fun hh => c1 hh.1)]
def jnG (ax : Nat) (l : List Tn) (c : Int) (s : LI) (i : Nat) (p : LI) : Int :=
 if p.getD ax 0 < c ∨ (p.getD ax 0 < c + s.getD ax 0 ∧ ix s (p.set ax (p.getD ax 0 - c)) < i) then zJ ax l p else 0
structure JOK (ax : Nat) (o : LI) (t : Tn) : Prop where
 T : zT t.1 t.2 = true
 len : t.1.length = o.length
 eq : ∀ j,j < o.length → j ≠ ax → t.1.getD j 0 = o.getD j 0
theorem qhW {ax : Nat} {o : LI} {t : Tn} (h : JOK ax o t) (hax : ax < o.length) {p : LI} (hp : mIn o p = true) {c : Int} (h0 : c ≤ p.getD ax 0) (h1 : p.getD ax 0 < c + t.1.getD ax 0) : mIn t.1 (p.set ax (p.getD ax 0 - c)) = true := by
 have hl := qen hp
 refine qkT (by rw [qcv,hl,h.len]) fun j hj => ?_
 by_cases e : j = ax
 ·subst e; rw [qaA (by omega)]; omega
 ·rw [qdh (fun e' => e e'.symm),h.eq j (by rw [← h.len]; exact hj) e]
  exact qfh hp j (by rw [← h.len]; exact hj)
theorem qqz {ax : Nat} {o : LI} {t : Tn} (h : JOK ax o t) (hax : ax < o.length) {r : LI} (hr : mIn t.1 r = true) {c : Int} (h0 : 0 ≤ c) (h1 : c + t.1.getD ax 0 ≤ o.getD ax 0) : mIn o (r.set ax (r.getD ax 0 + c)) = true := by
 have hl := qen hr
 refine qkT (by rw [qcv,hl,h.len]) fun j hj => ?_
 have hg := qfh hr j (by rw [h.len]; exact hj)
 by_cases e : j = ax
 ·subst e; rw [qaA (by rw [hl,h.len]; exact hax)]; omega
 ·rw [qdh (fun e' => e e'.symm),← h.eq j hj e]; exact hg
theorem set_set {l : LI} {i : Nat} {x y : Int} : (l.set i x).set i y = l.set i y := by simp
theorem qfv {l : LI} {i : Nat} {x : Int} (h : x = l.getD i 0) : l.set i x = l := by
 subst h
 apply qmU (by simp)
 intro j hj
 rw [qeT]
 split
 ·rename_i hh; rw [hh.1]
 ·rfl
theorem qnx (ax : Nat) {o : LI} (hax : ax < o.length) : ∀ (l r : List Tn) (p : LI),(∀ t ∈ l,0 ≤ t.1.getD ax 0) → ax < p.length → sm (l.map fun t => t.1.getD ax 0) ≤ p.getD ax 0 → zJ ax (l ++ r) p = zJ ax r (p.set ax (p.getD ax 0 - sm (l.map fun t => t.1.getD ax 0)))
 | [],r,p,_,hp,h => by
  show zJ ax r p = zJ ax r (p.set ax (p.getD ax 0 - 0))
  rw [qfv (by omega)]
 | t :: l,r,p,h0,hp,h => by
  have h1 : t.1.getD ax 0 + sm (l.map fun t => t.1.getD ax 0) ≤ p.getD ax 0 := h
  have h2 : 0 ≤ sm (l.map fun t => t.1.getD ax 0) := by
   have : ∀ l : List Tn,(∀ t ∈ l,0 ≤ t.1.getD ax 0) → 0 ≤ sm (l.map fun t => t.1.getD ax 0) := fun l => by
    induction l with
    | nil => intro _; exact Int.le_refl _
    | cons a l ih =>
     intro hh
     have e1 := hh a (List.mem_cons_self ..)
     have e2 := ih fun b hb => hh b (List.mem_cons_of_mem _ hb)
     show 0 ≤ a.1.getD ax 0 + sm (l.map fun t => t.1.getD ax 0)
     omega
   exact this l fun b hb => h0 b (List.mem_cons_of_mem _ hb)
  rw [List.cons_append,zJ,if_neg (by omega),qnx ax hax l r _ (fun b hb => h0 b (List.mem_cons_of_mem _ hb)) (by rw [qcv]; exact hp) (by rw [qaA hp]; omega),qaA hp,set_set]
  show _ = zJ ax r (p.set ax (p.getD ax 0 - (t.1.getD ax 0 + sm (l.map fun t => t.1.getD ax 0))))
  congr 2; omega
end Go.Pf

namespace Go.Pf
open Go Go.Vm
def jnE (ax : Nat) (l : List Tn) (c : Int) (p : LI) : Int := if p.getD ax 0 < c then zJ ax l p else 0
def puts (o : LI) (f : LI → Int) : LI := (List.range (pr o).toNat).map fun (j : Nat) => f (pl o j)
theorem qfz {o : LI} (ho : mSR o = true) {f g : LI → Int} (h : ∀ p,mIn o p = true → f p = g p) : puts o f = puts o g := qne ho h
theorem qmy {o : LI} (f : LI → Int) : (puts o f).length = (pr o).toNat := by simp [puts]
theorem qhq {ax : Nat} {o : LI} {l : List Tn} {q : Nat} (hq : q < l.length) (hl : l.length ≤ 1000) (ho : mSR o = true) (hax : ax < o.length) (hj : JOK ax o (l.getD q ([],[]))) {c : Int} (c0 : 0 ≤ c) (c1 : c + (l.getD q ([],[])).1.getD ax 0 ≤ o.getD ax 0)
  (hv : ∀ p,mIn o p = true → c ≤ p.getD ax 0 → p.getD ax 0 < c + (l.getD q ([],[])).1.getD ax 0 → zJ ax l p = (l.getD q ([],[])).2.getD (ix (l.getD q ([],[])).1 (p.set ax (p.getD ax 0 - c))).toNat 0)
  (k : Nat) (hk : 20 ≤ k) (x124 x125 : Int) (y3 : LI) : ∀ (e i n : Nat),(l.getD q ([],[])).2.length = i + e → e < n →
  qav.l4 k n ax l c q x124 x125 (l.getD q ([],[])).2.length i o y3 (puts o (jnG ax l c (l.getD q ([],[])).1 i)) = some (puts o (jnE ax l (c + (l.getD q ([],[])).1.getD ax 0)))
 | 0,i,n,hi,hn => by
  obtain ⟨n,rfl⟩ : ∃ m,n = m + 1 := ⟨n - 1,by omega⟩
  rw [qav.l4,if_neg (by omega)]
  generalize l.getD q ([],[]) = t at *
  obtain ⟨_,hd⟩ := qaM hj.T
  congr 1
  refine qfz ho fun p hp => ?_
  unfold jnG jnE
  by_cases h1 : p.getD ax 0 < c
  ·have hs := (qah (qaM hj.T).1).2.1 _ (qan (show ax < t.1.length by rw [hj.len]; exact hax) 0)
   rw [if_pos (.inl h1),if_pos (by omega)]
  ·by_cases h2 : p.getD ax 0 < c + t.1.getD ax 0
   ·have := qgB (qhW hj hax hp (c := c) (by omega) h2)
    rw [if_pos (.inr ⟨h2,by omega⟩),if_pos h2]
   ·rw [if_neg (fun hh => hh.elim h1 fun h => h2 h.1),if_neg h2]
 | e + 1,i,n,hi,hn => by
  obtain ⟨n,rfl⟩ : ∃ m,n = m + 1 := ⟨n - 1,by omega⟩
  have ih := qhq hq hl ho hax hj c0 c1 hv k hk x124 x125 y3 e (i + 1) n (by omega) (by omega)
  rw [qav.l4,if_pos (by omega),if_pos (by omega),Int.toNat_natCast]
  generalize l.getD q ([],[]) = t at *
  obtain ⟨hr,hd⟩ := qaM hj.T
  obtain ⟨g1,g2,g3⟩ := qah hr
  obtain ⟨b1,b2,b3⟩ := qah ho
  have hta : ax < t.1.length := by rw [hj.len]; exact hax
  have hpos := qcQ hr (by omega)
  have hpi : mIn t.1 (pl t.1 i) = true := qgt (fun b hb => (hpos b hb).1) i
  have hpo := qqz hj hax hpi c0 c1
  have hb := qgB hpo
  have hrx := qfh hpi ax hta
  have hox := b2 _ (qan hax 0)
  have hix : ix t.1 (pl t.1 i) = i := qoX (fun x hx => (g2 x hx).1) (by omega) (by omega)
  have hpl : (pl t.1 i).length = t.1.length := qco ..
  rw [qcs hr (by omega) (by omega) k hk,obs,if_pos (by omega),Int.toNat_natCast,if_pos (by omega),qal (n := (pl t.1 i).getD ax 0 + c) (by omega) (by omega),qeh _ _ k hk,obs]
  have hz : zIx o ((pl t.1 i).set ax ((pl t.1 i).getD ax 0 + c)) = ix o ((pl t.1 i).set ax ((pl t.1 i).getD ax 0 + c)) := if_pos ⟨ho,hpo⟩
  rw [hz]
  have hset := qn9 (pr o).toNat (ix o ((pl t.1 i).set ax ((pl t.1 i).getD ax 0 + c))).toNat (t.2.getD i 0) (fun (j : Nat) => jnG ax l c t.1 i (pl o j)) (fun (j : Nat) => jnG ax l c t.1 (i + 1) (pl o j))
   (by
    rw [show (((ix o ((pl t.1 i).set ax ((pl t.1 i).getD ax 0 + c))).toNat : Nat) : Int) = ix o ((pl t.1 i).set ax ((pl t.1 i).getD ax 0 + c)) by omega,qnW hpo]
    have hg : ((pl t.1 i).set ax ((pl t.1 i).getD ax 0 + c)).getD ax 0 = (pl t.1 i).getD ax 0 + c := qaA (by omega)
    have hback : (((pl t.1 i).set ax ((pl t.1 i).getD ax 0 + c)).set ax (((pl t.1 i).set ax ((pl t.1 i).getD ax 0 + c)).getD ax 0 - c)) = pl t.1 i := by
     rw [hg,set_set,qfv (by omega)]
    have hval := hv _ hpo (by rw [hg]; omega) (by rw [hg]; omega)
    rw [hback,hix,Int.toNat_natCast] at hval
    unfold jnG
    rw [if_pos (.inr ⟨by rw [hg]; omega,by rw [hback,hix]; omega⟩),hval])
   (fun j hjne hjm => by
    have hposo := qcQ ho (by omega)
    have hpj : mIn o (pl o j) = true := qgt (fun b hb => (hposo b hb).1) j
    have hjx : ix o (pl o j) = j := qoX (fun x hx => (b2 x hx).1) (by omega) (by omega)
    unfold jnG
    by_cases h1 : (pl o j).getD ax 0 < c
    ·rw [if_pos (.inl h1),if_pos (.inl h1)]
    ·by_cases h2 : (pl o j).getD ax 0 < c + t.1.getD ax 0
     ·have hdn := qhW hj hax hpj (c := c) (by omega) h2
      have hne : ix t.1 ((pl o j).set ax ((pl o j).getD ax 0 - c)) ≠ i := fun e => by
       have e1 := qnW hdn
       rw [e] at e1
       have e2 : (pl t.1 i).set ax ((pl t.1 i).getD ax 0 + c) = pl o j := by
        rw [e1,qaA (by rw [qco]; exact hax),set_set,qfv (by omega)]
       rw [e2] at hjne
       omega
      by_cases h3 : ix t.1 ((pl o j).set ax ((pl o j).getD ax 0 - c)) < i
      ·rw [if_pos (.inr ⟨h2,by omega⟩),if_pos (.inr ⟨h2,h3⟩)]
      ·rw [if_neg (fun hh => hh.elim h1 fun h => by have := h.2; omega),if_neg (fun hh => hh.elim h1 fun h => h3 h.2)]
     ·rw [if_neg (fun hh => hh.elim h1 fun h => h2 h.1),if_neg (fun hh => hh.elim h1 fun h => h2 h.1)])
  rw [if_pos (by omega),if_pos (by rw [qmy]; omega),if_pos (by rw [qmy]; omega),Int.toNat_natCast,show puts o (jnG ax l c t.1 i) = (List.range (pr o).toNat).map (fun (j : Nat) => jnG ax l c t.1 i (pl o j)) from rfl,hset,qal (n := (i : Int) + 1) (by omega) (by omega),show (i : Int) + 1 = ((i + 1 : Nat) : Int) by omega]
  exact ih
theorem qhr {ax : Nat} {o : LI} {l : List Tn} (hl : l.length ≤ 1000) (ho : mSR o = true) (hax : ax < o.length) (hj : ∀ t ∈ l,JOK ax o t) (hsum : o.getD ax 0 = sm (l.map fun t => t.1.getD ax 0)) (k : Nat) (hk : 5000 ≤ k) (y3 : LI) : ∀ (e q n : Nat),l.length = q + e → e + 4500 < n →
  qav.l3 k n ax l (sm ((l.take q).map fun t => t.1.getD ax 0)) l.length q o y3 (puts o (jnE ax l (sm ((l.take q).map fun t => t.1.getD ax 0)))) = some (made o (zJ ax l))
 | 0,q,n,hi,hn => by
  obtain ⟨n,rfl⟩ : ∃ m,n = m + 1 := ⟨n - 1,by omega⟩
  rw [qav.l3,if_neg (by omega),List.take_of_length_le (by omega),← hsum]
  congr 1
  refine qfz ho fun p hp => ?_
  unfold jnE
  rw [if_pos (qfh hp ax hax).2]
 | e + 1,q,n,hi,hn => by
  obtain ⟨n,rfl⟩ : ∃ m,n = m + 1 := ⟨n - 1,by omega⟩
  have ih := qhr hl ho hax hj hsum k hk y3 e (q + 1) n (by omega) (by omega)
  have hnn : ∀ t ∈ l,0 ≤ t.1.getD ax 0 := fun t ht => ((qah (qaM (hj t ht).T).1).2.1 _ (qan (show ax < t.1.length by rw [(hj t ht).len]; exact hax) 0)).1
  have sm_nn : ∀ r : List Tn,(∀ t ∈ r,0 ≤ t.1.getD ax 0) → 0 ≤ sm (r.map fun t => t.1.getD ax 0) := fun r => by
   induction r with
   | nil => intro _; exact Int.le_refl _
   | cons a r ih =>
    intro hh
    have e1 := hh a (List.mem_cons_self ..)
    have e2 := ih fun b hb => hh b (List.mem_cons_of_mem _ hb)
    show 0 ≤ a.1.getD ax 0 + sm (r.map fun t => t.1.getD ax 0)
    omega
  have sm_app : ∀ a b : List Tn,sm ((a ++ b).map fun t => t.1.getD ax 0) = sm (a.map fun t => t.1.getD ax 0) + sm (b.map fun t => t.1.getD ax 0) := fun a b => by
   induction a with
   | nil => simp [sm]
   | cons x a ih =>
    show x.1.getD ax 0 + sm ((a ++ b).map fun t => t.1.getD ax 0) = x.1.getD ax 0 + sm (a.map fun t => t.1.getD ax 0) + _
    rw [ih]; omega
  have hmem := qan (show q < l.length by omega) (([],[]) : Tn)
  have hc0 := sm_nn (l.take q) fun t ht => hnn t (List.mem_of_mem_take ht)
  have hsplit : l = l.take q ++ (l.getD q ([],[]) :: l.drop (q + 1)) := by
   rw [← qae (show q < l.length by omega) (([],[]) : Tn)]
   exact (List.take_append_drop q l).symm
  have hc2 := sm_nn (l.drop (q + 1)) fun t ht => hnn t (List.mem_of_mem_drop ht)
  have htot : o.getD ax 0 = sm ((l.take q).map fun t => t.1.getD ax 0) + ((l.getD q ([],[])).1.getD ax 0 + sm ((l.drop (q + 1)).map fun t => t.1.getD ax 0)) := by
   rw [hsum]
   conv => lhs; rw [hsplit]
   rw [sm_app]; rfl
  have hnext : sm ((l.take (q + 1)).map fun t => t.1.getD ax 0) = sm ((l.take q).map fun t => t.1.getD ax 0) + (l.getD q ([],[])).1.getD ax 0 := by
   have : l.take (q + 1) = l.take q ++ [l.getD q ([],[])] := by
    rw [List.take_add_one,List.getD_eq_getElem?_getD,List.getElem?_eq_getElem (show q < l.length by omega)]; rfl
   rw [this,sm_app]
   show _ + ((l.getD q ([],[])).1.getD ax 0 + 0) = _
   omega
  rw [hnext] at ih
  have hj1 := hj _ hmem
  have hv : ∀ p,mIn o p = true → sm ((l.take q).map fun t => t.1.getD ax 0) ≤ p.getD ax 0 → p.getD ax 0 < sm ((l.take q).map fun t => t.1.getD ax 0) + (l.getD q ([],[])).1.getD ax 0 → zJ ax l p = (l.getD q ([],[])).2.getD (ix (l.getD q ([],[])).1 (p.set ax (p.getD ax 0 - sm ((l.take q).map fun t => t.1.getD ax 0)))).toNat 0 := fun p hp h1 h2 => by
   have hpl := qen hp
   have hdn := qhW hj1 hax hp h1 h2
   have e1 := qnx ax hax (l.take q) (l.getD q ([],[]) :: l.drop (q + 1)) p (fun t ht => hnn t (List.mem_of_mem_take ht)) (by omega) h1
   rw [← hsplit] at e1
   rw [e1,zJ,if_pos (by rw [qaA (by omega)]; omega),if_pos hdn]
  have hx := (qah (qaM hj1.T).1).2.1 _ (qan (show ax < (l.getD q ([],[])).1.length by rw [hj1.len]; exact hax) 0)
  have hox := (qah ho).2.1 _ (qan hax 0)
  have hdl := (qaM hj1.T).2
  have hpr := (qah (qaM hj1.T).1).2.2
  have l4 := qhq (show q < l.length by omega) hl ho hax hj1 hc0 (by omega) hv k (by omega) l.length q y3 (l.getD q ([],[])).2.length 0 n (by omega) (by omega)
  have e0 : puts o (jnG ax l (sm ((l.take q).map fun t => t.1.getD ax 0)) (l.getD q ([],[])).1 0) = puts o (jnE ax l (sm ((l.take q).map fun t => t.1.getD ax 0))) := qfz ho fun p hp => by
   unfold jnG jnE
   by_cases h1 : p.getD ax 0 < sm ((l.take q).map fun t => t.1.getD ax 0)
   ·rw [if_pos (.inl h1),if_pos h1]
   ·rw [if_neg (fun hh => hh.elim h1 fun h => by
     have := qgB (qhW hj1 hax hp (c := sm ((l.take q).map fun t => t.1.getD ax 0)) (by omega) h.1)
     have := h.2
     omega),if_neg h1]
  rw [e0,n0] at l4
  rw [qav.l3,if_pos (by omega),if_pos (by omega),show ((q : Int)).toNat = q from Int.toNat_natCast q,l4,obs,if_pos (by rw [hj1.len]; omega),Int.toNat_natCast,qal (n := _ + (l.getD q ([],[])).1.getD ax 0) (by omega) (by omega),qal (n := (q : Int) + 1) (by omega) (by omega),show (q : Int) + 1 = ((q + 1 : Nat) : Int) by omega]
  exact ih
theorem qlB (ax : Int) (l : List Tn) (hl : l.length ≤ 400) (k : Nat) (hk : 5000 ≤ k) : qav.f k ax l = some (zJoin ax l) := by
  unfold qav.f zJoin
  have l0 := qhu k (by omega) l (by omega) ax l.length 0 k (by omega) (by omega)
  rw [n0,List.drop_zero] at l0
  rw [l0,obs]
  by_cases hT : l.all (fun t => zT t.1 t.2) = true
  · have hT' : ∀ t ∈ l,zT t.1 t.2 = true := List.all_eq_true.1 hT
    rw [if_pos hT,if_pos hT,Sum.elim_inl]
    by_cases c1 : l = []
    · subst c1; rw [if_pos (show (([] : List Tn).length : Int) = 0 from rfl)]; rfl
    have hpos : 0 < l.length := List.length_pos_iff.2 c1
    have h0 : ((l.map (·.1)).getD 0 []) = (l.getD 0 ([],[])).1 := by
      cases l with
      | nil => simp at hpos
      | cons _ _ => rfl
    have hne : l.map (·.1) ≠ [] := fun e => c1 (List.map_eq_nil_iff.1 e)
    rw [if_neg (by omega)]
    by_cases c2 : ax < 0
    · have e : zJs ax (l.map (·.1)) = (1,[]) := if_pos (.inr (.inl c2))
      rw [if_pos c2,e]; rfl
    rw [if_neg c2,if_pos (by omega)]
    by_cases c3 : ((l.getD 0 ([],[])).1.length : Int) ≤ ax
    · have e : zJs ax (l.map (·.1)) = (1,[]) := if_pos (.inr (.inr (by rw [h0]; exact c3)))
      rw [if_pos c3,e]; rfl
    have hs := qah (qaM (hT' _ (qan hpos ([],[])))).1
    rw [if_neg c3,if_pos (by omega),if_pos (by rw [List.nil_append]; omega),if_pos (by rw [List.nil_append]; omega),List.nil_append]
    have l1 := qht ax.toNat k l (fun t ht => by have := qah (qaM (hT' t ht)).1; exact ⟨this.1,this.2.1⟩) (by omega) l.length 0 k ((l.getD 0 ([],[])).1.set ax.toNat 0) (by omega) (by omega) (by rw [qcv]; omega) (by rw [qaA (by omega)]; omega) (by rw [qaA (by omega)]; omega)
    rw [n0,List.drop_zero,show ((ax.toNat : Nat) : Int) = ax by omega] at l1
    rw [l1,obs]
    have ejs : zJs ax (l.map (·.1)) = match zJo ax.toNat (l.map (·.1)) ((l.getD 0 ([],[])).1.set ax.toNat 0) with
      | some o => if mSR o = true then (0,o) else (13,[])
      | none => (13,[]) := by
      unfold zJs
      rw [if_neg (fun hh => hh.elim hne fun hh => hh.elim c2 (by rw [h0]; exact c3)),h0]
      all_goals (cases zJo ax.toNat (l.map (·.1)) ((l.getD 0 ([],[])).1.set ax.toNat 0) <;> rfl)
    cases hz : zJo ax.toNat (l.map (·.1)) ((l.getD 0 ([],[])).1.set ax.toNat 0) with
    | none =>
      rw [hz] at ejs
      rw [ejs]; rfl
    | some o =>
      rw [hz] at ejs
      dsimp only at ejs ⊢
      rw [Sum.elim_inl,qbv o k (by omega),obs]
      by_cases ho : mSR o = true
      · rw [if_pos ho] at ejs
        have hc : (zJs ax (l.map (·.1))).1 = 0 := by rw [ejs]
        obtain ⟨o',e,ho',_,hax0,hax,hz',hlen,hall,hsum⟩ := qpg hT hc
        have : o' = o := by rw [← e,ejs]
        subst this
        have hb := qah ho
        have l3 := qhr (ax := ax.toNat) (by omega) ho hax (fun t ht => ⟨hT' t ht,(hall t ht).1,(hall t ht).2⟩) hsum k hk o' l.length 0 k (by omega) (by omega)
        rw [n0,show ((ax.toNat : Nat) : Int) = ax by omega,List.take_zero] at l3
        have ez : List.replicate (pr o').toNat (0 : Int) = puts o' (jnE ax.toNat l (sm (([] : List Tn).map fun t => t.1.getD ax.toNat 0))) := by
          rw [show List.replicate (pr o').toNat (0 : Int) = puts o' (fun _=>0) by
            apply List.ext_getElem (by simp [puts])
            intro j _ _
            simp [puts]]
          refine qfz ho fun p hp => ?_
          unfold jnE
          rw [if_neg (fun hh => by have := (qfh hp ax.toNat hax).1; have hh : p.getD ax.toNat 0 < 0 := hh; omega)]
        rw [if_pos ho,qbu o' 0 (by omega) k hk,obs,zSz,if_pos ho,ez,ejs]
        dsimp only
        rw [if_pos rfl]
        rw [show sm (([] : List Tn).map fun t => t.1.getD ax.toNat 0) = 0 from rfl] at l3 ⊢
        rw [l3]; rfl
      · rw [if_neg ho] at ejs
        rw [if_neg ho,ejs]; rfl
  · rw [if_neg hT,if_neg hT]; rfl
end Go.Pf

namespace Go.Pf
open Go Go.Vm
structure Small (x : Int × LI × LI) : Prop where
 s : x.2.1.length ≤ 4
 d : x.2.2.length ≤ 4096
theorem qpM {ax : Int} {sh : List LI} (h : (zJs ax sh).1 = 0) : mSR (zJs ax sh).2 = true := by
 unfold zJs at h ⊢
 split at h
 ·simp at h
 rename_i hc
 rw [if_neg hc]
 cases hz : zJo ax.toNat sh ((sh.getD 0 []).set ax.toNat 0) with
 | none => rw [hz] at h; simp at h
 | some o =>
  rw [hz] at h
  dsimp only at h ⊢
  by_cases ho : mSR o = true
  ·rw [if_pos ho]; exact ho
  ·rw [if_neg ho] at h; simp at h
theorem qfW (L : LI) (hL : L.length ≤ 17592186044415) (hw : ∀ x ∈ L,-9223372036854775808 ≤ x ∧ x < 9223372036854775808) (p : Int) (h0 : 0 ≤ p) (hp : p ≤ 17592186000000) :
  ∃ r q,qbA.f L p = some (r,q) ∧ 0 ≤ q ∧ q ≤ p + 2 := by
 unfold qbA.f
 obtain ⟨r,q,e,r0,r1,q0,_,_,q1⟩ := qdC 9 L hL hw p h0 (by omega) (by omega)
 rw [e,obs]
 dsimp only
 by_cases c : r = 0
 ·obtain ⟨r',q',e',r0',r1',q0',_,_,q1'⟩ := qdC 6 L hL hw q q0 (by omega) (by omega)
  rw [if_pos c,e',obs]
  dsimp only
  rw [if_pos ⟨r0',by show r' < 6; omega⟩,if_pos (by show r'.toNat < 6; omega)]
  exact ⟨_,_,rfl,q0',by omega⟩
 ·rw [if_neg c]
  by_cases c1 : r = 1
  ·rw [if_pos c1]; exact ⟨_,_,rfl,q0,by omega⟩
  ·obtain ⟨r',q',e',r0',r1',q0',_,_,q1'⟩ := qdC 19 L hL hw q q0 (by omega) (by omega)
   rw [if_neg c1,e',obs]
   exact ⟨_,_,rfl,q0',by omega⟩
theorem qfC (L : LI) (hL : L.length ≤ 17592186044415) (hw : ∀ x ∈ L,-9223372036854775808 ≤ x ∧ x < 9223372036854775808) (m : Nat) (hm : m ≤ 4096) (y3 : LI) (M : Int) (hM : M ≤ 17592185000000) : ∀ (e i : Nat) (p : Int) (y : LI) (n : Nat),m = i + e → e < n → 0 ≤ p → p ≤ M - 2 * e → y.length = m →
  ∃ q y',qa4.l0 n m i L p y3 y = some (q,y') ∧ y'.length = m ∧ 0 ≤ q ∧ q ≤ p + 2 * e
 | 0,i,p,y,n,hi,hn,h0,hp,hy => by
  obtain ⟨n,rfl⟩ : ∃ m,n = m + 1 := ⟨n - 1,by omega⟩
  exact ⟨p,y,by rw [qa4.l0,if_neg (by omega)],hy,h0,by omega⟩
 | e + 1,i,p,y,n,hi,hn,h0,hp,hy => by
  obtain ⟨n,rfl⟩ : ∃ m,n = m + 1 := ⟨n - 1,by omega⟩
  obtain ⟨r,q,e1,q0,q1⟩ := qfW L hL hw p h0 (by omega)
  obtain ⟨q',y',e2,h1,h2,h3⟩ := qfC L hL hw m hm y3 M hM e (i + 1) q (y.set i r) n (by omega) (by omega) q0 (by omega) (by rw [qcv]; exact hy)
  refine ⟨q',y',?_,h1,h2,by omega⟩
  rw [qa4.l0,if_pos (by omega),e1,obs]
  dsimp only
  rw [if_pos (by omega),if_pos (by omega),Int.toNat_natCast,qal (n := (i : Int) + 1) (by omega) (by omega),show (i : Int) + 1 = ((i + 1 : Nat) : Int) by omega]
  exact e2
theorem qlu (L : LI) (hL : L.length ≤ 17592186044415) (hw : ∀ x ∈ L,-9223372036854775808 ≤ x ∧ x < 9223372036854775808) (s : LI) (hs : s.length ≤ 1000) (p : Int) (h0 : 0 ≤ p) (hp : p ≤ 17592184000000) (k : Nat) (hk : 5000 ≤ k) :
  ∃ q d,qa4.f k s L p = some (q,s,d) ∧ (d.length : Int) = zSz s ∧ 0 ≤ q ∧ q ≤ p + 8192 := by
 have hz := qpd s
 obtain ⟨q,d,e,h1,h2,h3⟩ := qfC L hL hw (zSz s).toNat (by omega) s 17592185000000 (by omega) (zSz s).toNat 0 p (List.replicate (zSz s).toNat 0) k (by omega) (by omega) h0 (by omega) (by simp)
 unfold qa4.f
 rw [n0] at e
 rw [qbu s 0 hs k hk,obs]
 dsimp only
 rw [List.length_replicate,e]
 exact ⟨q,d,rfl,by omega,h2,by omega⟩
end Go.Pf

namespace Go.Pf
open Go Go.Vm
theorem qoM (n j : Nat) : (List.replicate n (0 : Int)).getD j 0 = 0 := by
 rw [List.getD_eq_getElem?_getD,List.getElem?_replicate]; split <;> rfl
theorem qpe : ∀ {s f z : LI},f.length = s.length → z.length = s.length → (∀ j,j < s.length → 0 ≤ f.getD j 0 ∧ f.getD j 0 ≤ s.getD j 0 ∧ 0 ≤ z.getD j 0 ∧ z.getD j 0 ≤ s.getD j 0 - f.getD j 0) → zSl s f z = true
 | [],[],[],_,_,_ => rfl
 | a :: s,b :: f,c :: z,h1,h2,h => qcF.2 ⟨h 0 (by simp),qpe (by simpa using h1) (by simpa using h2) fun j hj => h (j + 1) (by simpa using hj)⟩
 | [],_ :: _,_,h,_,_ => by simp at h
 | [],[],_ :: _,_,h,_ => by simp at h
 | _ :: _,[],_,h,_,_ => by simp at h
 | _ :: _,_ :: _,[],_,h,_ => by simp at h
theorem qir {s : LI} (h : mSR s = true) {j : Nat} (hj : j < s.length) : 0 ≤ s.getD j 0 ∧ s.getD j 0 ≤ 32 := (qah h).2.1 _ (qan hj 0)
theorem qmE {s p : LI} (h : mIn s p = true) {j : Nat} (hj : j < s.length) : 0 ≤ p.getD j 0 ∧ p.getD j 0 < s.getD j 0 := qfh h j hj
end Go.Pf

namespace Go.Pf
open Go Go.Vm
theorem iterX {S R : Type} {L : Nat → Int → S → Option R} {st : Nat → S} (res : Nat → R) {m : Nat} (N : Nat)
  (hend : ∀ n,N ≤ n → L (n + 1) (m : Int) (st m) = some (res m))
  (hstep : ∀ i n,i < m → N ≤ n → L n ((i + 1 : Nat) : Int) (st (i + 1)) = some (res (i + 1)) → L (n + 1) (i : Int) (st i) = some (res i)) :
  ∀ (e i n : Nat),m = i + e → e + N < n → L n (i : Int) (st i) = some (res i)
 | 0,i,n,hi,hn => by
  obtain ⟨n,rfl⟩ : ∃ q,n = q + 1 := ⟨n - 1,by omega⟩
  obtain rfl : m = i := by omega
  exact hend n (by omega)
 | e + 1,i,n,hi,hn => by
  obtain ⟨n,rfl⟩ : ∃ q,n = q + 1 := ⟨n - 1,by omega⟩
  exact hstep i n (by omega) (by omega) (iterX res N hend hstep e (i + 1) n (by omega) (by omega))
theorem iter0 {S R : Type} {L : Nat → Int → S → Option R} {st : Nat → S} (res : Nat → R) {m : Nat} (N : Nat)
  (hend : ∀ n,N ≤ n → L (n + 1) (m : Int) (st m) = some (res m))
  (hstep : ∀ i n,i < m → N ≤ n → L n ((i + 1 : Nat) : Int) (st (i + 1)) = some (res (i + 1)) → L (n + 1) (i : Int) (st i) = some (res i)) (n : Nat) (hn : m + N < n) : L n 0 (st 0) = some (res 0) :=
 iterX res N hend hstep m 0 n (by omega) hn
theorem qao {i m : Nat} (h : i < m) (hm : m ≤ 1152921504606846976) : IntKind.i64.wrap ((i : Int) + 1) = ((i + 1 : Nat) : Int) := by
 rw [qal (by omega) (by omega)]; omega
theorem qeM (a b : LI) (ha : a.length ≤ 17592186043904) (k : Nat) (hk : a.length < k) : qby.f k a b = some (decide (a = b)) := by
 unfold qby.f
 by_cases hl : a.length = b.length
 ·have := iter0 (L := fun n i (_ : Unit) => qby.l0 n a b i) (st := fun _=>()) (fun i => if a.drop i = b.drop i then .inl () else .inr false) (m := a.length) 0
   (fun n _ => by rw [qby.l0,if_neg (by omega),List.drop_eq_nil_of_le (Nat.le_refl _),List.drop_eq_nil_of_le (by omega),if_pos rfl])
   (fun i n hi _ ih => by
    rw [qby.l0,if_pos (by omega),if_pos (by omega),if_pos (by omega),Int.toNat_natCast,qao hi (by omega),ih,qae hi (0 : Int),qae (show i < b.length by omega) (0 : Int)]
    by_cases c : a.getD i 0 = b.getD i 0
    ·rw [if_pos c,c]
     by_cases c2 : a.drop (i + 1) = b.drop (i + 1)
     ·rw [if_pos c2,c2,if_pos rfl]
     ·rw [if_neg c2,if_neg (fun h => c2 (List.cons.inj h).2)]
    ·rw [if_neg c,if_neg (fun h => c (List.cons.inj h).1)]) k (by omega)
  rw [if_pos (by omega),this,List.drop_zero,List.drop_zero]
  by_cases c : a = b
  ·rw [if_pos c,decide_eq_true c]; rfl
  ·rw [if_neg c,decide_eq_false c]; rfl
 ·rw [if_neg (by omega),decide_eq_false (fun h => hl (by rw [h]))]
theorem qgd (a b : LI) (ha : a.length ≤ 17592186043904) (k : Nat) (hk : a.length < k) : qa3.f k a b = some (decide (a = b)) := by
 unfold qa3.f
 by_cases hl : a.length = b.length
 ·have := iter0 (L := fun n i (_ : Unit) => qa3.l0 n a b a.length i) (st := fun _=>()) (fun i => if a.drop i = b.drop i then .inl () else .inr false) (m := a.length) 0
   (fun n _ => by rw [qa3.l0,if_neg (by omega),List.drop_eq_nil_of_le (Nat.le_refl _),List.drop_eq_nil_of_le (by omega),if_pos rfl])
   (fun i n hi _ ih => by
    rw [qa3.l0,if_pos (by omega),if_pos (by omega),if_pos (by omega),Int.toNat_natCast,qao hi (by omega),ih,qae hi (0 : Int),qae (show i < b.length by omega) (0 : Int)]
    by_cases c : a.getD i 0 = b.getD i 0
    ·rw [if_pos c,c]
     by_cases c2 : a.drop (i + 1) = b.drop (i + 1)
     ·rw [if_pos c2,c2,if_pos rfl]
     ·rw [if_neg c2,if_neg (fun h => c2 (List.cons.inj h).2)]
    ·rw [if_neg c,if_neg (fun h => c (List.cons.inj h).1)]) k (by omega)
  rw [if_pos (by omega),this,List.drop_zero,List.drop_zero]
  by_cases c : a = b
  ·rw [if_pos c,decide_eq_true c]; rfl
  ·rw [if_neg c,decide_eq_false c]; rfl
 ·rw [if_neg (by omega),decide_eq_false (fun h => hl (by rw [h]))]
def stp (op a b : Int) : Int :=
 if op = 4 then IntKind.i64.wrap (0 - a) else if op = 5 then (if a = 0 then 1 else 0) else if op = 6 then IntKind.i64.wrap (a + b) else if op = 7 then IntKind.i64.wrap (a - b) else if op = 8 then IntKind.i64.wrap (a * b)
 else if op = 9 then (if b < a then b else a) else if op = 10 then (if a < b then b else a) else if op = 11 then (if a < b then 1 else 0) else 0
theorem qia (op a b : Int) : qer.f op a b = some (stp op a b) := by
 unfold qer.f stp qgk.f
 repeat' split
 all_goals simp_all
theorem qeq (l : List Tn) (hl : l.length ≤ 1000) (hpos : l ≠ []) (k : Nat) (hk : 5000 ≤ k) :
  qb4.f k l = some (if l.all (fun t => zT t.1 t.2 && decide (t.1 = (l.getD 0 ([],[])).1)) = true then 0 else 13) := by
 have hp := List.length_pos_iff.2 hpos
 have := iter0 (L := fun n i (_ : Unit) => qb4.l0 k n l i) (st := fun _=>()) (fun i => if (l.drop i).all (fun t => zT t.1 t.2 && decide (t.1 = (l.getD 0 ([],[])).1)) = true then .inl () else .inr 13) (m := l.length) 0
  (fun n _ => by rw [qb4.l0,if_neg (by omega),List.drop_eq_nil_of_le (Nat.le_refl _)]; rfl)
  (fun i n hi _ ih => by
   rw [qb4.l0,if_pos (by omega),if_pos (by omega),Int.toNat_natCast,qbz _ _ k (by omega),obs,qao hi (by omega),ih,qae hi (([],[]) : Tn),List.all_cons]
   by_cases c : zT (l.getD i ([],[])).1 (l.getD i ([],[])).2 = true
   ·have hb := qah (qaM c).1
    rw [if_pos c,if_pos (by omega),qeM _ _ (by omega) k (by omega),obs,c,Bool.true_and]
    by_cases c2 : (l.getD i ([],[])).1 = (l.getD 0 ([],[])).1
    ·rw [decide_eq_true c2,if_pos rfl,Bool.true_and]
    ·rw [decide_eq_false c2,if_neg (by decide),Bool.false_and,if_neg (by decide)]
   ·rw [if_neg c,Bool.eq_false_iff.2 c,Bool.false_and,Bool.false_and,if_neg (by decide)]) k (by omega)
 unfold qb4.f
 rw [this,List.drop_zero,obs]
 split <;> rfl
def tab (m : Nat) (g : Nat → Int) : LI := (List.range m).map g
theorem qpQ (m : Nat) (g : Nat → Int) : (tab m g).length = m := by simp [tab]
theorem qpR {s d : LI} (h : zT s d = true) (g : Nat → Int) : zT s (tab d.length g) = true := by
 unfold zT at h ⊢
 rw [qpQ]; exact h
theorem qdG (g : Nat → Int) {m i : Nat} (h : i < m) (c : Int) : ((List.range i).map g ++ List.replicate (m - i) c).set i (g i) = (List.range (i + 1)).map g ++ List.replicate (m - (i + 1)) c := by
 have := qdT g i (m - (i + 1)) c
 rwa [show m - (i + 1) + 1 = m - i by omega] at this
def zOne (op : Int) (d : LI) : LI := tab d.length fun i => stp op (d.getD i 0) 0
def zTwo (op : Int) (a b : LI) : LI := tab a.length fun i => stp op (a.getD i 0) (b.getD i 0)
def zPick (c a b : LI) : LI := tab a.length fun i => if c.getD i 0 = 0 then b.getD i 0 else a.getD i 0
theorem qpK {s d : LI} (h : zT s d = true) : (zSz s).toNat = d.length := by
 obtain ⟨h1,h2⟩ := qaM h
 unfold zSz
 rw [if_pos h1]; omega
theorem qcf {s d : LI} (h : zT s d = true) : s.length ≤ 4 ∧ d.length ≤ 4096 := by
 obtain ⟨h1,h2⟩ := qaM h
 have := qah h1
 omega
theorem qjf (op : Int) (s d : LI) (k : Nat) (hk : 5000 ≤ k) : qcG.f k op s d = some (if op = 4 ∨ op = 5 then (if zT s d = true then (0,s,zOne op d) else (13,[],[])) else (1,[],[])) := by
 have hall : qb4.f k [(s,d)] = some (if zT s d = true then 0 else 13) := by
  rw [qeq _ (by simp) (by simp) k hk]
  simp
 have main : zT s d = true → qcG.l0 k op ((List.replicate (zSz s).toNat (0 : Int)).length : Int) 0 s d s (List.replicate (zSz s).toNat 0) = some (zOne op d) := fun h => by
  have hz := qpK h
  have hs := qcf h
  have := iter0 (L := fun n i y => qcG.l0 n op d.length i s d s y) (st := fun i => (List.range i).map (fun i => stp op (d.getD i 0) 0) ++ List.replicate (d.length - i) 0) (fun _=>zOne op d) (m := d.length) 0
   (fun n _ => by rw [qcG.l0,if_neg (by omega),Nat.sub_self,List.replicate_zero,List.append_nil]; rfl)
   (fun i n hi _ ih => by
    rw [qcG.l0,if_pos (by omega),if_pos (by omega),Int.toNat_natCast,qia,obs,if_pos (by simp; omega),if_pos (by simp; omega),qdG (fun i => stp op (d.getD i 0) 0) hi,qao hi (by omega),ih]) k (by omega)
  rw [hz,List.length_replicate,← this,Nat.sub_zero]; rfl
 unfold qcG.f
 rw [hall,obs]
 by_cases h : zT s d = true
 ·have hs := qcf h
  rw [if_pos h,if_pos rfl,qbu s 0 (by omega) k hk,obs,main h,obs,if_pos h]
  by_cases c : op = 4
  ·rw [if_pos c,if_pos (.inl c)]
  ·rw [if_neg c]
   by_cases c2 : op = 5
   ·rw [if_pos c2,if_pos (.inr c2)]
   ·rw [if_neg c2,if_neg (fun hh => hh.elim c c2)]
 ·rw [if_neg h,if_neg h]
  by_cases c : op = 4
  ·rw [if_pos c,if_neg (by decide),if_pos (.inl c)]
  ·rw [if_neg c]
   by_cases c2 : op = 5
   ·rw [if_pos c2,if_neg (by decide),if_pos (.inr c2)]
   ·rw [if_neg c2,if_neg (fun hh => hh.elim c c2)]
theorem qqo {s a b : LI} (ha : zT s a = true) (hb : zT s b = true) : a.length = b.length := by
 have h1 := (qaM ha).2
 have h2 := (qaM hb).2
 omega
theorem qm8 (op : Int) (s a s' b : LI) (k : Nat) (hk : 5000 ≤ k) : qc4.f k op s a s' b = some (if 6 ≤ op ∧ op ≤ 11 then (if zT s a = true ∧ zT s' b = true ∧ s' = s then (0,s,zTwo op a b) else (13,[],[])) else (1,[],[])) := by
 unfold qc4.f
 by_cases c1 : op < 6
 ·rw [if_pos c1,if_neg (by omega)]
 by_cases c2 : 11 < op
 ·rw [if_neg c1,if_pos c2,if_neg (by omega)]
 rw [if_neg c1,if_neg c2,if_pos (show 6 ≤ op ∧ op ≤ 11 by omega)]
 by_cases h : zT s a = true ∧ zT s' b = true ∧ s' = s
 ·obtain ⟨h1,h2,rfl⟩ := h
  have hz := qpK h1
  have hs := qcf h1
  have hl := qqo h1 h2
  have := iter0 (L := fun n i y => qc4.l0 n op a.length i s' a s' b s' y) (st := fun i => (List.range i).map (fun i => stp op (a.getD i 0) (b.getD i 0)) ++ List.replicate (a.length - i) 0) (fun _=>zTwo op a b) (m := a.length) 0
   (fun n _ => by rw [qc4.l0,if_neg (by omega),Nat.sub_self,List.replicate_zero,List.append_nil]; rfl)
   (fun i n hi _ ih => by
    rw [qc4.l0,if_pos (by omega),if_pos (by omega),if_pos (by omega),Int.toNat_natCast,qia,obs,if_pos (by simp; omega),if_pos (by simp; omega),qdG (fun i => stp op (a.getD i 0) (b.getD i 0)) hi,qao hi (by omega),ih]) k (by omega)
  rw [Nat.sub_zero,List.range_zero,List.map_nil,List.nil_append] at this
  have e : qb4.f k [(s',a),(s',b)] = some 0 := by rw [qeq _ (by simp) (by simp) k hk,if_pos (by simp [h1,h2])]
  rw [e,obs,if_pos rfl,qbu s' 0 (by omega) k hk,obs,hz,List.length_replicate,this,obs,if_pos ⟨h1,h2,rfl⟩]
 ·have e : qb4.f k [(s,a),(s',b)] = some 13 := by
   rw [qeq _ (by simp) (by simp) k hk,if_neg (by
    intro hh
    simp only [List.all_cons,List.all_nil,Bool.and_true,Bool.and_eq_true,decide_eq_true_eq] at hh
    exact h ⟨hh.1.1,hh.2.1,hh.2.2⟩)]
  rw [if_neg h,e,obs,if_neg (by decide)]
theorem qlA (s c s1 a s2 b : LI) (k : Nat) (hk : 5000 ≤ k) : qcr.f k s c s1 a s2 b = some (if zT s c = true ∧ (zT s1 a = true ∧ s1 = s) ∧ zT s2 b = true ∧ s2 = s then (0,s,zPick c a b) else (13,[],[])) := by
 unfold qcr.f
 by_cases h : zT s c = true ∧ (zT s1 a = true ∧ s1 = s) ∧ zT s2 b = true ∧ s2 = s
 ·obtain ⟨h0,⟨h1,rfl⟩,h2,rfl⟩ := h
  have hz := qpK h1
  have hs := qcf h1
  have hl := qqo h1 h2
  have hl2 := qqo h1 h0
  have hset : ∀ (i : Nat) (y : LI) (v : Int),i < y.length → (y.set i v).set i (a.getD i 0) = y.set i (a.getD i 0) := fun i y v _ => by simp
  have := iter0 (L := fun n i y => qcr.l0 n a.length i s2 c s2 a s2 b s2 y) (st := fun i => (List.range i).map (fun i => if c.getD i 0 = 0 then b.getD i 0 else a.getD i 0) ++ List.replicate (a.length - i) 0) (fun _=>zPick c a b) (m := a.length) 0
   (fun n _ => by rw [qcr.l0,if_neg (by omega),Nat.sub_self,List.replicate_zero,List.append_nil]; rfl)
   (fun i n hi _ ih => by
    have hlen : ((List.range i).map (fun i => if c.getD i 0 = 0 then b.getD i 0 else a.getD i 0) ++ List.replicate (a.length - i) (0 : Int)).length = a.length := by simp; omega
    have hf := qdG (fun i => if c.getD i 0 = 0 then b.getD i 0 else a.getD i 0) hi 0
    rw [qcr.l0,if_pos (by omega),if_pos (by omega),if_pos (by rw [hlen]; omega),Int.toNat_natCast,if_pos (by rw [hlen]; omega),if_pos (by omega)]
    by_cases cc : c.getD i 0 = 0
    ·rw [if_pos cc] at hf
     rw [if_pos cc,hf,qao hi (by omega),ih]
    ·rw [if_neg cc] at hf
     rw [if_neg cc,if_pos (by omega),if_pos (by rw [qcv,hlen]; omega),if_pos (by rw [qcv,hlen]; omega),hset i _ _ (by rw [hlen]; exact hi),hf,qao hi (by omega),ih]) k (by omega)
  rw [Nat.sub_zero,List.range_zero,List.map_nil,List.nil_append] at this
  have e : qb4.f k [(s2,c),(s2,a),(s2,b)] = some 0 := by rw [qeq _ (by simp) (by simp) k hk,if_pos (by simp [h0,h1,h2])]
  rw [e,obs,if_pos rfl,qbu s2 0 (by omega) k hk,obs,hz,List.length_replicate,this,obs,if_pos ⟨h0,⟨h1,rfl⟩,h2,rfl⟩]
 ·have e : qb4.f k [(s,c),(s1,a),(s2,b)] = some 13 := by
   rw [qeq _ (by simp) (by simp) k hk,if_neg (by
    intro hh
    simp only [List.all_cons,List.all_nil,Bool.and_true,Bool.and_eq_true,decide_eq_true_eq] at hh
    exact h ⟨hh.1.1,⟨hh.2.1.1,hh.2.1.2⟩,hh.2.2.1,hh.2.2.2⟩)]
  rw [if_neg h,e,obs,if_neg (by decide)]
end Go.Pf

namespace Go.Pf
open Go Go.Vm
theorem qjd (a : LI) (x : Int) (ha : a.length ≤ 17592186043904) (k : Nat) (hk : a.length < k) : qcS.f k a x = some (decide (x ∈ a)) := by
 have := iter0 (L := fun n i (_ : Unit) => qcS.l0 n a x a.length i) (st := fun _=>()) (fun i => if x ∈ a.drop i then .inr true else .inl ()) (m := a.length) 0
  (fun n _ => by rw [qcS.l0,if_neg (by omega),List.drop_eq_nil_of_le (Nat.le_refl _),if_neg (by simp)])
  (fun i n hi _ ih => by
   rw [qcS.l0,if_pos (by omega),if_pos (by omega),Int.toNat_natCast,qao hi (by omega),ih,qae hi (0 : Int)]
   by_cases c : a.getD i 0 = x
   ·rw [if_pos c,if_pos (by rw [c]; exact List.mem_cons_self ..)]
   ·rw [if_neg c]
    by_cases c2 : x ∈ a.drop (i + 1)
    ·rw [if_pos c2,if_pos (List.mem_cons_of_mem _ c2)]
    ·rw [if_neg c2,if_neg (fun h => by rcases List.mem_cons.1 h with h | h; exact c h.symm; exact c2 h)]) k (by omega)
 unfold qcS.f
 rw [this,List.drop_zero,obs]
 by_cases c : x ∈ a
 ·rw [if_pos c,decide_eq_true c]; rfl
 ·rw [if_neg c,decide_eq_false c]; rfl
def zRs (a : LI) (m : Int) : Nat → Nat → Bool
 | 0,_ => true
 | d + 1,i => decide (0 ≤ a.getD i 0 ∧ a.getD i 0 < m ∧ (0 < i → a.getD (i - 1) 0 < a.getD i 0)) && zRs a m d (i + 1)
theorem qlj {a : LI} {m : Int} : ∀ (d i : Nat) (l : Int),a.length = i + d → (i = 0 → l = -1) → (0 < i → l = a.getD (i - 1) 0 ∧ 0 ≤ l) → zRs a m d i = zRi m l (a.drop i)
 | 0,i,l,hi,_,_ => by rw [List.drop_eq_nil_of_le (by omega)]; rfl
 | d + 1,i,l,hi,h0,h1 => by
  rw [qae (show i < a.length by omega) (0 : Int)]
  generalize hx : a.getD i 0 = x
  refine qo8 ?_
  rw [zRs,qc1,Bool.and_eq_true,decide_eq_true_eq,hx]
  constructor
  ·rintro ⟨⟨k1,k2,k3⟩,k4⟩
   refine ⟨⟨?_,k2⟩,?_⟩
   ·by_cases c : i = 0
    ·have := h0 c; omega
    ·have := h1 (by omega); have := k3 (by omega); omega
   ·rw [← qlj d (i + 1) x (by omega) (by omega) (fun _=>⟨by rw [Nat.add_sub_cancel]; exact hx.symm,k1⟩)]; exact k4
  ·rintro ⟨⟨k1,k2⟩,k4⟩
   have hx0 : 0 ≤ x := by
    by_cases c : i = 0
    ·have := h0 c; omega
    ·have := h1 (by omega); omega
   refine ⟨⟨hx0,k2,fun c => by have := h1 c; omega⟩,?_⟩
   rw [qlj d (i + 1) x (by omega) (by omega) (fun _=>⟨by rw [Nat.add_sub_cancel]; exact hx.symm,hx0⟩)]; exact k4
theorem qjO (a : LI) (m : Int) (ha : a.length ≤ 17592186043904) (k : Nat) (hk : a.length < k) : qbI.f k a m = some (zRi m (-1) a) := by
 have := iter0 (L := fun n i (_ : Unit) => qbI.l0 n a m a.length i) (st := fun _=>()) (fun i => if zRs a m (a.length - i) i = true then .inl () else .inr false) (m := a.length) 0
  (fun n _ => by rw [qbI.l0,if_neg (by omega),Nat.sub_self]; rfl)
  (fun i n hi _ ih => by
   rw [qbI.l0,if_pos (by omega),if_pos (by omega),Int.toNat_natCast,qao hi (by omega),ih,show a.length - i = (a.length - (i + 1)) + 1 by omega,zRs]
   by_cases c1 : a.getD i 0 < 0
   ·rw [if_pos c1,decide_eq_false (by omega),Bool.false_and,if_neg (by decide)]
   by_cases c2 : m ≤ a.getD i 0
   ·rw [if_neg c1,if_pos c2,decide_eq_false (by omega),Bool.false_and,if_neg (by decide)]
   rw [if_neg c1,if_neg c2]
   by_cases c3 : (0 : Int) < (i : Int)
   ·rw [if_pos c3,qal (n := (i : Int) - 1) (by omega) (by omega),if_pos (by omega),show ((i : Int) - 1).toNat = i - 1 by omega]
    by_cases c4 : a.getD i 0 ≤ a.getD (i - 1) 0
    ·rw [if_pos c4,decide_eq_false (fun h => by have := h.2.2 (by omega); omega),Bool.false_and,if_neg (by decide)]
    ·rw [if_neg c4,decide_eq_true ⟨by omega,by omega,fun _=>by omega⟩,Bool.true_and]
   ·rw [if_neg c3,decide_eq_true ⟨by omega,by omega,fun _=>by omega⟩,Bool.true_and]) k (by omega)
 unfold qbI.f
 rw [this,Nat.sub_zero,obs,qlj a.length 0 (-1) (by omega) (fun _=>rfl) (fun h => by omega),List.drop_zero]
 cases zRi m (-1) a <;> rfl
def lefI (a : LI) : Nat → LI → LI
 | _,[] => []
 | j,x :: r => if (j : Int) ∈ a then lefI a (j + 1) r else x :: lefI a (j + 1) r
def lef (a s : LI) : LI := lefI a 0 s
theorem qj0 (a : LI) : ∀ (j : Nat) (s : LI),(lefI a j s).length ≤ s.length
 | _,[] => Nat.le_refl _
 | j,x :: r => by
  have := qj0 a (j + 1) r
  rw [lefI]
  split
  ·simp; omega
  ·simp; omega
theorem qkW (a : LI) (y : Int) : ∀ (s : LI) (j : Nat),lefI a j (s ++ [y]) = lefI a j s ++ (if ((j + s.length : Nat) : Int) ∈ a then [] else [y])
 | [],j => by
  show lefI a j [y] = [] ++ _
  rw [lefI,List.nil_append]; rfl
 | x :: s,j => by
  have ih := qkW a y s (j + 1)
  rw [show j + 1 + s.length = j + (s.length + 1) by omega] at ih
  show lefI a j (x :: (s ++ [y])) = _
  rw [lefI,lefI,ih]
  split <;> simp
theorem qmK (a s : LI) {i : Nat} (h : i < s.length) : lef a (s.take (i + 1)) = lef a (s.take i) ++ (if (i : Int) ∈ a then [] else [s.getD i 0]) := by
 rw [qdl h,lef,qkW,List.length_take,show 0 + min i s.length = i by omega]; rfl
theorem qj1 (a : LI) : ∀ (j : Nat) {s p : LI},mIn s p = true → mIn (lefI a j s) (lefI a j p) = true
 | _,[],[],_ => rfl
 | j,x :: s,y :: p,h => by
  obtain ⟨h1,h2⟩ := qbw.1 h
  rw [lefI,lefI]
  split
  ·exact qj1 a (j + 1) h2
  ·exact qbw.2 ⟨h1,qj1 a (j + 1) h2⟩
 | _,[],_ :: _,h => by simp [mIn] at h
 | _,_ :: _,[],h => by simp [mIn] at h
def put (how a b : Int) : Int := if how = 1 then IntKind.i64.wrap (a + b) else if how = 2 then IntKind.i64.wrap (a * b) else if how = 3 then (if b < a then b else a) else if how = 4 then (if a < b then b else a) else 0
def zNone (how : Int) : Int := if how = 2 then 1 else if how = 3 then 9223372036854775807 else if how = 4 then -9223372036854775808 else 0
theorem qje (how a b : Int) : qfx.f how a b = some (put how a b) := by
 unfold qfx.f put
 repeat' split
 all_goals rfl
theorem qie (how : Int) : qes.f how = some (zNone how) := by
 unfold qes.f zNone
 repeat' split
 all_goals rfl
theorem qjg (how : Int) : qfy.f how = some (decide (1 ≤ how ∧ how ≤ 4)) := by
 unfold qfy.f
 by_cases c : 1 ≤ how
 ·rw [if_pos c]; simp [c]
 ·rw [if_neg c]; simp [c]
def fdA (how : Int) (s d a : LI) (i : Nat) : LI :=
 (List.range i).foldl (fun out (i : Nat) => out.set (ix (lef a s) (lef a (pl s i))).toNat (put how (out.getD (ix (lef a s) (lef a (pl s i))).toNat 0) (d.getD i 0))) (List.replicate (pr (lef a s)).toNat (zNone how))
def zFold (how : Int) (s d a : LI) : LI := fdA how s d a d.length
theorem qj8 (how : Int) (s d a : LI) (i : Nat) : fdA how s d a (i + 1) = (fdA how s d a i).set (ix (lef a s) (lef a (pl s i))).toNat (put how ((fdA how s d a i).getD (ix (lef a s) (lef a (pl s i))).toNat 0) (d.getD i 0)) := by
 unfold fdA
 rw [List.range_succ,List.foldl_append]; rfl
theorem qj9 (how : Int) (s d a : LI) : ∀ i,(fdA how s d a i).length = (pr (lef a s)).toNat
 | 0 => by simp [fdA]
 | i + 1 => by rw [qj8,qcv,qj9 how s d a i]
theorem qqO {how : Int} {s d a : LI} (h : mSR (lef a s) = true) : zT (lef a s) (zFold how s d a) = true := by
 unfold zT zFold
 rw [qj9]
 have := qbE fun x hx => ((qah h).2.1 x hx).1
 simp [h]; omega
theorem qlC (how : Int) (s d a : LI) (ha : a.length ≤ 17592186043904) (k : Nat) (hk : a.length + 10000 ≤ k) :
  qaZ.f k how s d a = some (if 1 ≤ how ∧ how ≤ 4 then (if zT s d = true then (if zRi s.length (-1) a = true then (if mSR (lef a s) = true then (0,lef a s,zFold how s d a) else (13,[],[])) else (1,[],[])) else (13,[],[])) else (1,[],[])) := by
 unfold qaZ.f
 rw [qjg,obs]
 by_cases c0 : 1 ≤ how ∧ how ≤ 4
 rotate_left
 ·rw [decide_eq_false c0,if_neg (by decide),if_neg c0]
 rw [decide_eq_true c0,if_pos rfl,if_pos c0,qbz s d k (by omega),obs]
 by_cases hT : zT s d = true
 rotate_left
 ·rw [if_neg hT,if_neg hT]
 have hs := qcf hT
 obtain ⟨hr,hd⟩ := qaM hT
 rw [if_pos hT,if_pos hT,qjO a _ ha k (by omega),obs]
 by_cases hA : zRi s.length (-1) a = true
 rotate_left
 ·rw [if_neg hA,if_neg hA]
 have l0 := iter0 (L := fun n i y => qaZ.l0 k n how a s.length i s d y) (st := fun i => lef a (s.take i)) (fun _=>lef a s) (m := s.length) 0
  (fun n _ => by rw [qaZ.l0,if_neg (by omega),List.take_length])
  (fun i n hi _ ih => by
   have hl := qj0 a 0 (s.take i)
   rw [List.length_take] at hl
   rw [qmK a s hi] at ih
   rw [qaZ.l0,if_pos (by omega),qjd a _ ha k (by omega),obs,qao hi (by omega)]
   by_cases c : (i : Int) ∈ a
   ·rw [if_pos c,List.append_nil] at ih
    rw [decide_eq_true c,if_pos rfl,ih]
   ·rw [if_neg c] at ih
    rw [decide_eq_false c,if_neg (by decide),if_pos (by omega),Int.toNat_natCast,if_pos (by rw [List.length_singleton]; unfold lef; omega),ih]) k (by omega)
 rw [List.take_zero,show lef a [] = [] from rfl] at l0
 rw [if_pos hA,if_pos hA,l0,obs,qbv _ k (by omega),obs]
 by_cases hR : mSR (lef a s) = true
 rotate_left
 ·rw [if_neg hR,if_neg hR]
 have hll := qah hR
 rw [if_pos hR,if_pos hR,qie,obs,qbu _ _ (by omega) k (by omega),obs]
 have l1 := iter0 (L := fun n i y => qaZ.l1 k n how a d.length i s d (lef a s) (lef a s) y) (st := fun i => fdA how s d a i) (fun _=>zFold how s d a) (m := d.length) 100
  (fun n _ => by rw [qaZ.l1,if_neg (by omega)]; rfl)
  (fun i n hi hn ih => by
   have hpi : mIn s (pl s i) = true := qgt (fun x hx => (qcQ hr (by omega) x hx).1) i
   have hin : mIn (lef a s) (lef a (pl s i)) = true := qj1 a 0 hpi
   have hb := qgB hin
   have hbb := (qcQ hr (by omega))
   have l2 := iter0 (L := fun n j y => qaZ.l2 k n how a i d.length i (pl s i).length j s d (lef a s) y (pl s i) (lef a s) (fdA how s d a i)) (st := fun j => lef a ((pl s i).take j)) (fun _=>lef a (pl s i)) (m := (pl s i).length) 0
    (fun n _ => by rw [qaZ.l2,if_neg (by omega),List.take_length])
    (fun j n hj _ ih => by
     have hl := qj0 a 0 ((pl s i).take j)
     rw [List.length_take,qco] at hl
     rw [qco] at hj
     rw [qmK a (pl s i) (by rw [qco]; exact hj)] at ih
     rw [qaZ.l2,if_pos (by rw [qco]; omega),if_pos (by rw [qco]; omega),if_pos (by rw [qco]; omega),qjd a _ ha k (by omega),obs,qao hj (by omega)]
     by_cases c : (j : Int) ∈ a
     ·rw [if_pos c,List.append_nil] at ih
      rw [decide_eq_true c,if_pos rfl,ih]
     ·rw [if_neg c] at ih
      rw [decide_eq_false c,if_neg (by decide),if_pos (by rw [List.length_singleton]; unfold lef; omega),Int.toNat_natCast,ih]) n (by rw [qco]; omega)
   rw [List.take_zero,show lef a [] = [] from rfl] at l2
   have hzi : zIx (lef a s) (lef a (pl s i)) = ix (lef a s) (lef a (pl s i)) := by
    unfold zIx
    rw [if_pos ⟨hR,hin⟩]
   have hfl := qj9 how s d a i
   rw [qaZ.l1,if_pos (by omega),qcs hr (by omega) (by omega) k (by omega),obs,l2,obs,qeh _ _ k (by omega),obs,hzi,
    if_pos (by rw [hfl]; omega),if_pos (by rw [hfl]; omega),if_pos (by omega),Int.toNat_natCast,qje,obs,qao hi (by omega),← qj8,ih]) k (by omega)
 have hz : (zSz (lef a s)).toNat = (pr (lef a s)).toNat := by rw [zSz,if_pos hR]
 have e0 : fdA how s d a 0 = List.replicate (zSz (lef a s)).toNat (zNone how) := by rw [hz]; rfl
 rw [e0] at l1
 rw [l1,obs]
end Go.Pf

namespace Go.Pf
open Go Go.Vm
theorem qm0 (g : Nat → Int) {i M : Nat} (h : i < M) (c : Int) : ((List.range i).map g ++ List.replicate (M - i) c).getD i 0 = c := by
 rw [List.getD_eq_getElem?_getD,List.getElem?_append_right (by simp),List.length_map,List.length_range,Nat.sub_self,List.getElem?_replicate,if_pos (by omega)]; rfl
theorem qlL : ∀ {s p s' p' : LI},mIn s p = true → mIn s' p' = true → mIn (s ++ s') (p ++ p') = true
 | [],[],_,_,_,h => h
 | _ :: _,_ :: _,_,_,h,h' => qbw.2 ⟨(qbw.1 h).1,qlL (qbw.1 h).2 h'⟩
 | [],_ :: _,_,_,h,_ => by simp [mIn] at h
 | _ :: _,[],_,_,h,_ => by simp [mIn] at h
theorem qit : ∀ {s s' p : LI},mIn (s ++ s') p = true → mIn s (p.take s.length) = true ∧ mIn s' (p.drop s.length) = true
 | [],s',p,h => ⟨by rw [List.length_nil,List.take_zero]; rfl,h⟩
 | x :: s,s',y :: p,h => by
  obtain ⟨h1,h2⟩ := qbw.1 h
  obtain ⟨i1,i2⟩ := qit h2
  exact ⟨qbw.2 ⟨h1,i1⟩,i2⟩
 | _ :: _,_,[],h => by simp [mIn] at h
theorem qoQ {s p : LI} (h : mIn s p = true) (n : Nat) : mIn (s.take n) (p.take n) = true := by
 have hl := qen h
 have := qit (s := s.take n) (s' := s.drop n) (p := p) (by rw [List.take_append_drop]; exact h)
 rw [List.length_take] at this
 by_cases c : n ≤ s.length
 ·rw [Nat.min_eq_left c] at this; exact this.1
 ·rw [List.take_of_length_le (show s.length ≤ n by omega),List.take_of_length_le (show p.length ≤ n by omega)]; exact h
def dsh (a b : LI) (n : Nat) : LI := a.take (a.length - 1) ++ b.drop (n + 1)
def zDS (a b : LI) (n : Int) : Int × LI :=
 if n < 0 ∨ (a.length : Int) ≤ n ∨ (b.length : Int) ≤ n then (1,[]) else
 if mSR a = true ∧ mSR b = true ∧ a.take n.toNat = b.take n.toNat ∧ a.getD (a.length - 1) 0 = b.getD n.toNat 0 then
  (if mSR (dsh a b n.toNat) = true then (0,dsh a b n.toNat) else (13,[]))
 else (13,[])
theorem qif (a b : LI) (n : Int) (k : Nat) (hk : 5000 ≤ k) : qdn.f k a b n = some (zDS a b n) := by
 unfold qdn.f zDS
 by_cases c1 : n < 0
 ·rw [if_pos c1,if_pos (.inl c1)]
 by_cases c2 : (a.length : Int) ≤ n
 ·rw [if_neg c1,if_pos c2,if_pos (.inr (.inl c2))]
 by_cases c3 : (b.length : Int) ≤ n
 ·rw [if_neg c1,if_neg c2,if_pos c3,if_pos (.inr (.inr c3))]
 rw [if_neg c1,if_neg c2,if_neg c3,if_neg (show ¬ (n < 0 ∨ (a.length : Int) ≤ n ∨ (b.length : Int) ≤ n) by omega),qbv a k (by omega),obs]
 by_cases ra : mSR a = true
 rotate_left
 ·rw [if_neg ra,if_neg (fun h => ra h.1)]
 rw [if_pos ra,qbv b k (by omega),obs]
 by_cases rb : mSR b = true
 rotate_left
 ·rw [if_neg rb,if_neg (fun h => rb h.2.1)]
 have ha := qah ra
 have hb := qah rb
 rw [if_pos rb,if_pos (by omega),if_pos (by omega),List.drop_zero,List.drop_zero,qeM _ _ (by rw [List.length_take]; omega) k (by rw [List.length_take]; omega),obs]
 by_cases c4 : a.take n.toNat = b.take n.toNat
 rotate_left
 ·rw [decide_eq_false c4,if_neg (by decide),if_neg (fun h => c4 h.2.2.1)]
 rw [decide_eq_true c4,if_pos rfl,qal (n := (a.length : Int) - 1) (by omega) (by omega),if_pos (by omega),if_pos (by omega),show ((a.length : Int) - 1).toNat = a.length - 1 by omega]
 by_cases c5 : a.getD (a.length - 1) 0 = b.getD n.toNat 0
 rotate_left
 ·rw [if_neg c5,if_neg (fun h => c5 h.2.2.2)]
 rw [if_pos c5,if_pos (by omega),List.drop_zero,if_pos (by rw [List.length_take]; omega),qal (n := n + 1) (by omega) (by omega),if_pos (by omega),List.nil_append,List.take_length,show (n + 1).toNat = n.toNat + 1 by omega,if_pos (by rw [List.length_take,List.length_drop]; omega),if_pos ⟨ra,rb,c4,c5⟩]
 show (qaP.f k (dsh a b n.toNat)).bind _ = _
 rw [qbv _ k (by omega),obs]
 by_cases c6 : mSR (dsh a b n.toNat) = true
 ·rw [if_pos c6,if_pos c6]; rfl
 ·rw [if_neg c6,if_neg c6]
theorem qkp {a b : LI} {n : Int} (h : (zDS a b n).1 = 0) : (zDS a b n).2 = dsh a b n.toNat ∧ mSR (dsh a b n.toNat) = true ∧ 0 ≤ n ∧ n.toNat < a.length ∧ n.toNat < b.length ∧ a.take n.toNat = b.take n.toNat ∧ a.getD (a.length - 1) 0 = b.getD n.toNat 0 := by
 unfold zDS at h ⊢
 split at h
 ·simp at h
 rename_i c
 rw [if_neg c]
 split at h
 ·rename_i c2
  rw [if_pos c2]
  split at h
  ·rename_i c3
   rw [if_pos c3]
   exact ⟨rfl,c3,by omega,by omega,by omega,c2.2.2.1,c2.2.2.2⟩
  ·simp at h
 ·simp at h
def dotS (a A b B : LI) (n : Nat) (p : LI) (m : Nat) : Int :=
 (List.range m).foldl (fun acc (j : Nat) => IntKind.i64.wrap (acc + IntKind.i64.wrap (A.getD (ix a (p.take (a.length - 1) ++ [(j : Int)])).toNat 0 * B.getD (ix b (p.take n ++ (j : Int) :: p.drop (a.length - 1))).toNat 0))) 0
theorem qla (a A b B : LI) (n : Nat) (p : LI) (m : Nat) : dotS a A b B n p (m + 1) = IntKind.i64.wrap (dotS a A b B n p m + IntKind.i64.wrap (A.getD (ix a (p.take (a.length - 1) ++ [(m : Int)])).toNat 0 * B.getD (ix b (p.take n ++ (m : Int) :: p.drop (a.length - 1))).toNat 0)) := by
 unfold dotS
 rw [List.range_succ,List.foldl_append]; rfl
def zDot (a A b B : LI) (n : Nat) : LI := made (dsh a b n) fun p => dotS a A b B n p (b.getD n 0).toNat
theorem qpE {a b p : LI} {n : Nat} {j : Int} (ha : n < a.length) (hb : n < b.length) (he : a.take n = b.take n) (hl : a.getD (a.length - 1) 0 = b.getD n 0) (hp : mIn (dsh a b n) p = true) (h0 : 0 ≤ j) (h1 : j < b.getD n 0) :
  mIn a (p.take (a.length - 1) ++ [j]) = true ∧ mIn b (p.take n ++ j :: p.drop (a.length - 1)) = true := by
 obtain ⟨i1,i2⟩ := qit hp
 rw [List.length_take,Nat.min_eq_left (by omega)] at i1 i2
 constructor
 ·have e : a = a.take (a.length - 1) ++ [a.getD (a.length - 1) 0] := by
   rw [← qdl (by omega),Nat.sub_add_cancel (by omega),List.take_length]
  have := qlL i1 (s' := [a.getD (a.length - 1) 0]) (p' := [j]) (qbw.2 ⟨by omega,rfl⟩)
  rwa [← e] at this
 ·have e : b = b.take n ++ b.getD n 0 :: b.drop (n + 1) := by rw [← qae hb]; exact (List.take_append_drop n b).symm
  have i3 := qoQ i1 n
  rw [List.take_take,List.take_take,Nat.min_eq_left (by omega),he] at i3
  have := qlL i3 (s' := b.getD n 0 :: b.drop (n + 1)) (p' := j :: p.drop (a.length - 1)) (qbw.2 ⟨by omega,i2⟩)
  rwa [← e] at this
theorem pl_Z {s : LI} (hr : mSR s = true) {i : Nat} (h : (i : Int) < pr s) : mIn s (pl s i) = true := qgt (fun x hx => (qcQ hr (by omega) x hx).1) i
theorem qna (a A b B : LI) (n : Int) (k : Nat) (hk : 10000 ≤ k) :
    qbS.f k a A b B n = some (if zT a A = true ∧ zT b B = true then (if (zDS a b n).1 = 0 then (0,(zDS a b n).2,zDot a A b B n.toNat) else ((zDS a b n).1,[],[])) else (13,[],[])) := by
  unfold qbS.f
  rw [qbz a A k (by omega),obs]
  by_cases hA : zT a A = true
  rotate_left
  · rw [if_neg hA,if_neg (fun h => hA h.1)]
  rw [if_pos hA,qbz b B k (by omega),obs]
  by_cases hB : zT b B = true
  rotate_left
  · rw [if_neg hB,if_neg (fun h => hB h.2)]
  rw [if_pos hB,if_pos ⟨hA,hB⟩,qif a b n k (by omega),obs]
  by_cases hc : (zDS a b n).1 = 0
  rotate_left
  · rw [if_neg hc,if_neg hc]
  obtain ⟨e,hR,h0,h1,h2,h3,h4⟩ := qkp hc
  obtain ⟨N,rfl⟩ : ∃ N : Nat,n = N := ⟨n.toNat,by omega⟩
  rw [Int.toNat_natCast] at *
  have ha := qcf hA
  have hb := qcf hB
  have hs := qah hR
  have hp0 := qbE fun x hx => (hs.2.1 x hx).1
  have hbN := qir (qaM hB).1 h2
  rw [if_pos hc,if_pos hc,e,qbu _ _ (by omega) k (by omega),obs,zSz,if_pos hR,List.length_replicate,qal (n := (a.length : Int) - 1) (by omega) (by omega),show (((pr (dsh a b N)).toNat : Nat) : Int) = ((pr (dsh a b N)).toNat : Nat) from rfl]
  have key : ∀ (M : Nat),M = (pr (dsh a b N)).toNat → qbS.l0 k k (N : Int) ((a.length : Int) - 1) (M : Int) 0 a A b B (dsh a b N) (dsh a b N) (List.replicate M 0) = some (zDot a A b B N) := fun M hM => by
    have := iter0 (L := fun n i y => qbS.l0 k n (N : Int) ((a.length : Int) - 1) (M : Int) i a A b B (dsh a b N) (dsh a b N) y) (st := fun (i : Nat) => (List.range i).map (fun (i : Nat) => dotS a A b B N (pl (dsh a b N) i) (b.getD N 0).toNat) ++ List.replicate (M - i) 0) (fun _=>zDot a A b B N) (m := M) 100
      (fun n _ => by rw [qbS.l0,if_neg (by omega),Nat.sub_self,List.replicate_zero,List.append_nil,hM]; rfl)
      (fun i n hi hn ih => by
        have hpi := pl_Z hR (i := i) (by omega)
        have hpl := qco (dsh a b N) i
        have hdl : (dsh a b N).length = (a.length - 1) + (b.length - (N + 1)) := by unfold dsh; rw [List.length_append,List.length_take,List.length_drop]; omega
        generalize hp : pl (dsh a b N) (i : Int) = p at *
        have hbase : ((List.range i).map (fun (i : Nat) => dotS a A b B N (pl (dsh a b N) i) (b.getD N 0).toNat) ++ List.replicate (M - i) (0 : Int)).length = M := by simp; omega
        have hget : ((List.range i).map (fun (i : Nat) => dotS a A b B N (pl (dsh a b N) i) (b.getD N 0).toNat) ++ List.replicate (M - i) (0 : Int)).getD i 0 = 0 := qm0 _ hi 0
        have hfill := qdG (fun (i : Nat) => dotS a A b B N (pl (dsh a b N) i) (b.getD N 0).toNat) hi 0
        rw [hp] at hfill
        generalize (List.range i).map (fun (i : Nat) => dotS a A b B N (pl (dsh a b N) i) (b.getD N 0).toNat) ++ List.replicate (M - i) (0 : Int) = base at *
        have l1 := iter0 (L := fun n j y => qbS.l1 k n (N : Int) ((a.length : Int) - 1) (i : Int) j (M : Int) (i : Int) a A b B (dsh a b N) p (dsh a b N) y) (st := fun j => base.set i (dotS a A b B N p j)) (fun _=>base.set i (dotS a A b B N p (b.getD N 0).toNat)) (m := (b.getD N 0).toNat) 0
          (fun n _ => by rw [qbS.l1,if_pos (by omega),if_neg (by rw [Int.toNat_natCast]; omega)])
          (fun j n hj _ ih => by
            obtain ⟨k1,k2⟩ := qpE (j := (j : Int)) h1 h2 h3 h4 hpi (by omega) (by omega)
            have hpt : (p.take (a.length - 1)).length = a.length - 1 := by rw [List.length_take]; omega
            have hpn : (p.take N).length = N := by rw [List.length_take]; omega
            have hset : ∀ v,(base.set i (dotS a A b B N p j)).set i v = base.set i v := fun v => by simp
            rw [qbS.l1,if_pos (by omega),Int.toNat_natCast,if_pos (by omega),show ((a.length : Int) - 1).toNat = a.length - 1 by omega,List.drop_zero,List.drop_zero,List.nil_append,List.nil_append,List.take_length,if_pos (by omega),if_pos (by rw [hpt]; omega),if_pos (by rw [hpt,List.length_singleton]; omega),if_pos (by omega),if_pos (by rw [hpn]; omega),if_pos (by rw [hpn,List.length_singleton]; omega),if_pos (by omega),
              if_pos (by rw [List.length_append,hpn,List.length_singleton,List.length_drop]; omega),if_pos (by rw [qcv,hbase]; omega),Int.toNat_natCast,if_pos (by rw [qcv,hbase]; exact hi),qc3 hA k1 k (by omega),obs,List.append_assoc,List.singleton_append,qc3 hB k2 k (by omega),obs,hset,qaA (by rw [hbase]; exact hi),qao hj (by omega),← qla,ih]) n (by omega)
        rw [show dotS a A b B N p 0 = 0 from rfl,qfv hget.symm] at l1
        rw [hfill] at l1
        rw [qbS.l0,if_pos (by omega),qcs hR (by omega) (by omega) k (by omega),obs,hp,l1,obs,qao hi (by omega),ih]) k (by omega)
    rw [Nat.sub_zero,List.range_zero,List.map_nil,List.nil_append] at this
    exact this
  rw [key _ rfl,obs]
def zWn (n w ap : Int) : Int := if n < 0 ∨ w < 1 ∨ ap < 1 ∨ n < w then 0 else (n - w) / ap + 1
theorem qiW {n w ap : Int} (hn : n ≤ 1000) (hn0 : 0 ≤ n) (hw : w ≤ 1000) (hw0 : 0 ≤ w) : qdD.f n w ap = some (zWn n w ap) := by
 unfold qdD.f zWn
 by_cases c1 : n < 0
 ·omega
 by_cases c2 : w < 1
 ·rw [if_neg c1,if_pos c2,if_pos (.inr (.inl c2))]
 by_cases c3 : ap < 1
 ·rw [if_neg c1,if_neg c2,if_pos c3,if_pos (.inr (.inr (.inl c3)))]
 by_cases c4 : n < w
 ·rw [if_neg c1,if_neg c2,if_neg c3,if_pos c4,if_pos (.inr (.inr (.inr c4)))]
 have h1 : 0 ≤ (n - w) / ap := Int.ediv_nonneg (by omega) (by omega)
 have h2 : (n - w) / ap ≤ n - w := Int.ediv_le_self _ (by omega)
 rw [if_neg c1,if_neg c2,if_neg c3,if_neg c4,if_pos (by omega),if_neg (by omega),qal (n := n - w) (by omega) (by omega),Int.tdiv_eq_ediv_of_nonneg (by omega),qal (n := (n - w) / ap) (by omega) (by omega),qal (n := (n - w) / ap + 1) (by omega) (by omega)]
theorem qqr {n w ap : Int} (h0 : 0 ≤ n) : 0 ≤ zWn n w ap ∧ zWn n w ap ≤ n := by
 unfold zWn
 split
 ·omega
 ·rename_i c
  have h1 : 0 ≤ (n - w) / ap := Int.ediv_nonneg (by omega) (by omega)
  have h2 : (n - w) / ap ≤ n - w := Int.ediv_le_self _ (by omega)
  omega
theorem qqq {n w ap i j : Int} (hi0 : 0 ≤ i) (hi : i < zWn n w ap) (hj0 : 0 ≤ j) (hj : j < w) : 0 ≤ i * ap + j ∧ i * ap + j < n ∧ 1 ≤ ap := by
 unfold zWn at hi
 split at hi
 ·omega
 ·rename_i c
  have h3 : i * ap ≤ (n - w) / ap * ap := Int.mul_le_mul_of_nonneg_right (by omega) (by omega)
  have h4 : (n - w) / ap * ap ≤ n - w := Int.ediv_mul_le _ (by omega)
  have h5 : 0 ≤ i * ap := Int.mul_nonneg hi0 (by omega)
  omega
def winS (how : Int) (s d : LI) (ax : Nat) (ap : Int) (p : LI) (m : Nat) : Int :=
 (List.range m).foldl (fun acc (j : Nat) => put how acc (d.getD (ix s (p.set ax (p.getD ax 0 * ap + (j : Int)))).toNat 0)) (zNone how)
theorem qkr (how : Int) (s d : LI) (ax : Nat) (ap : Int) (p : LI) (m : Nat) : winS how s d ax ap p (m + 1) = put how (winS how s d ax ap p m) (d.getD (ix s (p.set ax (p.getD ax 0 * ap + (m : Int)))).toNat 0) := by
 unfold winS
 rw [List.range_succ,List.foldl_append]; rfl
def wsh (s : LI) (ax : Nat) (w ap : Int) : LI := s.set ax (zWn (s.getD ax 0) w ap)
def zWin (how : Int) (s d : LI) (ax : Nat) (w ap : Int) : LI := made (wsh s ax w ap) fun p => winS how s d ax ap p w.toNat
theorem qoC {s : LI} (h : mSR s = true) {ax : Nat} (hax : ax < s.length) (w ap : Int) : mSR (wsh s ax w ap) = true := by
 refine qkm h (f := List.replicate s.length 0) (qpe (by simp) (by simp [wsh]) fun j hj => ?_)
 have hb := qir h hj
 rw [qoM,wsh]
 by_cases e : j = ax
 ·subst e; rw [qaA hj]
  have := qqr (w := w) (ap := ap) hb.1
  omega
 ·rw [qdh (fun hh => e hh.symm)]; omega
theorem qma {s p : LI} {ax : Nat} {w ap : Int} (hax : ax < s.length) (hp : mIn (wsh s ax w ap) p = true) {j : Int} (h0 : 0 ≤ j) (h1 : j < w) : mIn s (p.set ax (p.getD ax 0 * ap + j)) = true ∧ 0 ≤ p.getD ax 0 * ap ∧ p.getD ax 0 * ap + j < s.getD ax 0 := by
 have hl := qen hp
 have hl' : (wsh s ax w ap).length = s.length := by simp [wsh]
 have hg := qmE hp (j := ax) (by rw [hl']; exact hax)
 rw [wsh,qaA hax] at hg
 have hw := qqq hg.1 hg.2 h0 h1
 have hw0 : 0 ≤ p.getD ax 0 * ap := Int.mul_nonneg hg.1 (by omega)
 refine ⟨qkT (by rw [qcv,hl,hl']) fun q hq => ?_,hw0,hw.2.1⟩
 by_cases e : q = ax
 ·subst e; rw [qaA (by omega)]; omega
 ·have := qmE hp (j := q) (by rw [hl']; exact hq)
  rw [wsh,qdh (fun hh => e hh.symm)] at this
  rw [qdh (fun hh => e hh.symm)]; exact this
theorem qjP (how : Int) (s d : LI) (ax w ap : Int) (k : Nat) (hk : 10000 ≤ k) :
    qa2.f k how s d ax w ap = some (if (1 ≤ how ∧ how ≤ 4) ∧ (1 ≤ w ∧ w ≤ 32) ∧ 1 ≤ ap ∧ ap ≤ 32 then (if zT s d = true then (if 0 ≤ ax ∧ ax < (s.length : Int) then (0,wsh s ax.toNat w ap,zWin how s d ax.toNat w ap) else (1,[],[])) else (13,[],[])) else (1,[],[])) := by
  unfold qa2.f
  rw [qjg,obs]
  by_cases c0 : 1 ≤ how ∧ how ≤ 4
  rotate_left
  · rw [decide_eq_false c0,if_neg (by decide),if_neg (fun h => c0 h.1)]
  rw [decide_eq_true c0,if_pos rfl]
  by_cases c1 : w < 1
  · rw [if_pos c1,if_neg (by omega)]
  by_cases c2 : 32 < w
  · rw [if_neg c1,if_pos c2,if_neg (by omega)]
  by_cases c3 : ap < 1
  · rw [if_neg c1,if_neg c2,if_pos c3,if_neg (by omega)]
  by_cases c4 : 32 < ap
  · rw [if_neg c1,if_neg c2,if_neg c3,if_pos c4,if_neg (by omega)]
  rw [if_neg c1,if_neg c2,if_neg c3,if_neg c4,if_pos (show (1 ≤ how ∧ how ≤ 4) ∧ (1 ≤ w ∧ w ≤ 32) ∧ 1 ≤ ap ∧ ap ≤ 32 by omega),qbz s d k (by omega),obs]
  by_cases hT : zT s d = true
  rotate_left
  · rw [if_neg hT,if_neg hT]
  have hs := qcf hT
  rw [if_pos hT,if_pos hT]
  by_cases c5 : ax < 0
  · rw [if_pos c5,if_neg (by omega)]
  by_cases c6 : (s.length : Int) ≤ ax
  · rw [if_neg c5,if_pos c6,if_neg (by omega)]
  obtain ⟨X,rfl⟩ : ∃ X : Nat,ax = X := ⟨ax.toNat,by omega⟩
  obtain ⟨hr,hd⟩ := qaM hT
  have hX : X < s.length := by omega
  have hsX := qir hr hX
  have hR := qoC hr hX w ap
  have hRs := qah hR
  have hp0 := qbE fun x hx => (hRs.2.1 x hx).1
  rw [if_neg c5,if_neg c6,if_pos (show (0 : Int) ≤ X ∧ (X : Int) < s.length by omega),if_pos (by omega),List.nil_append,if_pos (by omega),Int.toNat_natCast,if_pos hX,qiW (by omega) hsX.1 (by omega) (by omega),obs,qie,obs]
  rw [show s.set X (zWn (s.getD X 0) w ap) = wsh s X w ap from rfl,qbu _ _ (by omega) k (by omega),obs,zSz,if_pos hR,List.length_replicate]
  have key : ∀ (M : Nat),M = (pr (wsh s X w ap)).toNat → qa2.l0 k k how (X : Int) w ap (M : Int) 0 s d (wsh s X w ap) (wsh s X w ap) (List.replicate M (zNone how)) = some (zWin how s d X w ap) := fun M hM => by
    have := iter0 (L := fun n i y => qa2.l0 k n how (X : Int) w ap (M : Int) i s d (wsh s X w ap) (wsh s X w ap) y) (st := fun (i : Nat) => (List.range i).map (fun (i : Nat) => winS how s d X ap (pl (wsh s X w ap) i) w.toNat) ++ List.replicate (M - i) (zNone how)) (fun _=>zWin how s d X w ap) (m := M) 100
      (fun n _ => by rw [qa2.l0,if_neg (by omega),Nat.sub_self,List.replicate_zero,List.append_nil,hM]; rfl)
      (fun i n hi hn ih => by
        have hpi := pl_Z hR (i := i) (by omega)
        have hpl := qco (wsh s X w ap) i
        have hwl : (wsh s X w ap).length = s.length := by simp [wsh]
        generalize hp : pl (wsh s X w ap) (i : Int) = p at *
        have hbase : ((List.range i).map (fun (i : Nat) => winS how s d X ap (pl (wsh s X w ap) i) w.toNat) ++ List.replicate (M - i) (zNone how)).length = M := by simp; omega
        have hget : ((List.range i).map (fun (i : Nat) => winS how s d X ap (pl (wsh s X w ap) i) w.toNat) ++ List.replicate (M - i) (zNone how)).getD i 0 = zNone how := qm0 _ hi _
        have hfill := qdG (fun (i : Nat) => winS how s d X ap (pl (wsh s X w ap) i) w.toNat) hi (zNone how)
        rw [hp] at hfill
        generalize (List.range i).map (fun (i : Nat) => winS how s d X ap (pl (wsh s X w ap) i) w.toNat) ++ List.replicate (M - i) (zNone how) = base at *
        have hg := qma hX hpi (j := 0) (by omega) (by omega)
        have l1 := iter0 (L := fun n j (y : LI × LI) => qa2.l1 k n how (X : Int) w ap (i : Int) (p.getD X 0 * ap) j (M : Int) (i : Int) s d (wsh s X w ap) y.1 (wsh s X w ap) y.2) (st := fun j => (if j = 0 then p else p.set X (p.getD X 0 * ap + ((j - 1 : Nat) : Int)),base.set i (winS how s d X ap p j))) (fun _=>base.set i (winS how s d X ap p w.toNat)) (m := w.toNat) 0
          (fun n _ => by rw [qa2.l1,if_neg (by omega)])
          (fun j n hj _ ih => by
            have hin := qma hX hpi (j := (j : Int)) (by omega) (by omega)
            have hset : ∀ v,(base.set i (winS how s d X ap p j)).set i v = base.set i v := fun v => by simp
            have hcl : (if j = 0 then p else p.set X (p.getD X 0 * ap + ((j - 1 : Nat) : Int))).length = p.length := by split <;> simp
            have hps : ∀ v,(if j = 0 then p else p.set X (p.getD X 0 * ap + ((j - 1 : Nat) : Int))).set X v = p.set X v := fun v => by split <;> simp
            rw [if_neg (Nat.succ_ne_zero j),Nat.add_sub_cancel] at ih
            rw [qa2.l1,if_pos (by omega),if_pos (by rw [hcl]; omega),Int.toNat_natCast,if_pos (by rw [hcl]; omega),if_pos (by rw [qcv,hbase]; omega),Int.toNat_natCast,if_pos (by rw [qcv,hbase]; exact hi),hps,qal (n := p.getD X 0 * ap + (j : Int)) (by omega) (by omega),qc3 hT hin.1 k (by omega),obs,qje,obs,hset,qaA (by rw [hbase]; exact hi),qao hj (by omega),← qkr,ih]) n (by omega)
        rw [if_pos rfl,show winS how s d X ap p 0 = zNone how from rfl,qfv hget.symm,hfill] at l1
        rw [qa2.l0,if_pos (by omega),qcs hR (by omega) (by omega) k (by omega),obs,hp,if_pos (by omega),Int.toNat_natCast,if_pos (by omega),qal (n := p.getD X 0 * ap) (by omega) (by omega),l1,obs,qao hi (by omega),ih]) k (by omega)
    rw [Nat.sub_zero,List.range_zero,List.map_nil,List.nil_append] at this
    exact this
  dsimp only
  rw [key _ rfl,obs]
end Go.Pf

namespace Go.Pf
open Go Go.Vm
def tq (op : Int) : Option (Int × Bool × Bool × Bool × Bool × Bool) :=
 if op = 1 then some (0,false,true,false,false,false) else if op = 2 then some (0,false,true,false,true,false) else if op = 3 then some (0,false,true,true,false,false)
 else if op = 4 ∨ op = 5 then some (1,false,false,false,false,false) else if 6 ≤ op ∧ op ≤ 11 then some (2,false,false,false,false,false) else if op = 12 then some (3,false,false,false,false,false)
 else if op = 13 ∨ op = 15 then some (1,false,false,true,false,false) else if op = 14 then some (1,false,true,true,false,false) else if op = 16 then some (1,false,false,true,true,false)
 else if op = 17 then some (2,true,false,true,false,false) else if op = 18 ∨ op = 20 then some (1,false,false,true,false,true) else if op = 19 then some (2,false,false,true,false,false) else none
def zF (op : Int) (ls la : Nat) (n h m : Int) : Bool :=
 match tq op with
 | none => false
 | some (lo,more,s,a,v,w) => decide (lo ≤ m) && (more || decide (m ≤ lo)) && (s || decide (ls = 0)) && (a || decide (la = 0)) && (v || decide (n = 0)) && (w || decide (h = 0))
theorem qhU (op : Int) : op = 1 ∨ op = 2 ∨ op = 3 ∨ op = 4 ∨ op = 5 ∨ op = 6 ∨ op = 7 ∨ op = 8 ∨ op = 9 ∨ op = 10 ∨ op = 11 ∨ op = 12 ∨ op = 13 ∨ op = 14 ∨ op = 15 ∨ op = 16 ∨ op = 17 ∨ op = 18 ∨ op = 19 ∨ op = 20 ∨ (op < 1 ∨ 20 < op) := by omega
theorem qmc {op : Int} (h : op < 1 ∨ 20 < op) : tq op = none := by
 unfold tq
 rw [if_neg (by omega),if_neg (by omega),if_neg (by omega),if_neg (by omega),if_neg (by omega),if_neg (by omega),if_neg (by omega),if_neg (by omega),if_neg (by omega),if_neg (by omega),if_neg (by omega),if_neg (by omega)]
theorem qk1 (op : Int) : qeA.f op = some (match tq op with | none => (0,false,false,false,false,false,false) | some (lo,more,s,a,v,w) => (lo,more,s,a,v,w,true)) := by
 rcases qhU op with rfl | rfl | rfl | rfl | rfl | rfl | rfl | rfl | rfl | rfl | rfl | rfl | rfl | rfl | rfl | rfl | rfl | rfl | rfl | rfl | hout
 iterate 20 exact rfl
 rw [qmc hout]
 unfold qeA.f
 rw [if_neg (by omega),if_neg (by omega),if_neg (by omega),if_neg (by omega),if_neg (by omega),if_neg (by omega),if_neg (by omega),if_neg (by omega),if_neg (by omega),if_neg (by omega),if_neg (by omega),if_neg (by omega),if_neg (by omega),if_neg (by omega),if_neg (by omega),if_neg (by omega),if_neg (by omega),if_neg (by omega),if_neg (by omega),if_neg (by omega)]
theorem qjR (op : Int) : qd2.f op = some (match tq op with | none => (-2,false,false,false,false) | some (lo,more,s,a,v,w) => (if more = true then -1 else lo,s,a,v,w)) := by
 rcases qhU op with rfl | rfl | rfl | rfl | rfl | rfl | rfl | rfl | rfl | rfl | rfl | rfl | rfl | rfl | rfl | rfl | rfl | rfl | rfl | rfl | hout
 iterate 20 exact rfl
 rw [qmc hout]
 unfold qd2.f
 rw [if_neg (by omega),if_neg (by omega),if_neg (by omega),if_neg (by omega),if_neg (by omega)]
 by_cases c : 6 ≤ op
 ·rw [if_pos c,if_neg (by omega),if_neg (by omega),if_neg (by omega),if_neg (by omega),if_neg (by omega),if_neg (by omega),if_neg (by omega),if_neg (by omega),if_neg (by omega),if_neg (by omega)]
 ·rw [if_neg c,if_neg (by omega),if_neg (by omega),if_neg (by omega),if_neg (by omega),if_neg (by omega),if_neg (by omega),if_neg (by omega),if_neg (by omega),if_neg (by omega)]
theorem tq_lo {op lo : Int} {more s a v w : Bool} (h : tq op = some (lo,more,s,a,v,w)) : 0 ≤ lo ∧ lo ≤ 3 ∧ (more = true → lo = 2) := by
 rcases qhU op with rfl | rfl | rfl | rfl | rfl | rfl | rfl | rfl | rfl | rfl | rfl | rfl | rfl | rfl | rfl | rfl | rfl | rfl | rfl | rfl | hout
 iterate 20
  simp [tq] at h
  obtain ⟨rfl,rfl,_⟩ := h
  simp
 rw [qmc hout] at h; cases h
theorem qj5 (op : Int) (i s a : LI) (n h : Int) (nt : ByteArray) (m : Int) : qd7.f op i s a n h nt m = some (zF op s.length a.length n h m) := by
 unfold qd7.f zF
 rw [qk1,obs]
 cases tq op with
 | none => rfl
 | some q =>
  obtain ⟨lo,more,qs,qa,qv,qw⟩ := q
  dsimp only
  rw [if_pos rfl]
  by_cases c1 : m < lo
  ·rw [if_pos c1,decide_eq_false (show ¬ lo ≤ m by omega)]; simp
  ·rw [if_neg c1,decide_eq_true (show lo ≤ m by omega),Bool.true_and]
   have e1 : decide ((s.length : Int) = 0) = decide (s.length = 0) := decide_eq_decide.2 (by omega)
   have e2 : decide ((a.length : Int) = 0) = decide (a.length = 0) := decide_eq_decide.2 (by omega)
   by_cases c2 : lo < m
   ·rw [if_pos c2,decide_eq_false (show ¬ m ≤ lo by omega)]
    cases more <;> cases qs <;> cases qa <;> cases qv <;> cases qw <;> simp <;> (repeat' split) <;> simp_all
   ·rw [if_neg c2,decide_eq_true (show m ≤ lo by omega)]
    cases more <;> cases qs <;> cases qa <;> cases qv <;> cases qw <;> simp <;> (repeat' split) <;> simp_all
theorem qkG (op : Int) (i s a : LI) (n h : Int) (nt : ByteArray) (m : Int) : qet.f op i s a n h nt m = some (zF op s.length a.length n h m) := by
 unfold qet.f zF
 rw [qjR,obs]
 cases hq : tq op with
 | none => rfl
 | some q =>
  obtain ⟨lo,more,qs,qa,qv,qw⟩ := q
  obtain ⟨h1,h2,h3⟩ := tq_lo hq
  dsimp only
  cases more with
  | true =>
   obtain rfl : lo = 2 := h3 rfl
   simp only [reduceIte,show ¬ ((-1 : Int) = -2) by decide,show ¬ ((0 : Int) ≤ -1) by decide]
   by_cases c1 : m < 2
   ·rw [if_pos c1,decide_eq_false (show ¬ (2 : Int) ≤ m by omega)]; simp
   ·rw [if_neg c1,decide_eq_true (show (2 : Int) ≤ m by omega)]
    cases qs <;> cases qa <;> cases qv <;> cases qw <;> simp <;> (repeat' split) <;> simp_all
  | false =>
   simp only [Bool.false_eq_true,reduceIte,show ¬ (lo = -2) by omega,h1]
   by_cases c1 : m = lo
   ·subst c1
    rw [if_pos rfl,if_neg (by omega),decide_eq_true (Int.le_refl m)]
    cases qs <;> cases qa <;> cases qv <;> cases qw <;> simp <;> (repeat' split) <;> simp_all
   ·have : (decide (lo ≤ m) && (false || decide (m ≤ lo))) = false := by
     rw [Bool.false_or,← Bool.decide_and]; exact decide_eq_false (by omega)
    rw [if_neg c1,this]; simp
end Go.Pf

namespace Go.Pf
open Go Go.Vm
def zShape (op : Int) (s a : LI) (h : Int) (l : List LI) : Int × LI :=
 if op = 1 ∨ op = 2 then (if mSR s = true then (0,s) else (13,[])) else
 if op = 3 then (if mSR s = true then (if a.length = 1 ∧ 0 ≤ a.getD 0 0 ∧ a.getD 0 0 < (s.length : Int) then (0,s) else (1,[])) else (13,[])) else
 if op = 13 then (if isPerm (l.getD 0 []).length a = true then (0,pick (l.getD 0 []) a) else (1,[])) else
 if op = 14 then (if mSR s = true then (if zWi s (-1) (l.getD 0 []) a = true then (0,s) else (1,[])) else (13,[])) else
 if op = 15 then (if a.length = 2 * (l.getD 0 []).length ∧ zSl (l.getD 0 []) (a.take (l.getD 0 []).length) (a.drop (l.getD 0 []).length) = true then (0,a.drop (l.getD 0 []).length) else (1,[])) else
 if op = 16 then (if a.length = 2 * (l.getD 0 []).length ∧ zMay (l.getD 0 []) (a.take (l.getD 0 []).length) (a.drop (l.getD 0 []).length) = true then
  (if mSR (zp (l.getD 0 []) (a.take (l.getD 0 []).length) (a.drop (l.getD 0 []).length)) = true then (0,zp (l.getD 0 []) (a.take (l.getD 0 []).length) (a.drop (l.getD 0 []).length)) else (13,[])) else (1,[])) else
 if op = 17 then (if a.length = 1 then zJs (a.getD 0 0) l else (1,[])) else
 if op = 18 then (if 1 ≤ h ∧ h ≤ 4 then (if zRi (l.getD 0 []).length (-1) a = true then (if mSR (lef a (l.getD 0 [])) = true then (0,lef a (l.getD 0 [])) else (13,[])) else (1,[])) else (1,[])) else
 if op = 19 then (if a.length = 1 then zDS (l.getD 0 []) (l.getD 1 []) (a.getD 0 0) else (1,[])) else
 if op = 20 then (if a.length = 3 ∧ ((1 ≤ h ∧ h ≤ 4) ∧ (1 ≤ a.getD 1 0 ∧ a.getD 1 0 ≤ 32) ∧ 1 ≤ a.getD 2 0 ∧ a.getD 2 0 ≤ 32) ∧ 0 ≤ a.getD 0 0 ∧ a.getD 0 0 < ((l.getD 0 []).length : Int) then (0,wsh (l.getD 0 []) (a.getD 0 0).toNat (a.getD 1 0) (a.getD 2 0)) else (1,[])) else
 if l.all (fun t => decide (t = l.getD 0 [])) = true then (0,l.getD 0 []) else (13,[])
def nou (s : LI) : Tn := (s,List.replicate (zSz s).toNat 0)
theorem nou_T {s : LI} (h : mSR s = true) : zT s (List.replicate (zSz s).toNat 0) = true := by
 have := qbE fun x hx => ((qah h).2.1 x hx).1
 unfold zT
 rw [List.length_replicate,zSz,if_pos h]
 simp [h]; omega
theorem qiY (k : Nat) (hk : 5000 ≤ k) (l : List LI) (hl : l.length ≤ 1000) (op : Int) (i s a : LI) (n h : Int) (nt : ByteArray) :
  qbp.l0 k k l (l.length : Int) 0 op i s a n h nt [] = some (if l.all mSR = true then .inl (l.map nou) else .inr 13) := by
 have := iter0 (L := fun m j y => qbp.l0 k m l (l.length : Int) j op i s a n h nt y) (st := fun j => (l.take j).map nou) (fun j => if (l.drop j).all mSR = true then .inl (l.map nou) else .inr 13) (m := l.length) 0
  (fun m _ => by rw [qbp.l0,if_neg (by omega),List.drop_eq_nil_of_le (Nat.le_refl _),List.take_length]; rfl)
  (fun j m hj _ ih => by
   have ht : (l.take (j + 1)).map nou = (l.take j).map nou ++ [nou (l.getD j [])] := by
    rw [List.take_add_one,List.map_append,List.getD_eq_getElem?_getD,List.getElem?_eq_getElem hj]; rfl
   rw [ht] at ih
   rw [qbp.l0,if_pos (by omega),if_pos (by omega),Int.toNat_natCast,qbv _ k (by omega),obs,qae hj ([] : LI),List.all_cons]
   by_cases c : mSR (l.getD j []) = true
   ·have hb := qah c
    rw [if_pos c,qbu _ _ (by omega) k (by omega),obs,if_pos (by rw [List.length_map,List.length_take,List.length_singleton]; omega),qao hj (by omega),c,Bool.true_and]
    exact ih
   ·rw [if_neg c,if_neg (by rw [Bool.and_eq_true]; exact fun hh => c hh.1)]) k (by omega)
 rw [List.take_zero,List.map_nil,List.drop_zero] at this
 exact this
theorem qqc {l : List LI} (h : l.all mSR = true) : (l.map nou).all (fun t => zT t.1 t.2) = true := by
 rw [List.all_map,List.all_eq_true]
 intro s hs
 exact nou_T (List.all_eq_true.1 h s hs)
theorem qqb (l : List LI) : (l.map nou).map (·.1) = l := by
 rw [List.map_map]
 conv => rhs; rw [← List.map_id l]
 rfl
def shp (x : Int × LI × LI) : Int × LI := if x.1 = 0 then (0,x.2.1) else (x.1,[])
theorem qlD {s : LI} (hs : mSR s = true) (ax : Nat) (hax : ax < s.length) (k : Nat) (hk : 10000 ≤ k) : qct.f k s ax = some (s,made s fun p => p.getD ax 0) := by
 have hb := qah hs
 have h0 := qbE fun x hx => (hb.2.1 x hx).1
 unfold qct.f
 rw [qbu _ _ (by omega) k (by omega),obs,zSz,if_pos hs]
 have key : ∀ M : Nat,M = (pr s).toNat → qct.l0 k k s ax 0 s (List.replicate M 0) = some (made s fun p => p.getD ax 0) := fun M hM => by
  have := iter0 (L := fun n i y => qct.l0 k n s ax i s y) (st := fun (i : Nat) => (List.range i).map (fun (i : Nat) => (pl s i).getD ax 0) ++ List.replicate (M - i) 0) (fun _=>made s fun p => p.getD ax 0) (m := M) 0
   (fun n _ => by rw [qct.l0,if_neg (by simp),Nat.sub_self,List.replicate_zero,List.append_nil,hM]; rfl)
   (fun i n hi _ ih => by
    have hpl := qco s i
    have hlen : ((List.range i).map (fun (i : Nat) => (pl s i).getD ax 0) ++ List.replicate (M - i) (0 : Int)).length = M := by simp; omega
    rw [qct.l0,if_pos (by rw [hlen]; omega),qcs hs (by omega) (by omega) k (by omega),obs,if_pos (by omega),Int.toNat_natCast,if_pos (by omega),if_pos (by rw [hlen]; omega),Int.toNat_natCast,if_pos (by rw [hlen]; exact hi),qdG (fun (i : Nat) => (pl s i).getD ax 0) hi,qao hi (by omega),ih]) k (by omega)
  rw [Nat.sub_zero,List.range_zero,List.map_nil,List.nil_append] at this
  exact this
 dsimp only
 rw [key _ rfl,obs]
theorem qc6 (op : Int) (i s a : LI) (n h : Int) (nt : ByteArray) (m : Int) : qcL.f op i s a n h nt m = some (decide ((a.length : Int) = m)) := rfl
end Go.Pf

namespace Go.Pf
open Go Go.Vm
def zWork (op : Int) (s a : LI) (n h : Int) (l : List Tn) : Int × LI × LI :=
 if op = 2 then (if mSR s = true then (0,s,List.replicate (zSz s).toNat n) else (13,[],[])) else
 if op = 3 then (if mSR s = true then (if a.length = 1 ∧ 0 ≤ a.getD 0 0 ∧ a.getD 0 0 < (s.length : Int) then (0,s,made s fun p => p.getD (a.getD 0 0).toNat 0) else (1,[],[])) else (13,[],[])) else
 if op = 4 ∨ op = 5 then (0,(l.getD 0 ([],[])).1,zOne op (l.getD 0 ([],[])).2) else
 if op = 12 then (if (l.getD 1 ([],[])).1 = (l.getD 0 ([],[])).1 ∧ (l.getD 2 ([],[])).1 = (l.getD 0 ([],[])).1 then (0,(l.getD 0 ([],[])).1,zPick (l.getD 0 ([],[])).2 (l.getD 1 ([],[])).2 (l.getD 2 ([],[])).2) else (13,[],[])) else
 if op = 13 then (if isPerm (l.getD 0 ([],[])).1.length a = true then (0,pick (l.getD 0 ([],[])).1 a,zTurn (l.getD 0 ([],[])).1 (l.getD 0 ([],[])).2 a) else (1,[],[])) else
 if op = 14 then (if mSR s = true then (if zWi s (-1) (l.getD 0 ([],[])).1 a = true then (0,s,zSpr (l.getD 0 ([],[])).1 (l.getD 0 ([],[])).2 s a) else (1,[],[])) else (13,[],[])) else
 if op = 15 then (if a.length = 2 * (l.getD 0 ([],[])).1.length ∧ zSl (l.getD 0 ([],[])).1 (a.take (l.getD 0 ([],[])).1.length) (a.drop (l.getD 0 ([],[])).1.length) = true then
  (0,a.drop (l.getD 0 ([],[])).1.length,zCut (l.getD 0 ([],[])).1 (l.getD 0 ([],[])).2 (a.take (l.getD 0 ([],[])).1.length) (a.drop (l.getD 0 ([],[])).1.length)) else (1,[],[])) else
 if op = 16 then (if a.length = 2 * (l.getD 0 ([],[])).1.length ∧ zMay (l.getD 0 ([],[])).1 (a.take (l.getD 0 ([],[])).1.length) (a.drop (l.getD 0 ([],[])).1.length) = true then
  (if mSR (zp (l.getD 0 ([],[])).1 (a.take (l.getD 0 ([],[])).1.length) (a.drop (l.getD 0 ([],[])).1.length)) = true then
   (0,zp (l.getD 0 ([],[])).1 (a.take (l.getD 0 ([],[])).1.length) (a.drop (l.getD 0 ([],[])).1.length),zPad (l.getD 0 ([],[])).1 (l.getD 0 ([],[])).2 (a.take (l.getD 0 ([],[])).1.length) (a.drop (l.getD 0 ([],[])).1.length) n) else (13,[],[])) else (1,[],[])) else
 if op = 17 then (if a.length = 1 then zJoin (a.getD 0 0) l else (1,[],[])) else
 if op = 18 then (if 1 ≤ h ∧ h ≤ 4 then (if zRi (l.getD 0 ([],[])).1.length (-1) a = true then (if mSR (lef a (l.getD 0 ([],[])).1) = true then (0,lef a (l.getD 0 ([],[])).1,zFold h (l.getD 0 ([],[])).1 (l.getD 0 ([],[])).2 a) else (13,[],[])) else (1,[],[])) else (1,[],[])) else
 if op = 19 then (if a.length = 1 then (if (zDS (l.getD 0 ([],[])).1 (l.getD 1 ([],[])).1 (a.getD 0 0)).1 = 0 then
   (0,(zDS (l.getD 0 ([],[])).1 (l.getD 1 ([],[])).1 (a.getD 0 0)).2,zDot (l.getD 0 ([],[])).1 (l.getD 0 ([],[])).2 (l.getD 1 ([],[])).1 (l.getD 1 ([],[])).2 (a.getD 0 0).toNat) else ((zDS (l.getD 0 ([],[])).1 (l.getD 1 ([],[])).1 (a.getD 0 0)).1,[],[])) else (1,[],[])) else
 if op = 20 then (if a.length = 3 ∧ ((1 ≤ h ∧ h ≤ 4) ∧ (1 ≤ a.getD 1 0 ∧ a.getD 1 0 ≤ 32) ∧ 1 ≤ a.getD 2 0 ∧ a.getD 2 0 ≤ 32) ∧ 0 ≤ a.getD 0 0 ∧ a.getD 0 0 < ((l.getD 0 ([],[])).1.length : Int) then
  (0,wsh (l.getD 0 ([],[])).1 (a.getD 0 0).toNat (a.getD 1 0) (a.getD 2 0),zWin h (l.getD 0 ([],[])).1 (l.getD 0 ([],[])).2 (a.getD 0 0).toNat (a.getD 1 0) (a.getD 2 0)) else (1,[],[])) else
 if (l.getD 1 ([],[])).1 = (l.getD 0 ([],[])).1 then (0,(l.getD 0 ([],[])).1,zTwo op (l.getD 0 ([],[])).2 (l.getD 1 ([],[])).2) else (13,[],[])
set_option maxHeartbeats 2000000 in
theorem qi9 {op : Int} {ls la : Nat} {n h m : Int} (hF : zF op ls la n h m = true) : (op = 1 ∧ m = 0) ∨ (op = 2 ∧ m = 0) ∨ (op = 3 ∧ m = 0) ∨ ((op = 4 ∨ op = 5) ∧ m = 1) ∨ ((6 ≤ op ∧ op ≤ 11) ∧ m = 2) ∨ (op = 12 ∧ m = 3) ∨ (op = 13 ∧ m = 1) ∨ (op = 14 ∧ m = 1) ∨ (op = 15 ∧ m = 1) ∨ (op = 16 ∧ m = 1) ∨ (op = 17 ∧ 2 ≤ m) ∨ (op = 18 ∧ m = 1) ∨ (op = 19 ∧ m = 2) ∨ (op = 20 ∧ m = 1) := by
 unfold zF at hF
 cases hq : tq op with
 | none => rw [hq] at hF; cases hF
 | some q =>
  obtain ⟨lo,more,qs,qa,qv,qw⟩ := q
  rw [hq] at hF
  simp only [Bool.and_eq_true,decide_eq_true_eq,Bool.or_eq_true] at hF
  obtain ⟨⟨⟨⟨⟨h1,h2⟩,_⟩,_⟩,_⟩,_⟩ := hF
  rcases qhU op with rfl | rfl | rfl | rfl | rfl | rfl | rfl | rfl | rfl | rfl | rfl | rfl | rfl | rfl | rfl | rfl | rfl | rfl | rfl | rfl | hout
  ·simp [tq] at hq
   obtain ⟨rfl,rfl,_⟩ := hq
   simp at h2
   exact .inl ⟨rfl,by omega⟩
  ·simp [tq] at hq
   obtain ⟨rfl,rfl,_⟩ := hq
   simp at h2
   exact .inr (.inl ⟨rfl,by omega⟩)
  ·simp [tq] at hq
   obtain ⟨rfl,rfl,_⟩ := hq
   simp at h2
   exact .inr (.inr (.inl ⟨rfl,by omega⟩))
  ·simp [tq] at hq
   obtain ⟨rfl,rfl,_⟩ := hq
   simp at h2
   exact .inr (.inr (.inr (.inl ⟨.inl rfl,by omega⟩)))
  ·simp [tq] at hq
   obtain ⟨rfl,rfl,_⟩ := hq
   simp at h2
   exact .inr (.inr (.inr (.inl ⟨.inr rfl,by omega⟩)))
  ·simp [tq] at hq
   obtain ⟨rfl,rfl,_⟩ := hq
   simp at h2
   exact .inr (.inr (.inr (.inr (.inl ⟨by omega,by omega⟩))))
  ·simp [tq] at hq
   obtain ⟨rfl,rfl,_⟩ := hq
   simp at h2
   exact .inr (.inr (.inr (.inr (.inl ⟨by omega,by omega⟩))))
  ·simp [tq] at hq
   obtain ⟨rfl,rfl,_⟩ := hq
   simp at h2
   exact .inr (.inr (.inr (.inr (.inl ⟨by omega,by omega⟩))))
  ·simp [tq] at hq
   obtain ⟨rfl,rfl,_⟩ := hq
   simp at h2
   exact .inr (.inr (.inr (.inr (.inl ⟨by omega,by omega⟩))))
  ·simp [tq] at hq
   obtain ⟨rfl,rfl,_⟩ := hq
   simp at h2
   exact .inr (.inr (.inr (.inr (.inl ⟨by omega,by omega⟩))))
  ·simp [tq] at hq
   obtain ⟨rfl,rfl,_⟩ := hq
   simp at h2
   exact .inr (.inr (.inr (.inr (.inl ⟨by omega,by omega⟩))))
  ·simp [tq] at hq
   obtain ⟨rfl,rfl,_⟩ := hq
   simp at h2
   exact .inr (.inr (.inr (.inr (.inr (.inl ⟨rfl,by omega⟩)))))
  ·simp [tq] at hq
   obtain ⟨rfl,rfl,_⟩ := hq
   simp at h2
   exact .inr (.inr (.inr (.inr (.inr (.inr (.inl ⟨rfl,by omega⟩))))))
  ·simp [tq] at hq
   obtain ⟨rfl,rfl,_⟩ := hq
   simp at h2
   exact .inr (.inr (.inr (.inr (.inr (.inr (.inr (.inl ⟨rfl,by omega⟩)))))))
  ·simp [tq] at hq
   obtain ⟨rfl,rfl,_⟩ := hq
   simp at h2
   exact .inr (.inr (.inr (.inr (.inr (.inr (.inr (.inr (.inl ⟨rfl,by omega⟩))))))))
  ·simp [tq] at hq
   obtain ⟨rfl,rfl,_⟩ := hq
   simp at h2
   exact .inr (.inr (.inr (.inr (.inr (.inr (.inr (.inr (.inr (.inl ⟨rfl,by omega⟩)))))))))
  ·simp [tq] at hq
   obtain ⟨rfl,rfl,_⟩ := hq
   simp at h2
   exact .inr (.inr (.inr (.inr (.inr (.inr (.inr (.inr (.inr (.inr (.inl ⟨rfl,by omega⟩))))))))))
  ·simp [tq] at hq
   obtain ⟨rfl,rfl,_⟩ := hq
   simp at h2
   exact .inr (.inr (.inr (.inr (.inr (.inr (.inr (.inr (.inr (.inr (.inr (.inl ⟨rfl,by omega⟩)))))))))))
  ·simp [tq] at hq
   obtain ⟨rfl,rfl,_⟩ := hq
   simp at h2
   exact .inr (.inr (.inr (.inr (.inr (.inr (.inr (.inr (.inr (.inr (.inr (.inr (.inl ⟨rfl,by omega⟩))))))))))))
  ·simp [tq] at hq
   obtain ⟨rfl,rfl,_⟩ := hq
   simp at h2
   exact .inr (.inr (.inr (.inr (.inr (.inr (.inr (.inr (.inr (.inr (.inr (.inr (.inr (⟨rfl,by omega⟩)))))))))))))
  rw [qmc hout] at hq; cases hq
set_option maxHeartbeats 2000000 in
theorem qe9 (op : Int) (i s a : LI) (n h : Int) (nt : ByteArray) (l : List Tn) (hT : ∀ t ∈ l,zT t.1 t.2 = true) (hl : l.length ≤ 400) (h1 : op ≠ 1) (hF : zF op s.length a.length n h l.length = true) (ha : a.length ≤ 17592186043904) (k : Nat) (hk : a.length + 20000 ≤ k) :
  qbo.f k op i s a n h nt l = some (zWork op s a n h l) := by
 have g : ∀ j,j < l.length → zT (l.getD j ([],[])).1 (l.getD j ([],[])).2 = true := fun j hj => hT _ (qan hj _)
 have e3 : ∀ x : Int × LI × LI,(x.1,x.2.1,x.2.2) = x := fun _=>rfl
 rcases qi9 hF with ⟨rfl,m⟩ | ⟨rfl,m⟩ | ⟨rfl,m⟩ | ⟨rfl | rfl,m⟩ | ⟨c,m⟩ | ⟨rfl,m⟩ | ⟨rfl,m⟩ | ⟨rfl,m⟩ | ⟨rfl,m⟩ | ⟨rfl,m⟩ | ⟨rfl,m⟩ | ⟨rfl,m⟩ | ⟨rfl,m⟩ | ⟨rfl,m⟩
 ·exact absurd rfl h1
 ·simp only [qbo.f,zWork,Int.reduceEq,reduceIte]
  rw [qbv _ k (by omega),obs]
  by_cases hs : mSR s = true
  ·have hb := qah hs
   rw [if_pos hs,if_pos hs,qbu _ _ (by omega) k (by omega),obs]
  ·rw [if_neg hs,if_neg hs]
 ·simp only [qbo.f,zWork,Int.reduceEq,reduceIte]
  rw [qbv _ k (by omega),obs]
  by_cases hs : mSR s = true
  ·rw [if_pos hs,if_pos hs,qc6,obs]
   by_cases c1 : a.length = 1
   ·rw [decide_eq_true (show (a.length : Int) = 1 by omega),if_pos rfl,if_pos (by omega)]
    by_cases c2 : a.getD 0 0 < 0
    ·rw [if_pos c2,if_neg (by omega)]
    by_cases c3 : (s.length : Int) ≤ a.getD 0 0
    ·rw [if_neg c2,if_pos c3,if_neg (by omega)]
    have := qlD hs (a.getD 0 0).toNat (by omega) k (by omega)
    rw [show (((a.getD 0 0).toNat : Nat) : Int) = a.getD 0 0 by omega] at this
    rw [if_neg c2,if_neg c3,this,obs,if_pos (by omega)]
   ·rw [decide_eq_false (show ¬ (a.length : Int) = 1 by omega),if_neg (by decide),if_neg (by omega)]
  ·rw [if_neg hs,if_neg hs]
 ·simp only [qbo.f,zWork,Int.reduceEq,reduceIte,true_or]
  rw [if_pos (by omega),qjf _ _ _ k (by omega),if_pos (.inl rfl),if_pos (g 0 (by omega)),obs]
 ·simp only [qbo.f,zWork,Int.reduceEq,reduceIte,or_true]
  rw [if_pos (by omega),qjf _ _ _ k (by omega),if_pos (.inr rfl),if_pos (g 0 (by omega)),obs]
 ·unfold qbo.f zWork
  rw [if_neg (by omega),if_neg (by omega),if_neg (by omega),if_neg (by omega),if_neg (by omega),if_neg (by omega),if_neg (by omega),if_neg (by omega),if_neg (by omega),if_neg (by omega),if_neg (by omega),if_neg (by omega),if_neg (by omega),if_pos (by omega),if_pos (by omega),
   if_neg (by omega),if_neg (by omega),if_neg (by omega),if_neg (by omega),if_neg (by omega),if_neg (by omega),if_neg (by omega),if_neg (by omega),if_neg (by omega),if_neg (by omega),if_neg (by omega),if_neg (by omega),qm8 _ _ _ _ _ k (by omega),if_pos c,obs]
  by_cases e : (l.getD 1 ([],[])).1 = (l.getD 0 ([],[])).1
  ·rw [if_pos e,if_pos ⟨g 0 (by omega),g 1 (by omega),e⟩]
  ·rw [if_neg e,if_neg (fun hh => e hh.2.2)]
 ·simp only [qbo.f,zWork,Int.reduceEq,reduceIte,or_self]
  rw [if_pos (by omega),if_pos (by omega),if_pos (by omega),qlA _ _ _ _ _ _ k (by omega),obs]
  by_cases e : (l.getD 1 ([],[])).1 = (l.getD 0 ([],[])).1 ∧ (l.getD 2 ([],[])).1 = (l.getD 0 ([],[])).1
  ·rw [if_pos e,if_pos ⟨g 0 (by omega),⟨g 1 (by omega),e.1⟩,g 2 (by omega),e.2⟩]
  ·rw [if_neg e,if_neg (fun hh => e ⟨hh.2.1.2,hh.2.2.2⟩)]
 ·simp only [qbo.f,zWork,Int.reduceEq,reduceIte,or_self]
  rw [if_pos (by omega),qlz _ _ _ k (by omega),if_pos (g 0 (by omega)),obs]
 ·simp only [qbo.f,zWork,Int.reduceEq,reduceIte,or_self]
  rw [if_pos (by omega),qjQ _ _ _ _ k (by omega),if_pos (g 0 (by omega)),obs]
 ·simp only [qbo.f,zWork,Int.reduceEq,reduceIte,or_self]
  have hb := qcf (g 0 (by omega))
  rw [if_pos (by omega),qal (n := 2 * ((l.getD 0 ([],[])).1.length : Int)) (by omega) (by omega),qc6,obs]
  by_cases c : a.length = 2 * (l.getD 0 ([],[])).1.length
  ·rw [decide_eq_true (show (a.length : Int) = 2 * ((l.getD 0 ([],[])).1.length : Int) by omega),if_pos rfl,if_pos (by omega),if_pos (by omega),Int.toNat_natCast,List.drop_zero,List.take_length,qkE _ _ _ _ k (by omega),if_pos (g 0 (by omega)),obs]
   by_cases c2 : zSl (l.getD 0 ([],[])).1 (a.take (l.getD 0 ([],[])).1.length) (a.drop (l.getD 0 ([],[])).1.length) = true
   ·rw [if_pos c2,if_pos ⟨c,c2⟩]
   ·rw [if_neg c2,if_neg (fun hh => c2 hh.2)]
  ·rw [decide_eq_false (show ¬ (a.length : Int) = 2 * ((l.getD 0 ([],[])).1.length : Int) by omega),if_neg (by decide),if_neg (fun hh => c hh.1)]
 ·simp only [qbo.f,zWork,Int.reduceEq,reduceIte,or_self]
  have hb := qcf (g 0 (by omega))
  rw [if_pos (by omega),qal (n := 2 * ((l.getD 0 ([],[])).1.length : Int)) (by omega) (by omega),qc6,obs]
  by_cases c : a.length = 2 * (l.getD 0 ([],[])).1.length
  ·rw [decide_eq_true (show (a.length : Int) = 2 * ((l.getD 0 ([],[])).1.length : Int) by omega),if_pos rfl,if_pos (by omega),if_pos (by omega),Int.toNat_natCast,List.drop_zero,List.take_length,qm9 _ _ _ _ _ k (by omega),if_pos (g 0 (by omega)),obs]
   by_cases c2 : zMay (l.getD 0 ([],[])).1 (a.take (l.getD 0 ([],[])).1.length) (a.drop (l.getD 0 ([],[])).1.length) = true
   ·have cc := And.intro c c2
    rw [if_pos c2,if_pos cc]
   ·rw [if_neg c2,if_neg (fun hh => c2 hh.2)]
  ·rw [decide_eq_false (show ¬ (a.length : Int) = 2 * ((l.getD 0 ([],[])).1.length : Int) by omega),if_neg (by decide),if_neg (fun hh => c hh.1)]
 ·simp only [qbo.f,zWork,Int.reduceEq,reduceIte,or_self]
  rw [qc6,obs]
  by_cases c : a.length = 1
  ·rw [decide_eq_true (show (a.length : Int) = 1 by omega),if_pos rfl,if_pos (by omega),qlB _ _ hl k (by omega),obs,if_pos c]
  ·rw [decide_eq_false (show ¬ (a.length : Int) = 1 by omega),if_neg (by decide),if_neg c]
 ·simp only [qbo.f,zWork,Int.reduceEq,reduceIte,or_self]
  rw [if_pos (by omega),qlC _ _ _ _ ha k (by omega),if_pos (g 0 (by omega)),obs]
 ·simp only [qbo.f,zWork,Int.reduceEq,reduceIte,or_self]
  rw [qc6,obs]
  by_cases c : a.length = 1
  ·rw [decide_eq_true (show (a.length : Int) = 1 by omega),if_pos rfl,if_pos (by omega),if_pos (by omega),if_pos (by omega),qna _ _ _ _ _ k (by omega),if_pos ⟨g 0 (by omega),g 1 (by omega)⟩,obs,if_pos c]
  ·rw [decide_eq_false (show ¬ (a.length : Int) = 1 by omega),if_neg (by decide),if_neg c]
 ·simp only [qbo.f,zWork,Int.reduceEq,reduceIte,or_self]
  rw [qc6,obs]
  by_cases c : a.length = 3
  ·rw [decide_eq_true (show (a.length : Int) = 3 by omega),if_pos rfl,if_pos (by omega),if_pos (by omega),if_pos (by omega),if_pos (by omega),qjP _ _ _ _ _ _ k (by omega),if_pos (g 0 (by omega)),obs]
   by_cases c2 : (1 ≤ h ∧ h ≤ 4) ∧ (1 ≤ a.getD 1 0 ∧ a.getD 1 0 ≤ 32) ∧ 1 ≤ a.getD 2 0 ∧ a.getD 2 0 ≤ 32
   ·by_cases c3 : 0 ≤ a.getD 0 0 ∧ a.getD 0 0 < ((l.getD 0 ([],[])).1.length : Int)
    ·rw [if_pos c2,if_pos c3,if_pos ⟨c,c2,c3⟩]
    ·rw [if_pos c2,if_neg c3,if_neg (fun hh => c3 hh.2.2)]
   ·rw [if_neg c2,if_neg (fun hh => c2 hh.2.1)]
  ·rw [decide_eq_false (show ¬ (a.length : Int) = 3 by omega),if_neg (by decide),if_neg (fun hh => c hh.1)]
theorem qkk {op : Int} {s a : LI} {n h : Int} {l : List Tn} (hT : ∀ t ∈ l,zT t.1 t.2 = true) (h1 : op ≠ 1) (hF : zF op s.length a.length n h l.length = true) : shp (zWork op s a n h l) = zShape op s a h (l.map (·.1)) := by
  have g0 : 0 < l.length → (l.map (·.1)).getD 0 [] = (l.getD 0 ([],[])).1 := fun hl => by
    cases l with
    | nil => simp at hl
    | cons _ _ => rfl
  have g1 : 1 < l.length → (l.map (·.1)).getD 1 [] = (l.getD 1 ([],[])).1 := fun hl => by
    rcases l with _ | ⟨_,_ | ⟨_,_⟩⟩
    · simp at hl
    · simp at hl
    · rfl
  have ite3 : ∀ (p : Prop) [Decidable p] (x y : Int × LI × LI),shp (if p then x else y) = if p then shp x else shp y := fun p _ x y => by split <;> rfl
  rcases qi9 hF with ⟨rfl,m⟩ | ⟨rfl,m⟩ | ⟨rfl,m⟩ | ⟨rfl | rfl,m⟩ | ⟨c,m⟩ | ⟨rfl,m⟩ | ⟨rfl,m⟩ | ⟨rfl,m⟩ | ⟨rfl,m⟩ | ⟨rfl,m⟩ | ⟨rfl,m⟩ | ⟨rfl,m⟩ | ⟨rfl,m⟩ | ⟨rfl,m⟩
  · exact absurd rfl h1
  · simp only [zWork,zShape,Int.reduceEq,reduceIte,or_true,or_false,false_or,ite3]; rfl
  · simp only [zWork,zShape,Int.reduceEq,reduceIte,or_self,ite3]; rfl
  · obtain ⟨t,rfl⟩ : ∃ t,l = [t] := List.length_eq_one_iff.1 (by omega)
    simp only [zWork,zShape,Int.reduceEq,reduceIte,or_self,or_true,true_or]
    simp [shp]
  · obtain ⟨t,rfl⟩ : ∃ t,l = [t] := List.length_eq_one_iff.1 (by omega)
    simp only [zWork,zShape,Int.reduceEq,reduceIte,or_self,or_true,true_or]
    simp [shp]
  · obtain ⟨t,u,rfl⟩ : ∃ t u,l = [t,u] := by
      rcases l with _ | ⟨t,_ | ⟨u,_ | ⟨_,_⟩⟩⟩
      · simp at m
      · simp at m
      · exact ⟨t,u,rfl⟩
      · simp at m; omega
    have e1 : zWork op s a n h [t,u] = if ([t,u].getD 1 ([],[])).1 = ([t,u].getD 0 ([],[])).1 then (0,([t,u].getD 0 ([],[])).1,zTwo op ([t,u].getD 0 ([],[])).2 ([t,u].getD 1 ([],[])).2) else (13,[],[]) := by
      unfold zWork
      rw [if_neg (by omega),if_neg (by omega),if_neg (by omega),if_neg (by omega),if_neg (by omega),if_neg (by omega),if_neg (by omega),if_neg (by omega),if_neg (by omega),if_neg (by omega),if_neg (by omega),if_neg (by omega)]
    have e2 : ∀ l,zShape op s a h l = if l.all (fun t => decide (t = l.getD 0 [])) = true then (0,l.getD 0 []) else (13,[]) := fun l => by
      unfold zShape
      rw [if_neg (by omega),if_neg (by omega),if_neg (by omega),if_neg (by omega),if_neg (by omega),if_neg (by omega),if_neg (by omega),if_neg (by omega),if_neg (by omega),if_neg (by omega)]
    rw [e1,e2,ite3]
    simp [shp]
  · obtain ⟨t,u,v,rfl⟩ : ∃ t u v,l = [t,u,v] := by
      rcases l with _ | ⟨t,_ | ⟨u,_ | ⟨v,_ | ⟨_,_⟩⟩⟩⟩
      · simp at m
      · simp at m
      · simp at m
      · exact ⟨t,u,v,rfl⟩
      · simp at m; omega
    simp only [zWork,zShape,Int.reduceEq,reduceIte,or_self,ite3]
    simp [shp]
  · simp only [zWork,zShape,Int.reduceEq,reduceIte,or_self,ite3,g0 (by omega)]; rfl
  · simp only [zWork,zShape,Int.reduceEq,reduceIte,or_self,ite3,g0 (by omega)]; rfl
  · simp only [zWork,zShape,Int.reduceEq,reduceIte,or_self,ite3,g0 (by omega)]; rfl
  · simp only [zWork,zShape,Int.reduceEq,reduceIte,or_self,ite3,g0 (by omega)]; rfl
  · simp only [zWork,zShape,Int.reduceEq,reduceIte,or_self,ite3]
    have : shp (zJoin (a.getD 0 0) l) = zJs (a.getD 0 0) (l.map (·.1)) := by
      unfold zJoin
      rw [if_pos (List.all_eq_true.2 hT)]
      by_cases c : (zJs (a.getD 0 0) (l.map (·.1))).1 = 0
      · rw [if_pos c]
        exact Prod.ext c.symm rfl
      · rw [if_neg c]
        show (if (zJs (a.getD 0 0) (l.map (·.1))).1 = 0 then _ else _) = _
        rw [if_neg c]
        unfold zJs at c ⊢
        split
        · rfl
        · rename_i c2
          rw [if_neg c2] at c
          split
          · rename_i o ho
            rw [ho] at c
            split
            · rename_i c3
              dsimp only at c
              rw [if_pos c3] at c; exact absurd rfl c
            · rfl
          · rfl
    rw [this]; rfl
  · simp only [zWork,zShape,Int.reduceEq,reduceIte,or_self,ite3,g0 (by omega)]; rfl
  · simp only [zWork,zShape,Int.reduceEq,reduceIte,or_self,ite3,g0 (by omega),g1 (by omega)]
    have : ∀ x : Int × LI,(x.1 ≠ 0 → x.2 = []) → ∀ d : LI,(if x.1 = 0 then shp (0,x.2,d) else shp (x.1,[],[])) = x := fun x hx d => by
      by_cases c : x.1 = 0
      · rw [if_pos c]; show (0,x.2) = x; rw [← c]
      · rw [if_neg c]
        show (if x.1 = 0 then _ else _) = x
        rw [if_neg c,← hx c]
    rw [this _ (fun c => by
      unfold zDS at c ⊢
      split
      · rfl
      · rename_i c1
        rw [if_neg c1] at c
        split
        · rename_i c2
          rw [if_pos c2] at c
          split
          · rename_i c3; rw [if_pos c3] at c; exact absurd rfl c
          · rfl
        · rfl)]; rfl
  · simp only [zWork,zShape,Int.reduceEq,reduceIte,or_self,ite3,g0 (by omega)]; rfl
def zSh (op : Int) (s a : LI) (n h : Int) (l : List LI) : Int × LI :=
 if zF op s.length a.length n h l.length = true then (if l.all mSR = true then zShape op s a h l else (13,[])) else (1,[])
theorem qdO (op : Int) (i s a : LI) (n h : Int) (nt : ByteArray) (l : List LI) (hl : l.length ≤ 400) (ha : a.length ≤ 17592186043904) (k : Nat) (hk : a.length + 20000 ≤ k) :
  qbp.f k op i s a n h nt l = some (zSh op s a n h l) := by
 unfold qbp.f zSh
 rw [qkG,obs]
 by_cases hF : zF op s.length a.length n h l.length = true
 rotate_left
 ·rw [if_neg hF,if_neg hF]
 rw [if_pos hF,if_pos hF,qiY k (by omega) l (by omega),obs]
 by_cases hA : l.all mSR = true
 rotate_left
 ·rw [if_neg hA,if_neg hA]; rfl
 rw [if_pos hA,if_pos hA,Sum.elim_inl]
 by_cases h1 : op = 1
 ·subst h1
  rw [if_pos rfl,qbv _ k (by omega),obs]
  simp only [zShape,Int.reduceEq,reduceIte,true_or]
  by_cases c : mSR s = true
  ·have hb := qah c
   rw [if_pos c,if_pos c,if_pos (by omega),List.nil_append]
  ·rw [if_neg c,if_neg c]
 ·have hT : ∀ t ∈ l.map nou,zT t.1 t.2 = true := List.all_eq_true.1 (qqc hA)
  have hF' : zF op s.length a.length n h ((l.map nou).length) = true := by rw [List.length_map]; exact hF
  have hs := qkk (n := n) hT h1 hF'
  rw [qqb] at hs
  rw [if_neg h1,qe9 op i s a n h nt (l.map nou) hT (by rw [List.length_map]; exact hl) h1 hF' ha k hk,obs,← hs]
  unfold shp
  by_cases c : (zWork op s a n h (l.map nou)).1 = 0
  ·rw [if_pos c,if_pos c]
  ·rw [if_neg c,if_neg c]
end Go.Pf

namespace Go.Pf
open Go Go.Vm
theorem qkg (a : LI) (m : Int) (ha : a.length ≤ 17592186043904) (k : Nat) (hk : a.length < k) : qbi.f k a m = some (zRi m (-1) a) := by
 have := iter0 (L := fun n i l => qbi.l0 n m l a a.length i) (st := fun i => if i = 0 then -1 else a.getD (i - 1) 0) (fun i => if zRi m (if i = 0 then -1 else a.getD (i - 1) 0) (a.drop i) = true then .inl () else .inr false) (m := a.length) 0
  (fun n _ => by rw [qbi.l0,if_neg (by omega),List.drop_eq_nil_of_le (Nat.le_refl _)]; rfl)
  (fun i n hi _ ih => by
   rw [if_neg (show ¬ i + 1 = 0 by omega),Nat.add_sub_cancel] at ih
   generalize (if i = 0 then (-1 : Int) else a.getD (i - 1) 0) = l
   rw [qbi.l0,if_pos (by omega),if_pos (by omega),Int.toNat_natCast,qae hi (0 : Int)]
   generalize a.getD i 0 = b at ih ⊢
   by_cases c1 : b ≤ l
   ·rw [if_pos c1,if_neg (by rw [qc1]; omega)]
   by_cases c2 : m ≤ b
   ·rw [if_neg c1,if_pos c2,if_neg (by rw [qc1]; omega)]
   rw [if_neg c1,if_neg c2,qao hi (by omega),ih]
   by_cases c : zRi m b (a.drop (i + 1)) = true
   ·rw [if_pos c,if_pos (qc1.2 ⟨by omega,c⟩)]
   ·rw [if_neg c,if_neg (fun hh => c (qc1.1 hh).2)]) k (by omega)
 unfold qbi.f
 have this : qbi.l0 k m (-1) a a.length 0 = some (if zRi m (-1) (a.drop 0) = true then .inl () else .inr false) := this
 rw [this,List.drop_zero,obs]
 cases zRi m (-1) a <;> rfl
theorem qef (a b : LI) (ha : a.length ≤ 17592186043904) (k : Nat) (hk : a.length < k) : qdk.f k a b = some (decide (a = b)) := by
 unfold qdk.f
 rw [qgd a b ha k hk,obs]
theorem qqT {n : Int} (h0 : 0 ≤ n) (h : n ≤ 1000000) : qcU.f n = some [] := by
 unfold qcU.f
 rw [if_neg (by omega),show (IntKind.i64.wrap (0 - 0) : Int) = 0 by decide,Int.sub_zero,qal (by omega) (by omega)]
 by_cases c : 0 < n
 ·rw [if_pos c,if_pos (by decide),if_pos (by omega),if_pos (by omega),List.take_zero]
 ·rw [if_neg c]
theorem qpc {a b : LI} (ha : a.length ≤ 1000) (hb : b.length ≤ 1000) (k : Nat) (hk : 10 ≤ k) : qap.f k [a,b] = some (a ++ b) := by
 obtain ⟨n,rfl⟩ : ∃ m,k = m + 3 := ⟨k - 3,by omega⟩
 have l0 : qap.l0 (n + 3) [a,b] 0 [a,b] 2 0 = some ((a.length : Int) + (b.length : Int)) := by
  rw [qap.l0,if_pos (by decide),if_pos ⟨by decide,by show (0 : Int) < 2; decide⟩,show ([a,b].getD (0 : Int).toNat []) = a from rfl,Int.zero_add,qal (n := (a.length : Int)) (by omega) (by omega),if_neg (by omega),
   show (IntKind.i64.wrap (0 + 1) : Int) = 1 by decide,qap.l0,if_pos (by decide),if_pos ⟨by decide,by show (1 : Int) < 2; decide⟩,show ([a,b].getD (1 : Int).toNat []) = b from rfl,qal (n := (a.length : Int) + (b.length : Int)) (by omega) (by omega),if_neg (by omega),
   show (IntKind.i64.wrap (1 + 1) : Int) = 2 by decide,qap.l0,if_neg (by decide)]
 have l1 : qap.l1 (n + 3) [a,b] 2 0 [] = some (a ++ b) := by
  rw [qap.l1,if_pos (by decide),if_pos ⟨by decide,by show (0 : Int) < 2; decide⟩,show ([a,b].getD (0 : Int).toNat []) = a from rfl,if_pos (by rw [List.length_nil]; omega),
   show (IntKind.i64.wrap (0 + 1) : Int) = 1 by decide,qap.l1,if_pos (by decide),if_pos ⟨by decide,by show (1 : Int) < 2; decide⟩,show ([a,b].getD (1 : Int).toNat []) = b from rfl,List.nil_append,if_pos (by omega),
   show (IntKind.i64.wrap (1 + 1) : Int) = 2 by decide,qap.l1,if_neg (by decide)]
 unfold qap.f
 rw [show (([a,b] : List LI).length : Int) = 2 from rfl,l0,obs,qqT (by omega) (by omega),obs,l1,obs]
theorem qiI (a b : LI) (n : Int) (k : Nat) (hk : 5000 ≤ k) : qeE.f k a b n = some (zDS a b n) := by
 unfold qeE.f zDS
 by_cases c1 : n < 0
 ·rw [if_pos c1,if_pos (.inl c1)]
 by_cases c2 : (a.length : Int) ≤ n
 ·rw [if_neg c1,if_pos c2,if_pos (.inr (.inl c2))]
 by_cases c3 : (b.length : Int) ≤ n
 ·rw [if_neg c1,if_neg c2,if_pos c3,if_pos (.inr (.inr c3))]
 rw [if_neg c1,if_neg c2,if_neg c3,if_neg (show ¬ (n < 0 ∨ (a.length : Int) ≤ n ∨ (b.length : Int) ≤ n) by omega),qbg a k (by omega),obs]
 by_cases ra : mSR a = true
 rotate_left
 ·rw [if_neg ra,if_neg (fun h => ra h.1)]
 rw [if_pos ra,qbg b k (by omega),obs]
 by_cases rb : mSR b = true
 rotate_left
 ·rw [if_neg rb,if_neg (fun h => rb h.2.1)]
 have ha := qah ra
 have hb := qah rb
 rw [if_pos rb,if_pos (by omega),if_pos (by omega),List.drop_zero,List.drop_zero,qef _ _ (by rw [List.length_take]; omega) k (by rw [List.length_take]; omega),obs]
 by_cases c4 : a.take n.toNat = b.take n.toNat
 rotate_left
 ·rw [decide_eq_false c4,if_neg (by decide),if_neg (fun h => c4 h.2.2.1)]
 rw [decide_eq_true c4,if_pos rfl,qal (n := (a.length : Int) - 1) (by omega) (by omega),if_pos (by omega),if_pos (by omega),show ((a.length : Int) - 1).toNat = a.length - 1 by omega]
 by_cases c5 : a.getD (a.length - 1) 0 = b.getD n.toNat 0
 rotate_left
 ·rw [if_neg c5,if_neg (fun h => c5 h.2.2.2)]
 rw [if_pos c5,if_pos (by omega),List.drop_zero,qal (n := n + 1) (by omega) (by omega),if_pos (by omega),List.take_length,show (n + 1).toNat = n.toNat + 1 by omega,qpc (by rw [List.length_take]; omega) (by rw [List.length_drop]; omega) k (by omega),obs,if_pos ⟨ra,rb,c4,c5⟩]
 show (qaN.f k (dsh a b n.toNat)).bind _ = _
 rw [qbg _ k (by omega),obs]
 by_cases c6 : mSR (dsh a b n.toNat) = true
 ·rw [if_pos c6,if_pos c6]; rfl
 ·rw [if_neg c6,if_neg c6]
theorem ql3 {m : Int} : ∀ {l : Int} {a : LI},zRi m l a = true → ∀ k ∈ a,l < k
 | _,[],_,_,h => by cases h
 | l,b :: a,h,k,hk => by
  obtain ⟨h1,h2⟩ := qc1.1 h
  rcases List.mem_cons.1 hk with e | hk
  ·omega
  ·have := ql3 h2 k hk; omega
theorem qfm (s : LI) (hs : s.length ≤ 1000) (a0 : LI) : ∀ (e i : Nat) (a y : LI) (l : Int) (n : Nat),s.length = i + e → e < n → y.length ≤ i → zRi s.length l a = true → l < i → (∀ x ∈ a,(i : Int) ≤ x) → (∀ j : Nat,i ≤ j → ((j : Int) ∈ a0 ↔ (j : Int) ∈ a)) →
    qbK.l0 n a s s.length i y = some (y ++ lefI a0 i (s.drop i))
  | 0,i,a,y,l,n,hi,hn,_,_,_,_,_ => by
    obtain ⟨n,rfl⟩ : ∃ m,n = m + 1 := ⟨n - 1,by omega⟩
    rw [qbK.l0,if_neg (by omega),List.drop_eq_nil_of_le (by omega),lefI,List.append_nil]
  | e + 1,i,a,y,l,n,hi,hn,hy,hr,hl,hm,ha => by
    obtain ⟨n,rfl⟩ : ∃ m,n = m + 1 := ⟨n - 1,by omega⟩
    rw [qbK.l0,if_pos (by omega),if_pos (by omega),Int.toNat_natCast,qao (show i < s.length by omega) (by omega),qae (show i < s.length by omega) (0 : Int),lefI]
    have keep : ((i : Int) ∉ a) → qbK.l0 n a s s.length ((i + 1 : Nat) : Int) (y ++ [s.getD i 0]) = some (y ++ (if (i : Int) ∈ a0 then lefI a0 (i + 1) (s.drop (i + 1)) else s.getD i 0 :: lefI a0 (i + 1) (s.drop (i + 1)))) := fun hna => by
      rw [qfm s hs a0 e (i + 1) a (y ++ [s.getD i 0]) l n (by omega) (by omega) (by simp; omega) hr (by omega) (fun x hx => by
        have := hm x hx
        have : x ≠ (i : Int) := fun h => hna (h ▸ hx)
        omega) (fun j hj => ha j (by omega)),if_neg (fun h => hna ((ha i (Nat.le_refl _)).1 h)),List.append_assoc]; rfl
    have hb : y.length + [s.getD i 0].length ≤ 281474976710656 ∧ (y.length + [s.getD i 0].length) * 8 ≤ 140737488355328 := by rw [List.length_singleton]; omega
    cases a with
    | nil =>
      rw [if_neg (by simp),if_pos hb]
      exact keep (by simp)
    | cons b r =>
      rw [if_pos (by simp),if_pos ⟨by decide,by simp⟩]
      show (if b = (i : Int) then _ else _) = _
      obtain ⟨h1,h2⟩ := qc1.1 hr
      have hbi := hm b (List.mem_cons_self ..)
      by_cases c : b = (i : Int)
      · rw [if_pos c,if_pos ⟨by decide,by simp; omega,by omega⟩,List.take_length,List.drop_one]
        show qbK.l0 n r s s.length ((i + 1 : Nat) : Int) y = _
        rw [qfm s hs a0 e (i + 1) r y b n (by omega) (by omega) (by omega) h2 (by omega) (fun x hx => by
          have := ql3 h2 x hx
          omega) (fun j hj => by
            rw [ha j (by omega),List.mem_cons]
            constructor
            · rintro (h | h)
              · omega
              · exact h
            · exact .inr),if_pos ((ha i (Nat.le_refl _)).2 (by rw [c]; exact List.mem_cons_self ..))]
      · rw [if_neg c,if_pos hb]
        exact keep (fun h => by
          rcases List.mem_cons.1 h with h | h
          · exact c h.symm
          · have := ql3 h2 _ h; omega)
theorem qf2 (s a : LI) (hs : s.length ≤ 1000) (ha : a.length ≤ 17592186043904) (k : Nat) (hk : a.length + 1001 ≤ k) : qbK.f k s a = some (if zRi s.length (-1) a = true then (0,lef a s) else (1,[])) := by
 unfold qbK.f
 rw [qkg a _ ha k (by omega),obs]
 by_cases c : zRi s.length (-1) a = true
 ·have := qfm s hs a s.length 0 a [] (-1) k (by omega) (by omega) (by simp) c (by omega) (fun x hx => by have := ql3 c x hx; omega) (fun _ _ => Iff.rfl)
  rw [n0,List.drop_zero,List.nil_append] at this
  rw [if_pos c,if_pos c,this,obs]; rfl
 ·rw [if_neg c,if_neg c]
theorem qfl (h : Int) : qdv.f h = some (decide (1 ≤ h ∧ h ≤ 4)) := by
 unfold qdv.f
 by_cases c : 1 ≤ h
 ·rw [if_pos c]; simp [c]
 ·rw [if_neg c]; simp [c]
theorem qhl (h w a : Int) : qdV.f h w a = some (decide ((1 ≤ h ∧ h ≤ 4) ∧ (1 ≤ w ∧ w ≤ 32) ∧ 1 ≤ a ∧ a ≤ 32)) := by
 have m : ∀ x,qdj.f x = some (decide (1 ≤ x ∧ x ≤ 32)) := fun x => by
  unfold qdj.f
  by_cases c : 1 ≤ x
  ·rw [if_pos c]; simp [c]
  ·rw [if_neg c]; simp [c]
 unfold qdV.f
 rw [qfl,obs,m,m]
 by_cases c1 : 1 ≤ h ∧ h ≤ 4
 rotate_left
 ·rw [decide_eq_false c1,if_neg (by decide),decide_eq_false (fun h => c1 h.1)]
 rw [decide_eq_true c1,if_pos rfl,obs]
 by_cases c2 : 1 ≤ w ∧ w ≤ 32
 rotate_left
 ·rw [decide_eq_false c2,if_neg (by decide),decide_eq_false (fun h => c2 h.2.1)]
 rw [decide_eq_true c2,if_pos rfl,obs]
 simp [c1,c2]
theorem qhk {n w ap : Int} (hn : n ≤ 1000) (hn0 : 0 ≤ n) (hw : w ≤ 1000) (hw0 : 0 ≤ w) : qdU.f n w ap = some (zWn n w ap) := by
 unfold qdU.f zWn
 by_cases c1 : n < 0
 ·omega
 by_cases c2 : w < 1
 ·rw [if_neg c1,if_pos c2,if_pos (.inr (.inl c2))]
 by_cases c3 : ap < 1
 ·rw [if_neg c1,if_neg c2,if_pos c3,if_pos (.inr (.inr (.inl c3)))]
 by_cases c4 : n < w
 ·rw [if_neg c1,if_neg c2,if_neg c3,if_pos c4,if_pos (.inr (.inr (.inr c4)))]
 have h1 : 0 ≤ (n - w) / ap := Int.ediv_nonneg (by omega) (by omega)
 have h2 : (n - w) / ap ≤ n - w := Int.ediv_le_self _ (by omega)
 rw [if_neg c1,if_neg c2,if_neg c3,if_neg c4,if_pos (by omega),if_neg (by omega),qal (n := n - w) (by omega) (by omega),Int.tdiv_eq_ediv_of_nonneg (by omega),qal (n := (n - w) / ap) (by omega) (by omega),qal (n := (n - w) / ap + 1) (by omega) (by omega)]
theorem qj6 (k : Nat) (l : List LI) (h0 : 0 < l.length) (hl : l.length ≤ 1000) (hb : ∀ s ∈ l,s.length ≤ 1000) (hk : 5000 ≤ k) :
  qd8.f k l = some (if l.all (fun t => decide (t = l.getD 0 [])) = true then (l.getD 0 [],0) else ([],13)) := by
 have := iter0 (L := fun n i (_ : Unit) => qaj.l0 k n l l.length i l) (st := fun _=>()) (fun i => if (l.drop i).all (fun t => decide (t = l.getD 0 [])) = true then .inl () else .inr ((i + ((l.drop i).takeWhile (fun t => decide (t = l.getD 0 []))).length : Nat) : Int)) (m := l.length) 0
  (fun n _ => by rw [qaj.l0,if_neg (by omega),List.drop_eq_nil_of_le (Nat.le_refl _)]; rfl)
  (fun i n hi _ ih => by
   have hm := hb _ (qan hi ([] : LI))
   rw [qaj.l0,if_pos (by omega),if_pos (by omega),Int.toNat_natCast,qdR.f,if_pos (by omega),qef _ _ (by omega) k (by omega),obs,obs,qae hi ([] : LI),List.all_cons,List.takeWhile_cons]
   by_cases c : l.getD i [] = l.getD 0 []
   ·rw [decide_eq_true c,if_neg (show ¬ (!true) = true from Bool.false_ne_true),qao hi (by omega),ih,Bool.true_and,if_pos rfl,List.length_cons,Nat.add_assoc i 1,Nat.add_comm 1]
   ·rw [decide_eq_false c,if_pos (show (!false) = true from rfl),Bool.false_and,if_neg Bool.false_ne_true,if_neg Bool.false_ne_true]; rfl) k (by omega)
 rw [List.drop_zero] at this
 unfold qd8.f qaX.f qaj.f
 rw [this,obs]
 by_cases c : l.all (fun t => decide (t = l.getD 0 [])) = true
 ·rw [if_pos c,if_pos c,Sum.elim_inl,obs,obs,if_neg (by decide),if_pos (by omega)]
 ·rw [if_neg c,if_neg c,Sum.elim_inr,obs,obs,if_pos (by rw [decide_eq_true_eq]; omega)]
theorem qhN (k : Nat) (l : List LI) (hl : l.length ≤ 1000) (hk : 5000 ≤ k) : qaL.f k l = some (!l.all mSR) := by
 have := iter0 (L := fun n i (_ : Unit) => qak.l0 k n l l.length i) (st := fun _=>()) (fun i => if (l.drop i).all mSR = true then .inl () else .inr ((i + ((l.drop i).takeWhile mSR).length : Nat) : Int)) (m := l.length) 0
  (fun n _ => by rw [qak.l0,if_neg (by omega),List.drop_eq_nil_of_le (Nat.le_refl _)]; rfl)
  (fun i n hi _ ih => by
   rw [qak.l0,if_pos (by omega),if_pos (by omega),Int.toNat_natCast,qdS.f,qbg _ k (by omega),obs,obs,qae hi ([] : LI),List.all_cons,List.takeWhile_cons]
   cases c : mSR (l.getD i [])
   ·rw [if_pos (show (!false) = true from rfl),Bool.false_and,if_neg Bool.false_ne_true,if_neg Bool.false_ne_true]; rfl
   ·rw [if_neg (show ¬ (!true) = true from Bool.false_ne_true),qao hi (by omega),ih,Bool.true_and,if_pos rfl,List.length_cons,Nat.add_assoc i 1,Nat.add_comm 1]) k (by omega)
 rw [List.drop_zero] at this
 unfold qaL.f qak.f
 rw [this,obs]
 cases c : l.all mSR
 ·rw [if_neg (by decide),Sum.elim_inr,obs,decide_eq_true (by omega)]; rfl
 ·rw [if_pos rfl,Sum.elim_inl,obs]; rfl
end Go.Pf

namespace Go.Pf
open Go Go.Vm
theorem qh2 {l : List LI} (h : l.all mSR = true) : ∀ s ∈ l,s.length ≤ 4 ∧ ∀ x ∈ s,0 ≤ x ∧ x ≤ 32 := fun s hs => by
 have := qah (List.all_eq_true.1 h s hs)
 exact ⟨this.1,this.2.1⟩
set_option maxHeartbeats 1000000 in
theorem qiA (op : Int) (i s a : LI) (n h : Int) (nt : ByteArray) (l : List LI) (hl : l.length ≤ 400) (hA : l.all mSR = true) (hF : zF op s.length a.length n h l.length = true) (ha : a.length ≤ 17592186043904) (k : Nat) (hk : a.length + 20000 ≤ k) :
    ∃ x,qa9.f k op i s a n h nt l = some (x,(zShape op s a h l).1) ∧ ((zShape op s a h l).1 = 0 → x = (zShape op s a h l).2 ∧ x.length ≤ 1000) := by
  have hR : ∀ j,j < l.length → mSR (l.getD j []) = true := fun j hj => List.all_eq_true.1 hA _ (qan hj _)
  have fin : ∀ {o : Option (LI × Int)} {z : Int × LI},o = some (z.2,z.1) → (z.1 = 0 → z.2.length ≤ 1000) → ∃ x,o = some (x,z.1) ∧ (z.1 = 0 → x = z.2 ∧ x.length ≤ 1000) := fun {o z} e hz => ⟨z.2,e,fun h => ⟨rfl,hz h⟩⟩
  have len4 : ∀ {x : LI},mSR x = true → x.length ≤ 1000 := fun h => by have := (qah h).1; omega
  have given : ∀ op,op = 1 ∨ op = 2 ∨ op = 3 → qdg.f k op i s a n h nt = some ((zShape op s a h l).2,(zShape op s a h l).1) ∧ ((zShape op s a h l).1 = 0 → (zShape op s a h l).2.length ≤ 1000) := fun op ho => by
    unfold qdg.f
    rw [qbg _ k (by omega),obs]
    by_cases c : mSR s = true
    · have h4 := (qah c).1
      rw [if_pos c]
      by_cases c3 : op = 3
      · subst c3
        simp only [zShape,Int.reduceEq,reduceIte,or_self,if_pos c]
        by_cases c1 : a.length = 1
        · rw [if_pos (by omega),if_pos (by omega)]
          by_cases c2 : a.getD 0 0 < 0
          · rw [if_pos c2,if_neg (by omega)]; exact ⟨rfl,fun h => by simp at h⟩
          by_cases c3 : (s.length : Int) ≤ a.getD 0 0
          · rw [if_neg c2,if_pos c3,if_neg (by omega)]; exact ⟨rfl,fun h => by simp at h⟩
          rw [if_neg c2,if_neg c3,if_pos (by omega)]; exact ⟨rfl,fun _=>by show s.length ≤ 1000; omega⟩
        · rw [if_neg (by omega),if_neg (by omega)]; exact ⟨rfl,fun h => by simp at h⟩
      · have e : zShape op s a h l = (0,s) := by
          unfold zShape
          rw [if_pos (by omega),if_pos c]
        rw [if_neg c3,e]; exact ⟨rfl,fun _=>by show s.length ≤ 1000; omega⟩
    · have e : zShape op s a h l = (13,[]) := by
        unfold zShape
        by_cases c3 : op = 3
        · rw [if_neg (by omega),if_pos c3,if_neg c]
        · rw [if_pos (by omega),if_neg c]
      rw [if_neg c,e]; exact ⟨rfl,fun h => by simp at h⟩
  have alike : ∀ op,4 ≤ op ∧ op ≤ 12 → 0 < l.length → ∃ x,qa9.f k op i s a n h nt l = some (x,(zShape op s a h l).1) ∧ ((zShape op s a h l).1 = 0 → x = (zShape op s a h l).2 ∧ x.length ≤ 1000) := fun op ho h0 => by
    have h4 := (qah (hR 0 h0)).1
    have e2 : zShape op s a h l = if l.all (fun t => decide (t = l.getD 0 [])) = true then (0,l.getD 0 []) else (13,[]) := by
      unfold zShape
      rw [if_neg (by omega),if_neg (by omega),if_neg (by omega),if_neg (by omega),if_neg (by omega),if_neg (by omega),if_neg (by omega),if_neg (by omega),if_neg (by omega),if_neg (by omega)]
    rw [e2]
    unfold qa9.f
    rw [if_neg (by omega),if_neg (by omega),if_neg (by omega),if_neg (by omega),if_neg (by omega),if_neg (by omega),if_neg (by omega),if_neg (by omega),if_neg (by omega),if_neg (by omega),if_neg (by omega),
      qj6 k l h0 (by omega) (fun s hs => by have := (qh2 hA s hs).1; omega) (by omega),obs]
    split
    · exact ⟨l.getD 0 [],rfl,fun _=>⟨rfl,by omega⟩⟩
    · exact ⟨_,rfl,fun h => by simp at h⟩
  rcases qi9 hF with ⟨rfl,m⟩ | ⟨rfl,m⟩ | ⟨rfl,m⟩ | ⟨rfl | rfl,m⟩ | ⟨c,m⟩ | ⟨rfl,m⟩ | ⟨rfl,m⟩ | ⟨rfl,m⟩ | ⟨rfl,m⟩ | ⟨rfl,m⟩ | ⟨rfl,m⟩ | ⟨rfl,m⟩ | ⟨rfl,m⟩ | ⟨rfl,m⟩
  · obtain ⟨g1,g2⟩ := given 1 (by omega)
    refine fin ?_ g2
    unfold qa9.f
    rw [if_pos rfl,g1,obs]
  · obtain ⟨g1,g2⟩ := given 2 (by omega)
    refine fin ?_ g2
    unfold qa9.f
    rw [if_neg (by decide),if_pos rfl,g1,obs]
  · obtain ⟨g1,g2⟩ := given 3 (by omega)
    refine fin ?_ g2
    unfold qa9.f
    rw [if_neg (by decide),if_neg (by decide),if_pos rfl,g1,obs]
  · exact alike 4 (by omega) (by omega)
  · exact alike 5 (by omega) (by omega)
  · exact alike op (by omega) (by omega)
  · exact alike 12 (by omega) (by omega)
  · -- turn
    have hr := hR 0 (by omega)
    have h4 := (qah hr).1
    simp only [qa9.f,zShape,Int.reduceEq,reduceIte,or_self]
    rw [if_pos (by omega),qgP h4 a k (by omega),obs]
    refine fin rfl fun _=>?_
    split
    · rename_i hp
      show (List.map _ a).length ≤ 1000
      have := (qey.1 hp).len
      rw [List.length_map]; omega
    · rename_i hp
      exact Nat.zero_le _
  · -- spread
    have hr := hR 0 (by omega)
    have h4 := (qah hr).1
    simp only [qa9.f,zShape,Int.reduceEq,reduceIte,or_self]
    rw [if_pos (by omega),qhG h4 s a k (by omega),obs]
    by_cases c : mSR s = true
    · rw [if_pos c,if_pos c]
      by_cases c2 : zWi s (-1) (l.getD 0 []) a = true
      · rw [if_pos c2,if_pos c2]; exact ⟨s,rfl,fun _=>⟨rfl,len4 c⟩⟩
      · rw [if_neg c2,if_neg c2]; exact ⟨s,rfl,fun h => by simp at h⟩
    · rw [if_neg c,if_neg c]; exact ⟨s,rfl,fun h => by simp at h⟩
  · -- slice
    have hr := hR 0 (by omega)
    have h4 := (qah hr).1
    simp only [qa9.f,qez.f,zShape,Int.reduceEq,reduceIte,or_self]
    rw [if_pos (by omega),qal (n := 2 * ((l.getD 0 []).length : Int)) (by omega) (by omega)]
    by_cases c : a.length = 2 * (l.getD 0 []).length
    · rw [if_pos (by omega),if_pos (by omega),if_pos (by omega),Int.toNat_natCast,List.drop_zero,List.take_length,qgQ hr _ _ k (by omega),obs,obs]
      refine ⟨a.drop (l.getD 0 []).length,?_,fun hz => ?_⟩
      · by_cases c2 : zSl (l.getD 0 []) (a.take (l.getD 0 []).length) (a.drop (l.getD 0 []).length) = true
        · rw [if_pos c2,if_pos ⟨c,c2⟩]
        · rw [if_neg c2,if_neg (fun hh => c2 hh.2)]
      · by_cases c2 : zSl (l.getD 0 []) (a.take (l.getD 0 []).length) (a.drop (l.getD 0 []).length) = true
        · rw [if_pos ⟨c,c2⟩]; exact ⟨rfl,by rw [List.length_drop]; omega⟩
        · rw [if_neg (fun hh => c2 hh.2)] at hz; simp at hz
    · rw [if_neg (by omega),if_neg (fun hh => c hh.1)]
      exact ⟨[],rfl,fun h => by simp at h⟩
  · -- pad
    have hr := hR 0 (by omega)
    have h4 := (qah hr).1
    simp only [qa9.f,qez.f,zShape,Int.reduceEq,reduceIte,or_self]
    rw [if_pos (by omega),qal (n := 2 * ((l.getD 0 []).length : Int)) (by omega) (by omega)]
    by_cases c : a.length = 2 * (l.getD 0 []).length
    · rw [if_pos (by omega),if_pos (by omega),if_pos (by omega),Int.toNat_natCast,List.drop_zero,List.take_length,qgR hr _ _ k (by omega),obs,obs]
      by_cases c2 : zMay (l.getD 0 []) (a.take (l.getD 0 []).length) (a.drop (l.getD 0 []).length) = true
      · have cc := And.intro c c2
        rw [if_pos c2,if_pos cc]
        refine fin rfl fun hz => ?_
        split at hz
        · rename_i c3
          rw [if_pos c3]; exact len4 c3
        · simp at hz
      · rw [if_neg c2,if_neg (fun hh => c2 hh.2)]
        exact ⟨[],rfl,fun h => by simp at h⟩
    · rw [if_neg (by omega),if_neg (fun hh => c hh.1)]
      exact ⟨[],rfl,fun h => by simp at h⟩
  · -- join
    simp only [qa9.f,zShape,Int.reduceEq,reduceIte,or_self]
    by_cases c : a.length = 1
    · rw [if_pos (by omega),if_pos (by omega),qgU _ l (qh2 hA) (by omega) k (by omega),obs,if_pos c]
      exact fin rfl fun hz => len4 (qpM hz)
    · rw [if_neg (by omega),if_neg c]
      exact ⟨[],rfl,fun h => by simp at h⟩
  · -- fold
    have hr := hR 0 (by omega)
    have h4 := (qah hr).1
    simp only [qa9.f,qek.f,zShape,Int.reduceEq,reduceIte,or_self]
    rw [if_pos (by omega),qfl,obs]
    by_cases c : 1 ≤ h ∧ h ≤ 4
    · rw [decide_eq_true c,if_pos rfl,if_pos c,qf2 _ _ (by omega) ha k (by omega),obs]
      by_cases c2 : zRi (l.getD 0 []).length (-1) a = true
      · rw [if_pos c2,if_pos c2,if_pos rfl,qbg _ k (by omega),obs]
        by_cases c3 : mSR (lef a (l.getD 0 [])) = true
        · rw [if_pos c3,if_pos c3,obs]; exact fin rfl fun _=>len4 c3
        · rw [if_neg c3,if_neg c3,obs]; exact ⟨_,rfl,fun h => by simp at h⟩
      · rw [if_neg c2,if_neg c2,if_neg (by decide),obs]; exact ⟨_,rfl,fun h => by simp at h⟩
    · rw [decide_eq_false c,if_neg (by decide),if_neg c,obs]; exact ⟨_,rfl,fun h => by simp at h⟩
  · -- dot
    simp only [qa9.f,zShape,Int.reduceEq,reduceIte,or_self]
    by_cases c : a.length = 1
    · rw [if_pos (by omega),if_pos (by omega),if_pos (by omega),if_pos (by omega),qiI _ _ _ k (by omega),obs,if_pos c]
      exact fin rfl fun hz => by
        have := qkp hz
        rw [this.1]; exact len4 this.2.1
    · rw [if_neg (by omega),if_neg c]
      exact ⟨[],rfl,fun h => by simp at h⟩
  · -- window
    have hr := hR 0 (by omega)
    have h4 := qah hr
    simp only [qa9.f,qeS.f,zShape,Int.reduceEq,reduceIte,or_self]
    rw [if_pos (by omega)]
    by_cases c : a.length = 3
    · rw [if_pos (by omega),if_pos (by omega),if_pos (by omega),qhl,obs]
      by_cases c2 : (1 ≤ h ∧ h ≤ 4) ∧ (1 ≤ a.getD 1 0 ∧ a.getD 1 0 ≤ 32) ∧ 1 ≤ a.getD 2 0 ∧ a.getD 2 0 ≤ 32
      · rw [decide_eq_true c2,if_pos rfl,if_pos (by omega)]
        by_cases c3 : a.getD 0 0 < 0
        · rw [if_pos c3,obs,if_neg (by omega)]; exact ⟨_,rfl,fun h => by simp at h⟩
        by_cases c4 : ((l.getD 0 []).length : Int) ≤ a.getD 0 0
        · rw [if_neg c3,if_pos c4,obs,if_neg (by omega)]; exact ⟨_,rfl,fun h => by simp at h⟩
        have hj : (a.getD 0 0).toNat < (l.getD 0 []).length := by omega
        have hbd := h4.2.1 _ (qan hj (0 : Int))
        rw [if_neg c3,if_neg c4,qaH _ (by omega),obs,if_pos (by omega),qhk (by omega) (by omega) (by omega) (by omega),obs,if_pos (by omega),if_pos hj,obs,if_pos ⟨c,c2,by omega⟩]
        exact fin rfl fun _=>by
          show (List.set _ _ _).length ≤ 1000
          rw [qcv]; omega
      · rw [decide_eq_false c2,if_neg (by decide),obs,if_neg (fun hh => c2 hh.2.1)]; exact ⟨_,rfl,fun h => by simp at h⟩
    · rw [if_neg (by omega),obs,if_neg (fun hh => c hh.1)]; exact ⟨_,rfl,fun h => by simp at h⟩
theorem qpL {ax : Int} {l : List LI} (h : (zJs ax l).1 ≠ 0) : (zJs ax l).2 = [] := by
 unfold zJs at h ⊢
 split
 ·rfl
 rename_i c
 rw [if_neg c] at h
 split
 ·rename_i o ho
  rw [ho] at h
  dsimp only at h
  split
  ·rename_i c2
   rw [if_pos c2] at h; exact absurd rfl h
  ·rfl
 ·rfl
theorem qpN {a b : LI} {n : Int} (h : (zDS a b n).1 ≠ 0) : (zDS a b n).2 = [] := by
 unfold zDS at h ⊢
 split
 ·rfl
 rename_i c
 rw [if_neg c] at h
 split
 ·rename_i c2
  rw [if_pos c2] at h
  split
  ·rename_i c3
   rw [if_pos c3] at h; exact absurd rfl h
  ·rfl
 ·rfl
theorem qm4 {op : Int} {s a : LI} {h : Int} {l : List LI} (e : (zShape op s a h l).1 ≠ 0) : (zShape op s a h l).2 = [] := by
 have t : ∀ {p : Prop} [Decidable p] {x y : Int × LI},(x.1 ≠ 0 → x.2 = []) → (y.1 ≠ 0 → y.2 = []) → (if p then x else y).1 ≠ 0 → (if p then x else y).2 = [] := fun hx hy => by
  split
  ·exact hx
  ·exact hy
 have z : ∀ {x : LI},((0,x) : Int × LI).1 ≠ 0 → ((0,x) : Int × LI).2 = [] := fun h => absurd rfl h
 have w : ∀ {x : Int},((x,[]) : Int × LI).1 ≠ 0 → ((x,[]) : Int × LI).2 = [] := fun _=>rfl
 revert e
 unfold zShape
 exact t (t z w) (t (t (t z w) w) (t (t z w) (t (t (t z w) w) (t (t z w) (t (t (t z w) w) (t (t qpL w) (t (t (t (t z w) w) w) (t (t qpN w) (t (t z w) (t z w))))))))))
theorem qgE (op : Int) (i s a : LI) (n h : Int) (nt : ByteArray) (l : List LI) (hl : l.length ≤ 400) (ha : a.length ≤ 17592186043904) (k : Nat) (hk : a.length + 20000 ≤ k) :
  qdu.f k op i s a n h nt l = some (zSh op s a n h l) := by
 unfold qdu.f zSh
 rw [qj5,obs]
 by_cases hF : zF op s.length a.length n h l.length = true
 rotate_left
 ·rw [if_neg hF,if_neg hF]
 rw [if_pos hF,if_pos hF,qhN k l (by omega) (by omega),obs]
 by_cases hA : l.all mSR = true
 rotate_left
 ·rw [if_neg hA,Bool.eq_false_iff.2 hA,if_pos (show (!false) = true from rfl)]
 rw [hA,if_neg (show ¬ (!true) = true from Bool.false_ne_true),if_pos rfl]
 obtain ⟨x,e,hx⟩ := qiA op i s a n h nt l hl hA hF ha k hk
 rw [e,obs]
 by_cases c : (zShape op s a h l).1 = 0
 ·obtain ⟨rfl,hx2⟩ := hx c
  rw [if_pos c,qaH _ (by dsimp only; omega),obs,← c]
 ·rw [if_neg c,← qm4 c]
end Go.Pf

namespace Go.Pf
open Go Go.Vm
theorem qhR (s t : ByteArray) (i k : Nat) (h : s.size ≤ i) : (s ++ t).get! (i + k) = t.get! (i - s.size + k) := by
 have e : (s ++ t).data = s.data ++ t.data := by simp
 have hs : s.size = s.data.size := rfl
 show (s ++ t).data[i + k]! = t.data[i - s.size + k]!
 rw [e,Array.getElem!_eq_getD,Array.getElem!_eq_getD,Array.getD_eq_getD_getElem?,Array.getD_eq_getD_getElem?,Array.getElem?_append_right (by omega),show i + k - s.data.size = i - s.size + k by omega]
theorem qiT (s t : ByteArray) (i : Nat) (h : i < s.size) : (s ++ t).get! i = s.get! i := by
 have e : (s ++ t).data = s.data ++ t.data := by simp
 have hs : s.size = s.data.size := rfl
 show (s ++ t).data[i]! = s.data[i]!
 rw [e,Array.getElem!_eq_getD,Array.getElem!_eq_getD,Array.getD_eq_getD_getElem?,Array.getD_eq_getD_getElem?,Array.getElem?_append_left (by omega)]
theorem qdi (s t : ByteArray) : (s ++ t).size = s.size + t.size := ByteArray.size_append
theorem qm3 (s t u : ByteArray) : s ++ t ++ u = s ++ (t ++ u) := ByteArray.append_assoc
theorem qm2 (s : ByteArray) : ByteArray.empty ++ s = s := ByteArray.empty_append
theorem qiU (s : ByteArray) : s ++ ByteArray.empty = s := ByteArray.append_empty
theorem qnm (s t : ByteArray) : Utf8.decode (s ++ t) s.size = Utf8.decode t 0 := by
 have g : ∀ k,(s ++ t).get! (s.size + k) = t.get! (0 + k) := fun k => by rw [qhR s t s.size k (Nat.le_refl _),Nat.sub_self]
 have z : ∀ k,(decide (s.size + k < (s ++ t).size)) = decide (0 + k < t.size) := fun k => by rw [qdi]; congr 1; simp
 unfold Utf8.decode
 simp only [g,z]
theorem qcx {n : Nat} (h : n < 256) : (UInt8.ofNat n).toNat = n := by simp [UInt8.toNat_ofNat']; omega
theorem qfL (l : List UInt8) (k : Nat) (h : k < l.length) (t : ByteArray) : ((ByteArray.mk ⟨l⟩) ++ t).get! k = l[k] := by
 rw [qiT _ _ _ h]
 show (Array.mk l)[k]! = l[k]
 simp [h]
theorem qlK (l : List UInt8) (t : ByteArray) : ((ByteArray.mk ⟨l⟩) ++ t).size = l.length + t.size := by rw [qdi]; rfl
theorem qkc {r : Nat} (h : Utf8.valid r = true) (t : ByteArray) : Utf8.decode (Utf8.encode r ++ t) 0 = (r,(Utf8.encode r).size) := by
 have hv : r < 0xD800 ∨ (0xE000 ≤ r ∧ r ≤ 0x10FFFF) := by
  unfold Utf8.valid at h
  simp at h; omega
 unfold Utf8.encode
 rw [h]
 simp only [reduceIte,Int.toNat_natCast]
 by_cases c1 : r < 128
 ·rw [if_pos c1]
  unfold Utf8.decode
  simp only [Nat.zero_add,Nat.add_zero,qfL [UInt8.ofNat r] 0 (by simp) t,List.getElem_cons_zero,qcx (show r < 256 by omega)]
  rw [if_pos c1]; rfl
 by_cases c2 : r < 2048
 ·rw [if_neg c1,if_pos c2]
  unfold Utf8.decode
  simp only [Nat.zero_add,Nat.add_zero,qfL [UInt8.ofNat (0xC0 + r / 64),UInt8.ofNat (0x80 + r % 64)] 0 (by simp) t,qfL [UInt8.ofNat (0xC0 + r / 64),UInt8.ofNat (0x80 + r % 64)] 1 (by simp) t,qlK,List.getElem_cons_zero,List.getElem_cons_succ,qcx (show 0xC0 + r / 64 < 256 by omega),qcx (show 0x80 + r % 64 < 256 by omega)]
  rw [if_neg (by omega),if_pos (by simp; omega),if_pos (by omega)]
  exact Prod.ext (by show _ = r; dsimp only; omega) rfl
 by_cases c3 : r < 65536
 ·rw [if_neg c1,if_neg c2,if_pos c3]
  unfold Utf8.decode
  have g0 := qfL [UInt8.ofNat (0xE0 + r / 4096),UInt8.ofNat (0x80 + r / 64 % 64),UInt8.ofNat (0x80 + r % 64)] 0 (by simp) t
  have g1 := qfL [UInt8.ofNat (0xE0 + r / 4096),UInt8.ofNat (0x80 + r / 64 % 64),UInt8.ofNat (0x80 + r % 64)] 1 (by simp) t
  have g2 := qfL [UInt8.ofNat (0xE0 + r / 4096),UInt8.ofNat (0x80 + r / 64 % 64),UInt8.ofNat (0x80 + r % 64)] 2 (by simp) t
  simp only [Nat.zero_add,Nat.add_zero,g0,g1,g2,qlK,List.getElem_cons_zero,List.getElem_cons_succ,qcx (show 0xE0 + r / 4096 < 256 by omega),qcx (show 0x80 + r / 64 % 64 < 256 by omega),qcx (show 0x80 + r % 64 < 256 by omega)]
  have e : (224 + r / 4096) % 16 * 4096 + (128 + r / 64 % 64) % 64 * 64 + (128 + r % 64) % 64 = r := by omega
  rw [e,if_neg (by omega),if_neg (by simp; omega),if_pos (by simp; omega),if_pos (by simp [h]; omega)]; rfl
 ·rw [if_neg c1,if_neg c2,if_neg c3]
  unfold Utf8.decode
  have g0 := qfL [UInt8.ofNat (0xF0 + r / 262144),UInt8.ofNat (0x80 + r / 4096 % 64),UInt8.ofNat (0x80 + r / 64 % 64),UInt8.ofNat (0x80 + r % 64)] 0 (by simp) t
  have g1 := qfL [UInt8.ofNat (0xF0 + r / 262144),UInt8.ofNat (0x80 + r / 4096 % 64),UInt8.ofNat (0x80 + r / 64 % 64),UInt8.ofNat (0x80 + r % 64)] 1 (by simp) t
  have g2 := qfL [UInt8.ofNat (0xF0 + r / 262144),UInt8.ofNat (0x80 + r / 4096 % 64),UInt8.ofNat (0x80 + r / 64 % 64),UInt8.ofNat (0x80 + r % 64)] 2 (by simp) t
  have g3 := qfL [UInt8.ofNat (0xF0 + r / 262144),UInt8.ofNat (0x80 + r / 4096 % 64),UInt8.ofNat (0x80 + r / 64 % 64),UInt8.ofNat (0x80 + r % 64)] 3 (by simp) t
  simp only [Nat.zero_add,Nat.add_zero,g0,g1,g2,g3,qlK,List.getElem_cons_zero,List.getElem_cons_succ,qcx (show 0xF0 + r / 262144 < 256 by omega),qcx (show 0x80 + r / 4096 % 64 < 256 by omega),qcx (show 0x80 + r / 64 % 64 < 256 by omega),qcx (show 0x80 + r % 64 < 256 by omega)]
  have e : (240 + r / 262144) % 8 * 262144 + (128 + r / 4096 % 64) % 64 * 4096 + (128 + r / 64 % 64) % 64 * 64 + (128 + r % 64) % 64 = r := by omega
  rw [e,if_neg (by omega),if_neg (by simp; omega),if_neg (by simp; omega),if_pos (by simp; omega),if_pos (by simp [h]; omega)]; rfl
theorem qhe (s : ByteArray) (i : Nat) : 1 ≤ (Utf8.decode s i).2 := by
 unfold Utf8.decode
 dsimp only
 repeat' split
 all_goals simp
def rsx (s : ByteArray) : Nat → Nat → LI
 | 0,_ => []
 | n + 1,i => if i < s.size then ((Utf8.decode s i).1 : Int) :: rsx s n (i + (Utf8.decode s i).2) else []
def rs (s : ByteArray) : LI := rsx s s.size 0
theorem qnL (s : ByteArray) : ∀ n i,(rsx s n i).length ≤ n
 | 0,_ => Nat.le_refl _
 | n + 1,i => by
  rw [rsx]
  split
  ·have := qnL s n (i + (Utf8.decode s i).2)
   simp; omega
  ·simp
theorem qmt (s : ByteArray) : (rs s).length ≤ s.size := qnL s _ _
def enc : LI → ByteArray
 | [] => ByteArray.empty
 | r :: l => Utf8.encode r ++ enc l
theorem qoq : ∀ a b : LI,enc (a ++ b) = enc a ++ enc b
 | [],b => by rw [List.nil_append,enc,qm2]
 | r :: a,b => by rw [List.cons_append,enc,enc,qoq a b,qm3]
theorem qnM : ∀ (l : LI) (p : ByteArray) (n : Nat),(∀ r ∈ l,Utf8.valid r = true) → (enc l).size ≤ n → rsx (p ++ enc l) n p.size = l
 | [],p,n,_,_ => by
  cases n with
  | zero => rfl
  | succ n => rw [rsx,enc,qiU,if_neg (by omega)]
 | r :: l,p,n,hv,hn => by
  have h := hv r (List.mem_cons_self ..)
  have hr : 0 ≤ r := by
   unfold Utf8.valid at h
   simp at h; omega
  obtain ⟨q,rfl⟩ : ∃ q : Nat,r = (q : Int) := ⟨r.toNat,by omega⟩
  have hd := qkc h (enc l)
  have hp := qhe (Utf8.encode q ++ enc l) 0
  rw [enc,qdi] at hn
  rw [hd] at hp
  obtain ⟨n,rfl⟩ : ∃ m,n = m + 1 := ⟨n - 1,by dsimp only at hp; omega⟩
  dsimp only at hp
  rw [enc,rsx,if_pos (by rw [qdi,qdi]; omega),qnm,hd]
  dsimp only
  rw [← qm3,← qdi,qnM l _ n (fun r hr => hv r (List.mem_cons_of_mem _ hr)) (by omega)]
theorem qpj {l : LI} (h : ∀ r ∈ l,Utf8.valid r = true) : rs (enc l) = l := by
 have := qnM l ByteArray.empty (enc l).size h (Nat.le_refl _)
 rwa [qm2] at this
theorem qfK (s : ByteArray) (hs : s.size ≤ 17592186043904) : ∀ (e i n : Nat) (y : LI),s.size ≤ i + e → e < n → y.length ≤ i → qbD.l0 n y s i = some (y ++ rsx s e i)
 | 0,i,n,y,hi,hn,hy => by
  obtain ⟨n,rfl⟩ : ∃ m,n = m + 1 := ⟨n - 1,by omega⟩
  rw [qbD.l0,if_neg (by omega),rsx,List.append_nil]
 | e + 1,i,n,y,hi,hn,hy => by
  obtain ⟨n,rfl⟩ : ∃ m,n = m + 1 := ⟨n - 1,by omega⟩
  have hp := qhe s i
  rw [qbD.l0,rsx]
  by_cases c : i < s.size
  ·rw [if_pos c,if_pos c,if_pos (by rw [List.length_singleton]; omega),qfK s hs e _ n _ (by omega) (by omega) (by simp; omega),List.append_assoc]; rfl
  ·rw [if_neg c,if_neg c,List.append_nil]
theorem qeO (s : ByteArray) (hs : s.size ≤ 17592186043904) (k : Nat) (hk : s.size < k) : qbD.f k s = some (rs s) := by
 unfold qbD.f
 rw [qfK s hs s.size 0 k [] (by omega) hk (Nat.le_refl _)]; rfl
theorem qgj (s : ByteArray) (hs : s.size ≤ 17592186043904) : ∀ (e i n : Nat) (y : LI),s.size ≤ i + e → e < n → y.length ≤ i → qbP.l0 n y s i = some (y ++ rsx s e i)
 | 0,i,n,y,hi,hn,hy => by
  obtain ⟨n,rfl⟩ : ∃ m,n = m + 1 := ⟨n - 1,by omega⟩
  rw [qbP.l0,if_neg (by omega),rsx,List.append_nil]
 | e + 1,i,n,y,hi,hn,hy => by
  obtain ⟨n,rfl⟩ : ∃ m,n = m + 1 := ⟨n - 1,by omega⟩
  have hp := qhe s i
  rw [qbP.l0,rsx]
  by_cases c : i < s.size
  ·rw [if_pos c,if_pos c,if_pos (by rw [List.length_singleton]; omega),qgj s hs e _ n _ (by omega) (by omega) (by simp; omega),List.append_assoc]; rfl
  ·rw [if_neg c,if_neg c,List.append_nil]
theorem qeg (s : ByteArray) (hs : s.size ≤ 17592186043904) (k : Nat) (hk : s.size < k) : qbP.f k s = some (rs s) := by
 unfold qbP.f
 rw [qgj s hs s.size 0 k [] (by omega) hk (Nat.le_refl _)]; rfl
end Go.Pf
