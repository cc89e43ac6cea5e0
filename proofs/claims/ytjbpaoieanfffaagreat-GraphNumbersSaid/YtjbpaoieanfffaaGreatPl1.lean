/- Own texts put together: M5h, M5i, M5j .. -/
import Derived.Test.YtjbpaoieanfffaaGreatPl0
set_option linter.unusedVariables false
set_option linter.unusedSimpArgs false
namespace Go.Pf
open Go Go.Vm
theorem ref4_Turn_l0 (s d a : List Int) (hl : s.length ≤ 4) (ha : a.length = s.length) : ∀ (e i n : Nat) (seen : List Int) (b : List Int),s.length = i + e → e < n → b.length = s.length → (∀ j : Nat,j < s.length → b.getD j 0 = if (j : Int) ∈ seen then 1 else 0) →
    ref4_Turn.l0 n a a.length i s d b (pick s (a.take i)) = some (if zPm s.length seen (a.drop i) = true then .inl (pick s a) else .inr 1)
  | 0,i,n,seen,b,hi,hn,hb,hbs => by
    obtain ⟨n,rfl⟩ : ∃ m,n = m + 1 := ⟨n - 1,by omega⟩
    rw [ref4_Turn.l0,if_neg (by omega),List.drop_eq_nil_of_le (by omega),List.take_of_length_le (by omega)]; rfl
  | e + 1,i,n,seen,b,hi,hn,hb,hbs => by
    obtain ⟨n,rfl⟩ : ∃ m,n = m + 1 := ⟨n - 1,by omega⟩
    have hps := pick_snoc (s := s) (a := a) (i := i) (by omega)
    have hL : (pick s (a.take i)).length = i := by rw [pick,List.length_map,List.length_take]; omega
    rw [ref4_Turn.l0,if_pos (by omega),if_pos (by omega),Int.toNat_natCast,hps,drop_getD (show i < a.length by omega) (0 : Int),hb,hL]
    generalize a.getD i 0 = k
    by_cases c1 : k < 0
    · rw [if_pos c1,if_neg (by rw [zPm_cons]; omega)]
    by_cases c2 : (s.length : Int) ≤ k
    · rw [if_neg c1,if_pos c2,if_neg (by rw [zPm_cons]; omega)]
    have hk := hbs k.toNat (by omega)
    rw [show ((k.toNat : Nat) : Int) = k by omega] at hk
    rw [if_neg c1,if_neg c2,if_pos (by omega),if_pos (by omega),hk]
    by_cases c3 : k ∈ seen
    · rw [if_pos (by rw [if_pos c3]; omega),if_neg (fun hh => (zPm_cons.1 hh).1.2.2 c3)]
    rw [if_neg c3] at hk ⊢
    have ih := ref4_Turn_l0 s d a hl ha e (i + 1) n (k :: seen) (b.set k.toNat 1) (by omega) (by omega) (by simp [hb]) fun j hj => by
      rw [getD_set]
      by_cases ej : k.toNat = j
      · rw [if_pos ⟨ej,by omega⟩,if_pos (by rw [show (j : Int) = k by omega]; exact List.mem_cons_self ..)]
      · rw [if_neg (fun hh => ej hh.1),hbs j hj]
        by_cases cj : (j : Int) ∈ seen
        · rw [if_pos cj,if_pos (List.mem_cons_of_mem _ cj)]
        · rw [if_neg cj,if_neg (fun hh => by
            rcases List.mem_cons.1 hh with e | hh
            · omega
            · exact cj hh)]
    rw [if_neg (by omega),if_pos (by omega),if_pos (by simp only [List.length_singleton]; omega),show IntKind.i64.wrap (0 + 1) = 1 from i64_id (by omega) (by omega),i64_id (n := (i : Int) + 1) (by omega) (by omega),show (i : Int) + 1 = ((i + 1 : Nat) : Int) by omega,ih]
    by_cases c : zPm s.length (k :: seen) (a.drop (i + 1)) = true
    · rw [if_pos c,if_pos (zPm_cons.2 ⟨⟨by omega,by omega,c3⟩,c⟩)]
    · rw [if_neg c,if_neg (fun hh => c (zPm_cons.1 hh).2)]
theorem ref4_Turn_l1 {s d a : List Int} (h : zT s d = true) (ha : Perm' s.length a) (k : Nat) (hk : 20 ≤ k) (y4 : List Int) : ∀ (e i n : Nat),(pr (pick s a)).toNat = i + e → e + 10 < n →
  ref4_Turn.l1 k n a (pr (pick s a)) i s d (pick s a) y4 ((List.range i).map (tn s d a) ++ List.replicate e 0) = some (zTurn s d a)
 | 0,i,n,hi,hn => by
  obtain ⟨n,rfl⟩ : ∃ m,n = m + 1 := ⟨n - 1,by omega⟩
  rw [ref4_Turn.l1,if_neg (by omega)]
  unfold zTurn made
  rw [hi,List.replicate_zero,List.append_nil]; rfl
 | e + 1,i,n,hi,hn => by
  obtain ⟨n,rfl⟩ : ∃ m,n = m + 1 := ⟨n - 1,by omega⟩
  have ho := pick_R (zT_spec h).1 ha
  have hb := (mSR_spec ho).2.2
  have h4 := (mSR_spec (zT_spec h).1).1
  have hpl : (pl (pick s a) i).length = a.length := by rw [pl_len,pick,List.length_map]
  have hal := ha.len
  have ih := ref4_Turn_l1 h ha k hk y4 e (i + 1) n (by omega) (by omega)
  have l2 := ref4_Turn_l2 (pl (pick s a) i) a (by omega) hpl s.length ha.mem i (pr (pick s a)) i s d (pick s a) y4 ((List.range i).map (tn s d a) ++ List.replicate (e + 1) 0) a.length 0 (List.replicate s.length 0) n (by simp) (by omega) (by omega)
  rw [n0,List.drop_zero,List.drop_zero] at l2
  rw [ref4_Turn.l1,if_pos (by omega),ref1_Place_f ho (by omega) (by omega) k hk,Option.bind_some,if_pos (by rw [hpl]; omega),show ((pl (pick s a) i).length : Int).toNat = s.length by rw [hpl]; omega,l2,Option.bind_some,
   ref4_number_f h (scat_in ha (pl_in (fun b hb => (mSR_pos ho (by omega) b hb).1) i) (by simp)) k hk,Option.bind_some,
   if_pos (by simp; omega),if_pos (by simp),Int.toNat_natCast,show d.getD (ix s (scat (List.replicate s.length 0) a (pl (pick s a) i))).toNat 0 = tn s d a i from rfl,fill_set (tn s d a),i64_id (n := (i : Int) + 1) (by omega) (by omega),show (i : Int) + 1 = ((i + 1 : Nat) : Int) by omega]
  exact ih
theorem ref4_Turn_f (s d a : List Int) (k : Nat) (hk : 5000 ≤ k) : ref4_Turn.f k s d a = some (if zT s d = true then (if isPerm s.length a = true then (0,pick s a,zTurn s d a) else (1,[],[])) else (13,[],[])) := by
 unfold ref4_Turn.f
 rw [ref1_Tensor_f s d k (by omega),Option.bind_some]
 by_cases h : zT s d = true
 ·obtain ⟨hr,_⟩ := zT_spec h
  have h4 := (mSR_spec hr).1
  rw [if_pos h,if_pos h,if_pos (by omega)]
  by_cases hl : a.length = s.length
  ·have l0 := ref4_Turn_l0 s d a h4 hl s.length 0 k [] (List.replicate (s.length : Int).toNat 0) (by omega) (by omega) (by simp) (fun j hj => by simp [List.getD_eq_getElem?_getD,List.getElem?_replicate,hj])
   rw [n0,List.drop_zero,List.take_zero,show pick s [] = [] from rfl] at l0
   rw [if_pos (by simp; omega),l0,Option.bind_some]
   by_cases hc : zPm s.length [] a = true
   ·have hp : isPerm s.length a = true := by simp [isPerm,hl,hc]
    have ha := isPerm_iff.1 hp
    have ho := pick_R hr ha
    have hb := mSR_spec ho
    have h0 := pr_nonneg fun x hx => (hb.2.1 x hx).1
    have this := ref4_Turn_l1 h ha k (by omega) (pick s a) (pr (pick s a)).toNat 0 k (by omega) (by omega)
    rw [if_pos hc,if_pos hp,Sum.elim_inl,ref1_Fill_f (pick s a) 0 (by omega) k hk,Option.bind_some,zSz,if_pos ho,List.length_replicate,show (((pr (pick s a)).toNat : Nat) : Int) = pr (pick s a) by omega]
    rw [n0] at this
    rw [show List.replicate (pr (pick s a)).toNat (0 : Int) = (List.range 0).map (tn s d a) ++ List.replicate (pr (pick s a)).toNat 0 from rfl,this]
    rfl
   ·have hp : ¬ isPerm s.length a = true := by simp [isPerm,hc]
    rw [if_neg hc,if_neg hp]; rfl
  ·have hp : ¬ isPerm s.length a = true := by simp [isPerm,hl]
   rw [if_neg (by simp; omega),if_neg hp]
 ·rw [if_neg h,if_neg h]
end Go.Pf

namespace Go.Pf
open Go Go.Vm
def zp : List Int → List Int → List Int → List Int
 | a :: s,l :: lo,h :: hi => (l + a + h) :: zp s lo hi
 | _,_,_ => []
def zMay : List Int → List Int → List Int → Bool
 | [],[],[] => true
 | _ :: s,l :: lo,h :: hi => okS l && okS h && zMay s lo hi
 | _,_,_ => false
theorem zMay_cons {a l h : Int} {s lo hi : List Int} : zMay (a :: s) (l :: lo) (h :: hi) = true ↔ ((0 ≤ l ∧ l ≤ 32) ∧ (0 ≤ h ∧ h ≤ 32)) ∧ zMay s lo hi = true := by
 simp only [zMay,Bool.and_eq_true,okS_iff]
theorem zMay_len : ∀ {s lo hi : List Int},zMay s lo hi = true → lo.length = s.length ∧ hi.length = s.length
 | [],[],[],_ => ⟨rfl,rfl⟩
 | _ :: s,_ :: f,_ :: z,h => by
  have := zMay_len (zMay_cons.1 h).2
  simp [this.1,this.2]
 | [],_ :: _,_,h => by simp [zMay] at h
 | [],[],_ :: _,h => by simp [zMay] at h
 | _ :: _,[],_,h => by simp [zMay] at h
 | _ :: _,_ :: _,[],h => by simp [zMay] at h
theorem zMay_lo : ∀ {s lo hi : List Int},zMay s lo hi = true → ∀ x ∈ lo,0 ≤ x ∧ x ≤ 32
 | [],[],[],_,x,hx => by cases hx
 | _ :: s,_ :: f,_ :: z,h,x,hx => by
  obtain ⟨⟨h1,_⟩,h2⟩ := zMay_cons.1 h
  rcases List.mem_cons.1 hx with e | hx
  ·subst e; exact h1
  ·exact zMay_lo h2 x hx
 | [],_ :: _,_,h,_,_ => by simp [zMay] at h
 | [],[],_ :: _,h,_,_ => by simp [zMay] at h
 | _ :: _,[],_,h,_,_ => by simp [zMay] at h
 | _ :: _,_ :: _,[],h,_,_ => by simp [zMay] at h
theorem zp_len : ∀ {s lo hi : List Int},lo.length = s.length → hi.length = s.length → (zp s lo hi).length = s.length
 | [],[],[],_,_ => rfl
 | _ :: s,_ :: lo,_ :: hi,h1,h2 => by simp [zp,zp_len (s := s) (by simpa using h1) (by simpa using h2)]
 | [],_ :: _,_,h,_ => by simp at h
 | [],[],_ :: _,_,h => by simp at h
 | _ :: _,[],_,h,_ => by simp at h
 | _ :: _,_ :: _,[],_,h => by simp at h
theorem axes_Padded_1_f (a : Int) : axes_Padded_1.f a = some (okS a) := by
 unfold axes_Padded_1.f okS
 by_cases h : 0 ≤ a
 ·rw [if_pos h]; simp [h]
 ·rw [if_neg h]; simp [h]
theorem axes_Padded_l0 (s lo hi : List Int) (hs : ∀ a ∈ s,0 ≤ a ∧ a ≤ 32) (hl : s.length ≤ 4) (h1 : lo.length = s.length) (h2 : hi.length = s.length) (y : List Int) (hy : y.length = s.length) : ∀ (e : Nat) (L : List Int) (n : Nat),s.length = L.length + e → e < n →
  axes_Padded.l0 n lo hi s s.length L.length (L ++ y.drop L.length) = some (if zMay (s.drop L.length) (lo.drop L.length) (hi.drop L.length) = true then .inl (L ++ zp (s.drop L.length) (lo.drop L.length) (hi.drop L.length)) else .inr 1)
 | 0,L,n,hi',hn => by
  obtain ⟨n,rfl⟩ : ∃ m,n = m + 1 := ⟨n - 1,by omega⟩
  rw [axes_Padded.l0,if_neg (by omega),List.drop_eq_nil_of_le (by omega),List.drop_eq_nil_of_le (by omega),List.drop_eq_nil_of_le (by omega),List.drop_eq_nil_of_le (by omega)]; rfl
 | e + 1,L,n,hi',hn => by
  obtain ⟨n,rfl⟩ : ∃ m,n = m + 1 := ⟨n - 1,by omega⟩
  have ha := hs _ (getD_mem (show L.length < s.length by omega) 0)
  have ih := axes_Padded_l0 s lo hi hs hl h1 h2 y hy e (L ++ [lo.getD L.length 0 + s.getD L.length 0 + hi.getD L.length 0]) n (by simp; omega) (by omega)
  have hL : (L ++ y.drop L.length).length = s.length := by rw [List.length_append,List.length_drop]; omega
  rw [List.length_append,List.length_singleton] at ih
  rw [axes_Padded.l0,if_pos (by omega),if_pos (by omega),if_pos (by omega),Int.toNat_natCast,axes_Padded_1_f,Option.bind_some,if_pos (show 0 ≤ (L.length : Int) ∧ (L.length : Int) < (hi.length : Int) by omega),axes_Padded_1_f,Option.bind_some,hL,
   drop_getD (show L.length < s.length by omega) (0 : Int),drop_getD (show L.length < lo.length by omega) (0 : Int),drop_getD (show L.length < hi.length by omega) (0 : Int),drop_getD (show L.length < y.length by omega) (0 : Int),setL]
  generalize s.getD L.length 0 = a at *
  generalize lo.getD L.length 0 = l at *
  generalize hi.getD L.length 0 = h at *
  by_cases c1 : okS l = true
  ·by_cases c2 : okS h = true
   ·have b1 := okS_iff.1 c1
    have b2 := okS_iff.1 c2
    rw [if_pos c1,if_pos c2,if_pos (by omega),if_pos (by omega),i64_id (n := l + a) (by omega) (by omega),i64_id (n := l + a + h) (by omega) (by omega),i64_id (n := (L.length : Int) + 1) (by omega) (by omega),show (L.length : Int) + 1 = ((L.length + 1 : Nat) : Int) by omega,ih]
    by_cases c : zMay (s.drop (L.length + 1)) (lo.drop (L.length + 1)) (hi.drop (L.length + 1)) = true
    ·rw [if_pos c,if_pos (zMay_cons.2 ⟨⟨b1,b2⟩,c⟩)]; simp [zp]
    ·rw [if_neg c,if_neg (fun hh => c (zMay_cons.1 hh).2)]
   ·rw [if_pos c1,if_neg c2,if_neg (fun hh => c2 (okS_iff.2 (zMay_cons.1 hh).1.2))]
  ·rw [if_neg c1,if_neg (fun hh => c1 (okS_iff.2 (zMay_cons.1 hh).1.1))]
theorem axes_Padded_f {s : List Int} (h : mSR s = true) (lo hi : List Int) (k : Nat) (hk : 10 ≤ k) : axes_Padded.f k s lo hi = some (if zMay s lo hi = true then (if mSR (zp s lo hi) = true then (0,zp s lo hi) else (13,[])) else (1,[])) := by
 obtain ⟨hl,hs,_⟩ := mSR_spec h
 unfold axes_Padded.f
 by_cases h1 : lo.length = s.length
 ·by_cases h2 : hi.length = s.length
  ·have l0 := axes_Padded_l0 s lo hi hs hl h1 h2 (List.replicate (s.length : Int).toNat 0) (by simp) s.length [] k (by simp) (by omega)
   rw [List.length_nil,n0,List.drop_zero,List.drop_zero,List.drop_zero,List.drop_zero,List.nil_append,List.nil_append] at l0
   rw [if_pos (by omega),if_pos (by omega),if_pos (by omega),l0,Option.bind_some]
   by_cases c : zMay s lo hi = true
   ·rw [if_pos c,if_pos c,Sum.elim_inl,shape_Right_f _ k hk,Option.bind_some]
    by_cases c2 : mSR (zp s lo hi) = true
    ·rw [if_pos c2,if_pos c2]
    ·rw [if_neg c2,if_neg c2]
   ·rw [if_neg c,if_neg c,Sum.elim_inr]
  ·rw [if_pos (by omega),if_neg (by omega),if_neg (fun hh => h2 (zMay_len hh).2)]
 ·rw [if_neg (by omega),if_neg (fun hh => h1 (zMay_len hh).1)]
def zSub : List Int → List Int → List Int := List.zipWith (· - ·)
def pdF (s d lo : List Int) (c : Int) (p : List Int) : Int := if mIn s (zSub p lo) = true then d.getD (ix s (zSub p lo)).toNat 0 else c
def zPad (s d lo hi : List Int) (c : Int) : List Int := made (zp s lo hi) (pdF s d lo c)
end Go.Pf

namespace Go.Pf
open Go Go.Vm
theorem ref4_Pad_l0 (s d lo hi : List Int) (c : Int) (hs : ∀ a ∈ s,0 ≤ a ∧ a ≤ 32) (hl : s.length ≤ 4) (h1 : lo.length = s.length) (h2 : hi.length = s.length) : ∀ (e : Nat) (L : List Int) (n : Nat),s.length = L.length + e → e < n →
  ref4_Pad.l0 n lo hi c lo.length L.length s d L = some (if zMay (s.drop L.length) (lo.drop L.length) (hi.drop L.length) = true then .inl (L ++ zp (s.drop L.length) (lo.drop L.length) (hi.drop L.length)) else .inr 1)
 | 0,L,n,hi',hn => by
  obtain ⟨n,rfl⟩ : ∃ m,n = m + 1 := ⟨n - 1,by omega⟩
  rw [ref4_Pad.l0,if_neg (by omega),List.drop_eq_nil_of_le (by omega),List.drop_eq_nil_of_le (by omega),List.drop_eq_nil_of_le (by omega)]
  simp [zMay,zp]
 | e + 1,L,n,hi',hn => by
  obtain ⟨n,rfl⟩ : ∃ m,n = m + 1 := ⟨n - 1,by omega⟩
  have ha := hs _ (getD_mem (show L.length < s.length by omega) 0)
  have ih := ref4_Pad_l0 s d lo hi c hs hl h1 h2 e (L ++ [lo.getD L.length 0 + s.getD L.length 0 + hi.getD L.length 0]) n (by simp; omega) (by omega)
  rw [List.length_append,List.length_singleton] at ih
  rw [ref4_Pad.l0,if_pos (by omega),if_pos (by omega),if_pos (show 0 ≤ (L.length : Int) ∧ (L.length : Int) < (hi.length : Int) by omega),if_pos (show 0 ≤ (L.length : Int) ∧ (L.length : Int) < (s.length : Int) by omega),Int.toNat_natCast,
   drop_getD (show L.length < s.length by omega) (0 : Int),drop_getD (show L.length < lo.length by omega) (0 : Int),drop_getD (show L.length < hi.length by omega) (0 : Int)]
  generalize s.getD L.length 0 = a at *
  generalize lo.getD L.length 0 = l at *
  generalize hi.getD L.length 0 = h at *
  by_cases c1 : l < 0
  ·rw [if_pos c1,if_neg (by rw [zMay_cons]; omega)]
  by_cases c2 : h < 0
  ·rw [if_neg c1,if_pos c2,if_neg (by rw [zMay_cons]; omega)]
  by_cases c3 : 32 < l
  ·rw [if_neg c1,if_neg c2,if_pos c3,if_neg (by rw [zMay_cons]; omega)]
  by_cases c4 : 32 < h
  ·rw [if_neg c1,if_neg c2,if_neg c3,if_pos c4,if_neg (by rw [zMay_cons]; omega)]
  rw [if_neg c1,if_neg c2,if_neg c3,if_neg c4,if_pos (by simp only [List.length_singleton]; omega),i64_id (n := l + a) (by omega) (by omega),i64_id (n := l + a + h) (by omega) (by omega),i64_id (n := (L.length : Int) + 1) (by omega) (by omega),show (L.length : Int) + 1 = ((L.length + 1 : Nat) : Int) by omega,ih]
  by_cases c : zMay (s.drop (L.length + 1)) (lo.drop (L.length + 1)) (hi.drop (L.length + 1)) = true
  ·rw [if_pos c,if_pos (zMay_cons.2 ⟨by omega,c⟩)]; simp [zp]
  ·rw [if_neg c,if_neg (fun hh => c (zMay_cons.1 hh).2)]
theorem ref4_Pad_l2 (f : List Int) (p : List Int) (hf : ∀ a ∈ f,0 ≤ a ∧ a ≤ 32) (hp : ∀ a ∈ p,0 ≤ a ∧ a ≤ 32) (hl : f.length ≤ 4) (hlen : p.length = f.length) (x13 x95 x96 : Int) (s d y2 y5 y6 : List Int) : ∀ (e : Nat) (L : List Int) (n : Nat),f.length = L.length + e → e < n →
  ref4_Pad.l2 n f x13 x95 x96 p.length L.length s d y2 (L ++ p.drop L.length) y5 y6 = some (L ++ zAdd (p.drop L.length) (f.drop L.length))
 | 0,L,n,hi,hn => by
  obtain ⟨n,rfl⟩ : ∃ m,n = m + 1 := ⟨n - 1,by omega⟩
  rw [ref4_Pad.l2,if_neg (by omega),List.drop_eq_nil_of_le (by omega)]; rfl
 | e + 1,L,n,hi,hn => by
  obtain ⟨n,rfl⟩ : ∃ m,n = m + 1 := ⟨n - 1,by omega⟩
  have ha := hf _ (getD_mem (show L.length < f.length by omega) 0)
  have hb := hp _ (getD_mem (show L.length < p.length by omega) 0)
  have ih := ref4_Pad_l2 f p hf hp hl hlen x13 x95 x96 s d y2 y5 y6 e (L ++ [p.getD L.length 0 + f.getD L.length 0]) n (by simp; omega) (by omega)
  have hL : (L ++ p.drop L.length).length = f.length := by rw [List.length_append,List.length_drop]; omega
  rw [ref4_Pad.l2,if_pos (by omega),if_pos (by rw [hL]; omega),if_pos (by rw [hL]; omega),if_pos (by omega),Int.toNat_natCast,drop_getD (show L.length < p.length by omega) (0 : Int),drop_getD (show L.length < f.length by omega) (0 : Int),getL,setL,i64_id (n := p.getD L.length 0 + f.getD L.length 0) (by omega) (by omega),i64_id (n := (L.length : Int) + 1) (by omega) (by omega)]
  rw [List.length_append,List.length_singleton] at ih
  rw [show (L.length : Int) + 1 = ((L.length + 1 : Nat) : Int) by omega,ih]
  simp [zAdd]
theorem zSub_zAdd : ∀ {p f : List Int},p.length = f.length → zSub (zAdd p f) f = p
 | [],[],_ => rfl
 | a :: p,b :: f,h => by
  have := zSub_zAdd (p := p) (f := f) (by simpa using h)
  show (a + b - b) :: zSub (zAdd p f) f = a :: p
  rw [this,Int.add_sub_cancel]
 | [],_ :: _,h => by simp at h
 | _ :: _,[],h => by simp at h
theorem zAdd_zSub : ∀ {p f : List Int},p.length = f.length → zAdd (zSub p f) f = p
 | [],[],_ => rfl
 | a :: p,b :: f,h => by
  have := zAdd_zSub (p := p) (f := f) (by simpa using h)
  show (a - b + b) :: zAdd (zSub p f) f = a :: p
  rw [this,Int.sub_add_cancel]
 | [],_ :: _,h => by simp at h
 | _ :: _,[],h => by simp at h
theorem zp_in : ∀ {s lo hi p : List Int},zMay s lo hi = true → mIn s p = true → mIn (zp s lo hi) (zAdd p lo) = true
 | [],[],[],[],_,_ => rfl
 | a :: s,l :: lo,h :: hi,b :: p,hm,hp => by
  obtain ⟨h1,h2⟩ := zMay_cons.1 hm
  obtain ⟨h3,h4⟩ := mIn_cons.1 hp
  exact mIn_cons.2 ⟨by show 0 ≤ b + l ∧ b + l < l + a + h; omega,zp_in h2 h4⟩
 | [],_ :: _,_,_,h,_ => by simp [zMay] at h
 | [],[],_ :: _,_,h,_ => by simp [zMay] at h
 | _ :: _,[],_,_,h,_ => by simp [zMay] at h
 | _ :: _,_ :: _,[],_,h,_ => by simp [zMay] at h
 | [],[],[],_ :: _,_,h => by simp [mIn] at h
 | _ :: _,_ :: _,_ :: _,[],_,h => by simp [mIn] at h
theorem map_set (m t : Nat) (v : Int) (g g' : Nat → Int) (h : g' t = v) (ho : ∀ j,j ≠ t → j < m → g' j = g j) : ((List.range m).map g).set t v = (List.range m).map g' := by
 apply List.ext_getElem (by simp)
 intro j h1 h2
 have hj : j < m := by simpa using h2
 rw [List.getElem_set,List.getElem_map,List.getElem_map,List.getElem_range]
 by_cases e : t = j
 ·subst e; rw [if_pos rfl,h]
 ·rw [if_neg e,ho j (fun h => e h.symm) hj]
def pdI (s d lo : List Int) (c : Int) (i : Nat) (p : List Int) : Int := if mIn s (zSub p lo) = true ∧ ix s (zSub p lo) < i then d.getD (ix s (zSub p lo)).toNat 0 else c
theorem ref4_Pad_l1 {s d lo hi : List Int} (h : zT s d = true) (hm : zMay s lo hi = true) (ho : mSR (zp s lo hi) = true) (c : Int) (k : Nat) (hk : 20 ≤ k) (y4 : List Int) : ∀ (e i n : Nat),d.length = i + e → e + 10 < n →
  ref4_Pad.l1 k n lo d.length i s d (zp s lo hi) y4 ((List.range (pr (zp s lo hi)).toNat).map fun (j : Nat) => pdI s d lo c i (pl (zp s lo hi) j)) = some (zPad s d lo hi c)
 | 0,i,n,hi',hn => by
  obtain ⟨n,rfl⟩ : ∃ m,n = m + 1 := ⟨n - 1,by omega⟩
  obtain ⟨_,hd⟩ := zT_spec h
  rw [ref4_Pad.l1,if_neg (by omega)]
  unfold zPad made
  congr 1
  apply List.map_congr_left
  intro j _
  unfold pdI pdF
  by_cases hc : mIn s (zSub (pl (zp s lo hi) j) lo) = true
  ·have := ix_bd hc
   rw [if_pos ⟨hc,by omega⟩,if_pos hc]
  ·rw [if_neg (fun hh => hc hh.1),if_neg hc]
 | e + 1,i,n,hi',hn => by
  obtain ⟨n,rfl⟩ : ∃ m,n = m + 1 := ⟨n - 1,by omega⟩
  obtain ⟨hr,hd⟩ := zT_spec h
  obtain ⟨g1,g2,g3⟩ := mSR_spec hr
  obtain ⟨l1,l2⟩ := zMay_len hm
  have hpos := mSR_pos hr (by omega)
  have hpi : mIn s (pl s i) = true := pl_in (fun b hb => (hpos b hb).1) i
  have hpo := zp_in hm hpi
  have hb := ix_bd hpo
  have hz : zIx (zp s lo hi) (zAdd (pl s i) lo) = ix (zp s lo hi) (zAdd (pl s i) lo) := if_pos ⟨ho,hpo⟩
  have ih := ref4_Pad_l1 h hm ho c k hk y4 e (i + 1) n (by omega) (by omega)
  have l2 := ref4_Pad_l2 lo (pl s i) (zMay_lo hm) (pl_bd hr (by omega) i) (by omega) (by rw [pl_len]; omega) i d.length i s d (zp s lo hi) y4 ((List.range (pr (zp s lo hi)).toNat).map fun (j : Nat) => pdI s d lo c i (pl (zp s lo hi) j)) lo.length [] n (by simp) (by omega)
  rw [List.length_nil,n0,List.drop_zero,List.drop_zero,List.nil_append,List.nil_append] at l2
  have hix : ix s (pl s i) = i := ix_pl (fun x hx => (g2 x hx).1) (by omega) (by omega)
  have hset := map_set (pr (zp s lo hi)).toNat (ix (zp s lo hi) (zAdd (pl s i) lo)).toNat (d.getD i 0) (fun (j : Nat) => pdI s d lo c i (pl (zp s lo hi) j)) (fun (j : Nat) => pdI s d lo c (i + 1) (pl (zp s lo hi) j))
   (by
    rw [show (((ix (zp s lo hi) (zAdd (pl s i) lo)).toNat : Nat) : Int) = ix (zp s lo hi) (zAdd (pl s i) lo) by omega,pl_ix hpo]
    unfold pdI
    rw [zSub_zAdd (by rw [pl_len]; omega),hix,if_pos ⟨hpi,by omega⟩,Int.toNat_natCast])
   (fun j hj hjm => by
    have hpo0 : 0 < pr (zp s lo hi) := by omega
    have hposo := mSR_pos ho hpo0
    unfold pdI
    by_cases hc : mIn s (zSub (pl (zp s lo hi) j) lo) = true
    ·have hne : ix s (zSub (pl (zp s lo hi) j) lo) ≠ i := fun e => by
      have e1 := pl_ix hc
      rw [e] at e1
      have e2 : zAdd (pl s i) lo = pl (zp s lo hi) j := by rw [e1]; exact zAdd_zSub (by rw [pl_len,zp_len l1 (zMay_len hm).2]; omega)
      have e3 := ix_pl (s := zp s lo hi) (fun x hx => ((hposo x hx).1 |> Int.le_of_lt)) (x := (j : Int)) (by omega) (by omega)
      rw [← e2] at e3
      omega
     by_cases ha : ix s (zSub (pl (zp s lo hi) j) lo) < i
     ·rw [if_pos ⟨hc,by omega⟩,if_pos ⟨hc,ha⟩]
     ·rw [if_neg (fun hh => by have := hh.2; omega),if_neg (fun hh => ha hh.2)]
    ·rw [if_neg (fun hh => hc hh.1),if_neg (fun hh => hc hh.1)])
  rw [ref4_Pad.l1,if_pos (by omega),ref1_Place_f hr (by omega) (by omega) k hk,Option.bind_some,l2,Option.bind_some,ref1_Index_f _ _ k hk,Option.bind_some,hz,
   if_pos (by omega),if_pos (by rw [List.length_map,List.length_range]; omega),if_pos (by rw [List.length_map,List.length_range]; omega),Int.toNat_natCast,hset,i64_id (n := (i : Int) + 1) (by omega) (by omega),show (i : Int) + 1 = ((i + 1 : Nat) : Int) by omega]
  exact ih
theorem ref4_Pad_f (s d lo hi : List Int) (c : Int) (k : Nat) (hk : 5000 ≤ k) : ref4_Pad.f k s d lo hi c = some (if zT s d = true then (if zMay s lo hi = true then (if mSR (zp s lo hi) = true then (0,zp s lo hi,zPad s d lo hi c) else (13,[],[])) else (1,[],[])) else (13,[],[])) := by
  unfold ref4_Pad.f
  rw [ref1_Tensor_f s d k (by omega),Option.bind_some]
  by_cases h : zT s d = true
  · obtain ⟨hr,hd⟩ := zT_spec h
    obtain ⟨h4,hs,hpr⟩ := mSR_spec hr
    rw [if_pos h,if_pos h]
    by_cases h1 : lo.length = s.length
    · by_cases h2 : hi.length = s.length
      · have l0 := ref4_Pad_l0 s d lo hi c hs h4 h1 h2 s.length [] k (by simp) (by omega)
        rw [List.length_nil,n0,List.drop_zero,List.drop_zero,List.drop_zero,List.nil_append] at l0
        rw [if_pos (by omega),if_pos (by omega),l0,Option.bind_some]
        by_cases hm : zMay s lo hi = true
        · rw [if_pos hm,if_pos hm,Sum.elim_inl,ref1_Right_f _ k (by omega),Option.bind_some]
          by_cases ho : mSR (zp s lo hi) = true
          · have hol := zp_len h1 h2
            have hb := mSR_spec ho
            have h0 := pr_nonneg fun x hx => (hb.2.1 x hx).1
            have this := ref4_Pad_l1 h hm ho c k (by omega) (zp s lo hi) d.length 0 k (by omega) (by omega)
            rw [if_pos ho,if_pos ho,ref1_Fill_f _ c (by omega) k hk,Option.bind_some,zSz,if_pos ho]
            rw [n0] at this
            have e : List.replicate (pr (zp s lo hi)).toNat c = (List.range (pr (zp s lo hi)).toNat).map fun (j : Nat) => pdI s d lo c 0 (pl (zp s lo hi) j) := by
              apply List.ext_getElem (by simp)
              intro j _ _
              rw [List.getElem_replicate,List.getElem_map]
              unfold pdI
              rw [if_neg (fun hh => by have := ix_bd hh.1; have := hh.2; omega)]
            rw [e,this]; rfl
          · rw [if_neg ho,if_neg ho]
        · rw [if_neg hm,if_neg hm,Sum.elim_inr]
      · rw [if_pos (by omega),if_neg (by omega),if_neg (fun hh => h2 (zMay_len hh).2)]
    · rw [if_neg (by omega),if_neg (fun hh => h1 (zMay_len hh).1)]
  · rw [if_neg h,if_neg h]
end Go.Pf

namespace Go.Pf
open Go Go.Vm
theorem getD_set_self {l : List Int} {i : Nat} {x d : Int} (h : i < l.length) : (l.set i x).getD i d = x := by rw [getD_set,if_pos ⟨rfl,h⟩]
abbrev Tn := List Int × List Int
def zMt (ax : Nat) (s out : List Int) : Nat → Nat → Bool
 | 0,_ => true
 | d + 1,i => (decide (i = ax) || decide (s.getD i 0 = out.getD i 0)) && zMt ax s out d (i + 1)
theorem zMt_get {ax : Nat} {s out : List Int} : ∀ {d i : Nat},zMt ax s out d i = true → ∀ j,i ≤ j → j < i + d → j ≠ ax → s.getD j 0 = out.getD j 0
 | 0,i,_,j,h1,h2,_ => by omega
 | d + 1,i,h,j,h1,h2,hj => by
  simp only [zMt,Bool.and_eq_true,Bool.or_eq_true,decide_eq_true_eq] at h
  by_cases e : i = j
  ·subst e; exact h.1.resolve_left hj
  ·exact zMt_get h.2 j (by omega) (by omega) hj
theorem zMt_step {ax : Nat} {s out : List Int} {d i : Nat} : zMt ax s out (d + 1) i = true ↔ (i = ax ∨ s.getD i 0 = out.getD i 0) ∧ zMt ax s out d (i + 1) = true := by
 simp only [zMt,Bool.and_eq_true,Bool.or_eq_true,decide_eq_true_eq]
def zJo (ax : Nat) : List (List Int) → List Int → Option (List Int)
 | [],out => some out
 | s :: r,out => if s.length = out.length ∧ zMt ax s out s.length 0 = true ∧ out.getD ax 0 + s.getD ax 0 ≤ 32 then zJo ax r (out.set ax (out.getD ax 0 + s.getD ax 0)) else none
theorem axes_Joined_l1 (ax : Nat) (s out : List Int) (hl : s.length ≤ 1000) (he : s.length = out.length) (x33 : List (List Int)) (x34 x35 : Int) (x8 : List Int) : ∀ (d i n : Nat),s.length = i + d → d < n →
  axes_Joined.l1 n ax x8 x33 x34 x35 s s.length i out = some (if zMt ax s out d i = true then .inl () else .inr 13)
 | 0,i,n,hi,hn => by
  obtain ⟨n,rfl⟩ : ∃ m,n = m + 1 := ⟨n - 1,by omega⟩
  rw [axes_Joined.l1,if_neg (by omega)]; rfl
 | d + 1,i,n,hi,hn => by
  obtain ⟨n,rfl⟩ : ∃ m,n = m + 1 := ⟨n - 1,by omega⟩
  have ih := axes_Joined_l1 ax s out hl he x33 x34 x35 x8 d (i + 1) n (by omega) (by omega)
  rw [axes_Joined.l1,if_pos (by omega),if_pos (by omega),i64_id (n := (i : Int) + 1) (by omega) (by omega),show (i : Int) + 1 = ((i + 1 : Nat) : Int) by omega,ih,Int.toNat_natCast]
  by_cases c1 : (i : Int) = ax
  ·rw [if_pos c1]
   by_cases c : zMt ax s out d (i + 1) = true
   ·rw [if_pos c,if_pos (zMt_step.2 ⟨.inl (by omega),c⟩)]
   ·rw [if_neg c,if_neg (fun hh => c (zMt_step.1 hh).2)]
  rw [if_neg c1,if_pos (by omega),if_pos (by omega)]
  by_cases c2 : s.getD i 0 = out.getD i 0
  ·rw [if_pos c2]
   by_cases c : zMt ax s out d (i + 1) = true
   ·rw [if_pos c,if_pos (zMt_step.2 ⟨.inr c2,c⟩)]
   ·rw [if_neg c,if_neg (fun hh => c (zMt_step.1 hh).2)]
  ·rw [if_neg c2,if_neg (fun hh => by
    rcases (zMt_step.1 hh).1 with e | e
    ·omega
    ·exact c2 e)]
theorem axes_Joined_l0 (ax : Nat) (k : Nat) (sh : List (List Int)) (hsh : ∀ s ∈ sh,s.length ≤ 4 ∧ ∀ x ∈ s,0 ≤ x ∧ x ≤ 32) (hl : sh.length ≤ 17592186043904) : ∀ (d i n : Nat) (out : List Int),sh.length = i + d → d + 10 < n → ax < out.length → 0 ≤ out.getD ax 0 → out.getD ax 0 ≤ 32 →
    axes_Joined.l0 k n ax sh sh.length i out = some (match zJo ax (sh.drop i) out with | some o => .inl o | none => .inr 13)
  | 0,i,n,out,hi,hn,hax,h0,h1 => by
    obtain ⟨n,rfl⟩ : ∃ m,n = m + 1 := ⟨n - 1,by omega⟩
    rw [axes_Joined.l0,if_neg (by omega),List.drop_eq_nil_of_le (by omega)]; rfl
  | d + 1,i,n,out,hi,hn,hax,h0,h1 => by
    obtain ⟨n,rfl⟩ : ∃ m,n = m + 1 := ⟨n - 1,by omega⟩
    have hs := hsh _ (getD_mem (show i < sh.length by omega) [])
    rw [axes_Joined.l0,if_pos (by omega),if_pos (by omega),Int.toNat_natCast,drop_getD (show i < sh.length by omega) ([] : List Int)]
    generalize sh.getD i [] = s at hs ⊢
    by_cases c1 : s.length = out.length
    · rw [if_pos (by omega)]
      have l1 := axes_Joined_l1 ax s out (by omega) c1 sh sh.length i s s.length 0 n (by omega) (by omega)
      rw [n0] at l1
      rw [l1,Option.bind_some]
      by_cases c2 : zMt ax s out s.length 0 = true
      · have hx := hs.2 _ (getD_mem (show ax < s.length by omega) 0)
        rw [if_pos c2,Sum.elim_inl,Int.toNat_natCast,if_pos (by omega),if_pos (by omega),if_pos (by omega),i64_id (n := out.getD ax 0 + s.getD ax 0) (by omega) (by omega),if_pos (by rw [List.length_set]; omega),if_pos (by rw [List.length_set]; omega),getD_set_self hax]
        by_cases c3 : 32 < out.getD ax 0 + s.getD ax 0
        · rw [if_pos c3,zJo,if_neg (by omega)]
        · have ih := axes_Joined_l0 ax k sh hsh hl d (i + 1) n (out.set ax (out.getD ax 0 + s.getD ax 0)) (by omega) (by omega) (by rw [List.length_set]; exact hax) (by rw [getD_set_self hax]; omega) (by rw [getD_set_self hax]; omega)
          rw [if_neg c3,i64_id (n := (i : Int) + 1) (by omega) (by omega),show (i : Int) + 1 = ((i + 1 : Nat) : Int) by omega,ih,zJo,if_pos ⟨c1,c2,by omega⟩]
      · rw [if_neg c2,Sum.elim_inr,zJo,if_neg (fun hh => c2 hh.2.1)]
    · rw [if_neg (by omega),zJo,if_neg (fun hh => c1 hh.1)]
def zJs (ax : Int) (sh : List (List Int)) : Int × List Int :=
 if sh = [] ∨ ax < 0 ∨ ((sh.getD 0 []).length : Int) ≤ ax then (1,[]) else
 match zJo ax.toNat sh ((sh.getD 0 []).set ax.toNat 0) with
 | some o => if mSR o = true then (0,o) else (13,[])
 | none => (13,[])
theorem axes_Joined_f (ax : Int) (sh : List (List Int)) (hsh : ∀ s ∈ sh,s.length ≤ 4 ∧ ∀ x ∈ s,0 ≤ x ∧ x ≤ 32) (hl : sh.length ≤ 17592186043904) (k : Nat) (hk : sh.length + 100 ≤ k) : axes_Joined.f k ax sh = some (zJs ax sh) := by
 unfold axes_Joined.f zJs
 by_cases c1 : sh = []
 ·subst c1; rw [if_pos (show (([] : List (List Int)).length : Int) = 0 from rfl),if_pos (.inl rfl)]
 have hpos : 0 < sh.length := List.length_pos_iff.2 c1
 rw [if_neg (by omega)]
 by_cases c2 : ax < 0
 ·rw [if_pos c2,if_pos (.inr (.inl c2))]
 rw [if_neg c2,if_pos (by omega)]
 by_cases c3 : ((sh.getD 0 []).length : Int) ≤ ax
 ·rw [if_pos c3,if_pos (.inr (.inr c3))]
 have hs := hsh _ (getD_mem hpos [])
 rw [if_neg c3,if_neg (fun hh => hh.elim c1 fun hh => hh.elim c2 c3),slices_Clone_int_f _ (by omega),Option.bind_some,if_pos (by omega),if_pos (by omega)]
 have l0 := axes_Joined_l0 ax.toNat k sh hsh hl sh.length 0 k ((sh.getD 0 []).set ax.toNat 0) (by omega) (by omega) (by rw [List.length_set]; omega) (by rw [getD_set_self (by omega)]; omega) (by rw [getD_set_self (by omega)]; omega)
 rw [n0,List.drop_zero,show ((ax.toNat : Nat) : Int) = ax by omega] at l0
 rw [l0,Option.bind_some]
 cases zJo ax.toNat sh ((sh.getD 0 []).set ax.toNat 0) with
 | none => rfl
 | some o =>
  dsimp only
  rw [Sum.elim_inl,shape_Right_f o k (by omega),Option.bind_some]
  by_cases c : mSR o = true
  ·rw [if_pos c,if_pos c]
  ·rw [if_neg c,if_neg c]
def zJ (ax : Nat) : List Tn → List Int → Int
 | [],_ => 0
 | t :: r,p => if p.getD ax 0 < t.1.getD ax 0 then (if mIn t.1 p = true then t.2.getD (ix t.1 p).toNat 0 else 0) else zJ ax r (p.set ax (p.getD ax 0 - t.1.getD ax 0))
end Go.Pf

namespace Go.Pf
open Go Go.Vm
theorem set_len {l : List Int} {i : Nat} {x : Int} : (l.set i x).length = l.length := List.length_set
theorem getD_set_ne {l : List Int} {i j : Nat} {x d : Int} (h : i ≠ j) : (l.set i x).getD j d = l.getD j d := by rw [getD_set,if_neg (fun hh => h hh.1)]
theorem zJo_spec {ax : Nat} : ∀ {sh : List (List Int)} {o0 o : List Int},zJo ax sh o0 = some o → ax < o0.length →
  o.length = o0.length ∧ (∀ s ∈ sh,s.length = o0.length ∧ ∀ j,j < s.length → j ≠ ax → s.getD j 0 = o0.getD j 0) ∧ (∀ j,j ≠ ax → o.getD j 0 = o0.getD j 0) ∧ o.getD ax 0 = o0.getD ax 0 + sm (sh.map fun s => s.getD ax 0)
 | [],o0,o,h,hax => by
  cases h
  exact ⟨rfl,(fun s hs => by cases hs),fun _ _ => rfl,(by simp [sm])⟩
 | s :: r,o0,o,h,hax => by
  unfold zJo at h
  split at h
  rotate_left
  ·cases h
  rename_i hc
  obtain ⟨h1,h2,h3⟩ := hc
  obtain ⟨i1,i2,i3,i4⟩ := zJo_spec h (by rw [set_len]; exact hax)
  rw [set_len] at i1
  rw [getD_set_self hax] at i4
  refine ⟨i1,fun t ht => ?_,fun j hj => by rw [i3 j hj,getD_set_ne (fun e => hj e.symm)],?_⟩
  ·rcases List.mem_cons.1 ht with e | ht
   ·subst e; exact ⟨h1,fun j hj hne => zMt_get h2 j (by omega) (by omega) hne⟩
   ·obtain ⟨k1,k2⟩ := i2 t ht
    rw [set_len] at k1
    exact ⟨k1,fun j hj hne => by rw [k2 j hj hne,getD_set_ne (fun e => hne e.symm)]⟩
  ·rw [i4,List.map_cons]
   show _ = o0.getD ax 0 + (s.getD ax 0 + sm (r.map fun s => s.getD ax 0))
   omega
def zJoin (ax : Int) (l : List Tn) : Int × List Int × List Int :=
 if l.all (fun t => zT t.1 t.2) = true then
  (if (zJs ax (l.map (·.1))).1 = 0 then (0,(zJs ax (l.map (·.1))).2,made (zJs ax (l.map (·.1))).2 (zJ ax.toNat l)) else ((zJs ax (l.map (·.1))).1,[],[]))
 else (13,[],[])
theorem zJs_ok {ax : Int} {l : List Tn} (hT : l.all (fun t => zT t.1 t.2) = true) (h : (zJs ax (l.map (·.1))).1 = 0) :
  ∃ o,(zJs ax (l.map (·.1))).2 = o ∧ mSR o = true ∧ 0 < l.length ∧ 0 ≤ ax ∧ ax.toNat < o.length ∧ zJo ax.toNat (l.map (·.1)) ((l.getD 0 ([],[])).1.set ax.toNat 0) = some o ∧
   o.length = (l.getD 0 ([],[])).1.length ∧ (∀ t ∈ l,t.1.length = o.length ∧ ∀ j,j < o.length → j ≠ ax.toNat → t.1.getD j 0 = o.getD j 0) ∧ o.getD ax.toNat 0 = sm (l.map fun t => t.1.getD ax.toNat 0) := by
 unfold zJs at h ⊢
 split at h
 ·simp at h
 rename_i hc
 rw [if_neg hc]
 have hl : 0 < l.length := by
  refine Nat.pos_of_ne_zero fun e => hc (.inl ?_)
  rw [List.length_eq_zero_iff.1 e]; rfl
 have h0 : ((l.map (·.1)).getD 0 []) = (l.getD 0 ([],[])).1 := by
  cases l with
  | nil => simp at hl
  | cons _ _ => rfl
 rw [h0] at h hc ⊢
 have hax : ax.toNat < ((l.getD 0 ([],[])).1.set ax.toNat 0).length := by rw [set_len]; omega
 cases hz : zJo ax.toNat (l.map (·.1)) ((l.getD 0 ([],[])).1.set ax.toNat 0) with
 | none => rw [hz] at h; simp at h
 | some o =>
  rw [hz] at h
  dsimp only at h ⊢
  by_cases ho : mSR o = true
  ·rw [if_pos ho]
   obtain ⟨i1,i2,i3,i4⟩ := zJo_spec hz hax
   rw [set_len] at i1
   rw [set_len] at hax
   refine ⟨o,rfl,ho,hl,by omega,by omega,rfl,i1,fun t ht => ?_,?_⟩
   ·obtain ⟨k1,k2⟩ := i2 t.1 (List.mem_map_of_mem ht)
    rw [set_len] at k1
    exact ⟨by omega,fun j hj hne => by rw [k2 j (by omega) hne,i3 j hne]⟩
   ·rw [i4,getD_set_self hax,Int.zero_add,List.map_map]; rfl
  ·rw [if_neg ho] at h; simp at h
end Go.Pf

namespace Go.Pf
open Go Go.Vm
theorem ref4_Join_l0 (k : Nat) (hk : 10 ≤ k) (l : List Tn) (hl : l.length ≤ 1000) (a0 : Int) : ∀ (d i n : Nat),l.length = i + d → d < n →
  ref4_Join.l0 k n a0 l l.length i = some (if (l.drop i).all (fun t => zT t.1 t.2) = true then .inl () else .inr 13)
 | 0,i,n,hi,hn => by
  obtain ⟨n,rfl⟩ : ∃ m,n = m + 1 := ⟨n - 1,by omega⟩
  rw [ref4_Join.l0,if_neg (by omega),List.drop_eq_nil_of_le (by omega)]; rfl
 | d + 1,i,n,hi,hn => by
  obtain ⟨n,rfl⟩ : ∃ m,n = m + 1 := ⟨n - 1,by omega⟩
  have ih := ref4_Join_l0 k hk l hl a0 d (i + 1) n (by omega) (by omega)
  rw [ref4_Join.l0,if_pos (by omega),if_pos (by omega),Int.toNat_natCast,ref1_Tensor_f _ _ k hk,Option.bind_some,drop_getD (show i < l.length by omega) (([],[]) : Tn),List.all_cons]
  by_cases c : zT (l.getD i ([],[])).1 (l.getD i ([],[])).2 = true
  ·rw [if_pos c,i64_id (n := (i : Int) + 1) (by omega) (by omega),show (i : Int) + 1 = ((i + 1 : Nat) : Int) by omega,ih,c,Bool.true_and]
  ·rw [if_neg c,if_neg (by rw [Bool.and_eq_true]; exact fun hh => c hh.1)]
theorem ref4_Join_l2 (ax : Nat) (l : List Tn) (q : Nat) (hq : q < l.length) (out : List Int) (hl : out.length ≤ 1000) (he : (l.getD q ([],[])).1.length = out.length) (x55 x56 : Int) : ∀ (d i n : Nat),out.length = i + d → d < n →
  ref4_Join.l2 n ax l q x55 x56 out.length i out = some (if zMt ax (l.getD q ([],[])).1 out d i = true then .inl () else .inr 13)
 | 0,i,n,hi,hn => by
  obtain ⟨n,rfl⟩ : ∃ m,n = m + 1 := ⟨n - 1,by omega⟩
  rw [ref4_Join.l2,if_neg (by omega)]; rfl
 | d + 1,i,n,hi,hn => by
  obtain ⟨n,rfl⟩ : ∃ m,n = m + 1 := ⟨n - 1,by omega⟩
  have ih := ref4_Join_l2 ax l q hq out hl he x55 x56 d (i + 1) n (by omega) (by omega)
  rw [ref4_Join.l2,if_pos (by omega),i64_id (n := (i : Int) + 1) (by omega) (by omega),show (i : Int) + 1 = ((i + 1 : Nat) : Int) by omega,ih,Int.toNat_natCast,Int.toNat_natCast]
  by_cases c1 : (i : Int) = ax
  ·rw [if_pos c1]
   by_cases c : zMt ax (l.getD q ([],[])).1 out d (i + 1) = true
   ·rw [if_pos c,if_pos (zMt_step.2 ⟨.inl (by omega),c⟩)]
   ·rw [if_neg c,if_neg (fun hh => c (zMt_step.1 hh).2)]
  rw [if_neg c1,if_pos (by omega),if_pos (by omega),if_pos (by omega),if_pos (by omega)]
  by_cases c2 : (l.getD q ([],[])).1.getD i 0 = out.getD i 0
  ·rw [if_pos c2]
   by_cases c : zMt ax (l.getD q ([],[])).1 out d (i + 1) = true
   ·rw [if_pos c,if_pos (zMt_step.2 ⟨.inr c2,c⟩)]
   ·rw [if_neg c,if_neg (fun hh => c (zMt_step.1 hh).2)]
  ·rw [if_neg c2,if_neg (fun hh => by
    rcases (zMt_step.1 hh).1 with e | e
    ·omega
    ·exact c2 e)]
theorem ref4_Join_l1 (ax : Nat) (k : Nat) (l : List Tn) (hsh : ∀ t ∈ l,t.1.length ≤ 4 ∧ ∀ x ∈ t.1,0 ≤ x ∧ x ≤ 32) (hl : l.length ≤ 1000) : ∀ (d i n : Nat) (out : List Int),l.length = i + d → d + 10 < n → ax < out.length → 0 ≤ out.getD ax 0 → out.getD ax 0 ≤ 32 →
    ref4_Join.l1 k n ax l l.length i out = some (match zJo ax ((l.drop i).map (·.1)) out with | some o => .inl o | none => .inr 13)
  | 0,i,n,out,hi,hn,hax,h0,h1 => by
    obtain ⟨n,rfl⟩ : ∃ m,n = m + 1 := ⟨n - 1,by omega⟩
    rw [ref4_Join.l1,if_neg (by omega),List.drop_eq_nil_of_le (by omega)]; rfl
  | d + 1,i,n,out,hi,hn,hax,h0,h1 => by
    obtain ⟨n,rfl⟩ : ∃ m,n = m + 1 := ⟨n - 1,by omega⟩
    have hs := hsh _ (getD_mem (show i < l.length by omega) ([],[]))
    rw [ref4_Join.l1,if_pos (by omega),if_pos (by omega),drop_getD (show i < l.length by omega) (([],[]) : Tn),List.map_cons,show ((i : Int)).toNat = i from Int.toNat_natCast i]
    by_cases c1 : (l.getD i ([],[])).1.length = out.length
    · rw [if_pos (by omega)]
      have l2 := ref4_Join_l2 ax l i (by omega) out (by omega) c1 l.length i out.length 0 n (by omega) (by omega)
      rw [n0] at l2
      rw [l2,Option.bind_some]
      generalize (l.getD i ([],[])).1 = s at hs c1 ⊢
      by_cases c2 : zMt ax s out out.length 0 = true
      · have hx := hs.2 _ (getD_mem (show ax < s.length by omega) 0)
        rw [if_pos c2,Sum.elim_inl,Int.toNat_natCast,if_pos (by omega),if_pos (by omega),if_pos (by omega),i64_id (n := out.getD ax 0 + s.getD ax 0) (by omega) (by omega),if_pos (by rw [List.length_set]; omega),if_pos (by rw [List.length_set]; omega),getD_set_self hax]
        by_cases c3 : 32 < out.getD ax 0 + s.getD ax 0
        · rw [if_pos c3,zJo,if_neg (by omega)]
        · have ih := ref4_Join_l1 ax k l hsh hl d (i + 1) n (out.set ax (out.getD ax 0 + s.getD ax 0)) (by omega) (by omega) (by rw [List.length_set]; exact hax) (by rw [getD_set_self hax]; omega) (by rw [getD_set_self hax]; omega)
          rw [if_neg c3,i64_id (n := (i : Int) + 1) (by omega) (by omega),show (i : Int) + 1 = ((i + 1 : Nat) : Int) by omega,ih,zJo,if_pos ⟨c1,by rw [c1]; exact c2,by omega⟩]
      · rw [if_neg c2,Sum.elim_inr,zJo,if_neg (fun hh => c2 (by rw [← c1]; exact hh.2.1))]
    · rw [if_neg (by omega),zJo,if_neg (fun hh => c1 hh.1)]
def jnG (ax : Nat) (l : List Tn) (c : Int) (s : List Int) (i : Nat) (p : List Int) : Int :=
 if p.getD ax 0 < c ∨ (p.getD ax 0 < c + s.getD ax 0 ∧ ix s (p.set ax (p.getD ax 0 - c)) < i) then zJ ax l p else 0
structure JOK (ax : Nat) (o : List Int) (t : Tn) : Prop where
 T : zT t.1 t.2 = true
 len : t.1.length = o.length
 eq : ∀ j,j < o.length → j ≠ ax → t.1.getD j 0 = o.getD j 0
theorem mIn_down {ax : Nat} {o : List Int} {t : Tn} (h : JOK ax o t) (hax : ax < o.length) {p : List Int} (hp : mIn o p = true) {c : Int} (h0 : c ≤ p.getD ax 0) (h1 : p.getD ax 0 < c + t.1.getD ax 0) : mIn t.1 (p.set ax (p.getD ax 0 - c)) = true := by
 have hl := mIn_len hp
 refine mIn_of (by rw [set_len,hl,h.len]) fun j hj => ?_
 by_cases e : j = ax
 ·subst e; rw [getD_set_self (by omega)]; omega
 ·rw [getD_set_ne (fun e' => e e'.symm),h.eq j (by rw [← h.len]; exact hj) e]
  exact mIn_get hp j (by rw [← h.len]; exact hj)
theorem mIn_up {ax : Nat} {o : List Int} {t : Tn} (h : JOK ax o t) (hax : ax < o.length) {r : List Int} (hr : mIn t.1 r = true) {c : Int} (h0 : 0 ≤ c) (h1 : c + t.1.getD ax 0 ≤ o.getD ax 0) : mIn o (r.set ax (r.getD ax 0 + c)) = true := by
 have hl := mIn_len hr
 refine mIn_of (by rw [set_len,hl,h.len]) fun j hj => ?_
 have hg := mIn_get hr j (by rw [h.len]; exact hj)
 by_cases e : j = ax
 ·subst e; rw [getD_set_self (by rw [hl,h.len]; exact hax)]; omega
 ·rw [getD_set_ne (fun e' => e e'.symm),← h.eq j hj e]; exact hg
theorem set_set {l : List Int} {i : Nat} {x y : Int} : (l.set i x).set i y = l.set i y := by simp
theorem set_self {l : List Int} {i : Nat} {x : Int} (h : x = l.getD i 0) : l.set i x = l := by
 subst h
 apply ext_getD (by simp)
 intro j hj
 rw [getD_set]
 split
 ·rename_i hh; rw [hh.1]
 ·rfl
theorem zJ_skip (ax : Nat) {o : List Int} (hax : ax < o.length) : ∀ (l r : List Tn) (p : List Int),(∀ t ∈ l,0 ≤ t.1.getD ax 0) → ax < p.length → sm (l.map fun t => t.1.getD ax 0) ≤ p.getD ax 0 → zJ ax (l ++ r) p = zJ ax r (p.set ax (p.getD ax 0 - sm (l.map fun t => t.1.getD ax 0)))
 | [],r,p,_,hp,h => by
  show zJ ax r p = zJ ax r (p.set ax (p.getD ax 0 - 0))
  rw [set_self (by omega)]
 | t :: l,r,p,h0,hp,h => by
  have h1 : t.1.getD ax 0 + sm (l.map fun t => t.1.getD ax 0) ≤ p.getD ax 0 := h
  have h2 : 0 ≤ sm (l.map fun t => t.1.getD ax 0) := by
   have : ∀ l : List Tn,(∀ t ∈ l,0 ≤ t.1.getD ax 0) → 0 ≤ sm (l.map fun t => t.1.getD ax 0) := fun l => by
    induction l with
    | nil => intro _; exact Int.le_refl _
    | cons a l ih =>
     intro hh
     have e1 := hh a (List.mem_cons_self ..)
     have e2 := ih fun b hb => hh b (List.mem_cons_of_mem _ hb)
     show 0 ≤ a.1.getD ax 0 + sm (l.map fun t => t.1.getD ax 0)
     omega
   exact this l fun b hb => h0 b (List.mem_cons_of_mem _ hb)
  rw [List.cons_append,zJ,if_neg (by omega),zJ_skip ax hax l r _ (fun b hb => h0 b (List.mem_cons_of_mem _ hb)) (by rw [set_len]; exact hp) (by rw [getD_set_self hp]; omega),getD_set_self hp,set_set]
  show _ = zJ ax r (p.set ax (p.getD ax 0 - (t.1.getD ax 0 + sm (l.map fun t => t.1.getD ax 0))))
  congr 2; omega
end Go.Pf

namespace Go.Pf
open Go Go.Vm
def jnE (ax : Nat) (l : List Tn) (c : Int) (p : List Int) : Int := if p.getD ax 0 < c then zJ ax l p else 0
def puts (o : List Int) (f : List Int → Int) : List Int := (List.range (pr o).toNat).map fun (j : Nat) => f (pl o j)
theorem puts_congr {o : List Int} (ho : mSR o = true) {f g : List Int → Int} (h : ∀ p,mIn o p = true → f p = g p) : puts o f = puts o g := made_congr ho h
theorem puts_len {o : List Int} (f : List Int → Int) : (puts o f).length = (pr o).toNat := by simp [puts]
theorem ref4_Join_l4 {ax : Nat} {o : List Int} {l : List Tn} {q : Nat} (hq : q < l.length) (hl : l.length ≤ 1000) (ho : mSR o = true) (hax : ax < o.length) (hj : JOK ax o (l.getD q ([],[]))) {c : Int} (c0 : 0 ≤ c) (c1 : c + (l.getD q ([],[])).1.getD ax 0 ≤ o.getD ax 0)
  (hv : ∀ p,mIn o p = true → c ≤ p.getD ax 0 → p.getD ax 0 < c + (l.getD q ([],[])).1.getD ax 0 → zJ ax l p = (l.getD q ([],[])).2.getD (ix (l.getD q ([],[])).1 (p.set ax (p.getD ax 0 - c))).toNat 0)
  (k : Nat) (hk : 20 ≤ k) (x124 x125 : Int) (y3 : List Int) : ∀ (e i n : Nat),(l.getD q ([],[])).2.length = i + e → e < n →
  ref4_Join.l4 k n ax l c q x124 x125 (l.getD q ([],[])).2.length i o y3 (puts o (jnG ax l c (l.getD q ([],[])).1 i)) = some (puts o (jnE ax l (c + (l.getD q ([],[])).1.getD ax 0)))
 | 0,i,n,hi,hn => by
  obtain ⟨n,rfl⟩ : ∃ m,n = m + 1 := ⟨n - 1,by omega⟩
  rw [ref4_Join.l4,if_neg (by omega)]
  generalize l.getD q ([],[]) = t at *
  obtain ⟨_,hd⟩ := zT_spec hj.T
  congr 1
  refine puts_congr ho fun p hp => ?_
  unfold jnG jnE
  by_cases h1 : p.getD ax 0 < c
  ·have hs := (mSR_spec (zT_spec hj.T).1).2.1 _ (getD_mem (show ax < t.1.length by rw [hj.len]; exact hax) 0)
   rw [if_pos (.inl h1),if_pos (by omega)]
  ·by_cases h2 : p.getD ax 0 < c + t.1.getD ax 0
   ·have := ix_bd (mIn_down hj hax hp (c := c) (by omega) h2)
    rw [if_pos (.inr ⟨h2,by omega⟩),if_pos h2]
   ·rw [if_neg (fun hh => hh.elim h1 fun h => h2 h.1),if_neg h2]
 | e + 1,i,n,hi,hn => by
  obtain ⟨n,rfl⟩ : ∃ m,n = m + 1 := ⟨n - 1,by omega⟩
  have ih := ref4_Join_l4 hq hl ho hax hj c0 c1 hv k hk x124 x125 y3 e (i + 1) n (by omega) (by omega)
  rw [ref4_Join.l4,if_pos (by omega),if_pos (by omega),Int.toNat_natCast]
  generalize l.getD q ([],[]) = t at *
  obtain ⟨hr,hd⟩ := zT_spec hj.T
  obtain ⟨g1,g2,g3⟩ := mSR_spec hr
  obtain ⟨b1,b2,b3⟩ := mSR_spec ho
  have hta : ax < t.1.length := by rw [hj.len]; exact hax
  have hpos := mSR_pos hr (by omega)
  have hpi : mIn t.1 (pl t.1 i) = true := pl_in (fun b hb => (hpos b hb).1) i
  have hpo := mIn_up hj hax hpi c0 c1
  have hb := ix_bd hpo
  have hrx := mIn_get hpi ax hta
  have hox := b2 _ (getD_mem hax 0)
  have hix : ix t.1 (pl t.1 i) = i := ix_pl (fun x hx => (g2 x hx).1) (by omega) (by omega)
  have hpl : (pl t.1 i).length = t.1.length := pl_len ..
  rw [ref1_Place_f hr (by omega) (by omega) k hk,Option.bind_some,if_pos (by omega),Int.toNat_natCast,if_pos (by omega),i64_id (n := (pl t.1 i).getD ax 0 + c) (by omega) (by omega),ref1_Index_f _ _ k hk,Option.bind_some]
  have hz : zIx o ((pl t.1 i).set ax ((pl t.1 i).getD ax 0 + c)) = ix o ((pl t.1 i).set ax ((pl t.1 i).getD ax 0 + c)) := if_pos ⟨ho,hpo⟩
  rw [hz]
  have hset := map_set (pr o).toNat (ix o ((pl t.1 i).set ax ((pl t.1 i).getD ax 0 + c))).toNat (t.2.getD i 0) (fun (j : Nat) => jnG ax l c t.1 i (pl o j)) (fun (j : Nat) => jnG ax l c t.1 (i + 1) (pl o j))
   (by
    rw [show (((ix o ((pl t.1 i).set ax ((pl t.1 i).getD ax 0 + c))).toNat : Nat) : Int) = ix o ((pl t.1 i).set ax ((pl t.1 i).getD ax 0 + c)) by omega,pl_ix hpo]
    have hg : ((pl t.1 i).set ax ((pl t.1 i).getD ax 0 + c)).getD ax 0 = (pl t.1 i).getD ax 0 + c := getD_set_self (by omega)
    have hback : (((pl t.1 i).set ax ((pl t.1 i).getD ax 0 + c)).set ax (((pl t.1 i).set ax ((pl t.1 i).getD ax 0 + c)).getD ax 0 - c)) = pl t.1 i := by
     rw [hg,set_set,set_self (by omega)]
    have hval := hv _ hpo (by rw [hg]; omega) (by rw [hg]; omega)
    rw [hback,hix,Int.toNat_natCast] at hval
    unfold jnG
    rw [if_pos (.inr ⟨by rw [hg]; omega,by rw [hback,hix]; omega⟩),hval])
   (fun j hjne hjm => by
    have hposo := mSR_pos ho (by omega)
    have hpj : mIn o (pl o j) = true := pl_in (fun b hb => (hposo b hb).1) j
    have hjx : ix o (pl o j) = j := ix_pl (fun x hx => (b2 x hx).1) (by omega) (by omega)
    unfold jnG
    by_cases h1 : (pl o j).getD ax 0 < c
    ·rw [if_pos (.inl h1),if_pos (.inl h1)]
    ·by_cases h2 : (pl o j).getD ax 0 < c + t.1.getD ax 0
     ·have hdn := mIn_down hj hax hpj (c := c) (by omega) h2
      have hne : ix t.1 ((pl o j).set ax ((pl o j).getD ax 0 - c)) ≠ i := fun e => by
       have e1 := pl_ix hdn
       rw [e] at e1
       have e2 : (pl t.1 i).set ax ((pl t.1 i).getD ax 0 + c) = pl o j := by
        rw [e1,getD_set_self (by rw [pl_len]; exact hax),set_set,set_self (by omega)]
       rw [e2] at hjne
       omega
      by_cases h3 : ix t.1 ((pl o j).set ax ((pl o j).getD ax 0 - c)) < i
      ·rw [if_pos (.inr ⟨h2,by omega⟩),if_pos (.inr ⟨h2,h3⟩)]
      ·rw [if_neg (fun hh => hh.elim h1 fun h => by have := h.2; omega),if_neg (fun hh => hh.elim h1 fun h => h3 h.2)]
     ·rw [if_neg (fun hh => hh.elim h1 fun h => h2 h.1),if_neg (fun hh => hh.elim h1 fun h => h2 h.1)])
  rw [if_pos (by omega),if_pos (by rw [puts_len]; omega),if_pos (by rw [puts_len]; omega),Int.toNat_natCast,show puts o (jnG ax l c t.1 i) = (List.range (pr o).toNat).map (fun (j : Nat) => jnG ax l c t.1 i (pl o j)) from rfl,hset,i64_id (n := (i : Int) + 1) (by omega) (by omega),show (i : Int) + 1 = ((i + 1 : Nat) : Int) by omega]
  exact ih
theorem ref4_Join_l3 {ax : Nat} {o : List Int} {l : List Tn} (hl : l.length ≤ 1000) (ho : mSR o = true) (hax : ax < o.length) (hj : ∀ t ∈ l,JOK ax o t) (hsum : o.getD ax 0 = sm (l.map fun t => t.1.getD ax 0)) (k : Nat) (hk : 5000 ≤ k) (y3 : List Int) : ∀ (e q n : Nat),l.length = q + e → e + 4500 < n →
  ref4_Join.l3 k n ax l (sm ((l.take q).map fun t => t.1.getD ax 0)) l.length q o y3 (puts o (jnE ax l (sm ((l.take q).map fun t => t.1.getD ax 0)))) = some (made o (zJ ax l))
 | 0,q,n,hi,hn => by
  obtain ⟨n,rfl⟩ : ∃ m,n = m + 1 := ⟨n - 1,by omega⟩
  rw [ref4_Join.l3,if_neg (by omega),List.take_of_length_le (by omega),← hsum]
  congr 1
  refine puts_congr ho fun p hp => ?_
  unfold jnE
  rw [if_pos (mIn_get hp ax hax).2]
 | e + 1,q,n,hi,hn => by
  obtain ⟨n,rfl⟩ : ∃ m,n = m + 1 := ⟨n - 1,by omega⟩
  have ih := ref4_Join_l3 hl ho hax hj hsum k hk y3 e (q + 1) n (by omega) (by omega)
  have hnn : ∀ t ∈ l,0 ≤ t.1.getD ax 0 := fun t ht => ((mSR_spec (zT_spec (hj t ht).T).1).2.1 _ (getD_mem (show ax < t.1.length by rw [(hj t ht).len]; exact hax) 0)).1
  have sm_nn : ∀ r : List Tn,(∀ t ∈ r,0 ≤ t.1.getD ax 0) → 0 ≤ sm (r.map fun t => t.1.getD ax 0) := fun r => by
   induction r with
   | nil => intro _; exact Int.le_refl _
   | cons a r ih =>
    intro hh
    have e1 := hh a (List.mem_cons_self ..)
    have e2 := ih fun b hb => hh b (List.mem_cons_of_mem _ hb)
    show 0 ≤ a.1.getD ax 0 + sm (r.map fun t => t.1.getD ax 0)
    omega
  have sm_app : ∀ a b : List Tn,sm ((a ++ b).map fun t => t.1.getD ax 0) = sm (a.map fun t => t.1.getD ax 0) + sm (b.map fun t => t.1.getD ax 0) := fun a b => by
   induction a with
   | nil => simp [sm]
   | cons x a ih =>
    show x.1.getD ax 0 + sm ((a ++ b).map fun t => t.1.getD ax 0) = x.1.getD ax 0 + sm (a.map fun t => t.1.getD ax 0) + _
    rw [ih]; omega
  have hmem := getD_mem (show q < l.length by omega) (([],[]) : Tn)
  have hc0 := sm_nn (l.take q) fun t ht => hnn t (List.mem_of_mem_take ht)
  have hsplit : l = l.take q ++ (l.getD q ([],[]) :: l.drop (q + 1)) := by
   rw [← drop_getD (show q < l.length by omega) (([],[]) : Tn)]
   exact (List.take_append_drop q l).symm
  have hc2 := sm_nn (l.drop (q + 1)) fun t ht => hnn t (List.mem_of_mem_drop ht)
  have htot : o.getD ax 0 = sm ((l.take q).map fun t => t.1.getD ax 0) + ((l.getD q ([],[])).1.getD ax 0 + sm ((l.drop (q + 1)).map fun t => t.1.getD ax 0)) := by
   rw [hsum]
   conv => lhs; rw [hsplit]
   rw [sm_app]; rfl
  have hnext : sm ((l.take (q + 1)).map fun t => t.1.getD ax 0) = sm ((l.take q).map fun t => t.1.getD ax 0) + (l.getD q ([],[])).1.getD ax 0 := by
   have : l.take (q + 1) = l.take q ++ [l.getD q ([],[])] := by
    rw [List.take_add_one,List.getD_eq_getElem?_getD,List.getElem?_eq_getElem (show q < l.length by omega)]; rfl
   rw [this,sm_app]
   show _ + ((l.getD q ([],[])).1.getD ax 0 + 0) = _
   omega
  rw [hnext] at ih
  have hj1 := hj _ hmem
  have hv : ∀ p,mIn o p = true → sm ((l.take q).map fun t => t.1.getD ax 0) ≤ p.getD ax 0 → p.getD ax 0 < sm ((l.take q).map fun t => t.1.getD ax 0) + (l.getD q ([],[])).1.getD ax 0 → zJ ax l p = (l.getD q ([],[])).2.getD (ix (l.getD q ([],[])).1 (p.set ax (p.getD ax 0 - sm ((l.take q).map fun t => t.1.getD ax 0)))).toNat 0 := fun p hp h1 h2 => by
   have hpl := mIn_len hp
   have hdn := mIn_down hj1 hax hp h1 h2
   have e1 := zJ_skip ax hax (l.take q) (l.getD q ([],[]) :: l.drop (q + 1)) p (fun t ht => hnn t (List.mem_of_mem_take ht)) (by omega) h1
   rw [← hsplit] at e1
   rw [e1,zJ,if_pos (by rw [getD_set_self (by omega)]; omega),if_pos hdn]
  have hx := (mSR_spec (zT_spec hj1.T).1).2.1 _ (getD_mem (show ax < (l.getD q ([],[])).1.length by rw [hj1.len]; exact hax) 0)
  have hox := (mSR_spec ho).2.1 _ (getD_mem hax 0)
  have hdl := (zT_spec hj1.T).2
  have hpr := (mSR_spec (zT_spec hj1.T).1).2.2
  have l4 := ref4_Join_l4 (show q < l.length by omega) hl ho hax hj1 hc0 (by omega) hv k (by omega) l.length q y3 (l.getD q ([],[])).2.length 0 n (by omega) (by omega)
  have e0 : puts o (jnG ax l (sm ((l.take q).map fun t => t.1.getD ax 0)) (l.getD q ([],[])).1 0) = puts o (jnE ax l (sm ((l.take q).map fun t => t.1.getD ax 0))) := puts_congr ho fun p hp => by
   unfold jnG jnE
   by_cases h1 : p.getD ax 0 < sm ((l.take q).map fun t => t.1.getD ax 0)
   ·rw [if_pos (.inl h1),if_pos h1]
   ·rw [if_neg (fun hh => hh.elim h1 fun h => by
     have := ix_bd (mIn_down hj1 hax hp (c := sm ((l.take q).map fun t => t.1.getD ax 0)) (by omega) h.1)
     have := h.2
     omega),if_neg h1]
  rw [e0,n0] at l4
  rw [ref4_Join.l3,if_pos (by omega),if_pos (by omega),show ((q : Int)).toNat = q from Int.toNat_natCast q,l4,Option.bind_some,if_pos (by rw [hj1.len]; omega),Int.toNat_natCast,i64_id (n := _ + (l.getD q ([],[])).1.getD ax 0) (by omega) (by omega),i64_id (n := (q : Int) + 1) (by omega) (by omega),show (q : Int) + 1 = ((q + 1 : Nat) : Int) by omega]
  exact ih
theorem ref4_Join_f (ax : Int) (l : List Tn) (hl : l.length ≤ 400) (k : Nat) (hk : 5000 ≤ k) : ref4_Join.f k ax l = some (zJoin ax l) := by
  unfold ref4_Join.f zJoin
  have l0 := ref4_Join_l0 k (by omega) l (by omega) ax l.length 0 k (by omega) (by omega)
  rw [n0,List.drop_zero] at l0
  rw [l0,Option.bind_some]
  by_cases hT : l.all (fun t => zT t.1 t.2) = true
  · have hT' : ∀ t ∈ l,zT t.1 t.2 = true := List.all_eq_true.1 hT
    rw [if_pos hT,if_pos hT,Sum.elim_inl]
    by_cases c1 : l = []
    · subst c1; rw [if_pos (show (([] : List Tn).length : Int) = 0 from rfl)]; rfl
    have hpos : 0 < l.length := List.length_pos_iff.2 c1
    have h0 : ((l.map (·.1)).getD 0 []) = (l.getD 0 ([],[])).1 := by
      cases l with
      | nil => simp at hpos
      | cons _ _ => rfl
    have hne : l.map (·.1) ≠ [] := fun e => c1 (List.map_eq_nil_iff.1 e)
    rw [if_neg (by omega)]
    by_cases c2 : ax < 0
    · have e : zJs ax (l.map (·.1)) = (1,[]) := if_pos (.inr (.inl c2))
      rw [if_pos c2,e]; rfl
    rw [if_neg c2,if_pos (by omega)]
    by_cases c3 : ((l.getD 0 ([],[])).1.length : Int) ≤ ax
    · have e : zJs ax (l.map (·.1)) = (1,[]) := if_pos (.inr (.inr (by rw [h0]; exact c3)))
      rw [if_pos c3,e]; rfl
    have hs := mSR_spec (zT_spec (hT' _ (getD_mem hpos ([],[])))).1
    rw [if_neg c3,if_pos (by omega),if_pos (by rw [List.nil_append]; omega),if_pos (by rw [List.nil_append]; omega),List.nil_append]
    have l1 := ref4_Join_l1 ax.toNat k l (fun t ht => by have := mSR_spec (zT_spec (hT' t ht)).1; exact ⟨this.1,this.2.1⟩) (by omega) l.length 0 k ((l.getD 0 ([],[])).1.set ax.toNat 0) (by omega) (by omega) (by rw [set_len]; omega) (by rw [getD_set_self (by omega)]; omega) (by rw [getD_set_self (by omega)]; omega)
    rw [n0,List.drop_zero,show ((ax.toNat : Nat) : Int) = ax by omega] at l1
    rw [l1,Option.bind_some]
    have ejs : zJs ax (l.map (·.1)) = match zJo ax.toNat (l.map (·.1)) ((l.getD 0 ([],[])).1.set ax.toNat 0) with
      | some o => if mSR o = true then (0,o) else (13,[])
      | none => (13,[]) := by
      unfold zJs
      rw [if_neg (fun hh => hh.elim hne fun hh => hh.elim c2 (by rw [h0]; exact c3)),h0]
      all_goals (cases zJo ax.toNat (l.map (·.1)) ((l.getD 0 ([],[])).1.set ax.toNat 0) <;> rfl)
    cases hz : zJo ax.toNat (l.map (·.1)) ((l.getD 0 ([],[])).1.set ax.toNat 0) with
    | none =>
      rw [hz] at ejs
      rw [ejs]; rfl
    | some o =>
      rw [hz] at ejs
      dsimp only at ejs ⊢
      rw [Sum.elim_inl,ref1_Right_f o k (by omega),Option.bind_some]
      by_cases ho : mSR o = true
      · rw [if_pos ho] at ejs
        have hc : (zJs ax (l.map (·.1))).1 = 0 := by rw [ejs]
        obtain ⟨o',e,ho',_,hax0,hax,hz',hlen,hall,hsum⟩ := zJs_ok hT hc
        have : o' = o := by rw [← e,ejs]
        subst this
        have hb := mSR_spec ho
        have l3 := ref4_Join_l3 (ax := ax.toNat) (by omega) ho hax (fun t ht => ⟨hT' t ht,(hall t ht).1,(hall t ht).2⟩) hsum k hk o' l.length 0 k (by omega) (by omega)
        rw [n0,show ((ax.toNat : Nat) : Int) = ax by omega,List.take_zero] at l3
        have ez : List.replicate (pr o').toNat (0 : Int) = puts o' (jnE ax.toNat l (sm (([] : List Tn).map fun t => t.1.getD ax.toNat 0))) := by
          rw [show List.replicate (pr o').toNat (0 : Int) = puts o' (fun _=>0) by
            apply List.ext_getElem (by simp [puts])
            intro j _ _
            simp [puts]]
          refine puts_congr ho fun p hp => ?_
          unfold jnE
          rw [if_neg (fun hh => by have := (mIn_get hp ax.toNat hax).1; have hh : p.getD ax.toNat 0 < 0 := hh; omega)]
        rw [if_pos ho,ref1_Fill_f o' 0 (by omega) k hk,Option.bind_some,zSz,if_pos ho,ez,ejs]
        dsimp only
        rw [if_pos rfl]
        rw [show sm (([] : List Tn).map fun t => t.1.getD ax.toNat 0) = 0 from rfl] at l3 ⊢
        rw [l3]; rfl
      · rw [if_neg ho] at ejs
        rw [if_neg ho,ejs]; rfl
  · rw [if_neg hT,if_neg hT]; rfl
end Go.Pf

namespace Go.Pf
open Go Go.Vm
structure Small (x : Int × List Int × List Int) : Prop where
 s : x.2.1.length ≤ 4
 d : x.2.2.length ≤ 4096
theorem zJs_R {ax : Int} {sh : List (List Int)} (h : (zJs ax sh).1 = 0) : mSR (zJs ax sh).2 = true := by
 unfold zJs at h ⊢
 split at h
 ·simp at h
 rename_i hc
 rw [if_neg hc]
 cases hz : zJo ax.toNat sh ((sh.getD 0 []).set ax.toNat 0) with
 | none => rw [hz] at h; simp at h
 | some o =>
  rw [hz] at h
  dsimp only at h ⊢
  by_cases ho : mSR o = true
  ·rw [if_pos ho]; exact ho
  ·rw [if_neg ho] at h; simp at h
theorem tape_Number (L : List Int) (hL : L.length ≤ 17592186044415) (hw : ∀ x ∈ L,-9223372036854775808 ≤ x ∧ x < 9223372036854775808) (p : Int) (h0 : 0 ≤ p) (hp : p ≤ 17592186000000) :
  ∃ r q,keep_Tape_Number.f L p = some (r,q) ∧ 0 ≤ q ∧ q ≤ p + 2 := by
 unfold keep_Tape_Number.f
 obtain ⟨r,q,e,r0,r1,q0,_,_,q1⟩ := tape_Next 9 L hL hw p h0 (by omega) (by omega)
 rw [e,Option.bind_some]
 dsimp only
 by_cases c : r = 0
 ·obtain ⟨r',q',e',r0',r1',q0',_,_,q1'⟩ := tape_Next 6 L hL hw q q0 (by omega) (by omega)
  rw [if_pos c,e',Option.bind_some]
  dsimp only
  rw [if_pos ⟨r0',by show r' < 6; omega⟩,if_pos (by show r'.toNat < 6; omega)]
  exact ⟨_,_,rfl,q0',by omega⟩
 ·rw [if_neg c]
  by_cases c1 : r = 1
  ·rw [if_pos c1]; exact ⟨_,_,rfl,q0,by omega⟩
  ·obtain ⟨r',q',e',r0',r1',q0',_,_,q1'⟩ := tape_Next 19 L hL hw q q0 (by omega) (by omega)
   rw [if_neg c1,e',Option.bind_some]
   exact ⟨_,_,rfl,q0',by omega⟩
end Go.Pf

namespace Go.Pf
open Go Go.Vm
theorem rep_getD (n j : Nat) : (List.replicate n (0 : Int)).getD j 0 = 0 := by
 rw [List.getD_eq_getElem?_getD,List.getElem?_replicate]; split <;> rfl
theorem zSl_of : ∀ {s f z : List Int},f.length = s.length → z.length = s.length → (∀ j,j < s.length → 0 ≤ f.getD j 0 ∧ f.getD j 0 ≤ s.getD j 0 ∧ 0 ≤ z.getD j 0 ∧ z.getD j 0 ≤ s.getD j 0 - f.getD j 0) → zSl s f z = true
 | [],[],[],_,_,_ => rfl
 | a :: s,b :: f,c :: z,h1,h2,h => zSl_cons.2 ⟨h 0 (by simp),zSl_of (by simpa using h1) (by simpa using h2) fun j hj => h (j + 1) (by simpa using hj)⟩
 | [],_ :: _,_,h,_,_ => by simp at h
 | [],[],_ :: _,_,h,_ => by simp at h
 | _ :: _,[],_,h,_,_ => by simp at h
 | _ :: _,_ :: _,[],_,h,_ => by simp at h
theorem mSR_get {s : List Int} (h : mSR s = true) {j : Nat} (hj : j < s.length) : 0 ≤ s.getD j 0 ∧ s.getD j 0 ≤ 32 := (mSR_spec h).2.1 _ (getD_mem hj 0)
theorem mIn_getD {s p : List Int} (h : mIn s p = true) {j : Nat} (hj : j < s.length) : 0 ≤ p.getD j 0 ∧ p.getD j 0 < s.getD j 0 := mIn_get h j hj
end Go.Pf

namespace Go.Pf
open Go Go.Vm
theorem iterX {S R : Type} {L : Nat → Int → S → Option R} {st : Nat → S} (res : Nat → R) {m : Nat} (N : Nat)
  (hend : ∀ n,N ≤ n → L (n + 1) (m : Int) (st m) = some (res m))
  (hstep : ∀ i n,i < m → N ≤ n → L n ((i + 1 : Nat) : Int) (st (i + 1)) = some (res (i + 1)) → L (n + 1) (i : Int) (st i) = some (res i)) :
  ∀ (e i n : Nat),m = i + e → e + N < n → L n (i : Int) (st i) = some (res i)
 | 0,i,n,hi,hn => by
  obtain ⟨n,rfl⟩ : ∃ q,n = q + 1 := ⟨n - 1,by omega⟩
  obtain rfl : m = i := by omega
  exact hend n (by omega)
 | e + 1,i,n,hi,hn => by
  obtain ⟨n,rfl⟩ : ∃ q,n = q + 1 := ⟨n - 1,by omega⟩
  exact hstep i n (by omega) (by omega) (iterX res N hend hstep e (i + 1) n (by omega) (by omega))
theorem iter0 {S R : Type} {L : Nat → Int → S → Option R} {st : Nat → S} (res : Nat → R) {m : Nat} (N : Nat)
  (hend : ∀ n,N ≤ n → L (n + 1) (m : Int) (st m) = some (res m))
  (hstep : ∀ i n,i < m → N ≤ n → L n ((i + 1 : Nat) : Int) (st (i + 1)) = some (res (i + 1)) → L (n + 1) (i : Int) (st i) = some (res i)) (n : Nat) (hn : m + N < n) : L n 0 (st 0) = some (res 0) :=
 iterX res N hend hstep m 0 n (by omega) hn
theorem i64_succ {i m : Nat} (h : i < m) (hm : m ≤ 1152921504606846976) : IntKind.i64.wrap ((i : Int) + 1) = ((i + 1 : Nat) : Int) := by
 rw [i64_id (by omega) (by omega)]; omega
theorem ref1_Ints_f (a b : List Int) (ha : a.length ≤ 17592186043904) (k : Nat) (hk : a.length < k) : ref1_Ints.f k a b = some (decide (a = b)) := by
 unfold ref1_Ints.f
 by_cases hl : a.length = b.length
 ·have := iter0 (L := fun n i (_ : Unit) => ref1_Ints.l0 n a b i) (st := fun _=>()) (fun i => if a.drop i = b.drop i then .inl () else .inr false) (m := a.length) 0
   (fun n _ => by rw [ref1_Ints.l0,if_neg (by omega),List.drop_eq_nil_of_le (Nat.le_refl _),List.drop_eq_nil_of_le (by omega),if_pos rfl])
   (fun i n hi _ ih => by
    rw [ref1_Ints.l0,if_pos (by omega),if_pos (by omega),if_pos (by omega),Int.toNat_natCast,i64_succ hi (by omega),ih,drop_getD hi (0 : Int),drop_getD (show i < b.length by omega) (0 : Int)]
    by_cases c : a.getD i 0 = b.getD i 0
    ·rw [if_pos c,c]
     by_cases c2 : a.drop (i + 1) = b.drop (i + 1)
     ·rw [if_pos c2,c2,if_pos rfl]
     ·rw [if_neg c2,if_neg (fun h => c2 (List.cons.inj h).2)]
    ·rw [if_neg c,if_neg (fun h => c (List.cons.inj h).1)]) k (by omega)
  rw [if_pos (by omega),this,List.drop_zero,List.drop_zero]
  by_cases c : a = b
  ·rw [if_pos c,decide_eq_true c]; rfl
  ·rw [if_neg c,decide_eq_false c]; rfl
 ·rw [if_neg (by omega),decide_eq_false (fun h => hl (by rw [h]))]
theorem slices_Equal_int_f (a b : List Int) (ha : a.length ≤ 17592186043904) (k : Nat) (hk : a.length < k) : slices_Equal_int.f k a b = some (decide (a = b)) := by
 unfold slices_Equal_int.f
 by_cases hl : a.length = b.length
 ·have := iter0 (L := fun n i (_ : Unit) => slices_Equal_int.l0 n a b a.length i) (st := fun _=>()) (fun i => if a.drop i = b.drop i then .inl () else .inr false) (m := a.length) 0
   (fun n _ => by rw [slices_Equal_int.l0,if_neg (by omega),List.drop_eq_nil_of_le (Nat.le_refl _),List.drop_eq_nil_of_le (by omega),if_pos rfl])
   (fun i n hi _ ih => by
    rw [slices_Equal_int.l0,if_pos (by omega),if_pos (by omega),if_pos (by omega),Int.toNat_natCast,i64_succ hi (by omega),ih,drop_getD hi (0 : Int),drop_getD (show i < b.length by omega) (0 : Int)]
    by_cases c : a.getD i 0 = b.getD i 0
    ·rw [if_pos c,c]
     by_cases c2 : a.drop (i + 1) = b.drop (i + 1)
     ·rw [if_pos c2,c2,if_pos rfl]
     ·rw [if_neg c2,if_neg (fun h => c2 (List.cons.inj h).2)]
    ·rw [if_neg c,if_neg (fun h => c (List.cons.inj h).1)]) k (by omega)
  rw [if_pos (by omega),this,List.drop_zero,List.drop_zero]
  by_cases c : a = b
  ·rw [if_pos c,decide_eq_true c]; rfl
  ·rw [if_neg c,decide_eq_false c]; rfl
 ·rw [if_neg (by omega),decide_eq_false (fun h => hl (by rw [h]))]
def stp (op a b : Int) : Int :=
 if op = 4 then IntKind.i64.wrap (0 - a) else if op = 5 then (if a = 0 then 1 else 0) else if op = 6 then IntKind.i64.wrap (a + b) else if op = 7 then IntKind.i64.wrap (a - b) else if op = 8 then IntKind.i64.wrap (a * b)
 else if op = 9 then (if b < a then b else a) else if op = 10 then (if a < b then b else a) else if op = 11 then (if a < b then 1 else 0) else 0
theorem ref4_Step_f (op a b : Int) : ref4_Step.f op a b = some (stp op a b) := by
 unfold ref4_Step.f stp ref4_bit.f
 repeat' split
 all_goals simp_all
theorem ref4_all_f (l : List Tn) (hl : l.length ≤ 1000) (hpos : l ≠ []) (k : Nat) (hk : 5000 ≤ k) :
  ref4_all.f k l = some (if l.all (fun t => zT t.1 t.2 && decide (t.1 = (l.getD 0 ([],[])).1)) = true then 0 else 13) := by
 have hp := List.length_pos_iff.2 hpos
 have := iter0 (L := fun n i (_ : Unit) => ref4_all.l0 k n l i) (st := fun _=>()) (fun i => if (l.drop i).all (fun t => zT t.1 t.2 && decide (t.1 = (l.getD 0 ([],[])).1)) = true then .inl () else .inr 13) (m := l.length) 0
  (fun n _ => by rw [ref4_all.l0,if_neg (by omega),List.drop_eq_nil_of_le (Nat.le_refl _)]; rfl)
  (fun i n hi _ ih => by
   rw [ref4_all.l0,if_pos (by omega),if_pos (by omega),Int.toNat_natCast,ref1_Tensor_f _ _ k (by omega),Option.bind_some,i64_succ hi (by omega),ih,drop_getD hi (([],[]) : Tn),List.all_cons]
   by_cases c : zT (l.getD i ([],[])).1 (l.getD i ([],[])).2 = true
   ·have hb := mSR_spec (zT_spec c).1
    rw [if_pos c,if_pos (by omega),ref1_Ints_f _ _ (by omega) k (by omega),Option.bind_some,c,Bool.true_and]
    by_cases c2 : (l.getD i ([],[])).1 = (l.getD 0 ([],[])).1
    ·rw [decide_eq_true c2,if_pos rfl,Bool.true_and]
    ·rw [decide_eq_false c2,if_neg (by decide),Bool.false_and,if_neg (by decide)]
   ·rw [if_neg c,Bool.eq_false_iff.2 c,Bool.false_and,Bool.false_and,if_neg (by decide)]) k (by omega)
 unfold ref4_all.f
 rw [this,List.drop_zero,Option.bind_some]
 split <;> rfl
def tab (m : Nat) (g : Nat → Int) : List Int := (List.range m).map g
theorem fill_step (g : Nat → Int) {m i : Nat} (h : i < m) (c : Int) : ((List.range i).map g ++ List.replicate (m - i) c).set i (g i) = (List.range (i + 1)).map g ++ List.replicate (m - (i + 1)) c := by
 have := fill_set g i (m - (i + 1)) c
 rwa [show m - (i + 1) + 1 = m - i by omega] at this
def zOne (op : Int) (d : List Int) : List Int := tab d.length fun i => stp op (d.getD i 0) 0
def zTwo (op : Int) (a b : List Int) : List Int := tab a.length fun i => stp op (a.getD i 0) (b.getD i 0)
def zPick (c a b : List Int) : List Int := tab a.length fun i => if c.getD i 0 = 0 then b.getD i 0 else a.getD i 0
theorem zSz_T {s d : List Int} (h : zT s d = true) : (zSz s).toNat = d.length := by
 obtain ⟨h1,h2⟩ := zT_spec h
 unfold zSz
 rw [if_pos h1]; omega
theorem T_small {s d : List Int} (h : zT s d = true) : s.length ≤ 4 ∧ d.length ≤ 4096 := by
 obtain ⟨h1,h2⟩ := zT_spec h
 have := mSR_spec h1
 omega
theorem ref4_One_f (op : Int) (s d : List Int) (k : Nat) (hk : 5000 ≤ k) : ref4_One.f k op s d = some (if op = 4 ∨ op = 5 then (if zT s d = true then (0,s,zOne op d) else (13,[],[])) else (1,[],[])) := by
 have hall : ref4_all.f k [(s,d)] = some (if zT s d = true then 0 else 13) := by
  rw [ref4_all_f _ (by simp) (by simp) k hk]
  simp
 have main : zT s d = true → ref4_One.l0 k op ((List.replicate (zSz s).toNat (0 : Int)).length : Int) 0 s d s (List.replicate (zSz s).toNat 0) = some (zOne op d) := fun h => by
  have hz := zSz_T h
  have hs := T_small h
  have := iter0 (L := fun n i y => ref4_One.l0 n op d.length i s d s y) (st := fun i => (List.range i).map (fun i => stp op (d.getD i 0) 0) ++ List.replicate (d.length - i) 0) (fun _=>zOne op d) (m := d.length) 0
   (fun n _ => by rw [ref4_One.l0,if_neg (by omega),Nat.sub_self,List.replicate_zero,List.append_nil]; rfl)
   (fun i n hi _ ih => by
    rw [ref4_One.l0,if_pos (by omega),if_pos (by omega),Int.toNat_natCast,ref4_Step_f,Option.bind_some,if_pos (by simp; omega),if_pos (by simp; omega),fill_step (fun i => stp op (d.getD i 0) 0) hi,i64_succ hi (by omega),ih]) k (by omega)
  rw [hz,List.length_replicate,← this,Nat.sub_zero]; rfl
 unfold ref4_One.f
 rw [hall,Option.bind_some]
 by_cases h : zT s d = true
 ·have hs := T_small h
  rw [if_pos h,if_pos rfl,ref1_Fill_f s 0 (by omega) k hk,Option.bind_some,main h,Option.bind_some,if_pos h]
  by_cases c : op = 4
  ·rw [if_pos c,if_pos (.inl c)]
  ·rw [if_neg c]
   by_cases c2 : op = 5
   ·rw [if_pos c2,if_pos (.inr c2)]
   ·rw [if_neg c2,if_neg (fun hh => hh.elim c c2)]
 ·rw [if_neg h,if_neg h]
  by_cases c : op = 4
  ·rw [if_pos c,if_neg (by decide),if_pos (.inl c)]
  ·rw [if_neg c]
   by_cases c2 : op = 5
   ·rw [if_pos c2,if_neg (by decide),if_pos (.inr c2)]
   ·rw [if_neg c2,if_neg (fun hh => hh.elim c c2)]
theorem T_len {s a b : List Int} (ha : zT s a = true) (hb : zT s b = true) : a.length = b.length := by
 have h1 := (zT_spec ha).2
 have h2 := (zT_spec hb).2
 omega
theorem ref4_Two_f (op : Int) (s a s' b : List Int) (k : Nat) (hk : 5000 ≤ k) : ref4_Two.f k op s a s' b = some (if 6 ≤ op ∧ op ≤ 11 then (if zT s a = true ∧ zT s' b = true ∧ s' = s then (0,s,zTwo op a b) else (13,[],[])) else (1,[],[])) := by
 unfold ref4_Two.f
 by_cases c1 : op < 6
 ·rw [if_pos c1,if_neg (by omega)]
 by_cases c2 : 11 < op
 ·rw [if_neg c1,if_pos c2,if_neg (by omega)]
 rw [if_neg c1,if_neg c2,if_pos (show 6 ≤ op ∧ op ≤ 11 by omega)]
 by_cases h : zT s a = true ∧ zT s' b = true ∧ s' = s
 ·obtain ⟨h1,h2,rfl⟩ := h
  have hz := zSz_T h1
  have hs := T_small h1
  have hl := T_len h1 h2
  have := iter0 (L := fun n i y => ref4_Two.l0 n op a.length i s' a s' b s' y) (st := fun i => (List.range i).map (fun i => stp op (a.getD i 0) (b.getD i 0)) ++ List.replicate (a.length - i) 0) (fun _=>zTwo op a b) (m := a.length) 0
   (fun n _ => by rw [ref4_Two.l0,if_neg (by omega),Nat.sub_self,List.replicate_zero,List.append_nil]; rfl)
   (fun i n hi _ ih => by
    rw [ref4_Two.l0,if_pos (by omega),if_pos (by omega),if_pos (by omega),Int.toNat_natCast,ref4_Step_f,Option.bind_some,if_pos (by simp; omega),if_pos (by simp; omega),fill_step (fun i => stp op (a.getD i 0) (b.getD i 0)) hi,i64_succ hi (by omega),ih]) k (by omega)
  rw [Nat.sub_zero,List.range_zero,List.map_nil,List.nil_append] at this
  have e : ref4_all.f k [(s',a),(s',b)] = some 0 := by rw [ref4_all_f _ (by simp) (by simp) k hk,if_pos (by simp [h1,h2])]
  rw [e,Option.bind_some,if_pos rfl,ref1_Fill_f s' 0 (by omega) k hk,Option.bind_some,hz,List.length_replicate,this,Option.bind_some,if_pos ⟨h1,h2,rfl⟩]
 ·have e : ref4_all.f k [(s,a),(s',b)] = some 13 := by
   rw [ref4_all_f _ (by simp) (by simp) k hk,if_neg (by
    intro hh
    simp only [List.all_cons,List.all_nil,Bool.and_true,Bool.and_eq_true,decide_eq_true_eq] at hh
    exact h ⟨hh.1.1,hh.2.1,hh.2.2⟩)]
  rw [if_neg h,e,Option.bind_some,if_neg (by decide)]
theorem ref4_Pick_f (s c s1 a s2 b : List Int) (k : Nat) (hk : 5000 ≤ k) : ref4_Pick.f k s c s1 a s2 b = some (if zT s c = true ∧ (zT s1 a = true ∧ s1 = s) ∧ zT s2 b = true ∧ s2 = s then (0,s,zPick c a b) else (13,[],[])) := by
 unfold ref4_Pick.f
 by_cases h : zT s c = true ∧ (zT s1 a = true ∧ s1 = s) ∧ zT s2 b = true ∧ s2 = s
 ·obtain ⟨h0,⟨h1,rfl⟩,h2,rfl⟩ := h
  have hz := zSz_T h1
  have hs := T_small h1
  have hl := T_len h1 h2
  have hl2 := T_len h1 h0
  have hset : ∀ (i : Nat) (y : List Int) (v : Int),i < y.length → (y.set i v).set i (a.getD i 0) = y.set i (a.getD i 0) := fun i y v _ => by simp
  have := iter0 (L := fun n i y => ref4_Pick.l0 n a.length i s2 c s2 a s2 b s2 y) (st := fun i => (List.range i).map (fun i => if c.getD i 0 = 0 then b.getD i 0 else a.getD i 0) ++ List.replicate (a.length - i) 0) (fun _=>zPick c a b) (m := a.length) 0
   (fun n _ => by rw [ref4_Pick.l0,if_neg (by omega),Nat.sub_self,List.replicate_zero,List.append_nil]; rfl)
   (fun i n hi _ ih => by
    have hlen : ((List.range i).map (fun i => if c.getD i 0 = 0 then b.getD i 0 else a.getD i 0) ++ List.replicate (a.length - i) (0 : Int)).length = a.length := by simp; omega
    have hf := fill_step (fun i => if c.getD i 0 = 0 then b.getD i 0 else a.getD i 0) hi 0
    rw [ref4_Pick.l0,if_pos (by omega),if_pos (by omega),if_pos (by rw [hlen]; omega),Int.toNat_natCast,if_pos (by rw [hlen]; omega),if_pos (by omega)]
    by_cases cc : c.getD i 0 = 0
    ·rw [if_pos cc] at hf
     rw [if_pos cc,hf,i64_succ hi (by omega),ih]
    ·rw [if_neg cc] at hf
     rw [if_neg cc,if_pos (by omega),if_pos (by rw [set_len,hlen]; omega),if_pos (by rw [set_len,hlen]; omega),hset i _ _ (by rw [hlen]; exact hi),hf,i64_succ hi (by omega),ih]) k (by omega)
  rw [Nat.sub_zero,List.range_zero,List.map_nil,List.nil_append] at this
  have e : ref4_all.f k [(s2,c),(s2,a),(s2,b)] = some 0 := by rw [ref4_all_f _ (by simp) (by simp) k hk,if_pos (by simp [h0,h1,h2])]
  rw [e,Option.bind_some,if_pos rfl,ref1_Fill_f s2 0 (by omega) k hk,Option.bind_some,hz,List.length_replicate,this,Option.bind_some,if_pos ⟨h0,⟨h1,rfl⟩,h2,rfl⟩]
 ·have e : ref4_all.f k [(s,c),(s1,a),(s2,b)] = some 13 := by
   rw [ref4_all_f _ (by simp) (by simp) k hk,if_neg (by
    intro hh
    simp only [List.all_cons,List.all_nil,Bool.and_true,Bool.and_eq_true,decide_eq_true_eq] at hh
    exact h ⟨hh.1.1,⟨hh.2.1.1,hh.2.1.2⟩,hh.2.2.1,hh.2.2.2⟩)]
  rw [if_neg h,e,Option.bind_some,if_neg (by decide)]
end Go.Pf

namespace Go.Pf
open Go Go.Vm
theorem ref4_has_f (a : List Int) (x : Int) (ha : a.length ≤ 17592186043904) (k : Nat) (hk : a.length < k) : ref4_has.f k a x = some (decide (x ∈ a)) := by
 have := iter0 (L := fun n i (_ : Unit) => ref4_has.l0 n a x a.length i) (st := fun _=>()) (fun i => if x ∈ a.drop i then .inr true else .inl ()) (m := a.length) 0
  (fun n _ => by rw [ref4_has.l0,if_neg (by omega),List.drop_eq_nil_of_le (Nat.le_refl _),if_neg (by simp)])
  (fun i n hi _ ih => by
   rw [ref4_has.l0,if_pos (by omega),if_pos (by omega),Int.toNat_natCast,i64_succ hi (by omega),ih,drop_getD hi (0 : Int)]
   by_cases c : a.getD i 0 = x
   ·rw [if_pos c,if_pos (by rw [c]; exact List.mem_cons_self ..)]
   ·rw [if_neg c]
    by_cases c2 : x ∈ a.drop (i + 1)
    ·rw [if_pos c2,if_pos (List.mem_cons_of_mem _ c2)]
    ·rw [if_neg c2,if_neg (fun h => by rcases List.mem_cons.1 h with h | h; exact c h.symm; exact c2 h)]) k (by omega)
 unfold ref4_has.f
 rw [this,List.drop_zero,Option.bind_some]
 by_cases c : x ∈ a
 ·rw [if_pos c,decide_eq_true c]; rfl
 ·rw [if_neg c,decide_eq_false c]; rfl
def zRs (a : List Int) (m : Int) : Nat → Nat → Bool
 | 0,_ => true
 | d + 1,i => decide (0 ≤ a.getD i 0 ∧ a.getD i 0 < m ∧ (0 < i → a.getD (i - 1) 0 < a.getD i 0)) && zRs a m d (i + 1)
theorem zRs_zRi {a : List Int} {m : Int} : ∀ (d i : Nat) (l : Int),a.length = i + d → (i = 0 → l = -1) → (0 < i → l = a.getD (i - 1) 0 ∧ 0 ≤ l) → zRs a m d i = zRi m l (a.drop i)
 | 0,i,l,hi,_,_ => by rw [List.drop_eq_nil_of_le (by omega)]; rfl
 | d + 1,i,l,hi,h0,h1 => by
  rw [drop_getD (show i < a.length by omega) (0 : Int)]
  generalize hx : a.getD i 0 = x
  refine bool_ext ?_
  rw [zRs,zRi_cons,Bool.and_eq_true,decide_eq_true_eq,hx]
  constructor
  ·rintro ⟨⟨k1,k2,k3⟩,k4⟩
   refine ⟨⟨?_,k2⟩,?_⟩
   ·by_cases c : i = 0
    ·have := h0 c; omega
    ·have := h1 (by omega); have := k3 (by omega); omega
   ·rw [← zRs_zRi d (i + 1) x (by omega) (by omega) (fun _=>⟨by rw [Nat.add_sub_cancel]; exact hx.symm,k1⟩)]; exact k4
  ·rintro ⟨⟨k1,k2⟩,k4⟩
   have hx0 : 0 ≤ x := by
    by_cases c : i = 0
    ·have := h0 c; omega
    ·have := h1 (by omega); omega
   refine ⟨⟨hx0,k2,fun c => by have := h1 c; omega⟩,?_⟩
   rw [zRs_zRi d (i + 1) x (by omega) (by omega) (fun _=>⟨by rw [Nat.add_sub_cancel]; exact hx.symm,hx0⟩)]; exact k4
theorem ref4_rising_f (a : List Int) (m : Int) (ha : a.length ≤ 17592186043904) (k : Nat) (hk : a.length < k) : ref4_rising.f k a m = some (zRi m (-1) a) := by
 have := iter0 (L := fun n i (_ : Unit) => ref4_rising.l0 n a m a.length i) (st := fun _=>()) (fun i => if zRs a m (a.length - i) i = true then .inl () else .inr false) (m := a.length) 0
  (fun n _ => by rw [ref4_rising.l0,if_neg (by omega),Nat.sub_self]; rfl)
  (fun i n hi _ ih => by
   rw [ref4_rising.l0,if_pos (by omega),if_pos (by omega),Int.toNat_natCast,i64_succ hi (by omega),ih,show a.length - i = (a.length - (i + 1)) + 1 by omega,zRs]
   by_cases c1 : a.getD i 0 < 0
   ·rw [if_pos c1,decide_eq_false (by omega),Bool.false_and,if_neg (by decide)]
   by_cases c2 : m ≤ a.getD i 0
   ·rw [if_neg c1,if_pos c2,decide_eq_false (by omega),Bool.false_and,if_neg (by decide)]
   rw [if_neg c1,if_neg c2]
   by_cases c3 : (0 : Int) < (i : Int)
   ·rw [if_pos c3,i64_id (n := (i : Int) - 1) (by omega) (by omega),if_pos (by omega),show ((i : Int) - 1).toNat = i - 1 by omega]
    by_cases c4 : a.getD i 0 ≤ a.getD (i - 1) 0
    ·rw [if_pos c4,decide_eq_false (fun h => by have := h.2.2 (by omega); omega),Bool.false_and,if_neg (by decide)]
    ·rw [if_neg c4,decide_eq_true ⟨by omega,by omega,fun _=>by omega⟩,Bool.true_and]
   ·rw [if_neg c3,decide_eq_true ⟨by omega,by omega,fun _=>by omega⟩,Bool.true_and]) k (by omega)
 unfold ref4_rising.f
 rw [this,Nat.sub_zero,Option.bind_some,zRs_zRi a.length 0 (-1) (by omega) (fun _=>rfl) (fun h => by omega),List.drop_zero]
 cases zRi m (-1) a <;> rfl
def lefI (a : List Int) : Nat → List Int → List Int
 | _,[] => []
 | j,x :: r => if (j : Int) ∈ a then lefI a (j + 1) r else x :: lefI a (j + 1) r
def lef (a s : List Int) : List Int := lefI a 0 s
theorem lefI_len (a : List Int) : ∀ (j : Nat) (s : List Int),(lefI a j s).length ≤ s.length
 | _,[] => Nat.le_refl _
 | j,x :: r => by
  have := lefI_len a (j + 1) r
  rw [lefI]
  split
  ·simp; omega
  ·simp; omega
theorem lefI_snoc (a : List Int) (y : Int) : ∀ (s : List Int) (j : Nat),lefI a j (s ++ [y]) = lefI a j s ++ (if ((j + s.length : Nat) : Int) ∈ a then [] else [y])
 | [],j => by
  show lefI a j [y] = [] ++ _
  rw [lefI,List.nil_append]; rfl
 | x :: s,j => by
  have ih := lefI_snoc a y s (j + 1)
  rw [show j + 1 + s.length = j + (s.length + 1) by omega] at ih
  show lefI a j (x :: (s ++ [y])) = _
  rw [lefI,lefI,ih]
  split <;> simp
theorem lef_step (a s : List Int) {i : Nat} (h : i < s.length) : lef a (s.take (i + 1)) = lef a (s.take i) ++ (if (i : Int) ∈ a then [] else [s.getD i 0]) := by
 rw [take_snoc h,lef,lefI_snoc,List.length_take,show 0 + min i s.length = i by omega]; rfl
theorem lefI_in (a : List Int) : ∀ (j : Nat) {s p : List Int},mIn s p = true → mIn (lefI a j s) (lefI a j p) = true
 | _,[],[],_ => rfl
 | j,x :: s,y :: p,h => by
  obtain ⟨h1,h2⟩ := mIn_cons.1 h
  rw [lefI,lefI]
  split
  ·exact lefI_in a (j + 1) h2
  ·exact mIn_cons.2 ⟨h1,lefI_in a (j + 1) h2⟩
 | _,[],_ :: _,h => by simp [mIn] at h
 | _,_ :: _,[],h => by simp [mIn] at h
def put (how a b : Int) : Int := if how = 1 then IntKind.i64.wrap (a + b) else if how = 2 then IntKind.i64.wrap (a * b) else if how = 3 then (if b < a then b else a) else if how = 4 then (if a < b then b else a) else 0
def zNone (how : Int) : Int := if how = 2 then 1 else if how = 3 then 9223372036854775807 else if how = 4 then -9223372036854775808 else 0
theorem ref4_Put_f (how a b : Int) : ref4_Put.f how a b = some (put how a b) := by
 unfold ref4_Put.f put
 repeat' split
 all_goals rfl
theorem ref4_None_f (how : Int) : ref4_None.f how = some (zNone how) := by
 unfold ref4_None.f zNone
 repeat' split
 all_goals rfl
theorem ref4_How_f (how : Int) : ref4_How.f how = some (decide (1 ≤ how ∧ how ≤ 4)) := by
 unfold ref4_How.f
 by_cases c : 1 ≤ how
 ·rw [if_pos c]; simp [c]
 ·rw [if_neg c]; simp [c]
def fdA (how : Int) (s d a : List Int) (i : Nat) : List Int :=
 (List.range i).foldl (fun out (i : Nat) => out.set (ix (lef a s) (lef a (pl s i))).toNat (put how (out.getD (ix (lef a s) (lef a (pl s i))).toNat 0) (d.getD i 0))) (List.replicate (pr (lef a s)).toNat (zNone how))
def zFold (how : Int) (s d a : List Int) : List Int := fdA how s d a d.length
theorem fdA_succ (how : Int) (s d a : List Int) (i : Nat) : fdA how s d a (i + 1) = (fdA how s d a i).set (ix (lef a s) (lef a (pl s i))).toNat (put how ((fdA how s d a i).getD (ix (lef a s) (lef a (pl s i))).toNat 0) (d.getD i 0)) := by
 unfold fdA
 rw [List.range_succ,List.foldl_append]; rfl
theorem fdA_len (how : Int) (s d a : List Int) : ∀ i,(fdA how s d a i).length = (pr (lef a s)).toNat
 | 0 => by simp [fdA]
 | i + 1 => by rw [fdA_succ,set_len,fdA_len how s d a i]
theorem ref4_Fold_f (how : Int) (s d a : List Int) (ha : a.length ≤ 17592186043904) (k : Nat) (hk : a.length + 10000 ≤ k) :
  ref4_Fold.f k how s d a = some (if 1 ≤ how ∧ how ≤ 4 then (if zT s d = true then (if zRi s.length (-1) a = true then (if mSR (lef a s) = true then (0,lef a s,zFold how s d a) else (13,[],[])) else (1,[],[])) else (13,[],[])) else (1,[],[])) := by
 unfold ref4_Fold.f
 rw [ref4_How_f,Option.bind_some]
 by_cases c0 : 1 ≤ how ∧ how ≤ 4
 rotate_left
 ·rw [decide_eq_false c0,if_neg (by decide),if_neg c0]
 rw [decide_eq_true c0,if_pos rfl,if_pos c0,ref1_Tensor_f s d k (by omega),Option.bind_some]
 by_cases hT : zT s d = true
 rotate_left
 ·rw [if_neg hT,if_neg hT]
 have hs := T_small hT
 obtain ⟨hr,hd⟩ := zT_spec hT
 rw [if_pos hT,if_pos hT,ref4_rising_f a _ ha k (by omega),Option.bind_some]
 by_cases hA : zRi s.length (-1) a = true
 rotate_left
 ·rw [if_neg hA,if_neg hA]
 have l0 := iter0 (L := fun n i y => ref4_Fold.l0 k n how a s.length i s d y) (st := fun i => lef a (s.take i)) (fun _=>lef a s) (m := s.length) 0
  (fun n _ => by rw [ref4_Fold.l0,if_neg (by omega),List.take_length])
  (fun i n hi _ ih => by
   have hl := lefI_len a 0 (s.take i)
   rw [List.length_take] at hl
   rw [lef_step a s hi] at ih
   rw [ref4_Fold.l0,if_pos (by omega),ref4_has_f a _ ha k (by omega),Option.bind_some,i64_succ hi (by omega)]
   by_cases c : (i : Int) ∈ a
   ·rw [if_pos c,List.append_nil] at ih
    rw [decide_eq_true c,if_pos rfl,ih]
   ·rw [if_neg c] at ih
    rw [decide_eq_false c,if_neg (by decide),if_pos (by omega),Int.toNat_natCast,if_pos (by rw [List.length_singleton]; unfold lef; omega),ih]) k (by omega)
 rw [List.take_zero,show lef a [] = [] from rfl] at l0
 rw [if_pos hA,if_pos hA,l0,Option.bind_some,ref1_Right_f _ k (by omega),Option.bind_some]
 by_cases hR : mSR (lef a s) = true
 rotate_left
 ·rw [if_neg hR,if_neg hR]
 have hll := mSR_spec hR
 rw [if_pos hR,if_pos hR,ref4_None_f,Option.bind_some,ref1_Fill_f _ _ (by omega) k (by omega),Option.bind_some]
 have l1 := iter0 (L := fun n i y => ref4_Fold.l1 k n how a d.length i s d (lef a s) (lef a s) y) (st := fun i => fdA how s d a i) (fun _=>zFold how s d a) (m := d.length) 100
  (fun n _ => by rw [ref4_Fold.l1,if_neg (by omega)]; rfl)
  (fun i n hi hn ih => by
   have hpi : mIn s (pl s i) = true := pl_in (fun x hx => (mSR_pos hr (by omega) x hx).1) i
   have hin : mIn (lef a s) (lef a (pl s i)) = true := lefI_in a 0 hpi
   have hb := ix_bd hin
   have hbb := (mSR_pos hr (by omega))
   have l2 := iter0 (L := fun n j y => ref4_Fold.l2 k n how a i d.length i (pl s i).length j s d (lef a s) y (pl s i) (lef a s) (fdA how s d a i)) (st := fun j => lef a ((pl s i).take j)) (fun _=>lef a (pl s i)) (m := (pl s i).length) 0
    (fun n _ => by rw [ref4_Fold.l2,if_neg (by omega),List.take_length])
    (fun j n hj _ ih => by
     have hl := lefI_len a 0 ((pl s i).take j)
     rw [List.length_take,pl_len] at hl
     rw [pl_len] at hj
     rw [lef_step a (pl s i) (by rw [pl_len]; exact hj)] at ih
     rw [ref4_Fold.l2,if_pos (by rw [pl_len]; omega),if_pos (by rw [pl_len]; omega),if_pos (by rw [pl_len]; omega),ref4_has_f a _ ha k (by omega),Option.bind_some,i64_succ hj (by omega)]
     by_cases c : (j : Int) ∈ a
     ·rw [if_pos c,List.append_nil] at ih
      rw [decide_eq_true c,if_pos rfl,ih]
     ·rw [if_neg c] at ih
      rw [decide_eq_false c,if_neg (by decide),if_pos (by rw [List.length_singleton]; unfold lef; omega),Int.toNat_natCast,ih]) n (by rw [pl_len]; omega)
   rw [List.take_zero,show lef a [] = [] from rfl] at l2
   have hzi : zIx (lef a s) (lef a (pl s i)) = ix (lef a s) (lef a (pl s i)) := by
    unfold zIx
    rw [if_pos ⟨hR,hin⟩]
   have hfl := fdA_len how s d a i
   rw [ref4_Fold.l1,if_pos (by omega),ref1_Place_f hr (by omega) (by omega) k (by omega),Option.bind_some,l2,Option.bind_some,ref1_Index_f _ _ k (by omega),Option.bind_some,hzi,
    if_pos (by rw [hfl]; omega),if_pos (by rw [hfl]; omega),if_pos (by omega),Int.toNat_natCast,ref4_Put_f,Option.bind_some,i64_succ hi (by omega),← fdA_succ,ih]) k (by omega)
 have hz : (zSz (lef a s)).toNat = (pr (lef a s)).toNat := by rw [zSz,if_pos hR]
 have e0 : fdA how s d a 0 = List.replicate (zSz (lef a s)).toNat (zNone how) := by rw [hz]; rfl
 rw [e0] at l1
 rw [l1,Option.bind_some]
end Go.Pf

namespace Go.Pf
open Go Go.Vm
theorem base_get (g : Nat → Int) {i M : Nat} (h : i < M) (c : Int) : ((List.range i).map g ++ List.replicate (M - i) c).getD i 0 = c := by
 rw [List.getD_eq_getElem?_getD,List.getElem?_append_right (by simp),List.length_map,List.length_range,Nat.sub_self,List.getElem?_replicate,if_pos (by omega)]; rfl
theorem mIn_app : ∀ {s p s' p' : List Int},mIn s p = true → mIn s' p' = true → mIn (s ++ s') (p ++ p') = true
 | [],[],_,_,_,h => h
 | _ :: _,_ :: _,_,_,h,h' => mIn_cons.2 ⟨(mIn_cons.1 h).1,mIn_app (mIn_cons.1 h).2 h'⟩
 | [],_ :: _,_,_,h,_ => by simp [mIn] at h
 | _ :: _,[],_,_,h,_ => by simp [mIn] at h
theorem mIn_split : ∀ {s s' p : List Int},mIn (s ++ s') p = true → mIn s (p.take s.length) = true ∧ mIn s' (p.drop s.length) = true
 | [],s',p,h => ⟨by rw [List.length_nil,List.take_zero]; rfl,h⟩
 | x :: s,s',y :: p,h => by
  obtain ⟨h1,h2⟩ := mIn_cons.1 h
  obtain ⟨i1,i2⟩ := mIn_split h2
  exact ⟨mIn_cons.2 ⟨h1,i1⟩,i2⟩
 | _ :: _,_,[],h => by simp [mIn] at h
theorem mIn_take {s p : List Int} (h : mIn s p = true) (n : Nat) : mIn (s.take n) (p.take n) = true := by
 have hl := mIn_len h
 have := mIn_split (s := s.take n) (s' := s.drop n) (p := p) (by rw [List.take_append_drop]; exact h)
 rw [List.length_take] at this
 by_cases c : n ≤ s.length
 ·rw [Nat.min_eq_left c] at this; exact this.1
 ·rw [List.take_of_length_le (show s.length ≤ n by omega),List.take_of_length_le (show p.length ≤ n by omega)]; exact h
def dsh (a b : List Int) (n : Nat) : List Int := a.take (a.length - 1) ++ b.drop (n + 1)
def zDS (a b : List Int) (n : Int) : Int × List Int :=
 if n < 0 ∨ (a.length : Int) ≤ n ∨ (b.length : Int) ≤ n then (1,[]) else
 if mSR a = true ∧ mSR b = true ∧ a.take n.toNat = b.take n.toNat ∧ a.getD (a.length - 1) 0 = b.getD n.toNat 0 then
  (if mSR (dsh a b n.toNat) = true then (0,dsh a b n.toNat) else (13,[]))
 else (13,[])
theorem ref4_DotShape_f (a b : List Int) (n : Int) (k : Nat) (hk : 5000 ≤ k) : ref4_DotShape.f k a b n = some (zDS a b n) := by
 unfold ref4_DotShape.f zDS
 by_cases c1 : n < 0
 ·rw [if_pos c1,if_pos (.inl c1)]
 by_cases c2 : (a.length : Int) ≤ n
 ·rw [if_neg c1,if_pos c2,if_pos (.inr (.inl c2))]
 by_cases c3 : (b.length : Int) ≤ n
 ·rw [if_neg c1,if_neg c2,if_pos c3,if_pos (.inr (.inr c3))]
 rw [if_neg c1,if_neg c2,if_neg c3,if_neg (show ¬ (n < 0 ∨ (a.length : Int) ≤ n ∨ (b.length : Int) ≤ n) by omega),ref1_Right_f a k (by omega),Option.bind_some]
 by_cases ra : mSR a = true
 rotate_left
 ·rw [if_neg ra,if_neg (fun h => ra h.1)]
 rw [if_pos ra,ref1_Right_f b k (by omega),Option.bind_some]
 by_cases rb : mSR b = true
 rotate_left
 ·rw [if_neg rb,if_neg (fun h => rb h.2.1)]
 have ha := mSR_spec ra
 have hb := mSR_spec rb
 rw [if_pos rb,if_pos (by omega),if_pos (by omega),List.drop_zero,List.drop_zero,ref1_Ints_f _ _ (by rw [List.length_take]; omega) k (by rw [List.length_take]; omega),Option.bind_some]
 by_cases c4 : a.take n.toNat = b.take n.toNat
 rotate_left
 ·rw [decide_eq_false c4,if_neg (by decide),if_neg (fun h => c4 h.2.2.1)]
 rw [decide_eq_true c4,if_pos rfl,i64_id (n := (a.length : Int) - 1) (by omega) (by omega),if_pos (by omega),if_pos (by omega),show ((a.length : Int) - 1).toNat = a.length - 1 by omega]
 by_cases c5 : a.getD (a.length - 1) 0 = b.getD n.toNat 0
 rotate_left
 ·rw [if_neg c5,if_neg (fun h => c5 h.2.2.2)]
 rw [if_pos c5,if_pos (by omega),List.drop_zero,if_pos (by rw [List.length_take]; omega),i64_id (n := n + 1) (by omega) (by omega),if_pos (by omega),List.nil_append,List.take_length,show (n + 1).toNat = n.toNat + 1 by omega,if_pos (by rw [List.length_take,List.length_drop]; omega),if_pos ⟨ra,rb,c4,c5⟩]
 show (ref1_Right.f k (dsh a b n.toNat)).bind _ = _
 rw [ref1_Right_f _ k (by omega),Option.bind_some]
 by_cases c6 : mSR (dsh a b n.toNat) = true
 ·rw [if_pos c6,if_pos c6]; rfl
 ·rw [if_neg c6,if_neg c6]
theorem zDS_ok {a b : List Int} {n : Int} (h : (zDS a b n).1 = 0) : (zDS a b n).2 = dsh a b n.toNat ∧ mSR (dsh a b n.toNat) = true ∧ 0 ≤ n ∧ n.toNat < a.length ∧ n.toNat < b.length ∧ a.take n.toNat = b.take n.toNat ∧ a.getD (a.length - 1) 0 = b.getD n.toNat 0 := by
 unfold zDS at h ⊢
 split at h
 ·simp at h
 rename_i c
 rw [if_neg c]
 split at h
 ·rename_i c2
  rw [if_pos c2]
  split at h
  ·rename_i c3
   rw [if_pos c3]
   exact ⟨rfl,c3,by omega,by omega,by omega,c2.2.2.1,c2.2.2.2⟩
  ·simp at h
 ·simp at h
def dotS (a A b B : List Int) (n : Nat) (p : List Int) (m : Nat) : Int :=
 (List.range m).foldl (fun acc (j : Nat) => IntKind.i64.wrap (acc + IntKind.i64.wrap (A.getD (ix a (p.take (a.length - 1) ++ [(j : Int)])).toNat 0 * B.getD (ix b (p.take n ++ (j : Int) :: p.drop (a.length - 1))).toNat 0))) 0
theorem dotS_succ (a A b B : List Int) (n : Nat) (p : List Int) (m : Nat) : dotS a A b B n p (m + 1) = IntKind.i64.wrap (dotS a A b B n p m + IntKind.i64.wrap (A.getD (ix a (p.take (a.length - 1) ++ [(m : Int)])).toNat 0 * B.getD (ix b (p.take n ++ (m : Int) :: p.drop (a.length - 1))).toNat 0)) := by
 unfold dotS
 rw [List.range_succ,List.foldl_append]; rfl
def zDot (a A b B : List Int) (n : Nat) : List Int := made (dsh a b n) fun p => dotS a A b B n p (b.getD n 0).toNat
theorem dot_in {a b p : List Int} {n : Nat} {j : Int} (ha : n < a.length) (hb : n < b.length) (he : a.take n = b.take n) (hl : a.getD (a.length - 1) 0 = b.getD n 0) (hp : mIn (dsh a b n) p = true) (h0 : 0 ≤ j) (h1 : j < b.getD n 0) :
  mIn a (p.take (a.length - 1) ++ [j]) = true ∧ mIn b (p.take n ++ j :: p.drop (a.length - 1)) = true := by
 obtain ⟨i1,i2⟩ := mIn_split hp
 rw [List.length_take,Nat.min_eq_left (by omega)] at i1 i2
 constructor
 ·have e : a = a.take (a.length - 1) ++ [a.getD (a.length - 1) 0] := by
   rw [← take_snoc (by omega),Nat.sub_add_cancel (by omega),List.take_length]
  have := mIn_app i1 (s' := [a.getD (a.length - 1) 0]) (p' := [j]) (mIn_cons.2 ⟨by omega,rfl⟩)
  rwa [← e] at this
 ·have e : b = b.take n ++ b.getD n 0 :: b.drop (n + 1) := by rw [← drop_getD hb]; exact (List.take_append_drop n b).symm
  have i3 := mIn_take i1 n
  rw [List.take_take,List.take_take,Nat.min_eq_left (by omega),he] at i3
  have := mIn_app i3 (s' := b.getD n 0 :: b.drop (n + 1)) (p' := j :: p.drop (a.length - 1)) (mIn_cons.2 ⟨by omega,i2⟩)
  rwa [← e] at this
theorem pl_Z {s : List Int} (hr : mSR s = true) {i : Nat} (h : (i : Int) < pr s) : mIn s (pl s i) = true := pl_in (fun x hx => (mSR_pos hr (by omega) x hx).1) i
theorem ref4_Dot_f (a A b B : List Int) (n : Int) (k : Nat) (hk : 10000 ≤ k) :
    ref4_Dot.f k a A b B n = some (if zT a A = true ∧ zT b B = true then (if (zDS a b n).1 = 0 then (0,(zDS a b n).2,zDot a A b B n.toNat) else ((zDS a b n).1,[],[])) else (13,[],[])) := by
  unfold ref4_Dot.f
  rw [ref1_Tensor_f a A k (by omega),Option.bind_some]
  by_cases hA : zT a A = true
  rotate_left
  · rw [if_neg hA,if_neg (fun h => hA h.1)]
  rw [if_pos hA,ref1_Tensor_f b B k (by omega),Option.bind_some]
  by_cases hB : zT b B = true
  rotate_left
  · rw [if_neg hB,if_neg (fun h => hB h.2)]
  rw [if_pos hB,if_pos ⟨hA,hB⟩,ref4_DotShape_f a b n k (by omega),Option.bind_some]
  by_cases hc : (zDS a b n).1 = 0
  rotate_left
  · rw [if_neg hc,if_neg hc]
  obtain ⟨e,hR,h0,h1,h2,h3,h4⟩ := zDS_ok hc
  obtain ⟨N,rfl⟩ : ∃ N : Nat,n = N := ⟨n.toNat,by omega⟩
  rw [Int.toNat_natCast] at *
  have ha := T_small hA
  have hb := T_small hB
  have hs := mSR_spec hR
  have hp0 := pr_nonneg fun x hx => (hs.2.1 x hx).1
  have hbN := mSR_get (zT_spec hB).1 h2
  rw [if_pos hc,if_pos hc,e,ref1_Fill_f _ _ (by omega) k (by omega),Option.bind_some,zSz,if_pos hR,List.length_replicate,i64_id (n := (a.length : Int) - 1) (by omega) (by omega),show (((pr (dsh a b N)).toNat : Nat) : Int) = ((pr (dsh a b N)).toNat : Nat) from rfl]
  have key : ∀ (M : Nat),M = (pr (dsh a b N)).toNat → ref4_Dot.l0 k k (N : Int) ((a.length : Int) - 1) (M : Int) 0 a A b B (dsh a b N) (dsh a b N) (List.replicate M 0) = some (zDot a A b B N) := fun M hM => by
    have := iter0 (L := fun n i y => ref4_Dot.l0 k n (N : Int) ((a.length : Int) - 1) (M : Int) i a A b B (dsh a b N) (dsh a b N) y) (st := fun (i : Nat) => (List.range i).map (fun (i : Nat) => dotS a A b B N (pl (dsh a b N) i) (b.getD N 0).toNat) ++ List.replicate (M - i) 0) (fun _=>zDot a A b B N) (m := M) 100
      (fun n _ => by rw [ref4_Dot.l0,if_neg (by omega),Nat.sub_self,List.replicate_zero,List.append_nil,hM]; rfl)
      (fun i n hi hn ih => by
        have hpi := pl_Z hR (i := i) (by omega)
        have hpl := pl_len (dsh a b N) i
        have hdl : (dsh a b N).length = (a.length - 1) + (b.length - (N + 1)) := by unfold dsh; rw [List.length_append,List.length_take,List.length_drop]; omega
        generalize hp : pl (dsh a b N) (i : Int) = p at *
        have hbase : ((List.range i).map (fun (i : Nat) => dotS a A b B N (pl (dsh a b N) i) (b.getD N 0).toNat) ++ List.replicate (M - i) (0 : Int)).length = M := by simp; omega
        have hget : ((List.range i).map (fun (i : Nat) => dotS a A b B N (pl (dsh a b N) i) (b.getD N 0).toNat) ++ List.replicate (M - i) (0 : Int)).getD i 0 = 0 := base_get _ hi 0
        have hfill := fill_step (fun (i : Nat) => dotS a A b B N (pl (dsh a b N) i) (b.getD N 0).toNat) hi 0
        rw [hp] at hfill
        generalize (List.range i).map (fun (i : Nat) => dotS a A b B N (pl (dsh a b N) i) (b.getD N 0).toNat) ++ List.replicate (M - i) (0 : Int) = base at *
        have l1 := iter0 (L := fun n j y => ref4_Dot.l1 k n (N : Int) ((a.length : Int) - 1) (i : Int) j (M : Int) (i : Int) a A b B (dsh a b N) p (dsh a b N) y) (st := fun j => base.set i (dotS a A b B N p j)) (fun _=>base.set i (dotS a A b B N p (b.getD N 0).toNat)) (m := (b.getD N 0).toNat) 0
          (fun n _ => by rw [ref4_Dot.l1,if_pos (by omega),if_neg (by rw [Int.toNat_natCast]; omega)])
          (fun j n hj _ ih => by
            obtain ⟨k1,k2⟩ := dot_in (j := (j : Int)) h1 h2 h3 h4 hpi (by omega) (by omega)
            have hpt : (p.take (a.length - 1)).length = a.length - 1 := by rw [List.length_take]; omega
            have hpn : (p.take N).length = N := by rw [List.length_take]; omega
            have hset : ∀ v,(base.set i (dotS a A b B N p j)).set i v = base.set i v := fun v => by simp
            rw [ref4_Dot.l1,if_pos (by omega),Int.toNat_natCast,if_pos (by omega),show ((a.length : Int) - 1).toNat = a.length - 1 by omega,List.drop_zero,List.drop_zero,List.nil_append,List.nil_append,List.take_length,if_pos (by omega),if_pos (by rw [hpt]; omega),if_pos (by rw [hpt,List.length_singleton]; omega),if_pos (by omega),if_pos (by rw [hpn]; omega),if_pos (by rw [hpn,List.length_singleton]; omega),if_pos (by omega),
              if_pos (by rw [List.length_append,hpn,List.length_singleton,List.length_drop]; omega),if_pos (by rw [set_len,hbase]; omega),Int.toNat_natCast,if_pos (by rw [set_len,hbase]; exact hi),ref4_number_f hA k1 k (by omega),Option.bind_some,List.append_assoc,List.singleton_append,ref4_number_f hB k2 k (by omega),Option.bind_some,hset,getD_set_self (by rw [hbase]; exact hi),i64_succ hj (by omega),← dotS_succ,ih]) n (by omega)
        rw [show dotS a A b B N p 0 = 0 from rfl,set_self hget.symm] at l1
        rw [hfill] at l1
        rw [ref4_Dot.l0,if_pos (by omega),ref1_Place_f hR (by omega) (by omega) k (by omega),Option.bind_some,hp,l1,Option.bind_some,i64_succ hi (by omega),ih]) k (by omega)
    rw [Nat.sub_zero,List.range_zero,List.map_nil,List.nil_append] at this
    exact this
  rw [key _ rfl,Option.bind_some]
def zWn (n w ap : Int) : Int := if n < 0 ∨ w < 1 ∨ ap < 1 ∨ n < w then 0 else (n - w) / ap + 1
theorem ref4_Windows_f {n w ap : Int} (hn : n ≤ 1000) (hn0 : 0 ≤ n) (hw : w ≤ 1000) (hw0 : 0 ≤ w) : ref4_Windows.f n w ap = some (zWn n w ap) := by
 unfold ref4_Windows.f zWn
 by_cases c1 : n < 0
 ·omega
 by_cases c2 : w < 1
 ·rw [if_neg c1,if_pos c2,if_pos (.inr (.inl c2))]
 by_cases c3 : ap < 1
 ·rw [if_neg c1,if_neg c2,if_pos c3,if_pos (.inr (.inr (.inl c3)))]
 by_cases c4 : n < w
 ·rw [if_neg c1,if_neg c2,if_neg c3,if_pos c4,if_pos (.inr (.inr (.inr c4)))]
 have h1 : 0 ≤ (n - w) / ap := Int.ediv_nonneg (by omega) (by omega)
 have h2 : (n - w) / ap ≤ n - w := Int.ediv_le_self _ (by omega)
 rw [if_neg c1,if_neg c2,if_neg c3,if_neg c4,if_pos (by omega),if_neg (by omega),i64_id (n := n - w) (by omega) (by omega),Int.tdiv_eq_ediv_of_nonneg (by omega),i64_id (n := (n - w) / ap) (by omega) (by omega),i64_id (n := (n - w) / ap + 1) (by omega) (by omega)]
theorem zWn_bd {n w ap : Int} (h0 : 0 ≤ n) : 0 ≤ zWn n w ap ∧ zWn n w ap ≤ n := by
 unfold zWn
 split
 ·omega
 ·rename_i c
  have h1 : 0 ≤ (n - w) / ap := Int.ediv_nonneg (by omega) (by omega)
  have h2 : (n - w) / ap ≤ n - w := Int.ediv_le_self _ (by omega)
  omega
theorem zWn_in {n w ap i j : Int} (hi0 : 0 ≤ i) (hi : i < zWn n w ap) (hj0 : 0 ≤ j) (hj : j < w) : 0 ≤ i * ap + j ∧ i * ap + j < n ∧ 1 ≤ ap := by
 unfold zWn at hi
 split at hi
 ·omega
 ·rename_i c
  have h3 : i * ap ≤ (n - w) / ap * ap := Int.mul_le_mul_of_nonneg_right (by omega) (by omega)
  have h4 : (n - w) / ap * ap ≤ n - w := Int.ediv_mul_le _ (by omega)
  have h5 : 0 ≤ i * ap := Int.mul_nonneg hi0 (by omega)
  omega
def winS (how : Int) (s d : List Int) (ax : Nat) (ap : Int) (p : List Int) (m : Nat) : Int :=
 (List.range m).foldl (fun acc (j : Nat) => put how acc (d.getD (ix s (p.set ax (p.getD ax 0 * ap + (j : Int)))).toNat 0)) (zNone how)
theorem winS_succ (how : Int) (s d : List Int) (ax : Nat) (ap : Int) (p : List Int) (m : Nat) : winS how s d ax ap p (m + 1) = put how (winS how s d ax ap p m) (d.getD (ix s (p.set ax (p.getD ax 0 * ap + (m : Int)))).toNat 0) := by
 unfold winS
 rw [List.range_succ,List.foldl_append]; rfl
def wsh (s : List Int) (ax : Nat) (w ap : Int) : List Int := s.set ax (zWn (s.getD ax 0) w ap)
def zWin (how : Int) (s d : List Int) (ax : Nat) (w ap : Int) : List Int := made (wsh s ax w ap) fun p => winS how s d ax ap p w.toNat
theorem wsh_R {s : List Int} (h : mSR s = true) {ax : Nat} (hax : ax < s.length) (w ap : Int) : mSR (wsh s ax w ap) = true := by
 refine zSl_R h (f := List.replicate s.length 0) (zSl_of (by simp) (by simp [wsh]) fun j hj => ?_)
 have hb := mSR_get h hj
 rw [rep_getD,wsh]
 by_cases e : j = ax
 ·subst e; rw [getD_set_self hj]
  have := zWn_bd (w := w) (ap := ap) hb.1
  omega
 ·rw [getD_set_ne (fun hh => e hh.symm)]; omega
theorem win_in {s p : List Int} {ax : Nat} {w ap : Int} (hax : ax < s.length) (hp : mIn (wsh s ax w ap) p = true) {j : Int} (h0 : 0 ≤ j) (h1 : j < w) : mIn s (p.set ax (p.getD ax 0 * ap + j)) = true ∧ 0 ≤ p.getD ax 0 * ap ∧ p.getD ax 0 * ap + j < s.getD ax 0 := by
 have hl := mIn_len hp
 have hl' : (wsh s ax w ap).length = s.length := by simp [wsh]
 have hg := mIn_getD hp (j := ax) (by rw [hl']; exact hax)
 rw [wsh,getD_set_self hax] at hg
 have hw := zWn_in hg.1 hg.2 h0 h1
 have hw0 : 0 ≤ p.getD ax 0 * ap := Int.mul_nonneg hg.1 (by omega)
 refine ⟨mIn_of (by rw [set_len,hl,hl']) fun q hq => ?_,hw0,hw.2.1⟩
 by_cases e : q = ax
 ·subst e; rw [getD_set_self (by omega)]; omega
 ·have := mIn_getD hp (j := q) (by rw [hl']; exact hq)
  rw [wsh,getD_set_ne (fun hh => e hh.symm)] at this
  rw [getD_set_ne (fun hh => e hh.symm)]; exact this
theorem ref4_Window_f (how : Int) (s d : List Int) (ax w ap : Int) (k : Nat) (hk : 10000 ≤ k) :
    ref4_Window.f k how s d ax w ap = some (if (1 ≤ how ∧ how ≤ 4) ∧ (1 ≤ w ∧ w ≤ 32) ∧ 1 ≤ ap ∧ ap ≤ 32 then (if zT s d = true then (if 0 ≤ ax ∧ ax < (s.length : Int) then (0,wsh s ax.toNat w ap,zWin how s d ax.toNat w ap) else (1,[],[])) else (13,[],[])) else (1,[],[])) := by
  unfold ref4_Window.f
  rw [ref4_How_f,Option.bind_some]
  by_cases c0 : 1 ≤ how ∧ how ≤ 4
  rotate_left
  · rw [decide_eq_false c0,if_neg (by decide),if_neg (fun h => c0 h.1)]
  rw [decide_eq_true c0,if_pos rfl]
  by_cases c1 : w < 1
  · rw [if_pos c1,if_neg (by omega)]
  by_cases c2 : 32 < w
  · rw [if_neg c1,if_pos c2,if_neg (by omega)]
  by_cases c3 : ap < 1
  · rw [if_neg c1,if_neg c2,if_pos c3,if_neg (by omega)]
  by_cases c4 : 32 < ap
  · rw [if_neg c1,if_neg c2,if_neg c3,if_pos c4,if_neg (by omega)]
  rw [if_neg c1,if_neg c2,if_neg c3,if_neg c4,if_pos (show (1 ≤ how ∧ how ≤ 4) ∧ (1 ≤ w ∧ w ≤ 32) ∧ 1 ≤ ap ∧ ap ≤ 32 by omega),ref1_Tensor_f s d k (by omega),Option.bind_some]
  by_cases hT : zT s d = true
  rotate_left
  · rw [if_neg hT,if_neg hT]
  have hs := T_small hT
  rw [if_pos hT,if_pos hT]
  by_cases c5 : ax < 0
  · rw [if_pos c5,if_neg (by omega)]
  by_cases c6 : (s.length : Int) ≤ ax
  · rw [if_neg c5,if_pos c6,if_neg (by omega)]
  obtain ⟨X,rfl⟩ : ∃ X : Nat,ax = X := ⟨ax.toNat,by omega⟩
  obtain ⟨hr,hd⟩ := zT_spec hT
  have hX : X < s.length := by omega
  have hsX := mSR_get hr hX
  have hR := wsh_R hr hX w ap
  have hRs := mSR_spec hR
  have hp0 := pr_nonneg fun x hx => (hRs.2.1 x hx).1
  rw [if_neg c5,if_neg c6,if_pos (show (0 : Int) ≤ X ∧ (X : Int) < s.length by omega),if_pos (by omega),List.nil_append,if_pos (by omega),Int.toNat_natCast,if_pos hX,ref4_Windows_f (by omega) hsX.1 (by omega) (by omega),Option.bind_some,ref4_None_f,Option.bind_some]
  rw [show s.set X (zWn (s.getD X 0) w ap) = wsh s X w ap from rfl,ref1_Fill_f _ _ (by omega) k (by omega),Option.bind_some,zSz,if_pos hR,List.length_replicate]
  have key : ∀ (M : Nat),M = (pr (wsh s X w ap)).toNat → ref4_Window.l0 k k how (X : Int) w ap (M : Int) 0 s d (wsh s X w ap) (wsh s X w ap) (List.replicate M (zNone how)) = some (zWin how s d X w ap) := fun M hM => by
    have := iter0 (L := fun n i y => ref4_Window.l0 k n how (X : Int) w ap (M : Int) i s d (wsh s X w ap) (wsh s X w ap) y) (st := fun (i : Nat) => (List.range i).map (fun (i : Nat) => winS how s d X ap (pl (wsh s X w ap) i) w.toNat) ++ List.replicate (M - i) (zNone how)) (fun _=>zWin how s d X w ap) (m := M) 100
      (fun n _ => by rw [ref4_Window.l0,if_neg (by omega),Nat.sub_self,List.replicate_zero,List.append_nil,hM]; rfl)
      (fun i n hi hn ih => by
        have hpi := pl_Z hR (i := i) (by omega)
        have hpl := pl_len (wsh s X w ap) i
        have hwl : (wsh s X w ap).length = s.length := by simp [wsh]
        generalize hp : pl (wsh s X w ap) (i : Int) = p at *
        have hbase : ((List.range i).map (fun (i : Nat) => winS how s d X ap (pl (wsh s X w ap) i) w.toNat) ++ List.replicate (M - i) (zNone how)).length = M := by simp; omega
        have hget : ((List.range i).map (fun (i : Nat) => winS how s d X ap (pl (wsh s X w ap) i) w.toNat) ++ List.replicate (M - i) (zNone how)).getD i 0 = zNone how := base_get _ hi _
        have hfill := fill_step (fun (i : Nat) => winS how s d X ap (pl (wsh s X w ap) i) w.toNat) hi (zNone how)
        rw [hp] at hfill
        generalize (List.range i).map (fun (i : Nat) => winS how s d X ap (pl (wsh s X w ap) i) w.toNat) ++ List.replicate (M - i) (zNone how) = base at *
        have hg := win_in hX hpi (j := 0) (by omega) (by omega)
        have l1 := iter0 (L := fun n j (y : List Int × List Int) => ref4_Window.l1 k n how (X : Int) w ap (i : Int) (p.getD X 0 * ap) j (M : Int) (i : Int) s d (wsh s X w ap) y.1 (wsh s X w ap) y.2) (st := fun j => (if j = 0 then p else p.set X (p.getD X 0 * ap + ((j - 1 : Nat) : Int)),base.set i (winS how s d X ap p j))) (fun _=>base.set i (winS how s d X ap p w.toNat)) (m := w.toNat) 0
          (fun n _ => by rw [ref4_Window.l1,if_neg (by omega)])
          (fun j n hj _ ih => by
            have hin := win_in hX hpi (j := (j : Int)) (by omega) (by omega)
            have hset : ∀ v,(base.set i (winS how s d X ap p j)).set i v = base.set i v := fun v => by simp
            have hcl : (if j = 0 then p else p.set X (p.getD X 0 * ap + ((j - 1 : Nat) : Int))).length = p.length := by split <;> simp
            have hps : ∀ v,(if j = 0 then p else p.set X (p.getD X 0 * ap + ((j - 1 : Nat) : Int))).set X v = p.set X v := fun v => by split <;> simp
            rw [if_neg (Nat.succ_ne_zero j),Nat.add_sub_cancel] at ih
            rw [ref4_Window.l1,if_pos (by omega),if_pos (by rw [hcl]; omega),Int.toNat_natCast,if_pos (by rw [hcl]; omega),if_pos (by rw [set_len,hbase]; omega),Int.toNat_natCast,if_pos (by rw [set_len,hbase]; exact hi),hps,i64_id (n := p.getD X 0 * ap + (j : Int)) (by omega) (by omega),ref4_number_f hT hin.1 k (by omega),Option.bind_some,ref4_Put_f,Option.bind_some,hset,getD_set_self (by rw [hbase]; exact hi),i64_succ hj (by omega),← winS_succ,ih]) n (by omega)
        rw [if_pos rfl,show winS how s d X ap p 0 = zNone how from rfl,set_self hget.symm,hfill] at l1
        rw [ref4_Window.l0,if_pos (by omega),ref1_Place_f hR (by omega) (by omega) k (by omega),Option.bind_some,hp,if_pos (by omega),Int.toNat_natCast,if_pos (by omega),i64_id (n := p.getD X 0 * ap) (by omega) (by omega),l1,Option.bind_some,i64_succ hi (by omega),ih]) k (by omega)
    rw [Nat.sub_zero,List.range_zero,List.map_nil,List.nil_append] at this
    exact this
  dsimp only
  rw [key _ rfl,Option.bind_some]
end Go.Pf

namespace Go.Pf
open Go Go.Vm
def tq (op : Int) : Option (Int × Bool × Bool × Bool × Bool × Bool) :=
 if op = 1 then some (0,false,true,false,false,false) else if op = 2 then some (0,false,true,false,true,false) else if op = 3 then some (0,false,true,true,false,false)
 else if op = 4 ∨ op = 5 then some (1,false,false,false,false,false) else if 6 ≤ op ∧ op ≤ 11 then some (2,false,false,false,false,false) else if op = 12 then some (3,false,false,false,false,false)
 else if op = 13 ∨ op = 15 then some (1,false,false,true,false,false) else if op = 14 then some (1,false,true,true,false,false) else if op = 16 then some (1,false,false,true,true,false)
 else if op = 17 then some (2,true,false,true,false,false) else if op = 18 ∨ op = 20 then some (1,false,false,true,false,true) else if op = 19 then some (2,false,false,true,false,false) else none
def zF (op : Int) (ls la : Nat) (n h m : Int) : Bool :=
 match tq op with
 | none => false
 | some (lo,more,s,a,v,w) => decide (lo ≤ m) && (more || decide (m ≤ lo)) && (s || decide (ls = 0)) && (a || decide (la = 0)) && (v || decide (n = 0)) && (w || decide (h = 0))
theorem op_cases (op : Int) : op = 1 ∨ op = 2 ∨ op = 3 ∨ op = 4 ∨ op = 5 ∨ op = 6 ∨ op = 7 ∨ op = 8 ∨ op = 9 ∨ op = 10 ∨ op = 11 ∨ op = 12 ∨ op = 13 ∨ op = 14 ∨ op = 15 ∨ op = 16 ∨ op = 17 ∨ op = 18 ∨ op = 19 ∨ op = 20 ∨ (op < 1 ∨ 20 < op) := by omega
theorem tq_out {op : Int} (h : op < 1 ∨ 20 < op) : tq op = none := by
 unfold tq
 rw [if_neg (by omega),if_neg (by omega),if_neg (by omega),if_neg (by omega),if_neg (by omega),if_neg (by omega),if_neg (by omega),if_neg (by omega),if_neg (by omega),if_neg (by omega),if_neg (by omega),if_neg (by omega)]
theorem graph_asks_f (op : Int) : graph_asks.f op = some (match tq op with | none => (0,false,false,false,false,false,false) | some (lo,more,s,a,v,w) => (lo,more,s,a,v,w,true)) := by
 rcases op_cases op with rfl | rfl | rfl | rfl | rfl | rfl | rfl | rfl | rfl | rfl | rfl | rfl | rfl | rfl | rfl | rfl | rfl | rfl | rfl | rfl | hout
 iterate 20 exact rfl
 rw [tq_out hout]
 unfold graph_asks.f
 rw [if_neg (by omega),if_neg (by omega),if_neg (by omega),if_neg (by omega),if_neg (by omega),if_neg (by omega),if_neg (by omega),if_neg (by omega),if_neg (by omega),if_neg (by omega),if_neg (by omega),if_neg (by omega),if_neg (by omega),if_neg (by omega),if_neg (by omega),if_neg (by omega),if_neg (by omega),if_neg (by omega),if_neg (by omega),if_neg (by omega)]
theorem ref10_takes_f (op : Int) : ref10_takes.f op = some (match tq op with | none => (-2,false,false,false,false) | some (lo,more,s,a,v,w) => (if more = true then -1 else lo,s,a,v,w)) := by
 rcases op_cases op with rfl | rfl | rfl | rfl | rfl | rfl | rfl | rfl | rfl | rfl | rfl | rfl | rfl | rfl | rfl | rfl | rfl | rfl | rfl | rfl | hout
 iterate 20 exact rfl
 rw [tq_out hout]
 unfold ref10_takes.f
 rw [if_neg (by omega),if_neg (by omega),if_neg (by omega),if_neg (by omega),if_neg (by omega)]
 by_cases c : 6 ≤ op
 ·rw [if_pos c,if_neg (by omega),if_neg (by omega),if_neg (by omega),if_neg (by omega),if_neg (by omega),if_neg (by omega),if_neg (by omega),if_neg (by omega),if_neg (by omega),if_neg (by omega)]
 ·rw [if_neg c,if_neg (by omega),if_neg (by omega),if_neg (by omega),if_neg (by omega),if_neg (by omega),if_neg (by omega),if_neg (by omega),if_neg (by omega),if_neg (by omega)]
theorem tq_lo {op lo : Int} {more s a v w : Bool} (h : tq op = some (lo,more,s,a,v,w)) : 0 ≤ lo ∧ lo ≤ 3 ∧ (more = true → lo = 2) := by
 rcases op_cases op with rfl | rfl | rfl | rfl | rfl | rfl | rfl | rfl | rfl | rfl | rfl | rfl | rfl | rfl | rfl | rfl | rfl | rfl | rfl | rfl | hout
 iterate 20
  simp [tq] at h
  obtain ⟨rfl,rfl,_⟩ := h
  simp
 rw [tq_out hout] at h; cases h
theorem graph_asked_f (op : Int) (i s a : List Int) (n h : Int) (nt : ByteArray) (m : Int) : graph_asked.f op i s a n h nt m = some (zF op s.length a.length n h m) := by
 unfold graph_asked.f zF
 rw [graph_asks_f,Option.bind_some]
 cases tq op with
 | none => rfl
 | some q =>
  obtain ⟨lo,more,qs,qa,qv,qw⟩ := q
  dsimp only
  rw [if_pos rfl]
  by_cases c1 : m < lo
  ·rw [if_pos c1,decide_eq_false (show ¬ lo ≤ m by omega)]; simp
  ·rw [if_neg c1,decide_eq_true (show lo ≤ m by omega),Bool.true_and]
   have e1 : decide ((s.length : Int) = 0) = decide (s.length = 0) := decide_eq_decide.2 (by omega)
   have e2 : decide ((a.length : Int) = 0) = decide (a.length = 0) := decide_eq_decide.2 (by omega)
   by_cases c2 : lo < m
   ·rw [if_pos c2,decide_eq_false (show ¬ m ≤ lo by omega)]
    cases more <;> cases qs <;> cases qa <;> cases qv <;> cases qw <;> simp <;> (repeat' split) <;> simp_all
   ·rw [if_neg c2,decide_eq_true (show m ≤ lo by omega)]
    cases more <;> cases qs <;> cases qa <;> cases qv <;> cases qw <;> simp <;> (repeat' split) <;> simp_all
theorem ref10_form_f (op : Int) (i s a : List Int) (n h : Int) (nt : ByteArray) (m : Int) : ref10_form.f op i s a n h nt m = some (zF op s.length a.length n h m) := by
 unfold ref10_form.f zF
 rw [ref10_takes_f,Option.bind_some]
 cases hq : tq op with
 | none => rfl
 | some q =>
  obtain ⟨lo,more,qs,qa,qv,qw⟩ := q
  obtain ⟨h1,h2,h3⟩ := tq_lo hq
  dsimp only
  cases more with
  | true =>
   obtain rfl : lo = 2 := h3 rfl
   simp only [reduceIte,show ¬ ((-1 : Int) = -2) by decide,show ¬ ((0 : Int) ≤ -1) by decide]
   by_cases c1 : m < 2
   ·rw [if_pos c1,decide_eq_false (show ¬ (2 : Int) ≤ m by omega)]; simp
   ·rw [if_neg c1,decide_eq_true (show (2 : Int) ≤ m by omega)]
    cases qs <;> cases qa <;> cases qv <;> cases qw <;> simp <;> (repeat' split) <;> simp_all
  | false =>
   simp only [Bool.false_eq_true,reduceIte,show ¬ (lo = -2) by omega,h1]
   by_cases c1 : m = lo
   ·subst c1
    rw [if_pos rfl,if_neg (by omega),decide_eq_true (Int.le_refl m)]
    cases qs <;> cases qa <;> cases qv <;> cases qw <;> simp <;> (repeat' split) <;> simp_all
   ·have : (decide (lo ≤ m) && (false || decide (m ≤ lo))) = false := by
     rw [Bool.false_or,← Bool.decide_and]; exact decide_eq_false (by omega)
    rw [if_neg c1,this]; simp
end Go.Pf

namespace Go.Pf
open Go Go.Vm
def zShape (op : Int) (s a : List Int) (h : Int) (l : List (List Int)) : Int × List Int :=
 if op = 1 ∨ op = 2 then (if mSR s = true then (0,s) else (13,[])) else
 if op = 3 then (if mSR s = true then (if a.length = 1 ∧ 0 ≤ a.getD 0 0 ∧ a.getD 0 0 < (s.length : Int) then (0,s) else (1,[])) else (13,[])) else
 if op = 13 then (if isPerm (l.getD 0 []).length a = true then (0,pick (l.getD 0 []) a) else (1,[])) else
 if op = 14 then (if mSR s = true then (if zWi s (-1) (l.getD 0 []) a = true then (0,s) else (1,[])) else (13,[])) else
 if op = 15 then (if a.length = 2 * (l.getD 0 []).length ∧ zSl (l.getD 0 []) (a.take (l.getD 0 []).length) (a.drop (l.getD 0 []).length) = true then (0,a.drop (l.getD 0 []).length) else (1,[])) else
 if op = 16 then (if a.length = 2 * (l.getD 0 []).length ∧ zMay (l.getD 0 []) (a.take (l.getD 0 []).length) (a.drop (l.getD 0 []).length) = true then
  (if mSR (zp (l.getD 0 []) (a.take (l.getD 0 []).length) (a.drop (l.getD 0 []).length)) = true then (0,zp (l.getD 0 []) (a.take (l.getD 0 []).length) (a.drop (l.getD 0 []).length)) else (13,[])) else (1,[])) else
 if op = 17 then (if a.length = 1 then zJs (a.getD 0 0) l else (1,[])) else
 if op = 18 then (if 1 ≤ h ∧ h ≤ 4 then (if zRi (l.getD 0 []).length (-1) a = true then (if mSR (lef a (l.getD 0 [])) = true then (0,lef a (l.getD 0 [])) else (13,[])) else (1,[])) else (1,[])) else
 if op = 19 then (if a.length = 1 then zDS (l.getD 0 []) (l.getD 1 []) (a.getD 0 0) else (1,[])) else
 if op = 20 then (if a.length = 3 ∧ ((1 ≤ h ∧ h ≤ 4) ∧ (1 ≤ a.getD 1 0 ∧ a.getD 1 0 ≤ 32) ∧ 1 ≤ a.getD 2 0 ∧ a.getD 2 0 ≤ 32) ∧ 0 ≤ a.getD 0 0 ∧ a.getD 0 0 < ((l.getD 0 []).length : Int) then (0,wsh (l.getD 0 []) (a.getD 0 0).toNat (a.getD 1 0) (a.getD 2 0)) else (1,[])) else
 if l.all (fun t => decide (t = l.getD 0 [])) = true then (0,l.getD 0 []) else (13,[])
def nou (s : List Int) : Tn := (s,List.replicate (zSz s).toNat 0)
theorem nou_T {s : List Int} (h : mSR s = true) : zT s (List.replicate (zSz s).toNat 0) = true := by
 have := pr_nonneg fun x hx => ((mSR_spec h).2.1 x hx).1
 unfold zT
 rw [List.length_replicate,zSz,if_pos h]
 simp [h]; omega
theorem ref10_Shape_l0 (k : Nat) (hk : 5000 ≤ k) (l : List (List Int)) (hl : l.length ≤ 1000) (op : Int) (i s a : List Int) (n h : Int) (nt : ByteArray) :
  ref10_Shape.l0 k k l (l.length : Int) 0 op i s a n h nt [] = some (if l.all mSR = true then .inl (l.map nou) else .inr 13) := by
 have := iter0 (L := fun m j y => ref10_Shape.l0 k m l (l.length : Int) j op i s a n h nt y) (st := fun j => (l.take j).map nou) (fun j => if (l.drop j).all mSR = true then .inl (l.map nou) else .inr 13) (m := l.length) 0
  (fun m _ => by rw [ref10_Shape.l0,if_neg (by omega),List.drop_eq_nil_of_le (Nat.le_refl _),List.take_length]; rfl)
  (fun j m hj _ ih => by
   have ht : (l.take (j + 1)).map nou = (l.take j).map nou ++ [nou (l.getD j [])] := by
    rw [List.take_add_one,List.map_append,List.getD_eq_getElem?_getD,List.getElem?_eq_getElem hj]; rfl
   rw [ht] at ih
   rw [ref10_Shape.l0,if_pos (by omega),if_pos (by omega),Int.toNat_natCast,ref1_Right_f _ k (by omega),Option.bind_some,drop_getD hj ([] : List Int),List.all_cons]
   by_cases c : mSR (l.getD j []) = true
   ·have hb := mSR_spec c
    rw [if_pos c,ref1_Fill_f _ _ (by omega) k (by omega),Option.bind_some,if_pos (by rw [List.length_map,List.length_take,List.length_singleton]; omega),i64_succ hj (by omega),c,Bool.true_and]
    exact ih
   ·rw [if_neg c,if_neg (by rw [Bool.and_eq_true]; exact fun hh => c hh.1)]) k (by omega)
 rw [List.take_zero,List.map_nil,List.drop_zero] at this
 exact this
theorem nou_all {l : List (List Int)} (h : l.all mSR = true) : (l.map nou).all (fun t => zT t.1 t.2) = true := by
 rw [List.all_map,List.all_eq_true]
 intro s hs
 exact nou_T (List.all_eq_true.1 h s hs)
theorem nou_fst (l : List (List Int)) : (l.map nou).map (·.1) = l := by
 rw [List.map_map]
 conv => rhs; rw [← List.map_id l]
 rfl
def shp (x : Int × List Int × List Int) : Int × List Int := if x.1 = 0 then (0,x.2.1) else (x.1,[])
theorem ref1_Iota_f {s : List Int} (hs : mSR s = true) (ax : Nat) (hax : ax < s.length) (k : Nat) (hk : 10000 ≤ k) : ref1_Iota.f k s ax = some (s,made s fun p => p.getD ax 0) := by
 have hb := mSR_spec hs
 have h0 := pr_nonneg fun x hx => (hb.2.1 x hx).1
 unfold ref1_Iota.f
 rw [ref1_Fill_f _ _ (by omega) k (by omega),Option.bind_some,zSz,if_pos hs]
 have key : ∀ M : Nat,M = (pr s).toNat → ref1_Iota.l0 k k s ax 0 s (List.replicate M 0) = some (made s fun p => p.getD ax 0) := fun M hM => by
  have := iter0 (L := fun n i y => ref1_Iota.l0 k n s ax i s y) (st := fun (i : Nat) => (List.range i).map (fun (i : Nat) => (pl s i).getD ax 0) ++ List.replicate (M - i) 0) (fun _=>made s fun p => p.getD ax 0) (m := M) 0
   (fun n _ => by rw [ref1_Iota.l0,if_neg (by simp),Nat.sub_self,List.replicate_zero,List.append_nil,hM]; rfl)
   (fun i n hi _ ih => by
    have hpl := pl_len s i
    have hlen : ((List.range i).map (fun (i : Nat) => (pl s i).getD ax 0) ++ List.replicate (M - i) (0 : Int)).length = M := by simp; omega
    rw [ref1_Iota.l0,if_pos (by rw [hlen]; omega),ref1_Place_f hs (by omega) (by omega) k (by omega),Option.bind_some,if_pos (by omega),Int.toNat_natCast,if_pos (by omega),if_pos (by rw [hlen]; omega),Int.toNat_natCast,if_pos (by rw [hlen]; exact hi),fill_step (fun (i : Nat) => (pl s i).getD ax 0) hi,i64_succ hi (by omega),ih]) k (by omega)
  rw [Nat.sub_zero,List.range_zero,List.map_nil,List.nil_append] at this
  exact this
 dsimp only
 rw [key _ rfl,Option.bind_some]
theorem ref10_count_f (op : Int) (i s a : List Int) (n h : Int) (nt : ByteArray) (m : Int) : ref10_count.f op i s a n h nt m = some (decide ((a.length : Int) = m)) := rfl
end Go.Pf

namespace Go.Pf
open Go Go.Vm
def zWork (op : Int) (s a : List Int) (n h : Int) (l : List Tn) : Int × List Int × List Int :=
 if op = 2 then (if mSR s = true then (0,s,List.replicate (zSz s).toNat n) else (13,[],[])) else
 if op = 3 then (if mSR s = true then (if a.length = 1 ∧ 0 ≤ a.getD 0 0 ∧ a.getD 0 0 < (s.length : Int) then (0,s,made s fun p => p.getD (a.getD 0 0).toNat 0) else (1,[],[])) else (13,[],[])) else
 if op = 4 ∨ op = 5 then (0,(l.getD 0 ([],[])).1,zOne op (l.getD 0 ([],[])).2) else
 if op = 12 then (if (l.getD 1 ([],[])).1 = (l.getD 0 ([],[])).1 ∧ (l.getD 2 ([],[])).1 = (l.getD 0 ([],[])).1 then (0,(l.getD 0 ([],[])).1,zPick (l.getD 0 ([],[])).2 (l.getD 1 ([],[])).2 (l.getD 2 ([],[])).2) else (13,[],[])) else
 if op = 13 then (if isPerm (l.getD 0 ([],[])).1.length a = true then (0,pick (l.getD 0 ([],[])).1 a,zTurn (l.getD 0 ([],[])).1 (l.getD 0 ([],[])).2 a) else (1,[],[])) else
 if op = 14 then (if mSR s = true then (if zWi s (-1) (l.getD 0 ([],[])).1 a = true then (0,s,zSpr (l.getD 0 ([],[])).1 (l.getD 0 ([],[])).2 s a) else (1,[],[])) else (13,[],[])) else
 if op = 15 then (if a.length = 2 * (l.getD 0 ([],[])).1.length ∧ zSl (l.getD 0 ([],[])).1 (a.take (l.getD 0 ([],[])).1.length) (a.drop (l.getD 0 ([],[])).1.length) = true then
  (0,a.drop (l.getD 0 ([],[])).1.length,zCut (l.getD 0 ([],[])).1 (l.getD 0 ([],[])).2 (a.take (l.getD 0 ([],[])).1.length) (a.drop (l.getD 0 ([],[])).1.length)) else (1,[],[])) else
 if op = 16 then (if a.length = 2 * (l.getD 0 ([],[])).1.length ∧ zMay (l.getD 0 ([],[])).1 (a.take (l.getD 0 ([],[])).1.length) (a.drop (l.getD 0 ([],[])).1.length) = true then
  (if mSR (zp (l.getD 0 ([],[])).1 (a.take (l.getD 0 ([],[])).1.length) (a.drop (l.getD 0 ([],[])).1.length)) = true then
   (0,zp (l.getD 0 ([],[])).1 (a.take (l.getD 0 ([],[])).1.length) (a.drop (l.getD 0 ([],[])).1.length),zPad (l.getD 0 ([],[])).1 (l.getD 0 ([],[])).2 (a.take (l.getD 0 ([],[])).1.length) (a.drop (l.getD 0 ([],[])).1.length) n) else (13,[],[])) else (1,[],[])) else
 if op = 17 then (if a.length = 1 then zJoin (a.getD 0 0) l else (1,[],[])) else
 if op = 18 then (if 1 ≤ h ∧ h ≤ 4 then (if zRi (l.getD 0 ([],[])).1.length (-1) a = true then (if mSR (lef a (l.getD 0 ([],[])).1) = true then (0,lef a (l.getD 0 ([],[])).1,zFold h (l.getD 0 ([],[])).1 (l.getD 0 ([],[])).2 a) else (13,[],[])) else (1,[],[])) else (1,[],[])) else
 if op = 19 then (if a.length = 1 then (if (zDS (l.getD 0 ([],[])).1 (l.getD 1 ([],[])).1 (a.getD 0 0)).1 = 0 then
   (0,(zDS (l.getD 0 ([],[])).1 (l.getD 1 ([],[])).1 (a.getD 0 0)).2,zDot (l.getD 0 ([],[])).1 (l.getD 0 ([],[])).2 (l.getD 1 ([],[])).1 (l.getD 1 ([],[])).2 (a.getD 0 0).toNat) else ((zDS (l.getD 0 ([],[])).1 (l.getD 1 ([],[])).1 (a.getD 0 0)).1,[],[])) else (1,[],[])) else
 if op = 20 then (if a.length = 3 ∧ ((1 ≤ h ∧ h ≤ 4) ∧ (1 ≤ a.getD 1 0 ∧ a.getD 1 0 ≤ 32) ∧ 1 ≤ a.getD 2 0 ∧ a.getD 2 0 ≤ 32) ∧ 0 ≤ a.getD 0 0 ∧ a.getD 0 0 < ((l.getD 0 ([],[])).1.length : Int) then
  (0,wsh (l.getD 0 ([],[])).1 (a.getD 0 0).toNat (a.getD 1 0) (a.getD 2 0),zWin h (l.getD 0 ([],[])).1 (l.getD 0 ([],[])).2 (a.getD 0 0).toNat (a.getD 1 0) (a.getD 2 0)) else (1,[],[])) else
 if (l.getD 1 ([],[])).1 = (l.getD 0 ([],[])).1 then (0,(l.getD 0 ([],[])).1,zTwo op (l.getD 0 ([],[])).2 (l.getD 1 ([],[])).2) else (13,[],[])
set_option maxHeartbeats 2000000 in
theorem zF_len {op : Int} {ls la : Nat} {n h m : Int} (hF : zF op ls la n h m = true) : (op = 1 ∧ m = 0) ∨ (op = 2 ∧ m = 0) ∨ (op = 3 ∧ m = 0) ∨ ((op = 4 ∨ op = 5) ∧ m = 1) ∨ ((6 ≤ op ∧ op ≤ 11) ∧ m = 2) ∨ (op = 12 ∧ m = 3) ∨ (op = 13 ∧ m = 1) ∨ (op = 14 ∧ m = 1) ∨ (op = 15 ∧ m = 1) ∨ (op = 16 ∧ m = 1) ∨ (op = 17 ∧ 2 ≤ m) ∨ (op = 18 ∧ m = 1) ∨ (op = 19 ∧ m = 2) ∨ (op = 20 ∧ m = 1) := by
 unfold zF at hF
 cases hq : tq op with
 | none => rw [hq] at hF; cases hF
 | some q =>
  obtain ⟨lo,more,qs,qa,qv,qw⟩ := q
  rw [hq] at hF
  simp only [Bool.and_eq_true,decide_eq_true_eq,Bool.or_eq_true] at hF
  obtain ⟨⟨⟨⟨⟨h1,h2⟩,_⟩,_⟩,_⟩,_⟩ := hF
  rcases op_cases op with rfl | rfl | rfl | rfl | rfl | rfl | rfl | rfl | rfl | rfl | rfl | rfl | rfl | rfl | rfl | rfl | rfl | rfl | rfl | rfl | hout
  ·simp [tq] at hq
   obtain ⟨rfl,rfl,_⟩ := hq
   simp at h2
   exact .inl ⟨rfl,by omega⟩
  ·simp [tq] at hq
   obtain ⟨rfl,rfl,_⟩ := hq
   simp at h2
   exact .inr (.inl ⟨rfl,by omega⟩)
  ·simp [tq] at hq
   obtain ⟨rfl,rfl,_⟩ := hq
   simp at h2
   exact .inr (.inr (.inl ⟨rfl,by omega⟩))
  ·simp [tq] at hq
   obtain ⟨rfl,rfl,_⟩ := hq
   simp at h2
   exact .inr (.inr (.inr (.inl ⟨.inl rfl,by omega⟩)))
  ·simp [tq] at hq
   obtain ⟨rfl,rfl,_⟩ := hq
   simp at h2
   exact .inr (.inr (.inr (.inl ⟨.inr rfl,by omega⟩)))
  ·simp [tq] at hq
   obtain ⟨rfl,rfl,_⟩ := hq
   simp at h2
   exact .inr (.inr (.inr (.inr (.inl ⟨by omega,by omega⟩))))
  ·simp [tq] at hq
   obtain ⟨rfl,rfl,_⟩ := hq
   simp at h2
   exact .inr (.inr (.inr (.inr (.inl ⟨by omega,by omega⟩))))
  ·simp [tq] at hq
   obtain ⟨rfl,rfl,_⟩ := hq
   simp at h2
   exact .inr (.inr (.inr (.inr (.inl ⟨by omega,by omega⟩))))
  ·simp [tq] at hq
   obtain ⟨rfl,rfl,_⟩ := hq
   simp at h2
   exact .inr (.inr (.inr (.inr (.inl ⟨by omega,by omega⟩))))
  ·simp [tq] at hq
   obtain ⟨rfl,rfl,_⟩ := hq
   simp at h2
   exact .inr (.inr (.inr (.inr (.inl ⟨by omega,by omega⟩))))
  ·simp [tq] at hq
   obtain ⟨rfl,rfl,_⟩ := hq
   simp at h2
   exact .inr (.inr (.inr (.inr (.inl ⟨by omega,by omega⟩))))
  ·simp [tq] at hq
   obtain ⟨rfl,rfl,_⟩ := hq
   simp at h2
   exact .inr (.inr (.inr (.inr (.inr (.inl ⟨rfl,by omega⟩)))))
  ·simp [tq] at hq
   obtain ⟨rfl,rfl,_⟩ := hq
   simp at h2
   exact .inr (.inr (.inr (.inr (.inr (.inr (.inl ⟨rfl,by omega⟩))))))
  ·simp [tq] at hq
   obtain ⟨rfl,rfl,_⟩ := hq
   simp at h2
   exact .inr (.inr (.inr (.inr (.inr (.inr (.inr (.inl ⟨rfl,by omega⟩)))))))
  ·simp [tq] at hq
   obtain ⟨rfl,rfl,_⟩ := hq
   simp at h2
   exact .inr (.inr (.inr (.inr (.inr (.inr (.inr (.inr (.inl ⟨rfl,by omega⟩))))))))
  ·simp [tq] at hq
   obtain ⟨rfl,rfl,_⟩ := hq
   simp at h2
   exact .inr (.inr (.inr (.inr (.inr (.inr (.inr (.inr (.inr (.inl ⟨rfl,by omega⟩)))))))))
  ·simp [tq] at hq
   obtain ⟨rfl,rfl,_⟩ := hq
   simp at h2
   exact .inr (.inr (.inr (.inr (.inr (.inr (.inr (.inr (.inr (.inr (.inl ⟨rfl,by omega⟩))))))))))
  ·simp [tq] at hq
   obtain ⟨rfl,rfl,_⟩ := hq
   simp at h2
   exact .inr (.inr (.inr (.inr (.inr (.inr (.inr (.inr (.inr (.inr (.inr (.inl ⟨rfl,by omega⟩)))))))))))
  ·simp [tq] at hq
   obtain ⟨rfl,rfl,_⟩ := hq
   simp at h2
   exact .inr (.inr (.inr (.inr (.inr (.inr (.inr (.inr (.inr (.inr (.inr (.inr (.inl ⟨rfl,by omega⟩))))))))))))
  ·simp [tq] at hq
   obtain ⟨rfl,rfl,_⟩ := hq
   simp at h2
   exact .inr (.inr (.inr (.inr (.inr (.inr (.inr (.inr (.inr (.inr (.inr (.inr (.inr (⟨rfl,by omega⟩)))))))))))))
  rw [tq_out hout] at hq; cases hq
set_option maxHeartbeats 2000000 in
theorem ref10_work_f (op : Int) (i s a : List Int) (n h : Int) (nt : ByteArray) (l : List Tn) (hT : ∀ t ∈ l,zT t.1 t.2 = true) (hl : l.length ≤ 400) (h1 : op ≠ 1) (hF : zF op s.length a.length n h l.length = true) (ha : a.length ≤ 17592186043904) (k : Nat) (hk : a.length + 20000 ≤ k) :
  ref10_work.f k op i s a n h nt l = some (zWork op s a n h l) := by
 have g : ∀ j,j < l.length → zT (l.getD j ([],[])).1 (l.getD j ([],[])).2 = true := fun j hj => hT _ (getD_mem hj _)
 have e3 : ∀ x : Int × List Int × List Int,(x.1,x.2.1,x.2.2) = x := fun _=>rfl
 rcases zF_len hF with ⟨rfl,m⟩ | ⟨rfl,m⟩ | ⟨rfl,m⟩ | ⟨rfl | rfl,m⟩ | ⟨c,m⟩ | ⟨rfl,m⟩ | ⟨rfl,m⟩ | ⟨rfl,m⟩ | ⟨rfl,m⟩ | ⟨rfl,m⟩ | ⟨rfl,m⟩ | ⟨rfl,m⟩ | ⟨rfl,m⟩ | ⟨rfl,m⟩
 ·exact absurd rfl h1
 ·simp only [ref10_work.f,zWork,Int.reduceEq,reduceIte]
  rw [ref1_Right_f _ k (by omega),Option.bind_some]
  by_cases hs : mSR s = true
  ·have hb := mSR_spec hs
   rw [if_pos hs,if_pos hs,ref1_Fill_f _ _ (by omega) k (by omega),Option.bind_some]
  ·rw [if_neg hs,if_neg hs]
 ·simp only [ref10_work.f,zWork,Int.reduceEq,reduceIte]
  rw [ref1_Right_f _ k (by omega),Option.bind_some]
  by_cases hs : mSR s = true
  ·rw [if_pos hs,if_pos hs,ref10_count_f,Option.bind_some]
   by_cases c1 : a.length = 1
   ·rw [decide_eq_true (show (a.length : Int) = 1 by omega),if_pos rfl,if_pos (by omega)]
    by_cases c2 : a.getD 0 0 < 0
    ·rw [if_pos c2,if_neg (by omega)]
    by_cases c3 : (s.length : Int) ≤ a.getD 0 0
    ·rw [if_neg c2,if_pos c3,if_neg (by omega)]
    have := ref1_Iota_f hs (a.getD 0 0).toNat (by omega) k (by omega)
    rw [show (((a.getD 0 0).toNat : Nat) : Int) = a.getD 0 0 by omega] at this
    rw [if_neg c2,if_neg c3,this,Option.bind_some,if_pos (by omega)]
   ·rw [decide_eq_false (show ¬ (a.length : Int) = 1 by omega),if_neg (by decide),if_neg (by omega)]
  ·rw [if_neg hs,if_neg hs]
 ·simp only [ref10_work.f,zWork,Int.reduceEq,reduceIte,true_or]
  rw [if_pos (by omega),ref4_One_f _ _ _ k (by omega),if_pos (.inl rfl),if_pos (g 0 (by omega)),Option.bind_some]
 ·simp only [ref10_work.f,zWork,Int.reduceEq,reduceIte,or_true]
  rw [if_pos (by omega),ref4_One_f _ _ _ k (by omega),if_pos (.inr rfl),if_pos (g 0 (by omega)),Option.bind_some]
 ·unfold ref10_work.f zWork
  rw [if_neg (by omega),if_neg (by omega),if_neg (by omega),if_neg (by omega),if_neg (by omega),if_neg (by omega),if_neg (by omega),if_neg (by omega),if_neg (by omega),if_neg (by omega),if_neg (by omega),if_neg (by omega),if_neg (by omega),if_pos (by omega),if_pos (by omega),
   if_neg (by omega),if_neg (by omega),if_neg (by omega),if_neg (by omega),if_neg (by omega),if_neg (by omega),if_neg (by omega),if_neg (by omega),if_neg (by omega),if_neg (by omega),if_neg (by omega),if_neg (by omega),ref4_Two_f _ _ _ _ _ k (by omega),if_pos c,Option.bind_some]
  by_cases e : (l.getD 1 ([],[])).1 = (l.getD 0 ([],[])).1
  ·rw [if_pos e,if_pos ⟨g 0 (by omega),g 1 (by omega),e⟩]
  ·rw [if_neg e,if_neg (fun hh => e hh.2.2)]
 ·simp only [ref10_work.f,zWork,Int.reduceEq,reduceIte,or_self]
  rw [if_pos (by omega),if_pos (by omega),if_pos (by omega),ref4_Pick_f _ _ _ _ _ _ k (by omega),Option.bind_some]
  by_cases e : (l.getD 1 ([],[])).1 = (l.getD 0 ([],[])).1 ∧ (l.getD 2 ([],[])).1 = (l.getD 0 ([],[])).1
  ·rw [if_pos e,if_pos ⟨g 0 (by omega),⟨g 1 (by omega),e.1⟩,g 2 (by omega),e.2⟩]
  ·rw [if_neg e,if_neg (fun hh => e ⟨hh.2.1.2,hh.2.2.2⟩)]
 ·simp only [ref10_work.f,zWork,Int.reduceEq,reduceIte,or_self]
  rw [if_pos (by omega),ref4_Turn_f _ _ _ k (by omega),if_pos (g 0 (by omega)),Option.bind_some]
 ·simp only [ref10_work.f,zWork,Int.reduceEq,reduceIte,or_self]
  rw [if_pos (by omega),ref4_Spread_f _ _ _ _ k (by omega),if_pos (g 0 (by omega)),Option.bind_some]
 ·simp only [ref10_work.f,zWork,Int.reduceEq,reduceIte,or_self]
  have hb := T_small (g 0 (by omega))
  rw [if_pos (by omega),i64_id (n := 2 * ((l.getD 0 ([],[])).1.length : Int)) (by omega) (by omega),ref10_count_f,Option.bind_some]
  by_cases c : a.length = 2 * (l.getD 0 ([],[])).1.length
  ·rw [decide_eq_true (show (a.length : Int) = 2 * ((l.getD 0 ([],[])).1.length : Int) by omega),if_pos rfl,if_pos (by omega),if_pos (by omega),Int.toNat_natCast,List.drop_zero,List.take_length,ref4_Slice_f _ _ _ _ k (by omega),if_pos (g 0 (by omega)),Option.bind_some]
   by_cases c2 : zSl (l.getD 0 ([],[])).1 (a.take (l.getD 0 ([],[])).1.length) (a.drop (l.getD 0 ([],[])).1.length) = true
   ·rw [if_pos c2,if_pos ⟨c,c2⟩]
   ·rw [if_neg c2,if_neg (fun hh => c2 hh.2)]
  ·rw [decide_eq_false (show ¬ (a.length : Int) = 2 * ((l.getD 0 ([],[])).1.length : Int) by omega),if_neg (by decide),if_neg (fun hh => c hh.1)]
 ·simp only [ref10_work.f,zWork,Int.reduceEq,reduceIte,or_self]
  have hb := T_small (g 0 (by omega))
  rw [if_pos (by omega),i64_id (n := 2 * ((l.getD 0 ([],[])).1.length : Int)) (by omega) (by omega),ref10_count_f,Option.bind_some]
  by_cases c : a.length = 2 * (l.getD 0 ([],[])).1.length
  ·rw [decide_eq_true (show (a.length : Int) = 2 * ((l.getD 0 ([],[])).1.length : Int) by omega),if_pos rfl,if_pos (by omega),if_pos (by omega),Int.toNat_natCast,List.drop_zero,List.take_length,ref4_Pad_f _ _ _ _ _ k (by omega),if_pos (g 0 (by omega)),Option.bind_some]
   by_cases c2 : zMay (l.getD 0 ([],[])).1 (a.take (l.getD 0 ([],[])).1.length) (a.drop (l.getD 0 ([],[])).1.length) = true
   ·have cc := And.intro c c2
    rw [if_pos c2,if_pos cc]
   ·rw [if_neg c2,if_neg (fun hh => c2 hh.2)]
  ·rw [decide_eq_false (show ¬ (a.length : Int) = 2 * ((l.getD 0 ([],[])).1.length : Int) by omega),if_neg (by decide),if_neg (fun hh => c hh.1)]
 ·simp only [ref10_work.f,zWork,Int.reduceEq,reduceIte,or_self]
  rw [ref10_count_f,Option.bind_some]
  by_cases c : a.length = 1
  ·rw [decide_eq_true (show (a.length : Int) = 1 by omega),if_pos rfl,if_pos (by omega),ref4_Join_f _ _ hl k (by omega),Option.bind_some,if_pos c]
  ·rw [decide_eq_false (show ¬ (a.length : Int) = 1 by omega),if_neg (by decide),if_neg c]
 ·simp only [ref10_work.f,zWork,Int.reduceEq,reduceIte,or_self]
  rw [if_pos (by omega),ref4_Fold_f _ _ _ _ ha k (by omega),if_pos (g 0 (by omega)),Option.bind_some]
 ·simp only [ref10_work.f,zWork,Int.reduceEq,reduceIte,or_self]
  rw [ref10_count_f,Option.bind_some]
  by_cases c : a.length = 1
  ·rw [decide_eq_true (show (a.length : Int) = 1 by omega),if_pos rfl,if_pos (by omega),if_pos (by omega),if_pos (by omega),ref4_Dot_f _ _ _ _ _ k (by omega),if_pos ⟨g 0 (by omega),g 1 (by omega)⟩,Option.bind_some,if_pos c]
  ·rw [decide_eq_false (show ¬ (a.length : Int) = 1 by omega),if_neg (by decide),if_neg c]
 ·simp only [ref10_work.f,zWork,Int.reduceEq,reduceIte,or_self]
  rw [ref10_count_f,Option.bind_some]
  by_cases c : a.length = 3
  ·rw [decide_eq_true (show (a.length : Int) = 3 by omega),if_pos rfl,if_pos (by omega),if_pos (by omega),if_pos (by omega),if_pos (by omega),ref4_Window_f _ _ _ _ _ _ k (by omega),if_pos (g 0 (by omega)),Option.bind_some]
   by_cases c2 : (1 ≤ h ∧ h ≤ 4) ∧ (1 ≤ a.getD 1 0 ∧ a.getD 1 0 ≤ 32) ∧ 1 ≤ a.getD 2 0 ∧ a.getD 2 0 ≤ 32
   ·by_cases c3 : 0 ≤ a.getD 0 0 ∧ a.getD 0 0 < ((l.getD 0 ([],[])).1.length : Int)
    ·rw [if_pos c2,if_pos c3,if_pos ⟨c,c2,c3⟩]
    ·rw [if_pos c2,if_neg c3,if_neg (fun hh => c3 hh.2.2)]
   ·rw [if_neg c2,if_neg (fun hh => c2 hh.2.1)]
  ·rw [decide_eq_false (show ¬ (a.length : Int) = 3 by omega),if_neg (by decide),if_neg (fun hh => c hh.1)]
theorem zWork_shp {op : Int} {s a : List Int} {n h : Int} {l : List Tn} (hT : ∀ t ∈ l,zT t.1 t.2 = true) (h1 : op ≠ 1) (hF : zF op s.length a.length n h l.length = true) : shp (zWork op s a n h l) = zShape op s a h (l.map (·.1)) := by
  have g0 : 0 < l.length → (l.map (·.1)).getD 0 [] = (l.getD 0 ([],[])).1 := fun hl => by
    cases l with
    | nil => simp at hl
    | cons _ _ => rfl
  have g1 : 1 < l.length → (l.map (·.1)).getD 1 [] = (l.getD 1 ([],[])).1 := fun hl => by
    rcases l with _ | ⟨_,_ | ⟨_,_⟩⟩
    · simp at hl
    · simp at hl
    · rfl
  have ite3 : ∀ (p : Prop) [Decidable p] (x y : Int × List Int × List Int),shp (if p then x else y) = if p then shp x else shp y := fun p _ x y => by split <;> rfl
  rcases zF_len hF with ⟨rfl,m⟩ | ⟨rfl,m⟩ | ⟨rfl,m⟩ | ⟨rfl | rfl,m⟩ | ⟨c,m⟩ | ⟨rfl,m⟩ | ⟨rfl,m⟩ | ⟨rfl,m⟩ | ⟨rfl,m⟩ | ⟨rfl,m⟩ | ⟨rfl,m⟩ | ⟨rfl,m⟩ | ⟨rfl,m⟩ | ⟨rfl,m⟩
  · exact absurd rfl h1
  · simp only [zWork,zShape,Int.reduceEq,reduceIte,or_true,or_false,false_or,ite3]; rfl
  · simp only [zWork,zShape,Int.reduceEq,reduceIte,or_self,ite3]; rfl
  · obtain ⟨t,rfl⟩ : ∃ t,l = [t] := List.length_eq_one_iff.1 (by omega)
    simp only [zWork,zShape,Int.reduceEq,reduceIte,or_self,or_true,true_or]
    simp [shp]
  · obtain ⟨t,rfl⟩ : ∃ t,l = [t] := List.length_eq_one_iff.1 (by omega)
    simp only [zWork,zShape,Int.reduceEq,reduceIte,or_self,or_true,true_or]
    simp [shp]
  · obtain ⟨t,u,rfl⟩ : ∃ t u,l = [t,u] := by
      rcases l with _ | ⟨t,_ | ⟨u,_ | ⟨_,_⟩⟩⟩
      · simp at m
      · simp at m
      · exact ⟨t,u,rfl⟩
      · simp at m; omega
    have e1 : zWork op s a n h [t,u] = if ([t,u].getD 1 ([],[])).1 = ([t,u].getD 0 ([],[])).1 then (0,([t,u].getD 0 ([],[])).1,zTwo op ([t,u].getD 0 ([],[])).2 ([t,u].getD 1 ([],[])).2) else (13,[],[]) := by
      unfold zWork
      rw [if_neg (by omega),if_neg (by omega),if_neg (by omega),if_neg (by omega),if_neg (by omega),if_neg (by omega),if_neg (by omega),if_neg (by omega),if_neg (by omega),if_neg (by omega),if_neg (by omega),if_neg (by omega)]
    have e2 : ∀ l,zShape op s a h l = if l.all (fun t => decide (t = l.getD 0 [])) = true then (0,l.getD 0 []) else (13,[]) := fun l => by
      unfold zShape
      rw [if_neg (by omega),if_neg (by omega),if_neg (by omega),if_neg (by omega),if_neg (by omega),if_neg (by omega),if_neg (by omega),if_neg (by omega),if_neg (by omega),if_neg (by omega)]
    rw [e1,e2,ite3]
    simp [shp]
  · obtain ⟨t,u,v,rfl⟩ : ∃ t u v,l = [t,u,v] := by
      rcases l with _ | ⟨t,_ | ⟨u,_ | ⟨v,_ | ⟨_,_⟩⟩⟩⟩
      · simp at m
      · simp at m
      · simp at m
      · exact ⟨t,u,v,rfl⟩
      · simp at m; omega
    simp only [zWork,zShape,Int.reduceEq,reduceIte,or_self,ite3]
    simp [shp]
  · simp only [zWork,zShape,Int.reduceEq,reduceIte,or_self,ite3,g0 (by omega)]; rfl
  · simp only [zWork,zShape,Int.reduceEq,reduceIte,or_self,ite3,g0 (by omega)]; rfl
  · simp only [zWork,zShape,Int.reduceEq,reduceIte,or_self,ite3,g0 (by omega)]; rfl
  · simp only [zWork,zShape,Int.reduceEq,reduceIte,or_self,ite3,g0 (by omega)]; rfl
  · simp only [zWork,zShape,Int.reduceEq,reduceIte,or_self,ite3]
    have : shp (zJoin (a.getD 0 0) l) = zJs (a.getD 0 0) (l.map (·.1)) := by
      unfold zJoin
      rw [if_pos (List.all_eq_true.2 hT)]
      by_cases c : (zJs (a.getD 0 0) (l.map (·.1))).1 = 0
      · rw [if_pos c]
        exact Prod.ext c.symm rfl
      · rw [if_neg c]
        show (if (zJs (a.getD 0 0) (l.map (·.1))).1 = 0 then _ else _) = _
        rw [if_neg c]
        unfold zJs at c ⊢
        split
        · rfl
        · rename_i c2
          rw [if_neg c2] at c
          split
          · rename_i o ho
            rw [ho] at c
            split
            · rename_i c3
              dsimp only at c
              rw [if_pos c3] at c; exact absurd rfl c
            · rfl
          · rfl
    rw [this]; rfl
  · simp only [zWork,zShape,Int.reduceEq,reduceIte,or_self,ite3,g0 (by omega)]; rfl
  · simp only [zWork,zShape,Int.reduceEq,reduceIte,or_self,ite3,g0 (by omega),g1 (by omega)]
    have : ∀ x : Int × List Int,(x.1 ≠ 0 → x.2 = []) → ∀ d : List Int,(if x.1 = 0 then shp (0,x.2,d) else shp (x.1,[],[])) = x := fun x hx d => by
      by_cases c : x.1 = 0
      · rw [if_pos c]; show (0,x.2) = x; rw [← c]
      · rw [if_neg c]
        show (if x.1 = 0 then _ else _) = x
        rw [if_neg c,← hx c]
    rw [this _ (fun c => by
      unfold zDS at c ⊢
      split
      · rfl
      · rename_i c1
        rw [if_neg c1] at c
        split
        · rename_i c2
          rw [if_pos c2] at c
          split
          · rename_i c3; rw [if_pos c3] at c; exact absurd rfl c
          · rfl
        · rfl)]; rfl
  · simp only [zWork,zShape,Int.reduceEq,reduceIte,or_self,ite3,g0 (by omega)]; rfl
def zSh (op : Int) (s a : List Int) (n h : Int) (l : List (List Int)) : Int × List Int :=
 if zF op s.length a.length n h l.length = true then (if l.all mSR = true then zShape op s a h l else (13,[])) else (1,[])
theorem ref10_Shape_f (op : Int) (i s a : List Int) (n h : Int) (nt : ByteArray) (l : List (List Int)) (hl : l.length ≤ 400) (ha : a.length ≤ 17592186043904) (k : Nat) (hk : a.length + 20000 ≤ k) :
  ref10_Shape.f k op i s a n h nt l = some (zSh op s a n h l) := by
 unfold ref10_Shape.f zSh
 rw [ref10_form_f,Option.bind_some]
 by_cases hF : zF op s.length a.length n h l.length = true
 rotate_left
 ·rw [if_neg hF,if_neg hF]
 rw [if_pos hF,if_pos hF,ref10_Shape_l0 k (by omega) l (by omega),Option.bind_some]
 by_cases hA : l.all mSR = true
 rotate_left
 ·rw [if_neg hA,if_neg hA]; rfl
 rw [if_pos hA,if_pos hA,Sum.elim_inl]
 by_cases h1 : op = 1
 ·subst h1
  rw [if_pos rfl,ref1_Right_f _ k (by omega),Option.bind_some]
  simp only [zShape,Int.reduceEq,reduceIte,true_or]
  by_cases c : mSR s = true
  ·have hb := mSR_spec c
   rw [if_pos c,if_pos c,if_pos (by omega),List.nil_append]
  ·rw [if_neg c,if_neg c]
 ·have hT : ∀ t ∈ l.map nou,zT t.1 t.2 = true := List.all_eq_true.1 (nou_all hA)
  have hF' : zF op s.length a.length n h ((l.map nou).length) = true := by rw [List.length_map]; exact hF
  have hs := zWork_shp (n := n) hT h1 hF'
  rw [nou_fst] at hs
  rw [if_neg h1,ref10_work_f op i s a n h nt (l.map nou) hT (by rw [List.length_map]; exact hl) h1 hF' ha k hk,Option.bind_some,← hs]
  unfold shp
  by_cases c : (zWork op s a n h (l.map nou)).1 = 0
  ·rw [if_pos c,if_pos c]
  ·rw [if_neg c,if_neg c]
end Go.Pf

namespace Go.Pf
open Go Go.Vm
theorem axes_Rising_f (a : List Int) (m : Int) (ha : a.length ≤ 17592186043904) (k : Nat) (hk : a.length < k) : axes_Rising.f k a m = some (zRi m (-1) a) := by
 have := iter0 (L := fun n i l => axes_Rising.l0 n m l a a.length i) (st := fun i => if i = 0 then -1 else a.getD (i - 1) 0) (fun i => if zRi m (if i = 0 then -1 else a.getD (i - 1) 0) (a.drop i) = true then .inl () else .inr false) (m := a.length) 0
  (fun n _ => by rw [axes_Rising.l0,if_neg (by omega),List.drop_eq_nil_of_le (Nat.le_refl _)]; rfl)
  (fun i n hi _ ih => by
   rw [if_neg (show ¬ i + 1 = 0 by omega),Nat.add_sub_cancel] at ih
   generalize (if i = 0 then (-1 : Int) else a.getD (i - 1) 0) = l
   rw [axes_Rising.l0,if_pos (by omega),if_pos (by omega),Int.toNat_natCast,drop_getD hi (0 : Int)]
   generalize a.getD i 0 = b at ih ⊢
   by_cases c1 : b ≤ l
   ·rw [if_pos c1,if_neg (by rw [zRi_cons]; omega)]
   by_cases c2 : m ≤ b
   ·rw [if_neg c1,if_pos c2,if_neg (by rw [zRi_cons]; omega)]
   rw [if_neg c1,if_neg c2,i64_succ hi (by omega),ih]
   by_cases c : zRi m b (a.drop (i + 1)) = true
   ·rw [if_pos c,if_pos (zRi_cons.2 ⟨by omega,c⟩)]
   ·rw [if_neg c,if_neg (fun hh => c (zRi_cons.1 hh).2)]) k (by omega)
 unfold axes_Rising.f
 have this : axes_Rising.l0 k m (-1) a a.length 0 = some (if zRi m (-1) (a.drop 0) = true then .inl () else .inr false) := this
 rw [this,List.drop_zero,Option.bind_some]
 cases zRi m (-1) a <;> rfl
theorem shape_Same_f (a b : List Int) (ha : a.length ≤ 17592186043904) (k : Nat) (hk : a.length < k) : shape_Same.f k a b = some (decide (a = b)) := by
 unfold shape_Same.f
 rw [slices_Equal_int_f a b ha k hk,Option.bind_some]
theorem Grow_f {n : Int} (h0 : 0 ≤ n) (h : n ≤ 1000000) : slices_Grow_int.f n = some [] := by
 unfold slices_Grow_int.f
 rw [if_neg (by omega),show (IntKind.i64.wrap (0 - 0) : Int) = 0 by decide,Int.sub_zero,i64_id (by omega) (by omega)]
 by_cases c : 0 < n
 ·rw [if_pos c,if_pos (by decide),if_pos (by omega),if_pos (by omega),List.take_zero]
 ·rw [if_neg c]
theorem Concat_f {a b : List Int} (ha : a.length ≤ 1000) (hb : b.length ≤ 1000) (k : Nat) (hk : 10 ≤ k) : slices_Concat_int.f k [a,b] = some (a ++ b) := by
 obtain ⟨n,rfl⟩ : ∃ m,k = m + 3 := ⟨k - 3,by omega⟩
 have l0 : slices_Concat_int.l0 (n + 3) [a,b] 0 [a,b] 2 0 = some ((a.length : Int) + (b.length : Int)) := by
  rw [slices_Concat_int.l0,if_pos (by decide),if_pos ⟨by decide,by show (0 : Int) < 2; decide⟩,show ([a,b].getD (0 : Int).toNat []) = a from rfl,Int.zero_add,i64_id (n := (a.length : Int)) (by omega) (by omega),if_neg (by omega),
   show (IntKind.i64.wrap (0 + 1) : Int) = 1 by decide,slices_Concat_int.l0,if_pos (by decide),if_pos ⟨by decide,by show (1 : Int) < 2; decide⟩,show ([a,b].getD (1 : Int).toNat []) = b from rfl,i64_id (n := (a.length : Int) + (b.length : Int)) (by omega) (by omega),if_neg (by omega),
   show (IntKind.i64.wrap (1 + 1) : Int) = 2 by decide,slices_Concat_int.l0,if_neg (by decide)]
 have l1 : slices_Concat_int.l1 (n + 3) [a,b] 2 0 [] = some (a ++ b) := by
  rw [slices_Concat_int.l1,if_pos (by decide),if_pos ⟨by decide,by show (0 : Int) < 2; decide⟩,show ([a,b].getD (0 : Int).toNat []) = a from rfl,if_pos (by rw [List.length_nil]; omega),
   show (IntKind.i64.wrap (0 + 1) : Int) = 1 by decide,slices_Concat_int.l1,if_pos (by decide),if_pos ⟨by decide,by show (1 : Int) < 2; decide⟩,show ([a,b].getD (1 : Int).toNat []) = b from rfl,List.nil_append,if_pos (by omega),
   show (IntKind.i64.wrap (1 + 1) : Int) = 2 by decide,slices_Concat_int.l1,if_neg (by decide)]
 unfold slices_Concat_int.f
 rw [show (([a,b] : List (List Int)).length : Int) = 2 from rfl,l0,Option.bind_some,Grow_f (by omega) (by omega),Option.bind_some,l1,Option.bind_some]
theorem dot_Shape_f (a b : List Int) (n : Int) (k : Nat) (hk : 5000 ≤ k) : dot_Shape.f k a b n = some (zDS a b n) := by
 unfold dot_Shape.f zDS
 by_cases c1 : n < 0
 ·rw [if_pos c1,if_pos (.inl c1)]
 by_cases c2 : (a.length : Int) ≤ n
 ·rw [if_neg c1,if_pos c2,if_pos (.inr (.inl c2))]
 by_cases c3 : (b.length : Int) ≤ n
 ·rw [if_neg c1,if_neg c2,if_pos c3,if_pos (.inr (.inr c3))]
 rw [if_neg c1,if_neg c2,if_neg c3,if_neg (show ¬ (n < 0 ∨ (a.length : Int) ≤ n ∨ (b.length : Int) ≤ n) by omega),shape_Right_f a k (by omega),Option.bind_some]
 by_cases ra : mSR a = true
 rotate_left
 ·rw [if_neg ra,if_neg (fun h => ra h.1)]
 rw [if_pos ra,shape_Right_f b k (by omega),Option.bind_some]
 by_cases rb : mSR b = true
 rotate_left
 ·rw [if_neg rb,if_neg (fun h => rb h.2.1)]
 have ha := mSR_spec ra
 have hb := mSR_spec rb
 rw [if_pos rb,if_pos (by omega),if_pos (by omega),List.drop_zero,List.drop_zero,shape_Same_f _ _ (by rw [List.length_take]; omega) k (by rw [List.length_take]; omega),Option.bind_some]
 by_cases c4 : a.take n.toNat = b.take n.toNat
 rotate_left
 ·rw [decide_eq_false c4,if_neg (by decide),if_neg (fun h => c4 h.2.2.1)]
 rw [decide_eq_true c4,if_pos rfl,i64_id (n := (a.length : Int) - 1) (by omega) (by omega),if_pos (by omega),if_pos (by omega),show ((a.length : Int) - 1).toNat = a.length - 1 by omega]
 by_cases c5 : a.getD (a.length - 1) 0 = b.getD n.toNat 0
 rotate_left
 ·rw [if_neg c5,if_neg (fun h => c5 h.2.2.2)]
 rw [if_pos c5,if_pos (by omega),List.drop_zero,i64_id (n := n + 1) (by omega) (by omega),if_pos (by omega),List.take_length,show (n + 1).toNat = n.toNat + 1 by omega,Concat_f (by rw [List.length_take]; omega) (by rw [List.length_drop]; omega) k (by omega),Option.bind_some,if_pos ⟨ra,rb,c4,c5⟩]
 show (shape_Right.f k (dsh a b n.toNat)).bind _ = _
 rw [shape_Right_f _ k (by omega),Option.bind_some]
 by_cases c6 : mSR (dsh a b n.toNat) = true
 ·rw [if_pos c6,if_pos c6]; rfl
 ·rw [if_neg c6,if_neg c6]
theorem zRi_lt {m : Int} : ∀ {l : Int} {a : List Int},zRi m l a = true → ∀ k ∈ a,l < k
 | _,[],_,_,h => by cases h
 | l,b :: a,h,k,hk => by
  obtain ⟨h1,h2⟩ := zRi_cons.1 h
  rcases List.mem_cons.1 hk with e | hk
  ·omega
  ·have := zRi_lt h2 k hk; omega
theorem fold_Left_l0 (s : List Int) (hs : s.length ≤ 1000) (a0 : List Int) : ∀ (e i : Nat) (a y : List Int) (l : Int) (n : Nat),s.length = i + e → e < n → y.length ≤ i → zRi s.length l a = true → l < i → (∀ x ∈ a,(i : Int) ≤ x) → (∀ j : Nat,i ≤ j → ((j : Int) ∈ a0 ↔ (j : Int) ∈ a)) →
    fold_Left.l0 n a s s.length i y = some (y ++ lefI a0 i (s.drop i))
  | 0,i,a,y,l,n,hi,hn,_,_,_,_,_ => by
    obtain ⟨n,rfl⟩ : ∃ m,n = m + 1 := ⟨n - 1,by omega⟩
    rw [fold_Left.l0,if_neg (by omega),List.drop_eq_nil_of_le (by omega),lefI,List.append_nil]
  | e + 1,i,a,y,l,n,hi,hn,hy,hr,hl,hm,ha => by
    obtain ⟨n,rfl⟩ : ∃ m,n = m + 1 := ⟨n - 1,by omega⟩
    rw [fold_Left.l0,if_pos (by omega),if_pos (by omega),Int.toNat_natCast,i64_succ (show i < s.length by omega) (by omega),drop_getD (show i < s.length by omega) (0 : Int),lefI]
    have keep : ((i : Int) ∉ a) → fold_Left.l0 n a s s.length ((i + 1 : Nat) : Int) (y ++ [s.getD i 0]) = some (y ++ (if (i : Int) ∈ a0 then lefI a0 (i + 1) (s.drop (i + 1)) else s.getD i 0 :: lefI a0 (i + 1) (s.drop (i + 1)))) := fun hna => by
      rw [fold_Left_l0 s hs a0 e (i + 1) a (y ++ [s.getD i 0]) l n (by omega) (by omega) (by simp; omega) hr (by omega) (fun x hx => by
        have := hm x hx
        have : x ≠ (i : Int) := fun h => hna (h ▸ hx)
        omega) (fun j hj => ha j (by omega)),if_neg (fun h => hna ((ha i (Nat.le_refl _)).1 h)),List.append_assoc]; rfl
    have hb : y.length + [s.getD i 0].length ≤ 281474976710656 ∧ (y.length + [s.getD i 0].length) * 8 ≤ 140737488355328 := by rw [List.length_singleton]; omega
    cases a with
    | nil =>
      rw [if_neg (by simp),if_pos hb]
      exact keep (by simp)
    | cons b r =>
      rw [if_pos (by simp),if_pos ⟨by decide,by simp⟩]
      show (if b = (i : Int) then _ else _) = _
      obtain ⟨h1,h2⟩ := zRi_cons.1 hr
      have hbi := hm b (List.mem_cons_self ..)
      by_cases c : b = (i : Int)
      · rw [if_pos c,if_pos ⟨by decide,by simp; omega,by omega⟩,List.take_length,List.drop_one]
        show fold_Left.l0 n r s s.length ((i + 1 : Nat) : Int) y = _
        rw [fold_Left_l0 s hs a0 e (i + 1) r y b n (by omega) (by omega) (by omega) h2 (by omega) (fun x hx => by
          have := zRi_lt h2 x hx
          omega) (fun j hj => by
            rw [ha j (by omega),List.mem_cons]
            constructor
            · rintro (h | h)
              · omega
              · exact h
            · exact .inr),if_pos ((ha i (Nat.le_refl _)).2 (by rw [c]; exact List.mem_cons_self ..))]
      · rw [if_neg c,if_pos hb]
        exact keep (fun h => by
          rcases List.mem_cons.1 h with h | h
          · exact c h.symm
          · have := zRi_lt h2 _ h; omega)
theorem fold_Left_f (s a : List Int) (hs : s.length ≤ 1000) (ha : a.length ≤ 17592186043904) (k : Nat) (hk : a.length + 1001 ≤ k) : fold_Left.f k s a = some (if zRi s.length (-1) a = true then (0,lef a s) else (1,[])) := by
 unfold fold_Left.f
 rw [axes_Rising_f a _ ha k (by omega),Option.bind_some]
 by_cases c : zRi s.length (-1) a = true
 ·have := fold_Left_l0 s hs a s.length 0 a [] (-1) k (by omega) (by omega) (by simp) c (by omega) (fun x hx => by have := zRi_lt c x hx; omega) (fun _ _ => Iff.rfl)
  rw [n0,List.drop_zero,List.nil_append] at this
  rw [if_pos c,if_pos c,this,Option.bind_some]; rfl
 ·rw [if_neg c,if_neg c]
theorem fold_Right_f (h : Int) : fold_Right.f h = some (decide (1 ≤ h ∧ h ≤ 4)) := by
 unfold fold_Right.f
 by_cases c : 1 ≤ h
 ·rw [if_pos c]; simp [c]
 ·rw [if_neg c]; simp [c]
theorem window_May_f (h w a : Int) : window_May.f h w a = some (decide ((1 ≤ h ∧ h ≤ 4) ∧ (1 ≤ w ∧ w ≤ 32) ∧ 1 ≤ a ∧ a ≤ 32)) := by
 have m : ∀ x,window_May_1.f x = some (decide (1 ≤ x ∧ x ≤ 32)) := fun x => by
  unfold window_May_1.f
  by_cases c : 1 ≤ x
  ·rw [if_pos c]; simp [c]
  ·rw [if_neg c]; simp [c]
 unfold window_May.f
 rw [fold_Right_f,Option.bind_some,m,m]
 by_cases c1 : 1 ≤ h ∧ h ≤ 4
 rotate_left
 ·rw [decide_eq_false c1,if_neg (by decide),decide_eq_false (fun h => c1 h.1)]
 rw [decide_eq_true c1,if_pos rfl,Option.bind_some]
 by_cases c2 : 1 ≤ w ∧ w ≤ 32
 rotate_left
 ·rw [decide_eq_false c2,if_neg (by decide),decide_eq_false (fun h => c2 h.2.1)]
 rw [decide_eq_true c2,if_pos rfl,Option.bind_some]
 simp [c1,c2]
theorem window_Out_f {n w ap : Int} (hn : n ≤ 1000) (hn0 : 0 ≤ n) (hw : w ≤ 1000) (hw0 : 0 ≤ w) : window_Out.f n w ap = some (zWn n w ap) := by
 unfold window_Out.f zWn
 by_cases c1 : n < 0
 ·omega
 by_cases c2 : w < 1
 ·rw [if_neg c1,if_pos c2,if_pos (.inr (.inl c2))]
 by_cases c3 : ap < 1
 ·rw [if_neg c1,if_neg c2,if_pos c3,if_pos (.inr (.inr (.inl c3)))]
 by_cases c4 : n < w
 ·rw [if_neg c1,if_neg c2,if_neg c3,if_pos c4,if_pos (.inr (.inr (.inr c4)))]
 have h1 : 0 ≤ (n - w) / ap := Int.ediv_nonneg (by omega) (by omega)
 have h2 : (n - w) / ap ≤ n - w := Int.ediv_le_self _ (by omega)
 rw [if_neg c1,if_neg c2,if_neg c3,if_neg c4,if_pos (by omega),if_neg (by omega),i64_id (n := n - w) (by omega) (by omega),Int.tdiv_eq_ediv_of_nonneg (by omega),i64_id (n := (n - w) / ap) (by omega) (by omega),i64_id (n := (n - w) / ap + 1) (by omega) (by omega)]
theorem graph_alike_f (k : Nat) (l : List (List Int)) (h0 : 0 < l.length) (hl : l.length ≤ 1000) (hb : ∀ s ∈ l,s.length ≤ 1000) (hk : 5000 ≤ k) :
  graph_alike.f k l = some (if l.all (fun t => decide (t = l.getD 0 [])) = true then (l.getD 0 [],0) else ([],13)) := by
 have := iter0 (L := fun n i (_ : Unit) => slices_IndexFunc_int_int__graph_alike_1.l0 k n l l.length i l) (st := fun _=>()) (fun i => if (l.drop i).all (fun t => decide (t = l.getD 0 [])) = true then .inl () else .inr ((i + ((l.drop i).takeWhile (fun t => decide (t = l.getD 0 []))).length : Nat) : Int)) (m := l.length) 0
  (fun n _ => by rw [slices_IndexFunc_int_int__graph_alike_1.l0,if_neg (by omega),List.drop_eq_nil_of_le (Nat.le_refl _)]; rfl)
  (fun i n hi _ ih => by
   have hm := hb _ (getD_mem hi ([] : List Int))
   rw [slices_IndexFunc_int_int__graph_alike_1.l0,if_pos (by omega),if_pos (by omega),Int.toNat_natCast,graph_alike_1.f,if_pos (by omega),shape_Same_f _ _ (by omega) k (by omega),Option.bind_some,Option.bind_some,drop_getD hi ([] : List Int),List.all_cons,List.takeWhile_cons]
   by_cases c : l.getD i [] = l.getD 0 []
   ·rw [decide_eq_true c,if_neg (show ¬ (!true) = true from Bool.false_ne_true),i64_succ hi (by omega),ih,Bool.true_and,if_pos rfl,List.length_cons,Nat.add_assoc i 1,Nat.add_comm 1]
   ·rw [decide_eq_false c,if_pos (show (!false) = true from rfl),Bool.false_and,if_neg Bool.false_ne_true,if_neg Bool.false_ne_true]; rfl) k (by omega)
 rw [List.drop_zero] at this
 unfold graph_alike.f slices_ContainsFunc_int_int__graph_alike_1.f slices_IndexFunc_int_int__graph_alike_1.f
 rw [this,Option.bind_some]
 by_cases c : l.all (fun t => decide (t = l.getD 0 [])) = true
 ·rw [if_pos c,if_pos c,Sum.elim_inl,Option.bind_some,Option.bind_some,if_neg (by decide),if_pos (by omega)]
 ·rw [if_neg c,if_neg c,Sum.elim_inr,Option.bind_some,Option.bind_some,if_pos (by rw [decide_eq_true_eq]; omega)]
theorem graph_contains_f (k : Nat) (l : List (List Int)) (hl : l.length ≤ 1000) (hk : 5000 ≤ k) : slices_ContainsFunc_int_int__graph_Shape_1.f k l = some (!l.all mSR) := by
 have := iter0 (L := fun n i (_ : Unit) => slices_IndexFunc_int_int__graph_Shape_1.l0 k n l l.length i) (st := fun _=>()) (fun i => if (l.drop i).all mSR = true then .inl () else .inr ((i + ((l.drop i).takeWhile mSR).length : Nat) : Int)) (m := l.length) 0
  (fun n _ => by rw [slices_IndexFunc_int_int__graph_Shape_1.l0,if_neg (by omega),List.drop_eq_nil_of_le (Nat.le_refl _)]; rfl)
  (fun i n hi _ ih => by
   rw [slices_IndexFunc_int_int__graph_Shape_1.l0,if_pos (by omega),if_pos (by omega),Int.toNat_natCast,graph_Shape_1.f,shape_Right_f _ k (by omega),Option.bind_some,Option.bind_some,drop_getD hi ([] : List Int),List.all_cons,List.takeWhile_cons]
   cases c : mSR (l.getD i [])
   ·rw [if_pos (show (!false) = true from rfl),Bool.false_and,if_neg Bool.false_ne_true,if_neg Bool.false_ne_true]; rfl
   ·rw [if_neg (show ¬ (!true) = true from Bool.false_ne_true),i64_succ hi (by omega),ih,Bool.true_and,if_pos rfl,List.length_cons,Nat.add_assoc i 1,Nat.add_comm 1]) k (by omega)
 rw [List.drop_zero] at this
 unfold slices_ContainsFunc_int_int__graph_Shape_1.f slices_IndexFunc_int_int__graph_Shape_1.f
 rw [this,Option.bind_some]
 cases c : l.all mSR
 ·rw [if_neg (by decide),Sum.elim_inr,Option.bind_some,decide_eq_true (by omega)]; rfl
 ·rw [if_pos rfl,Sum.elim_inl,Option.bind_some]; rfl
end Go.Pf

namespace Go.Pf
open Go Go.Vm
theorem sizes_small {l : List (List Int)} (h : l.all mSR = true) : ∀ s ∈ l,s.length ≤ 4 ∧ ∀ x ∈ s,0 ≤ x ∧ x ≤ 32 := fun s hs => by
 have := mSR_spec (List.all_eq_true.1 h s hs)
 exact ⟨this.1,this.2.1⟩
set_option maxHeartbeats 1000000 in
theorem graph_shapeOf_f (op : Int) (i s a : List Int) (n h : Int) (nt : ByteArray) (l : List (List Int)) (hl : l.length ≤ 400) (hA : l.all mSR = true) (hF : zF op s.length a.length n h l.length = true) (ha : a.length ≤ 17592186043904) (k : Nat) (hk : a.length + 20000 ≤ k) :
    ∃ x,graph_shapeOf.f k op i s a n h nt l = some (x,(zShape op s a h l).1) ∧ ((zShape op s a h l).1 = 0 → x = (zShape op s a h l).2 ∧ x.length ≤ 1000) := by
  have hR : ∀ j,j < l.length → mSR (l.getD j []) = true := fun j hj => List.all_eq_true.1 hA _ (getD_mem hj _)
  have fin : ∀ {o : Option (List Int × Int)} {z : Int × List Int},o = some (z.2,z.1) → (z.1 = 0 → z.2.length ≤ 1000) → ∃ x,o = some (x,z.1) ∧ (z.1 = 0 → x = z.2 ∧ x.length ≤ 1000) := fun {o z} e hz => ⟨z.2,e,fun h => ⟨rfl,hz h⟩⟩
  have len4 : ∀ {x : List Int},mSR x = true → x.length ≤ 1000 := fun h => by have := (mSR_spec h).1; omega
  have given : ∀ op,op = 1 ∨ op = 2 ∨ op = 3 → graph_given.f k op i s a n h nt = some ((zShape op s a h l).2,(zShape op s a h l).1) ∧ ((zShape op s a h l).1 = 0 → (zShape op s a h l).2.length ≤ 1000) := fun op ho => by
    unfold graph_given.f
    rw [shape_Right_f _ k (by omega),Option.bind_some]
    by_cases c : mSR s = true
    · have h4 := (mSR_spec c).1
      rw [if_pos c]
      by_cases c3 : op = 3
      · subst c3
        simp only [zShape,Int.reduceEq,reduceIte,or_self,if_pos c]
        by_cases c1 : a.length = 1
        · rw [if_pos (by omega),if_pos (by omega)]
          by_cases c2 : a.getD 0 0 < 0
          · rw [if_pos c2,if_neg (by omega)]; exact ⟨rfl,fun h => by simp at h⟩
          by_cases c3 : (s.length : Int) ≤ a.getD 0 0
          · rw [if_neg c2,if_pos c3,if_neg (by omega)]; exact ⟨rfl,fun h => by simp at h⟩
          rw [if_neg c2,if_neg c3,if_pos (by omega)]; exact ⟨rfl,fun _=>by show s.length ≤ 1000; omega⟩
        · rw [if_neg (by omega),if_neg (by omega)]; exact ⟨rfl,fun h => by simp at h⟩
      · have e : zShape op s a h l = (0,s) := by
          unfold zShape
          rw [if_pos (by omega),if_pos c]
        rw [if_neg c3,e]; exact ⟨rfl,fun _=>by show s.length ≤ 1000; omega⟩
    · have e : zShape op s a h l = (13,[]) := by
        unfold zShape
        by_cases c3 : op = 3
        · rw [if_neg (by omega),if_pos c3,if_neg c]
        · rw [if_pos (by omega),if_neg c]
      rw [if_neg c,e]; exact ⟨rfl,fun h => by simp at h⟩
  have alike : ∀ op,4 ≤ op ∧ op ≤ 12 → 0 < l.length → ∃ x,graph_shapeOf.f k op i s a n h nt l = some (x,(zShape op s a h l).1) ∧ ((zShape op s a h l).1 = 0 → x = (zShape op s a h l).2 ∧ x.length ≤ 1000) := fun op ho h0 => by
    have h4 := (mSR_spec (hR 0 h0)).1
    have e2 : zShape op s a h l = if l.all (fun t => decide (t = l.getD 0 [])) = true then (0,l.getD 0 []) else (13,[]) := by
      unfold zShape
      rw [if_neg (by omega),if_neg (by omega),if_neg (by omega),if_neg (by omega),if_neg (by omega),if_neg (by omega),if_neg (by omega),if_neg (by omega),if_neg (by omega),if_neg (by omega)]
    rw [e2]
    unfold graph_shapeOf.f
    rw [if_neg (by omega),if_neg (by omega),if_neg (by omega),if_neg (by omega),if_neg (by omega),if_neg (by omega),if_neg (by omega),if_neg (by omega),if_neg (by omega),if_neg (by omega),if_neg (by omega),
      graph_alike_f k l h0 (by omega) (fun s hs => by have := (sizes_small hA s hs).1; omega) (by omega),Option.bind_some]
    split
    · exact ⟨l.getD 0 [],rfl,fun _=>⟨rfl,by omega⟩⟩
    · exact ⟨_,rfl,fun h => by simp at h⟩
  rcases zF_len hF with ⟨rfl,m⟩ | ⟨rfl,m⟩ | ⟨rfl,m⟩ | ⟨rfl | rfl,m⟩ | ⟨c,m⟩ | ⟨rfl,m⟩ | ⟨rfl,m⟩ | ⟨rfl,m⟩ | ⟨rfl,m⟩ | ⟨rfl,m⟩ | ⟨rfl,m⟩ | ⟨rfl,m⟩ | ⟨rfl,m⟩ | ⟨rfl,m⟩
  · obtain ⟨g1,g2⟩ := given 1 (by omega)
    refine fin ?_ g2
    unfold graph_shapeOf.f
    rw [if_pos rfl,g1,Option.bind_some]
  · obtain ⟨g1,g2⟩ := given 2 (by omega)
    refine fin ?_ g2
    unfold graph_shapeOf.f
    rw [if_neg (by decide),if_pos rfl,g1,Option.bind_some]
  · obtain ⟨g1,g2⟩ := given 3 (by omega)
    refine fin ?_ g2
    unfold graph_shapeOf.f
    rw [if_neg (by decide),if_neg (by decide),if_pos rfl,g1,Option.bind_some]
  · exact alike 4 (by omega) (by omega)
  · exact alike 5 (by omega) (by omega)
  · exact alike op (by omega) (by omega)
  · exact alike 12 (by omega) (by omega)
  · -- turn
    have hr := hR 0 (by omega)
    have h4 := (mSR_spec hr).1
    simp only [graph_shapeOf.f,zShape,Int.reduceEq,reduceIte,or_self]
    rw [if_pos (by omega),axes_Turned_f h4 a k (by omega),Option.bind_some]
    refine fin rfl fun _=>?_
    split
    · rename_i hp
      show (List.map _ a).length ≤ 1000
      have := (isPerm_iff.1 hp).len
      rw [List.length_map]; omega
    · rename_i hp
      exact Nat.zero_le _
  · -- spread
    have hr := hR 0 (by omega)
    have h4 := (mSR_spec hr).1
    simp only [graph_shapeOf.f,zShape,Int.reduceEq,reduceIte,or_self]
    rw [if_pos (by omega),axes_Wider_f h4 s a k (by omega),Option.bind_some]
    by_cases c : mSR s = true
    · rw [if_pos c,if_pos c]
      by_cases c2 : zWi s (-1) (l.getD 0 []) a = true
      · rw [if_pos c2,if_pos c2]; exact ⟨s,rfl,fun _=>⟨rfl,len4 c⟩⟩
      · rw [if_neg c2,if_neg c2]; exact ⟨s,rfl,fun h => by simp at h⟩
    · rw [if_neg c,if_neg c]; exact ⟨s,rfl,fun h => by simp at h⟩
  · -- slice
    have hr := hR 0 (by omega)
    have h4 := (mSR_spec hr).1
    simp only [graph_shapeOf.f,graph_cut.f,zShape,Int.reduceEq,reduceIte,or_self]
    rw [if_pos (by omega),i64_id (n := 2 * ((l.getD 0 []).length : Int)) (by omega) (by omega)]
    by_cases c : a.length = 2 * (l.getD 0 []).length
    · rw [if_pos (by omega),if_pos (by omega),if_pos (by omega),Int.toNat_natCast,List.drop_zero,List.take_length,axes_Sliced_f hr _ _ k (by omega),Option.bind_some,Option.bind_some]
      refine ⟨a.drop (l.getD 0 []).length,?_,fun hz => ?_⟩
      · by_cases c2 : zSl (l.getD 0 []) (a.take (l.getD 0 []).length) (a.drop (l.getD 0 []).length) = true
        · rw [if_pos c2,if_pos ⟨c,c2⟩]
        · rw [if_neg c2,if_neg (fun hh => c2 hh.2)]
      · by_cases c2 : zSl (l.getD 0 []) (a.take (l.getD 0 []).length) (a.drop (l.getD 0 []).length) = true
        · rw [if_pos ⟨c,c2⟩]; exact ⟨rfl,by rw [List.length_drop]; omega⟩
        · rw [if_neg (fun hh => c2 hh.2)] at hz; simp at hz
    · rw [if_neg (by omega),if_neg (fun hh => c hh.1)]
      exact ⟨[],rfl,fun h => by simp at h⟩
  · -- pad
    have hr := hR 0 (by omega)
    have h4 := (mSR_spec hr).1
    simp only [graph_shapeOf.f,graph_cut.f,zShape,Int.reduceEq,reduceIte,or_self]
    rw [if_pos (by omega),i64_id (n := 2 * ((l.getD 0 []).length : Int)) (by omega) (by omega)]
    by_cases c : a.length = 2 * (l.getD 0 []).length
    · rw [if_pos (by omega),if_pos (by omega),if_pos (by omega),Int.toNat_natCast,List.drop_zero,List.take_length,axes_Padded_f hr _ _ k (by omega),Option.bind_some,Option.bind_some]
      by_cases c2 : zMay (l.getD 0 []) (a.take (l.getD 0 []).length) (a.drop (l.getD 0 []).length) = true
      · have cc := And.intro c c2
        rw [if_pos c2,if_pos cc]
        refine fin rfl fun hz => ?_
        split at hz
        · rename_i c3
          rw [if_pos c3]; exact len4 c3
        · simp at hz
      · rw [if_neg c2,if_neg (fun hh => c2 hh.2)]
        exact ⟨[],rfl,fun h => by simp at h⟩
    · rw [if_neg (by omega),if_neg (fun hh => c hh.1)]
      exact ⟨[],rfl,fun h => by simp at h⟩
  · -- join
    simp only [graph_shapeOf.f,zShape,Int.reduceEq,reduceIte,or_self]
    by_cases c : a.length = 1
    · rw [if_pos (by omega),if_pos (by omega),axes_Joined_f _ l (sizes_small hA) (by omega) k (by omega),Option.bind_some,if_pos c]
      exact fin rfl fun hz => len4 (zJs_R hz)
    · rw [if_neg (by omega),if_neg c]
      exact ⟨[],rfl,fun h => by simp at h⟩
  · -- fold
    have hr := hR 0 (by omega)
    have h4 := (mSR_spec hr).1
    simp only [graph_shapeOf.f,graph_folded.f,zShape,Int.reduceEq,reduceIte,or_self]
    rw [if_pos (by omega),fold_Right_f,Option.bind_some]
    by_cases c : 1 ≤ h ∧ h ≤ 4
    · rw [decide_eq_true c,if_pos rfl,if_pos c,fold_Left_f _ _ (by omega) ha k (by omega),Option.bind_some]
      by_cases c2 : zRi (l.getD 0 []).length (-1) a = true
      · rw [if_pos c2,if_pos c2,if_pos rfl,shape_Right_f _ k (by omega),Option.bind_some]
        by_cases c3 : mSR (lef a (l.getD 0 [])) = true
        · rw [if_pos c3,if_pos c3,Option.bind_some]; exact fin rfl fun _=>len4 c3
        · rw [if_neg c3,if_neg c3,Option.bind_some]; exact ⟨_,rfl,fun h => by simp at h⟩
      · rw [if_neg c2,if_neg c2,if_neg (by decide),Option.bind_some]; exact ⟨_,rfl,fun h => by simp at h⟩
    · rw [decide_eq_false c,if_neg (by decide),if_neg c,Option.bind_some]; exact ⟨_,rfl,fun h => by simp at h⟩
  · -- dot
    simp only [graph_shapeOf.f,zShape,Int.reduceEq,reduceIte,or_self]
    by_cases c : a.length = 1
    · rw [if_pos (by omega),if_pos (by omega),if_pos (by omega),if_pos (by omega),dot_Shape_f _ _ _ k (by omega),Option.bind_some,if_pos c]
      exact fin rfl fun hz => by
        have := zDS_ok hz
        rw [this.1]; exact len4 this.2.1
    · rw [if_neg (by omega),if_neg c]
      exact ⟨[],rfl,fun h => by simp at h⟩
  · -- window
    have hr := hR 0 (by omega)
    have h4 := mSR_spec hr
    simp only [graph_shapeOf.f,graph_along.f,zShape,Int.reduceEq,reduceIte,or_self]
    rw [if_pos (by omega)]
    by_cases c : a.length = 3
    · rw [if_pos (by omega),if_pos (by omega),if_pos (by omega),window_May_f,Option.bind_some]
      by_cases c2 : (1 ≤ h ∧ h ≤ 4) ∧ (1 ≤ a.getD 1 0 ∧ a.getD 1 0 ≤ 32) ∧ 1 ≤ a.getD 2 0 ∧ a.getD 2 0 ≤ 32
      · rw [decide_eq_true c2,if_pos rfl,if_pos (by omega)]
        by_cases c3 : a.getD 0 0 < 0
        · rw [if_pos c3,Option.bind_some,if_neg (by omega)]; exact ⟨_,rfl,fun h => by simp at h⟩
        by_cases c4 : ((l.getD 0 []).length : Int) ≤ a.getD 0 0
        · rw [if_neg c3,if_pos c4,Option.bind_some,if_neg (by omega)]; exact ⟨_,rfl,fun h => by simp at h⟩
        have hj : (a.getD 0 0).toNat < (l.getD 0 []).length := by omega
        have hbd := h4.2.1 _ (getD_mem hj (0 : Int))
        rw [if_neg c3,if_neg c4,slices_Clone_int_f _ (by omega),Option.bind_some,if_pos (by omega),window_Out_f (by omega) (by omega) (by omega) (by omega),Option.bind_some,if_pos (by omega),if_pos hj,Option.bind_some,if_pos ⟨c,c2,by omega⟩]
        exact fin rfl fun _=>by
          show (List.set _ _ _).length ≤ 1000
          rw [set_len]; omega
      · rw [decide_eq_false c2,if_neg (by decide),Option.bind_some,if_neg (fun hh => c2 hh.2.1)]; exact ⟨_,rfl,fun h => by simp at h⟩
    · rw [if_neg (by omega),Option.bind_some,if_neg (fun hh => c hh.1)]; exact ⟨_,rfl,fun h => by simp at h⟩
theorem zJs_bad {ax : Int} {l : List (List Int)} (h : (zJs ax l).1 ≠ 0) : (zJs ax l).2 = [] := by
 unfold zJs at h ⊢
 split
 ·rfl
 rename_i c
 rw [if_neg c] at h
 split
 ·rename_i o ho
  rw [ho] at h
  dsimp only at h
  split
  ·rename_i c2
   rw [if_pos c2] at h; exact absurd rfl h
  ·rfl
 ·rfl
theorem zDS_bad {a b : List Int} {n : Int} (h : (zDS a b n).1 ≠ 0) : (zDS a b n).2 = [] := by
 unfold zDS at h ⊢
 split
 ·rfl
 rename_i c
 rw [if_neg c] at h
 split
 ·rename_i c2
  rw [if_pos c2] at h
  split
  ·rename_i c3
   rw [if_pos c3] at h; exact absurd rfl h
  ·rfl
 ·rfl
theorem zShape_bad {op : Int} {s a : List Int} {h : Int} {l : List (List Int)} (e : (zShape op s a h l).1 ≠ 0) : (zShape op s a h l).2 = [] := by
 have t : ∀ {p : Prop} [Decidable p] {x y : Int × List Int},(x.1 ≠ 0 → x.2 = []) → (y.1 ≠ 0 → y.2 = []) → (if p then x else y).1 ≠ 0 → (if p then x else y).2 = [] := fun hx hy => by
  split
  ·exact hx
  ·exact hy
 have z : ∀ {x : List Int},((0,x) : Int × List Int).1 ≠ 0 → ((0,x) : Int × List Int).2 = [] := fun h => absurd rfl h
 have w : ∀ {x : Int},((x,[]) : Int × List Int).1 ≠ 0 → ((x,[]) : Int × List Int).2 = [] := fun _=>rfl
 revert e
 unfold zShape
 exact t (t z w) (t (t (t z w) w) (t (t z w) (t (t (t z w) w) (t (t z w) (t (t (t z w) w) (t (t zJs_bad w) (t (t (t (t z w) w) w) (t (t zDS_bad w) (t (t z w) (t z w))))))))))
theorem graph_Shape_f (op : Int) (i s a : List Int) (n h : Int) (nt : ByteArray) (l : List (List Int)) (hl : l.length ≤ 400) (ha : a.length ≤ 17592186043904) (k : Nat) (hk : a.length + 20000 ≤ k) :
  graph_Shape.f k op i s a n h nt l = some (zSh op s a n h l) := by
 unfold graph_Shape.f zSh
 rw [graph_asked_f,Option.bind_some]
 by_cases hF : zF op s.length a.length n h l.length = true
 rotate_left
 ·rw [if_neg hF,if_neg hF]
 rw [if_pos hF,if_pos hF,graph_contains_f k l (by omega) (by omega),Option.bind_some]
 by_cases hA : l.all mSR = true
 rotate_left
 ·rw [if_neg hA,Bool.eq_false_iff.2 hA,if_pos (show (!false) = true from rfl)]
 rw [hA,if_neg (show ¬ (!true) = true from Bool.false_ne_true),if_pos rfl]
 obtain ⟨x,e,hx⟩ := graph_shapeOf_f op i s a n h nt l hl hA hF ha k hk
 rw [e,Option.bind_some]
 by_cases c : (zShape op s a h l).1 = 0
 ·obtain ⟨rfl,hx2⟩ := hx c
  rw [if_pos c,slices_Clone_int_f _ (by dsimp only; omega),Option.bind_some,← c]
 ·rw [if_neg c,← zShape_bad c]
end Go.Pf

namespace Go.Pf
open Go Go.Vm
theorem BA_get_app_right (s t : ByteArray) (i k : Nat) (h : s.size ≤ i) : (s ++ t).get! (i + k) = t.get! (i - s.size + k) := by
 have e : (s ++ t).data = s.data ++ t.data := by simp
 have hs : s.size = s.data.size := rfl
 show (s ++ t).data[i + k]! = t.data[i - s.size + k]!
 rw [e,Array.getElem!_eq_getD,Array.getElem!_eq_getD,Array.getD_eq_getD_getElem?,Array.getD_eq_getD_getElem?,Array.getElem?_append_right (by omega),show i + k - s.data.size = i - s.size + k by omega]
theorem BA_get_app_left (s t : ByteArray) (i : Nat) (h : i < s.size) : (s ++ t).get! i = s.get! i := by
 have e : (s ++ t).data = s.data ++ t.data := by simp
 have hs : s.size = s.data.size := rfl
 show (s ++ t).data[i]! = s.data[i]!
 rw [e,Array.getElem!_eq_getD,Array.getElem!_eq_getD,Array.getD_eq_getD_getElem?,Array.getD_eq_getD_getElem?,Array.getElem?_append_left (by omega)]
theorem BA_size_app (s t : ByteArray) : (s ++ t).size = s.size + t.size := ByteArray.size_append
theorem BA_assoc (s t u : ByteArray) : s ++ t ++ u = s ++ (t ++ u) := ByteArray.append_assoc
theorem BA_empty (s : ByteArray) : ByteArray.empty ++ s = s := ByteArray.empty_append
theorem BA_empty' (s : ByteArray) : s ++ ByteArray.empty = s := ByteArray.append_empty
theorem decode_app (s t : ByteArray) : Utf8.decode (s ++ t) s.size = Utf8.decode t 0 := by
 have g : ∀ k,(s ++ t).get! (s.size + k) = t.get! (0 + k) := fun k => by rw [BA_get_app_right s t s.size k (Nat.le_refl _),Nat.sub_self]
 have z : ∀ k,(decide (s.size + k < (s ++ t).size)) = decide (0 + k < t.size) := fun k => by rw [BA_size_app]; congr 1; simp
 unfold Utf8.decode
 simp only [g,z]
theorem ofNat_toNat {n : Nat} (h : n < 256) : (UInt8.ofNat n).toNat = n := by simp [UInt8.toNat_ofNat']; omega
theorem mk_get (l : List UInt8) (k : Nat) (h : k < l.length) (t : ByteArray) : ((ByteArray.mk ⟨l⟩) ++ t).get! k = l[k] := by
 rw [BA_get_app_left _ _ _ h]
 show (Array.mk l)[k]! = l[k]
 simp [h]
theorem mk_size (l : List UInt8) (t : ByteArray) : ((ByteArray.mk ⟨l⟩) ++ t).size = l.length + t.size := by rw [BA_size_app]; rfl
theorem decode_encode {r : Nat} (h : Utf8.valid r = true) (t : ByteArray) : Utf8.decode (Utf8.encode r ++ t) 0 = (r,(Utf8.encode r).size) := by
 have hv : r < 0xD800 ∨ (0xE000 ≤ r ∧ r ≤ 0x10FFFF) := by
  unfold Utf8.valid at h
  simp at h; omega
 unfold Utf8.encode
 rw [h]
 simp only [reduceIte,Int.toNat_natCast]
 by_cases c1 : r < 128
 ·rw [if_pos c1]
  unfold Utf8.decode
  simp only [Nat.zero_add,Nat.add_zero,mk_get [UInt8.ofNat r] 0 (by simp) t,List.getElem_cons_zero,ofNat_toNat (show r < 256 by omega)]
  rw [if_pos c1]; rfl
 by_cases c2 : r < 2048
 ·rw [if_neg c1,if_pos c2]
  unfold Utf8.decode
  simp only [Nat.zero_add,Nat.add_zero,mk_get [UInt8.ofNat (0xC0 + r / 64),UInt8.ofNat (0x80 + r % 64)] 0 (by simp) t,mk_get [UInt8.ofNat (0xC0 + r / 64),UInt8.ofNat (0x80 + r % 64)] 1 (by simp) t,mk_size,List.getElem_cons_zero,List.getElem_cons_succ,ofNat_toNat (show 0xC0 + r / 64 < 256 by omega),ofNat_toNat (show 0x80 + r % 64 < 256 by omega)]
  rw [if_neg (by omega),if_pos (by simp; omega),if_pos (by omega)]
  exact Prod.ext (by show _ = r; dsimp only; omega) rfl
 by_cases c3 : r < 65536
 ·rw [if_neg c1,if_neg c2,if_pos c3]
  unfold Utf8.decode
  have g0 := mk_get [UInt8.ofNat (0xE0 + r / 4096),UInt8.ofNat (0x80 + r / 64 % 64),UInt8.ofNat (0x80 + r % 64)] 0 (by simp) t
  have g1 := mk_get [UInt8.ofNat (0xE0 + r / 4096),UInt8.ofNat (0x80 + r / 64 % 64),UInt8.ofNat (0x80 + r % 64)] 1 (by simp) t
  have g2 := mk_get [UInt8.ofNat (0xE0 + r / 4096),UInt8.ofNat (0x80 + r / 64 % 64),UInt8.ofNat (0x80 + r % 64)] 2 (by simp) t
  simp only [Nat.zero_add,Nat.add_zero,g0,g1,g2,mk_size,List.getElem_cons_zero,List.getElem_cons_succ,ofNat_toNat (show 0xE0 + r / 4096 < 256 by omega),ofNat_toNat (show 0x80 + r / 64 % 64 < 256 by omega),ofNat_toNat (show 0x80 + r % 64 < 256 by omega)]
  have e : (224 + r / 4096) % 16 * 4096 + (128 + r / 64 % 64) % 64 * 64 + (128 + r % 64) % 64 = r := by omega
  rw [e,if_neg (by omega),if_neg (by simp; omega),if_pos (by simp; omega),if_pos (by simp [h]; omega)]; rfl
 ·rw [if_neg c1,if_neg c2,if_neg c3]
  unfold Utf8.decode
  have g0 := mk_get [UInt8.ofNat (0xF0 + r / 262144),UInt8.ofNat (0x80 + r / 4096 % 64),UInt8.ofNat (0x80 + r / 64 % 64),UInt8.ofNat (0x80 + r % 64)] 0 (by simp) t
  have g1 := mk_get [UInt8.ofNat (0xF0 + r / 262144),UInt8.ofNat (0x80 + r / 4096 % 64),UInt8.ofNat (0x80 + r / 64 % 64),UInt8.ofNat (0x80 + r % 64)] 1 (by simp) t
  have g2 := mk_get [UInt8.ofNat (0xF0 + r / 262144),UInt8.ofNat (0x80 + r / 4096 % 64),UInt8.ofNat (0x80 + r / 64 % 64),UInt8.ofNat (0x80 + r % 64)] 2 (by simp) t
  have g3 := mk_get [UInt8.ofNat (0xF0 + r / 262144),UInt8.ofNat (0x80 + r / 4096 % 64),UInt8.ofNat (0x80 + r / 64 % 64),UInt8.ofNat (0x80 + r % 64)] 3 (by simp) t
  simp only [Nat.zero_add,Nat.add_zero,g0,g1,g2,g3,mk_size,List.getElem_cons_zero,List.getElem_cons_succ,ofNat_toNat (show 0xF0 + r / 262144 < 256 by omega),ofNat_toNat (show 0x80 + r / 4096 % 64 < 256 by omega),ofNat_toNat (show 0x80 + r / 64 % 64 < 256 by omega),ofNat_toNat (show 0x80 + r % 64 < 256 by omega)]
  have e : (240 + r / 262144) % 8 * 262144 + (128 + r / 4096 % 64) % 64 * 4096 + (128 + r / 64 % 64) % 64 * 64 + (128 + r % 64) % 64 = r := by omega
  rw [e,if_neg (by omega),if_neg (by simp; omega),if_neg (by simp; omega),if_pos (by simp; omega),if_pos (by simp [h]; omega)]; rfl
theorem decode_pos (s : ByteArray) (i : Nat) : 1 ≤ (Utf8.decode s i).2 := by
 unfold Utf8.decode
 dsimp only
 repeat' split
 all_goals simp
def rsx (s : ByteArray) : Nat → Nat → List Int
 | 0,_ => []
 | n + 1,i => if i < s.size then ((Utf8.decode s i).1 : Int) :: rsx s n (i + (Utf8.decode s i).2) else []
def rs (s : ByteArray) : List Int := rsx s s.size 0
theorem rsx_len (s : ByteArray) : ∀ n i,(rsx s n i).length ≤ n
 | 0,_ => Nat.le_refl _
 | n + 1,i => by
  rw [rsx]
  split
  ·have := rsx_len s n (i + (Utf8.decode s i).2)
   simp; omega
  ·simp
theorem rs_len (s : ByteArray) : (rs s).length ≤ s.size := rsx_len s _ _
def enc : List Int → ByteArray
 | [] => ByteArray.empty
 | r :: l => Utf8.encode r ++ enc l
theorem enc_app : ∀ a b : List Int,enc (a ++ b) = enc a ++ enc b
 | [],b => by rw [List.nil_append,enc,BA_empty]
 | r :: a,b => by rw [List.cons_append,enc,enc,enc_app a b,BA_assoc]
theorem rsx_enc : ∀ (l : List Int) (p : ByteArray) (n : Nat),(∀ r ∈ l,Utf8.valid r = true) → (enc l).size ≤ n → rsx (p ++ enc l) n p.size = l
 | [],p,n,_,_ => by
  cases n with
  | zero => rfl
  | succ n => rw [rsx,enc,BA_empty',if_neg (by omega)]
 | r :: l,p,n,hv,hn => by
  have h := hv r (List.mem_cons_self ..)
  have hr : 0 ≤ r := by
   unfold Utf8.valid at h
   simp at h; omega
  obtain ⟨q,rfl⟩ : ∃ q : Nat,r = (q : Int) := ⟨r.toNat,by omega⟩
  have hd := decode_encode h (enc l)
  have hp := decode_pos (Utf8.encode q ++ enc l) 0
  rw [enc,BA_size_app] at hn
  rw [hd] at hp
  obtain ⟨n,rfl⟩ : ∃ m,n = m + 1 := ⟨n - 1,by dsimp only at hp; omega⟩
  dsimp only at hp
  rw [enc,rsx,if_pos (by rw [BA_size_app,BA_size_app]; omega),decode_app,hd]
  dsimp only
  rw [← BA_assoc,← BA_size_app,rsx_enc l _ n (fun r hr => hv r (List.mem_cons_of_mem _ hr)) (by omega)]
theorem rs_enc {l : List Int} (h : ∀ r ∈ l,Utf8.valid r = true) : rs (enc l) = l := by
 have := rsx_enc l ByteArray.empty (enc l).size h (Nat.le_refl _)
 rwa [BA_empty] at this
theorem names_Runes_l0 (s : ByteArray) (hs : s.size ≤ 17592186043904) : ∀ (e i n : Nat) (y : List Int),s.size ≤ i + e → e < n → y.length ≤ i → names_Runes.l0 n y s i = some (y ++ rsx s e i)
 | 0,i,n,y,hi,hn,hy => by
  obtain ⟨n,rfl⟩ : ∃ m,n = m + 1 := ⟨n - 1,by omega⟩
  rw [names_Runes.l0,if_neg (by omega),rsx,List.append_nil]
 | e + 1,i,n,y,hi,hn,hy => by
  obtain ⟨n,rfl⟩ : ∃ m,n = m + 1 := ⟨n - 1,by omega⟩
  have hp := decode_pos s i
  rw [names_Runes.l0,rsx]
  by_cases c : i < s.size
  ·rw [if_pos c,if_pos c,if_pos (by rw [List.length_singleton]; omega),names_Runes_l0 s hs e _ n _ (by omega) (by omega) (by simp; omega),List.append_assoc]; rfl
  ·rw [if_neg c,if_neg c,List.append_nil]
theorem names_Runes_f (s : ByteArray) (hs : s.size ≤ 17592186043904) (k : Nat) (hk : s.size < k) : names_Runes.f k s = some (rs s) := by
 unfold names_Runes.f
 rw [names_Runes_l0 s hs s.size 0 k [] (by omega) hk (Nat.le_refl _)]; rfl
theorem ref9_Runes_l0 (s : ByteArray) (hs : s.size ≤ 17592186043904) : ∀ (e i n : Nat) (y : List Int),s.size ≤ i + e → e < n → y.length ≤ i → ref9_Runes.l0 n y s i = some (y ++ rsx s e i)
 | 0,i,n,y,hi,hn,hy => by
  obtain ⟨n,rfl⟩ : ∃ m,n = m + 1 := ⟨n - 1,by omega⟩
  rw [ref9_Runes.l0,if_neg (by omega),rsx,List.append_nil]
 | e + 1,i,n,y,hi,hn,hy => by
  obtain ⟨n,rfl⟩ : ∃ m,n = m + 1 := ⟨n - 1,by omega⟩
  have hp := decode_pos s i
  rw [ref9_Runes.l0,rsx]
  by_cases c : i < s.size
  ·rw [if_pos c,if_pos c,if_pos (by rw [List.length_singleton]; omega),ref9_Runes_l0 s hs e _ n _ (by omega) (by omega) (by simp; omega),List.append_assoc]; rfl
  ·rw [if_neg c,if_neg c,List.append_nil]
theorem ref9_Runes_f (s : ByteArray) (hs : s.size ≤ 17592186043904) (k : Nat) (hk : s.size < k) : ref9_Runes.f k s = some (rs s) := by
 unfold ref9_Runes.f
 rw [ref9_Runes_l0 s hs s.size 0 k [] (by omega) hk (Nat.le_refl _)]; rfl
end Go.Pf

namespace Go.Pf
open Go Go.Vm
def fnI (x : Int) : Nat → List Int → Int
 | _,[] => -1
 | i,y :: l => if y = x then (i : Int) else fnI x (i + 1) l
def fnd (l : List Int) (x : Int) : Int := fnI x 0 l
theorem fnI_spec (x : Int) : ∀ (l : List Int) (i : Nat),(fnI x i l = -1 ∧ x ∉ l) ∨ ∃ j : Nat,fnI x i l = ((i + j : Nat) : Int) ∧ j < l.length ∧ l.getD j 0 = x ∧ x ∉ l.take j
 | [],i => .inl ⟨rfl,by simp⟩
 | y :: l,i => by
  rw [fnI]
  by_cases c : y = x
  ·rw [if_pos c]
   exact .inr ⟨0,rfl,by simp,c,by simp⟩
  ·rw [if_neg c]
   rcases fnI_spec x l (i + 1) with ⟨h1,h2⟩ | ⟨j,h1,h2,h3,h4⟩
   ·exact .inl ⟨h1,by simp [h2]; exact fun h => c h.symm⟩
   ·exact .inr ⟨j + 1,by rw [h1]; omega,by simp; omega,h3,by simp [h4]; exact fun h => c h.symm⟩
theorem fnd_spec (l : List Int) (x : Int) : (fnd l x = -1 ∧ x ∉ l) ∨ ∃ j : Nat,fnd l x = (j : Int) ∧ j < l.length ∧ l.getD j 0 = x ∧ x ∉ l.take j := by
 have := fnI_spec x l 0
 simp only [Nat.zero_add] at this
 exact this
theorem Index_rune_f (l : List Int) (x : Int) (hl : l.length ≤ 17592186043904) (k : Nat) (hk : l.length < k) : slices_Index_rune.f k l x = some (fnd l x) := by
 have := iter0 (L := fun n i (_ : Unit) => slices_Index_rune.l0 n l x l.length i) (st := fun _=>()) (fun i => if fnI x i (l.drop i) = -1 then .inl () else .inr (fnI x i (l.drop i))) (m := l.length) 0
  (fun n _ => by rw [slices_Index_rune.l0,if_neg (by omega),List.drop_eq_nil_of_le (Nat.le_refl _)]; rfl)
  (fun i n hi _ ih => by
   rw [slices_Index_rune.l0,if_pos (by omega),if_pos (by omega),Int.toNat_natCast,drop_getD hi (0 : Int),fnI]
   by_cases c : l.getD i 0 = x
   ·rw [if_pos c.symm,if_pos c,if_neg (by omega)]
   ·rw [if_neg (fun h => c h.symm),if_neg c,i64_succ hi (by omega),ih]) k (by omega)
 rw [List.drop_zero] at this
 unfold slices_Index_rune.f fnd
 rw [this,Option.bind_some]
 by_cases c : fnI x 0 l = -1
 ·rw [if_pos c,c]; rfl
 ·rw [if_neg c]; rfl
theorem Contains_rune_f (l : List Int) (x : Int) (hl : l.length ≤ 17592186043904) (k : Nat) (hk : l.length < k) : slices_Contains_rune.f k l x = some (decide (x ∈ l)) := by
 unfold slices_Contains_rune.f
 rw [Index_rune_f l x hl k hk,Option.bind_some]
 rcases fnd_spec l x with ⟨h1,h2⟩ | ⟨j,h1,h2,h3,h4⟩
 ·rw [h1,decide_eq_false h2]; rfl
 ·rw [h1,decide_eq_true (by omega),decide_eq_true (by rw [← h3]; exact getD_mem h2 _)]
theorem names_Find_f (s : ByteArray) (x : Int) (hs : s.size ≤ 17592186043904) (k : Nat) (hk : s.size < k) : names_Find.f k s x = some (fnd (rs s) x) := by
 have := rs_len s
 unfold names_Find.f
 rw [names_Runes_f s hs k hk,Option.bind_some,Index_rune_f _ _ (by omega) k (by omega),Option.bind_some]
theorem ref9_Find_f (s : ByteArray) (x : Int) (hs : s.size ≤ 17592186043904) (k : Nat) (hk : s.size < k) : ref9_Find.f k s x = some (fnd (rs s) x) := by
 have hl := rs_len s
 unfold ref9_Find.f
 rw [ref9_Runes_f s hs k hk,Option.bind_some]
 generalize rs s = l at hl ⊢
 have := iter0 (L := fun n i (_ : Unit) => ref9_Find.l0 n x l.length i l) (st := fun _=>()) (fun i => if fnI x i (l.drop i) = -1 then .inl () else .inr (fnI x i (l.drop i))) (m := l.length) 0
  (fun n _ => by rw [ref9_Find.l0,if_neg (by omega),List.drop_eq_nil_of_le (Nat.le_refl _)]; rfl)
  (fun i n hi _ ih => by
   rw [ref9_Find.l0,if_pos (by omega),if_pos (by omega),if_pos (by omega),Int.toNat_natCast,drop_getD hi (0 : Int),fnI]
   by_cases c : l.getD i 0 = x
   ·rw [if_pos c,if_pos c,if_neg (by omega)]
   ·rw [if_neg c,if_neg c,i64_succ hi (by omega),ih]) k (by omega)
 rw [List.drop_zero] at this
 unfold fnd
 rw [this,Option.bind_some]
 by_cases c : fnI x 0 l = -1
 ·rw [if_pos c,c]; rfl
 ·rw [if_neg c]; rfl
def nmay (x : Int) : Bool := decide (33 ≤ x ∧ x ≠ 46 ∧ x ≠ 45 ∧ x ≠ 40 ∧ x ≠ 41 ∧ x ≠ 65533)
def nR (l : List Int) : Nat → Nat → Bool
 | 0,_ => true
 | e + 1,i => nmay (l.getD i 0) && !decide (l.getD i 0 ∈ l.take i) && nR l e (i + 1)
def zNR (l : List Int) (n : Int) : Bool := decide ((l.length : Int) = n ∧ n ≤ 3) && nR l l.length 0
theorem names_may_f (x : Int) : names_may.f x = some (nmay x) := by
 unfold names_may.f nmay
 by_cases c1 : x = 46
 ·rw [if_pos c1]; subst c1; rfl
 by_cases c2 : x = 45
 ·rw [if_neg c1,if_pos c2]; subst c2; rfl
 by_cases c3 : x = 40
 ·rw [if_neg c1,if_neg c2,if_pos c3]; subst c3; rfl
 by_cases c4 : x = 41
 ·rw [if_neg c1,if_neg c2,if_neg c3,if_pos c4]; subst c4; rfl
 by_cases c5 : x = 65533
 ·rw [if_neg c1,if_neg c2,if_neg c3,if_neg c4,if_pos c5]; subst c5; rfl
 rw [if_neg c1,if_neg c2,if_neg c3,if_neg c4,if_neg c5]
 congr 1
 simp [c1,c2,c3,c4,c5]
theorem names_Right_f (s : ByteArray) (n : Int) (hs : s.size ≤ 17592186043904) (k : Nat) (hk : s.size < k) : names_Right.f k s n = some (zNR (rs s) n) := by
 have hl := rs_len s
 unfold names_Right.f zNR
 rw [names_Runes_f s hs k hk,Option.bind_some]
 generalize rs s = l at hl ⊢
 by_cases c1 : (l.length : Int) = n
 rotate_left
 ·rw [if_neg c1,decide_eq_false (fun h => c1 h.1)]; rfl
 by_cases c2 : 3 < n
 ·rw [if_pos c1,if_pos c2,decide_eq_false (by omega)]; rfl
 rw [if_pos c1,if_neg c2,decide_eq_true ⟨c1,by omega⟩,Bool.true_and]
 have := iter0 (L := fun n i (_ : Unit) => names_Right.l0 k n l.length i l) (st := fun _=>()) (fun i => if nR l (l.length - i) i = true then .inl () else .inr false) (m := l.length) 0
  (fun n _ => by rw [names_Right.l0,if_neg (by omega),Nat.sub_self]; rfl)
  (fun i n hi _ ih => by
   rw [names_Right.l0,if_pos (by omega),if_pos (by omega),if_pos (by omega),Int.toNat_natCast,names_may_f,Option.bind_some,show l.length - i = (l.length - (i + 1)) + 1 by omega,nR]
   cases c : nmay (l.getD i 0)
   ·rw [if_neg Bool.false_ne_true,Bool.false_and,Bool.false_and,if_neg Bool.false_ne_true]
   rw [if_pos rfl,Bool.true_and,if_pos (by omega),List.drop_zero,Contains_rune_f _ _ (by rw [List.length_take]; omega) k (by rw [List.length_take]; omega),Option.bind_some]
   cases c3 : decide (l.getD i 0 ∈ l.take i)
   ·rw [if_neg Bool.false_ne_true,i64_succ hi (by omega),ih]; rfl
   ·rw [if_pos rfl]; rfl) k (by omega)
 rw [Nat.sub_zero] at this
 have this : names_Right.l0 k k l.length 0 l = _ := this
 rw [this,Option.bind_some]
 cases nR l l.length 0 <;> rfl
theorem ref9_Right_f (s : ByteArray) (n : Int) (hs : s.size ≤ 17592186043904) (k : Nat) (hk : s.size < k) : ref9_Right.f k s n = some (zNR (rs s) n) := by
  have hl := rs_len s
  unfold ref9_Right.f zNR
  rw [ref9_Runes_f s hs k hk,Option.bind_some]
  have hF := fun x => ref9_Find_f s x hs k hk
  generalize rs s = l at hl hF ⊢
  by_cases c0 : n < 0
  · rw [if_pos c0,decide_eq_false (by omega)]; rfl
  by_cases c2 : 3 < n
  · rw [if_neg c0,if_pos c2,decide_eq_false (by omega)]; rfl
  by_cases c1 : (l.length : Int) = n
  rotate_left
  · rw [if_neg c0,if_neg c2,if_neg c1,decide_eq_false (fun h => c1 h.1)]; rfl
  rw [if_neg c0,if_neg c2,if_pos c1,decide_eq_true ⟨c1,by omega⟩,Bool.true_and]
  have := iter0 (L := fun n i (_ : Unit) => ref9_Right.l0 k n s l.length i l) (st := fun _=>()) (fun i => if nR l (l.length - i) i = true then .inl () else .inr false) (m := l.length) 0
    (fun n _ => by rw [ref9_Right.l0,if_neg (by omega),Nat.sub_self]; rfl)
    (fun i n hi _ ih => by
      rw [ref9_Right.l0,if_pos (by omega),if_pos (by omega),if_pos (by omega),Int.toNat_natCast,show l.length - i = (l.length - (i + 1)) + 1 by omega,nR,hF,Option.bind_some]
      have bad : nmay (l.getD i 0) = false → (if (nmay (l.getD i 0) && !decide (l.getD i 0 ∈ l.take i) && nR l (l.length - (i + 1)) (i + 1)) = true then (Sum.inl () : Unit ⊕ Bool) else .inr false) = .inr false := fun h => by
        rw [h]; rfl
      by_cases d1 : l.getD i 0 < 33
      · rw [if_pos d1,bad (decide_eq_false (by omega))]
      by_cases d2 : l.getD i 0 = 65533
      · rw [if_neg d1,if_pos d2,bad (decide_eq_false (by omega))]
      by_cases d3 : l.getD i 0 = 46
      · rw [if_neg d1,if_neg d2,if_pos d3,bad (decide_eq_false (by omega))]
      by_cases d4 : l.getD i 0 = 45
      · rw [if_neg d1,if_neg d2,if_neg d3,if_pos d4,bad (decide_eq_false (by omega))]
      by_cases d5 : l.getD i 0 = 40
      · rw [if_neg d1,if_neg d2,if_neg d3,if_neg d4,if_pos d5,bad (decide_eq_false (by omega))]
      by_cases d6 : l.getD i 0 = 41
      · rw [if_neg d1,if_neg d2,if_neg d3,if_neg d4,if_neg d5,if_pos d6,bad (decide_eq_false (by omega))]
      rw [if_neg d1,if_neg d2,if_neg d3,if_neg d4,if_neg d5,if_neg d6,show nmay (l.getD i 0) = true from decide_eq_true (by omega),Bool.true_and]
      rcases fnd_spec l (l.getD i 0) with ⟨h1,h2⟩ | ⟨j,h1,h2,h3,h4⟩
      · exact absurd (getD_mem hi _) h2
      by_cases c : l.getD i 0 ∈ l.take i
      · rw [decide_eq_true c,if_neg (fun h => by
          obtain rfl : j = i := by omega
          exact h4 c)]; rfl
      · have : i = j := by
          rcases Nat.lt_trichotomy i j with h | h | h
          · refine absurd ?_ h4
            have : (l.take j).getD i 0 = l.getD i 0 := by
              rw [List.getD_eq_getElem?_getD,List.getElem?_take,if_pos h,List.getD_eq_getElem?_getD]
            rw [← this]
            exact getD_mem (by rw [List.length_take]; omega) _
          · exact h
          · refine absurd ?_ c
            have : (l.take i).getD j 0 = l.getD j 0 := by
              rw [List.getD_eq_getElem?_getD,List.getElem?_take,if_pos h,List.getD_eq_getElem?_getD]
            rw [← h3,← this]
            exact getD_mem (by rw [List.length_take]; omega) _
        rw [decide_eq_false c,if_pos (by omega),i64_succ hi (by omega),ih]; rfl) k (by omega)
  rw [Nat.sub_zero] at this
  have this : ref9_Right.l0 k k s l.length 0 l = _ := this
  rw [this,Option.bind_some]
  cases nR l l.length 0 <;> rfl
def zNl (nm : List Int) : List Int → List Int → Option (List Int)
 | [],y => some y
 | r :: l,y => if r = 32 then zNl nm l y else if r = 46 then zNl nm l (y ++ [-1]) else if fnd nm r < 0 ∨ fnd nm r ∈ y then none else zNl nm l (y ++ [fnd nm r])
def zNote (nm l : List Int) (rank : Int) : Bool × Int × List Int :=
 if 16 < l.length then (false,14,[]) else
 match zNl nm l [] with
 | none => (false,14,[])
 | some y => if y.length = 0 then (false,0,[]) else if (y.length : Int) = rank then (true,0,y) else (false,14,[])
theorem names_Note_l0 (s : ByteArray) (hs : s.size ≤ 17592186043904) (l : List Int) (hl : l.length ≤ 16) (rank : Int) (k : Nat) (hk : s.size + 100 < k) : ∀ (e i n : Nat) (y : List Int),l.length = i + e → e < n → y.length ≤ i →
  names_Note.l0 k n s rank l.length i y l = some (match zNl (rs s) (l.drop i) y with | some y => .inl y | none => .inr (false,14))
 | 0,i,n,y,hi,hn,_ => by
  obtain ⟨n,rfl⟩ : ∃ m,n = m + 1 := ⟨n - 1,by omega⟩
  rw [names_Note.l0,if_neg (by omega),List.drop_eq_nil_of_le (by omega)]; rfl
 | e + 1,i,n,y,hi,hn,hy => by
  obtain ⟨n,rfl⟩ : ∃ m,n = m + 1 := ⟨n - 1,by omega⟩
  have ih := fun y hy => names_Note_l0 s hs l hl rank k hk e (i + 1) n y (by omega) (by omega) hy
  rw [names_Note.l0,if_pos (by omega),if_pos (by omega),if_pos (by omega),Int.toNat_natCast,names_Find_f s _ hs k (by omega),Option.bind_some,i64_succ (show i < l.length by omega) (by omega),drop_getD (show i < l.length by omega) (0 : Int),zNl]
  by_cases c1 : l.getD i 0 = 32
  ·rw [if_pos c1,if_pos c1,ih y (by omega)]
  by_cases c2 : l.getD i 0 = 46
  ·rw [if_neg c1,if_pos c2,if_neg c1,if_pos c2,if_pos (by simp; omega),ih _ (by simp; omega)]
  rw [if_neg c1,if_neg c2,if_neg c1,if_neg c2]
  by_cases c3 : fnd (rs s) (l.getD i 0) < 0
  ·rw [if_pos c3,if_pos (.inl c3)]
  rw [if_neg c3,slices_Contains_f _ _ (by omega) k (by omega),Option.bind_some]
  by_cases c4 : fnd (rs s) (l.getD i 0) ∈ y
  ·rw [decide_eq_true c4,if_pos rfl,if_pos (show fnd (rs s) (l.getD i 0) < 0 ∨ fnd (rs s) (l.getD i 0) ∈ y from .inr c4)]
  ·rw [decide_eq_false c4,if_neg Bool.false_ne_true,if_neg (show ¬ (fnd (rs s) (l.getD i 0) < 0 ∨ fnd (rs s) (l.getD i 0) ∈ y) from fun h => h.elim c3 c4),if_pos (by simp; omega),ih _ (by simp; omega)]
theorem names_Note_f (s t : ByteArray) (rank : Int) (hs : s.size ≤ 17592186043904) (ht : t.size ≤ 17592186043904) (k : Nat) (hk : s.size + 100 < k) (hk2 : t.size < k) : names_Note.f k s t rank = some (zNote (rs s) (rs t) rank) := by
 unfold names_Note.f zNote
 rw [names_Runes_f t ht k hk2,Option.bind_some]
 by_cases c : 16 < (rs t).length
 ·rw [if_pos (by omega),if_pos c]
 ·have := names_Note_l0 s hs (rs t) (by omega) rank k hk (rs t).length 0 k [] (by omega) (by omega) (Nat.le_refl _)
  rw [n0,List.drop_zero] at this
  rw [if_neg (by omega),if_neg c,this,Option.bind_some]
  cases zNl (rs s) (rs t) [] with
  | none => rfl
  | some y =>
   dsimp only [Sum.elim_inl]
   by_cases c1 : y.length = 0
   ·rw [if_pos (by omega),if_pos c1]
   ·rw [if_neg (by omega),if_neg c1]
    split <;> rfl
theorem ref9_Note_l1 (s : ByteArray) (rank x13 x21 x22 : Int) (y y1 : List Int) (hy : y.length ≤ 1000) (n : Nat) (hn : 2000 ≤ n) :
  ref9_Note.l1 n s rank x13 x21 x22 y.length 0 y y1 = some (if x13 ∈ y then .inr (false,14) else .inl ()) := by
 have := iter0 (L := fun n i (_ : Unit) => ref9_Note.l1 n s rank x13 x21 x22 y.length i y y1) (st := fun _=>()) (fun i => if x13 ∈ y.drop i then .inr (false,14) else .inl ()) (m := y.length) 0
  (fun n _ => by rw [ref9_Note.l1,if_neg (by omega),List.drop_eq_nil_of_le (Nat.le_refl _),if_neg (by simp)])
  (fun i n hi _ ih => by
   rw [ref9_Note.l1,if_pos (by omega),if_pos (by omega),if_pos (by omega),Int.toNat_natCast,drop_getD hi (0 : Int)]
   by_cases c : y.getD i 0 = x13
   ·rw [if_pos c,if_pos (by rw [c]; exact List.mem_cons_self ..)]
   ·rw [if_neg c,i64_succ hi (by omega),ih]
    by_cases c2 : x13 ∈ y.drop (i + 1)
    ·rw [if_pos c2,if_pos (List.mem_cons_of_mem _ c2)]
    ·rw [if_neg c2,if_neg (fun h => by rcases List.mem_cons.1 h with h | h; exact c h.symm; exact c2 h)]) n (by omega)
 rw [List.drop_zero] at this
 exact this
theorem ref9_Note_l0 (s : ByteArray) (hs : s.size ≤ 17592186043904) (l : List Int) (hl : l.length ≤ 16) (rank : Int) (k : Nat) (hk : s.size + 100 < k) : ∀ (e i n : Nat) (y : List Int),l.length = i + e → e + 2000 < n → y.length ≤ i →
  ref9_Note.l0 k n s rank l.length i y l = some (match zNl (rs s) (l.drop i) y with | some y => .inl y | none => .inr (false,14))
 | 0,i,n,y,hi,hn,_ => by
  obtain ⟨n,rfl⟩ : ∃ m,n = m + 1 := ⟨n - 1,by omega⟩
  rw [ref9_Note.l0,if_neg (by omega),List.drop_eq_nil_of_le (by omega)]; rfl
 | e + 1,i,n,y,hi,hn,hy => by
  obtain ⟨n,rfl⟩ : ∃ m,n = m + 1 := ⟨n - 1,by omega⟩
  have ih := fun y hy => ref9_Note_l0 s hs l hl rank k hk e (i + 1) n y (by omega) (by omega) hy
  rw [ref9_Note.l0,if_pos (by omega),if_pos (by omega),if_pos (by omega),Int.toNat_natCast,ref9_Find_f s _ hs k (by omega),Option.bind_some,i64_succ (show i < l.length by omega) (by omega),drop_getD (show i < l.length by omega) (0 : Int),zNl]
  by_cases c1 : l.getD i 0 = 32
  ·rw [if_pos c1,if_pos c1,ih y (by omega)]
  by_cases c2 : l.getD i 0 = 46
  ·rw [if_neg c1,if_pos c2,if_neg c1,if_pos c2,if_pos (by simp; omega),ih _ (by simp; omega)]
  rw [if_neg c1,if_neg c2,if_neg c1,if_neg c2]
  by_cases c3 : fnd (rs s) (l.getD i 0) < 0
  ·rw [if_pos c3,if_pos (.inl c3)]
  rw [if_neg c3,ref9_Note_l1 s rank _ _ _ y l (by omega) n (by omega),Option.bind_some]
  by_cases c4 : fnd (rs s) (l.getD i 0) ∈ y
  ·rw [if_pos c4,if_pos (show fnd (rs s) (l.getD i 0) < 0 ∨ fnd (rs s) (l.getD i 0) ∈ y from .inr c4)]; rfl
  ·rw [if_neg c4,Sum.elim_inl,if_neg (show ¬ (fnd (rs s) (l.getD i 0) < 0 ∨ fnd (rs s) (l.getD i 0) ∈ y) from fun h => h.elim c3 c4),if_pos (by simp; omega),ih _ (by simp; omega)]
theorem ref9_Note_f (s t : ByteArray) (rank : Int) (hs : s.size ≤ 17592186043904) (ht : t.size ≤ 17592186043904) (k : Nat) (hk : s.size + 5000 < k) (hk2 : t.size < k) : ref9_Note.f k s t rank = some (zNote (rs s) (rs t) rank) := by
 unfold ref9_Note.f zNote
 rw [ref9_Runes_f t ht k hk2,Option.bind_some]
 by_cases c : 16 < (rs t).length
 ·rw [if_pos (by omega),if_pos c]
 ·have := ref9_Note_l0 s hs (rs t) (by omega) rank k (by omega) (rs t).length 0 k [] (by omega) (by omega) (Nat.le_refl _)
  rw [n0,List.drop_zero] at this
  rw [if_neg (by omega),if_neg c,this,Option.bind_some]
  cases zNl (rs s) (rs t) [] with
  | none => rfl
  | some y =>
   dsimp only [Sum.elim_inl]
   by_cases c1 : y.length = 0
   ·rw [if_pos (by omega),if_pos c1]
   ·rw [if_neg (by omega),if_neg c1]
    split <;> rfl
end Go.Pf

namespace Go.Pf
open Go Go.Vm
abbrev Nd := Int × (List Int) × (List Int) × (List Int) × Int × Int × ByteArray
abbrev nd0 : Nd := (0,([],([],([],(0,(0,ByteArray.empty))))))
def zIn (out : List (List Int)) : List Int → Option (List (List Int))
 | [] => some []
 | x :: l => if x < 0 ∨ (out.length : Int) ≤ x then none else (zIn out l).map (out.getD x.toNat [] :: ·)
theorem zIn_len {out : List (List Int)} : ∀ {l : List Int} {r : List (List Int)},zIn out l = some r → r.length = l.length
 | [],r,h => by cases h; rfl
 | x :: l,r,h => by
  rw [zIn] at h
  split at h
  ·cases h
  ·cases e : zIn out l with
   | none => rw [e] at h; cases h
   | some q =>
    rw [e] at h
    cases h
    rw [List.length_cons,List.length_cons,zIn_len e]
def zNd (nm : List Int) (out : List (List Int)) (x : Nd) : Int × List Int :=
 match zIn out x.2.1 with
 | none => (23,[])
 | some l => if (zSh x.1 x.2.2.1 x.2.2.2.1 x.2.2.2.2.1 x.2.2.2.2.2.1 l).1 = 0 then
   ((zNote nm (rs x.2.2.2.2.2.2) (zSh x.1 x.2.2.1 x.2.2.2.1 x.2.2.2.2.1 x.2.2.2.2.2.1 l).2.length).2.1,(zSh x.1 x.2.2.1 x.2.2.2.1 x.2.2.2.2.1 x.2.2.2.2.2.1 l).2)
  else ((zSh x.1 x.2.2.1 x.2.2.2.1 x.2.2.2.2.1 x.2.2.2.2.2.1 l).1,[])
def zGo (nm : List Int) : List Nd → List (List Int) → Int × List (List Int)
 | [],out => (0,out)
 | x :: r,out => if (zNd nm out x).1 = 0 then zGo nm r (out ++ [(zNd nm out x).2]) else ((zNd nm out x).1,[])
def zMs (s : List Int) (nm : List Int) : Bool := mR s && zNR nm s.length
def zShs (s : List Int) (nm : ByteArray) (N : List Nd) (O : List Int) : Int × List (List Int) :=
 if zMs s (rs nm) = true then
  (if 48 < N.length then (3,[]) else if 48 < O.length then (3,[]) else
   if (zGo (rs nm) N []).1 = 0 then (if O.all (fun k => decide (0 ≤ k ∧ k < (N.length : Int))) = true then zGo (rs nm) N [] else (23,[])) else ((zGo (rs nm) N []).1,[]))
 else (15,[])
def okN (x : Nd) : Prop := x.2.1.length ≤ 400 ∧ x.2.2.2.1.length ≤ 100000 ∧ x.2.2.2.2.2.2.size ≤ 100000
theorem zGo_len (nm : List Int) : ∀ (N : List Nd) (out : List (List Int)),(zGo nm N out).1 = 0 → (zGo nm N out).2.length = out.length + N.length
 | [],out,_ => rfl
 | x :: r,out,h => by
  rw [zGo] at h ⊢
  by_cases c : (zNd nm out x).1 = 0
  ·rw [if_pos c] at h ⊢
   rw [zGo_len nm r _ h]; simp; omega
  ·rw [if_neg c] at h; exact absurd h c
theorem graph_mesh_l0 (l : List Int) (hl : l.length ≤ 3) (nm : ByteArray) (N : List Nd) (O : List Int) : ∀ (d i : Nat) (p : Int) (n : Nat),l.length = i + d → 1 ≤ p → p ≤ 8 ^ i → d < n →
  graph_mesh.l0 n p l l.length i l nm N O = some (if (l.drop i).all okD = true then .inl (p * pd (l.drop i)) else .inr false)
 | 0,i,p,n,hi,h1,h2,hn => by
  obtain ⟨n,rfl⟩ : ∃ m,n = m + 1 := ⟨n - 1,by omega⟩
  rw [graph_mesh.l0,if_neg (by omega),List.drop_eq_nil_of_le (by omega)]
  simp [pd]
 | d + 1,i,p,n,hi,h1,h2,hn => by
  obtain ⟨n,rfl⟩ : ∃ m,n = m + 1 := ⟨n - 1,by omega⟩
  rw [graph_mesh.l0,if_pos (by omega),if_pos (by omega),Int.toNat_natCast,drop_getD (show i < l.length by omega) 0]
  generalize l.getD i 0 = x
  by_cases c1 : x < 1
  ·rw [if_pos c1]; simp [okD_iff]; omega
  by_cases c2 : 8 < x
  ·rw [if_neg c1,if_pos c2]; simp [okD_iff]; omega
  have hx : okD x = true := okD_iff.2 (by omega)
  have hm := mul_step h1 h2 (show 1 ≤ x ∧ x ≤ 8 by omega)
  have h8 := p8 (show i + 1 ≤ 3 by omega)
  rw [if_neg c1,if_neg c2,i64_id (n := p * x) (by omega) (by omega),i64_id (n := (i : Int) + 1) (by omega) (by omega)]
  have := graph_mesh_l0 l hl nm N O d (i + 1) (p * x) n (by omega) hm.1 hm.2 (by omega)
  rw [show (i : Int) + 1 = ((i + 1 : Nat) : Int) by omega,this]
  simp [hx,pd,Int.mul_assoc]
theorem graph_mesh_f (l : List Int) (nm : ByteArray) (N : List Nd) (O : List Int) (hn : nm.size ≤ 100000) (k : Nat) (hk : 200000 ≤ k) : graph_mesh.f k l nm N O = some (zMs l (rs nm)) := by
 unfold graph_mesh.f zMs
 by_cases h : 3 < (l.length : Int)
 ·rw [if_pos h]; simp [mR]; omega
 ·have := graph_mesh_l0 l (by omega) nm N O l.length 0 1 k (by omega) (by omega) (by simp) (by omega)
  rw [if_neg h,show (0 : Int) = ((0 : Nat) : Int) from rfl,this,names_Right_f nm _ (by omega) k (by omega)]
  have hl : l.length ≤ 3 := by omega
  by_cases ha : l.all okD = true
  ·simp only [List.drop_zero,ha,if_true,Option.bind_some,Sum.elim_inl,Int.one_mul]
   by_cases c : pd l ≤ 8
   ·simp [mR,hl,ha,c]
   ·simp [mR,c]
  ·simp [ha,mR]
theorem ref10_mesh_l0 (l : List Int) (nm : ByteArray) (N : List Nd) (O : List Int) : ∀ (d i : Nat) (p : Int) (n : Nat),l.length = i + d → i ≤ 3 → 1 ≤ p → p ≤ 8 ^ i → 4 < n + i →
  ref10_mesh.l0 n p l.length i l nm N O = some (if l.length ≤ 3 ∧ (l.drop i).all okD = true then .inl (p * pd (l.drop i)) else .inr false)
 | 0,i,p,n,hi,hi3,h1,h2,hn => by
  obtain ⟨n,rfl⟩ : ∃ m,n = m + 1 := ⟨n - 1,by omega⟩
  rw [ref10_mesh.l0,if_neg (by omega),List.drop_eq_nil_of_le (by omega),if_pos ⟨by omega,by simp⟩]
  simp [pd]
 | d + 1,i,p,n,hi,hi3,h1,h2,hn => by
  obtain ⟨n,rfl⟩ : ∃ m,n = m + 1 := ⟨n - 1,by omega⟩
  rw [ref10_mesh.l0,if_pos (by omega),if_pos (by omega),Int.toNat_natCast,drop_getD (show i < l.length by omega) 0]
  generalize l.getD i 0 = x
  by_cases c1 : x < 1
  ·rw [if_pos c1,if_neg (by simp [okD_iff]; omega)]
  by_cases c2 : 8 < x
  ·rw [if_neg c1,if_pos c2,if_neg (by simp [okD_iff]; omega)]
  by_cases c0 : 3 ≤ (i : Int)
  ·rw [if_neg c1,if_neg c2,if_pos c0,if_neg (by omega)]
  have hx : okD x = true := okD_iff.2 (by omega)
  have hm := mul_step h1 h2 (show 1 ≤ x ∧ x ≤ 8 by omega)
  have h8 := p8 (show i + 1 ≤ 3 by omega)
  rw [if_neg c1,if_neg c2,if_neg c0,i64_id (n := p * x) (by omega) (by omega),i64_id (n := (i : Int) + 1) (by omega) (by omega)]
  have := ref10_mesh_l0 l nm N O d (i + 1) (p * x) n (by omega) (by omega) hm.1 hm.2 (by omega)
  rw [show (i : Int) + 1 = ((i + 1 : Nat) : Int) by omega,this]
  simp [hx,pd,Int.mul_assoc]
theorem ref10_mesh_f (l : List Int) (nm : ByteArray) (N : List Nd) (O : List Int) (hn : nm.size ≤ 100000) (k : Nat) (hk : 200000 ≤ k) : ref10_mesh.f k l nm N O = some (zMs l (rs nm)) := by
 unfold ref10_mesh.f zMs
 have := ref10_mesh_l0 l nm N O l.length 0 1 k (by omega) (by omega) (by omega) (by simp) (by omega)
 rw [show ((0 : Nat) : Int) = 0 from rfl] at this
 rw [this,ref9_Right_f nm _ (by omega) k (by omega)]
 by_cases ha : l.length ≤ 3 ∧ l.all okD = true
 ·simp only [List.drop_zero,ha,if_true,Option.bind_some,Sum.elim_inl,Int.one_mul,and_self]
  by_cases c : pd l ≤ 8
  ·simp [mR,ha.1,ha.2,c]
  ·simp [mR,c]
 ·rw [List.drop_zero,if_neg ha]
  have : mR l = false := by
   cases h : mR l with
   | false => rfl
   | true => exact absurd ⟨(mR_spec h).1,(mR_spec h).2.1⟩ ha
  simp [this]
theorem graph_node_l0 (out : List (List Int)) (l : List Int) (hl : l.length ≤ 400) (g1 : List Int) (g2 : ByteArray) (g3 : List Nd) (g4 : List Int) (x1 : Int) (x2 x3 x4 : List Int) (x5 x6 : Int) (x7 : ByteArray) (n : Nat) (hn : 401 ≤ n) :
  graph_node.l0 n out l l.length 0 g1 g2 g3 g4 x1 x2 x3 x4 x5 x6 x7 [] = some (match zIn out l with | some r => .inl r | none => .inr 23) := by
 have : ∀ (e i n : Nat) (y : List (List Int)),l.length = i + e → e < n → y.length ≤ i → graph_node.l0 n out l l.length i g1 g2 g3 g4 x1 x2 x3 x4 x5 x6 x7 y = some (match zIn out (l.drop i) with | some r => .inl (y ++ r) | none => .inr 23) := by
  intro e
  induction e with
  | zero =>
   intro i n y hi hn hy
   obtain ⟨n,rfl⟩ : ∃ m,n = m + 1 := ⟨n - 1,by omega⟩
   rw [graph_node.l0,if_neg (by omega),List.drop_eq_nil_of_le (by omega),zIn]
   simp
  | succ e ih =>
   intro i n y hi hn hy
   obtain ⟨n,rfl⟩ : ∃ m,n = m + 1 := ⟨n - 1,by omega⟩
   rw [graph_node.l0,if_pos (by omega),if_pos (by omega),Int.toNat_natCast,drop_getD (show i < l.length by omega) 0,zIn]
   by_cases c1 : l.getD i 0 < 0
   ·rw [if_pos c1,if_pos (.inl c1)]
   by_cases c2 : (out.length : Int) ≤ l.getD i 0
   ·rw [if_neg c1,if_pos c2,if_pos (.inr c2)]
   rw [if_neg c1,if_neg c2,if_neg (show ¬ (l.getD i 0 < 0 ∨ (out.length : Int) ≤ l.getD i 0) by omega),if_pos (by omega),if_pos (by rw [List.length_singleton]; omega),i64_succ (show i < l.length by omega) (by omega),ih (i + 1) n _ (by omega) (by omega) (by simp; omega)]
   cases zIn out (l.drop (i + 1)) with
   | none => rfl
   | some r => simp
 have := this l.length 0 n [] (by omega) (by omega) (Nat.le_refl _)
 rw [n0,List.drop_zero] at this
 rw [this]
 cases zIn out l <;> simp
theorem graph_node_f (s : List Int) (nm : ByteArray) (N : List Nd) (O : List Int) (x : Nd) (out : List (List Int)) (hn : nm.size ≤ 100000) (hx : okN x) (k : Nat) (hk : 200000 ≤ k) :
  graph_node.f k s nm N O x.1 x.2.1 x.2.2.1 x.2.2.2.1 x.2.2.2.2.1 x.2.2.2.2.2.1 x.2.2.2.2.2.2 out = some (zNd (rs nm) out x) := by
 obtain ⟨h1,h2,h3⟩ := hx
 unfold graph_node.f zNd
 rw [graph_node_l0 out x.2.1 h1 s nm N O _ _ _ _ _ _ _ k (by omega),Option.bind_some]
 cases e : zIn out x.2.1 with
 | none => rfl
 | some l =>
  have hl := zIn_len e
  dsimp only [Sum.elim_inl]
  rw [graph_Shape_f _ _ _ _ _ _ _ l (by omega) (by omega) k (by omega),Option.bind_some]
  split
  ·rename_i c
   rw [names_Note_f _ _ _ (by omega) (by omega) k (by omega) (by omega),Option.bind_some]
  ·rfl
theorem graph_Shapes_l0 (s : List Int) (nm : ByteArray) (N : List Nd) (O : List Int) (hn : nm.size ≤ 100000) (hN : ∀ x ∈ N,okN x) (h48 : N.length ≤ 48) (k : Nat) (hk : 200000 ≤ k) : ∀ (e i n : Nat) (out : List (List Int)),N.length = i + e → e < n → out.length = i →
  graph_Shapes.l0 k n N N.length i s nm N O out = some (if (zGo (rs nm) (N.drop i) out).1 = 0 then .inl (zGo (rs nm) (N.drop i) out).2 else .inr (zGo (rs nm) (N.drop i) out).1)
 | 0,i,n,out,hi,hn',ho => by
  obtain ⟨n,rfl⟩ : ∃ m,n = m + 1 := ⟨n - 1,by omega⟩
  rw [graph_Shapes.l0,if_neg (by omega),List.drop_eq_nil_of_le (by omega),zGo,if_pos rfl]
 | e + 1,i,n,out,hi,hn',ho => by
  obtain ⟨n,rfl⟩ : ∃ m,n = m + 1 := ⟨n - 1,by omega⟩
  have hx := hN _ (getD_mem (show i < N.length by omega) nd0)
  rw [graph_Shapes.l0,if_pos (by omega),if_pos (by omega),Int.toNat_natCast,graph_node_f s nm N O (N.getD i nd0) out hn hx k hk,Option.bind_some,drop_getD (show i < N.length by omega) nd0,zGo]
  by_cases c : (zNd (rs nm) out (N.getD i nd0)).1 = 0
  ·rw [if_pos c,if_pos c,if_pos (by rw [List.length_singleton]; omega),i64_succ (show i < N.length by omega) (by omega),graph_Shapes_l0 s nm N O hn hN h48 k hk e (i + 1) n _ (by omega) (by omega) (by simp; omega)]
  ·rw [if_neg c,if_neg c,if_neg c]
theorem IndexFunc_Shapes (O : List Int) (hO : O.length ≤ 48) (out : List (List Int)) (k : Nat) (hk : 100 ≤ k) : slices_ContainsFunc_int__graph_Shapes_1.f k O out = some (!O.all (fun x => decide (0 ≤ x ∧ x < (out.length : Int)))) := by
  have := iter0 (L := fun n i (_ : Unit) => slices_IndexFunc_int__graph_Shapes_1.l0 n O O.length i out) (st := fun _=>()) (fun i => if (O.drop i).all (fun x => decide (0 ≤ x ∧ x < (out.length : Int))) = true then .inl () else .inr ((i + ((O.drop i).takeWhile (fun x => decide (0 ≤ x ∧ x < (out.length : Int)))).length : Nat) : Int)) (m := O.length) 0
    (fun n _ => by rw [slices_IndexFunc_int__graph_Shapes_1.l0,if_neg (by omega),List.drop_eq_nil_of_le (Nat.le_refl _)]; rfl)
    (fun i n hi _ ih => by
      have e1 : graph_Shapes_1.f (O.getD i 0) out = some (!decide (0 ≤ O.getD i 0 ∧ O.getD i 0 < (out.length : Int))) := by
        unfold graph_Shapes_1.f
        by_cases c : O.getD i 0 < 0
        · rw [if_pos c,decide_eq_false (by omega)]; rfl
        · rw [if_neg c]
          by_cases c2 : (out.length : Int) ≤ O.getD i 0
          · rw [decide_eq_true c2,decide_eq_false (by omega)]; rfl
          · rw [decide_eq_false c2,decide_eq_true (by omega)]; rfl
      rw [slices_IndexFunc_int__graph_Shapes_1.l0,if_pos (by omega),if_pos (by omega),Int.toNat_natCast,e1,Option.bind_some,drop_getD hi (0 : Int),List.all_cons,List.takeWhile_cons]
      cases c : decide (0 ≤ O.getD i 0 ∧ O.getD i 0 < (out.length : Int))
      · rw [if_pos (show (!false) = true from rfl),Bool.false_and,if_neg Bool.false_ne_true,if_neg Bool.false_ne_true]; rfl
      · rw [if_neg (show ¬ (!true) = true from Bool.false_ne_true),i64_succ hi (by omega),ih,Bool.true_and,if_pos rfl,List.length_cons,Nat.add_assoc i 1,Nat.add_comm 1]) k (by omega)
  rw [List.drop_zero] at this
  unfold slices_ContainsFunc_int__graph_Shapes_1.f slices_IndexFunc_int__graph_Shapes_1.f
  rw [this,Option.bind_some]
  cases c : O.all (fun x => decide (0 ≤ x ∧ x < (out.length : Int)))
  · rw [if_neg (by decide),Sum.elim_inr,Option.bind_some,decide_eq_true (by omega)]; rfl
  · rw [if_pos rfl,Sum.elim_inl,Option.bind_some]; rfl
theorem graph_Shapes_f (s : List Int) (nm : ByteArray) (N : List Nd) (O : List Int) (hn : nm.size ≤ 100000) (hN : ∀ x ∈ N,okN x) (k : Nat) (hk : 200000 ≤ k) : graph_Shapes.f k s nm N O = some (zShs s nm N O) := by
 unfold graph_Shapes.f zShs
 rw [graph_mesh_f s nm N O hn k hk,Option.bind_some]
 by_cases c1 : zMs s (rs nm) = true
 rotate_left
 ·rw [if_neg c1,if_neg c1]
 rw [if_pos c1,if_pos c1]
 by_cases c2 : 48 < N.length
 ·rw [if_pos (by omega),if_pos c2]
 by_cases c3 : 48 < O.length
 ·rw [if_neg (by omega),if_pos (by omega),if_neg c2,if_pos c3]
 have h0 := graph_Shapes_l0 s nm N O hn hN (by omega) k hk N.length 0 k [] (by omega) (by omega) rfl
 rw [n0,List.drop_zero] at h0
 rw [if_neg (by omega),if_neg (by omega),if_neg c2,if_neg c3,h0,Option.bind_some]
 by_cases c4 : (zGo (rs nm) N []).1 = 0
 ·have hlen := zGo_len _ N [] c4
  rw [List.length_nil,Nat.zero_add] at hlen
  rw [if_pos c4,if_pos c4,Sum.elim_inl,IndexFunc_Shapes O (by omega) _ k (by omega),Option.bind_some,hlen]
  cases c5 : O.all (fun x => decide (0 ≤ x ∧ x < (N.length : Int)))
  ·rfl
  ·rw [if_neg (show ¬ (!true) = true from Bool.false_ne_true),if_pos rfl,← c4]
 ·rw [if_neg c4,if_neg c4]; rfl
theorem graph_Right_f (s : List Int) (nm : ByteArray) (N : List Nd) (O : List Int) (hn : nm.size ≤ 100000) (hN : ∀ x ∈ N,okN x) (k : Nat) (hk : 200000 ≤ k) : graph_Right.f k s nm N O = some (zShs s nm N O).1 := by
 unfold graph_Right.f
 rw [graph_Shapes_f s nm N O hn hN k hk,Option.bind_some]
end Go.Pf

namespace Go.Pf
open Go Go.Vm
theorem zSh_R {op : Int} {s a : List Int} {n h : Int} {l : List (List Int)} (e : (zSh op s a n h l).1 = 0) : mSR (zSh op s a n h l).2 = true := by
 unfold zSh at e ⊢
 by_cases hF : zF op s.length a.length n h l.length = true
 rotate_left
 ·rw [if_neg hF] at e; simp at e
 rw [if_pos hF] at e ⊢
 by_cases hA : l.all mSR = true
 rotate_left
 ·rw [if_neg hA] at e; simp at e
 rw [if_pos hA] at e ⊢
 have hR : ∀ j,j < l.length → mSR (l.getD j []) = true := fun j hj => List.all_eq_true.1 hA _ (getD_mem hj _)
 have m0 := zF_len hF
 have t : ∀ {p : Prop} [Decidable p] {x y : Int × List Int},(p → x.1 = 0 → mSR x.2 = true) → (¬ p → y.1 = 0 → mSR y.2 = true) → (if p then x else y).1 = 0 → mSR (if p then x else y).2 = true := fun hx hy => by
  split
  ·rename_i h; exact hx h
  ·rename_i h; exact hy h
 have w : ∀ {x : Int} {p : Prop},x ≠ 0 → p → ((x,[]) : Int × List Int).1 = 0 → mSR ((x,[]) : Int × List Int).2 = true := fun h _ hh => absurd hh h
 have z : ∀ {x : List Int} {p : Prop},(p → mSR x = true) → p → ((0,x) : Int × List Int).1 = 0 → mSR ((0,x) : Int × List Int).2 = true := fun h hp _ => h hp
 revert e
 unfold zShape
 refine t (fun _=>t (z id) (w (by decide))) fun _=>t (fun _=>t (fun hs => t (z fun _=>hs) (w (by decide))) (w (by decide))) fun _=>t (fun ho => t (z fun h => pick_R (hR 0 (by omega)) (isPerm_iff.1 h)) (w (by decide))) fun _=>t (fun _=>t (fun hs => t (z fun _=>hs) (w (by decide))) (w (by decide))) fun _ =>
  t (fun ho => t (z fun h => zSl_R (hR 0 (by omega)) h.2) (w (by decide))) fun _=>t (fun _=>t (fun _=>t (z id) (w (by decide))) (w (by decide))) fun _=>t (fun _=>t (fun _ e => zJs_R e) (w (by decide))) fun _=>t (fun _=>t (fun _=>t (fun _=>t (z id) (w (by decide))) (w (by decide))) (w (by decide))) fun _ =>
  t (fun _=>t (fun _ e => by have := zDS_ok e; rw [this.1]; exact this.2.1) (w (by decide))) fun _=>t (fun ho => t (z fun h => wsh_R (hR 0 (by omega)) (by omega) _ _) (w (by decide))) fun _=>t (z fun _=>hR 0 (by omega)) (w (by decide))
theorem keep_same_f (S : List (List Int)) (s : List Int) (hS : S.length ≤ 100) (hb : ∀ x ∈ S,x.length ≤ 4) (k : Nat) (hk : 5000 ≤ k) : ∃ l,keep_same.f k S s = some l ∧ l.length ≤ 100 ∧ (∀ x ∈ l,0 ≤ x ∧ x < (S.length : Int)) ∧ (s ∈ S → 0 < l.length) := by
  have : ∀ (e i n : Nat) (y : List Int),S.length = i + e → e < n → y.length ≤ i → (∀ x ∈ y,0 ≤ x ∧ x < (S.length : Int)) → ∃ l,keep_same.l0 k n S s S.length i y = some l ∧ l.length ≤ S.length ∧ (∀ x ∈ l,0 ≤ x ∧ x < (S.length : Int)) ∧ (s ∈ S.drop i ∨ 0 < y.length → 0 < l.length) := by
    intro e
    induction e with
    | zero =>
      intro i n y hi hn hy hx
      obtain ⟨n,rfl⟩ : ∃ m,n = m + 1 := ⟨n - 1,by omega⟩
      rw [keep_same.l0,if_neg (by omega),List.drop_eq_nil_of_le (by omega)]
      exact ⟨y,rfl,by omega,hx,fun h => by
        rcases h with h | h
        · cases h
        · exact h⟩
    | succ e ih =>
      intro i n y hi hn hy hx
      obtain ⟨n,rfl⟩ : ∃ m,n = m + 1 := ⟨n - 1,by omega⟩
      have h4 := hb _ (getD_mem (show i < S.length by omega) [])
      rw [keep_same.l0,if_pos (by omega),if_pos (by omega),Int.toNat_natCast,ref1_Ints_f _ _ (by omega) k (by omega),Option.bind_some,i64_succ (show i < S.length by omega) (by omega),drop_getD (show i < S.length by omega) ([] : List Int)]
      by_cases c : S.getD i [] = s
      · rw [decide_eq_true c,if_pos rfl,if_pos (by rw [List.length_singleton]; omega)]
        obtain ⟨l,e1,e2,e3,e4⟩ := ih (i + 1) n (y ++ [(i : Int)]) (by omega) (by omega) (by simp; omega) (fun x h => by
          rcases List.mem_append.1 h with h | h
          · exact hx x h
          · rw [List.mem_singleton] at h; omega)
        exact ⟨l,e1,e2,e3,fun _=>e4 (.inr (by simp))⟩
      · rw [decide_eq_false c,if_neg Bool.false_ne_true]
        obtain ⟨l,e1,e2,e3,e4⟩ := ih (i + 1) n y (by omega) (by omega) (by omega) hx
        exact ⟨l,e1,e2,e3,fun h => e4 (by
          rcases h with h | h
          · rcases List.mem_cons.1 h with h | h
            · exact absurd h.symm c
            · exact .inl h
          · exact .inr h)⟩
  obtain ⟨l,e1,e2,e3,e4⟩ := this S.length 0 k [] (by omega) (by omega) (Nat.le_refl _) (fun x h => by cases h)
  rw [n0] at e1
  refine ⟨l,?_,by omega,e3,fun h => e4 (.inl (by rw [List.drop_zero]; exact h))⟩
  unfold keep_same.f
  rw [e1,Option.bind_some]
structure Tp (L : List Int) : Prop where
 len : L.length ≤ 17592186044415
 wf : ∀ x ∈ L,-9223372036854775808 ≤ x ∧ x < 9223372036854775808
theorem Tp.next {L : List Int} (T : Tp L) (n : Int) (hn : 1 ≤ n) (p : Int) (h0 : 0 ≤ p) (hp : p ≤ 17592186000000) : ∃ r q,keep_Tape_Next.f n L p = some (r,q) ∧ 0 ≤ r ∧ r < n ∧ 0 ≤ q ∧ q ≤ p + 1 := by
 obtain ⟨r,q,e,r0,r1,q0,_,_,q1⟩ := tape_Next n L T.len T.wf p h0 (by omega) hn
 exact ⟨r,q,e,r0,r1,q0,q1⟩
theorem node_l0 {L : List Int} (T : Tp L) (x7 : Int) (m : Nat) (hm : m ≤ 4) (z1 z2 z3 : Int) (z4 : ByteArray) (M : Int) (hM : M ≤ 17592185000000) : ∀ (e i : Nat) (p : Int) (y : List Int) (n : Nat),m = i + e → e < n → 0 ≤ p → p ≤ M - e → y.length = i →
  ∃ q l,keep_Tape_node.l0 n x7 m i L p z1 z2 z3 z4 y = some (q,l) ∧ l.length = m ∧ 0 ≤ q ∧ q ≤ p + e
 | 0,i,p,y,n,hi,hn,h0,hp,hy => by
  obtain ⟨n,rfl⟩ : ∃ q,n = q + 1 := ⟨n - 1,by omega⟩
  rw [keep_Tape_node.l0,if_neg (by omega)]
  exact ⟨p,y,rfl,by omega,h0,by omega⟩
 | e + 1,i,p,y,n,hi,hn,h0,hp,hy => by
  obtain ⟨n,rfl⟩ : ∃ q,n = q + 1 := ⟨n - 1,by omega⟩
  obtain ⟨r,q,e1,r0,r1,q0,q1⟩ := T.next ((i : Int) + 1) (by omega) p h0 (by omega)
  have ht : (y.take r.toNat).length = r.toNat := by rw [List.length_take]; omega
  have hd : (y.drop r.toNat).length = y.length - r.toNat := List.length_drop ..
  rw [keep_Tape_node.l0,if_pos (by omega),i64_succ (show i < m by omega) (by omega),show ((i + 1 : Nat) : Int) = (i : Int) + 1 by omega,e1,Option.bind_some]
  dsimp only
  rw [List.drop_zero,List.take_length,List.nil_append,if_pos (by omega),if_pos (by omega),if_pos (by rw [List.length_singleton]; omega),if_pos (by omega),if_pos (by rw [List.length_append,List.length_singleton]; omega)]
  obtain ⟨q',l,g1,g2,g3,g4⟩ := node_l0 T x7 m hm z1 z2 z3 z4 M hM e (i + 1) q ((y.take r.toNat ++ [(i : Int)]) ++ y.drop r.toNat) n (by omega) (by omega) q0 (by omega) (by rw [List.length_append,List.length_append,List.length_singleton]; omega)
  exact ⟨q',l,g1,g2,g3,by omega⟩
theorem node_l1 (x7 x14 : Int) (m : Nat) (hm : m ≤ 10) (L : List Int) (p z1 z2 z3 : Int) (z4 : ByteArray) (o : List Int) : ∀ (e i : Nat) (y : List Int) (n : Nat),m = i + e → e < n → y.length ≤ i →
  ∃ l,keep_Tape_node.l1 n x7 x14 m i L p z1 z2 z3 z4 o y = some l ∧ l.length ≤ m
 | 0,i,y,n,hi,hn,hy => by
  obtain ⟨n,rfl⟩ : ∃ q,n = q + 1 := ⟨n - 1,by omega⟩
  rw [keep_Tape_node.l1,if_neg (by omega)]
  exact ⟨y,rfl,by omega⟩
 | e + 1,i,y,n,hi,hn,hy => by
  obtain ⟨n,rfl⟩ : ∃ q,n = q + 1 := ⟨n - 1,by omega⟩
  rw [keep_Tape_node.l1,if_pos (by omega),i64_succ (show i < m by omega) (by omega)]
  by_cases c : (i : Int) = x14
  ·rw [if_pos c]
   exact node_l1 x7 x14 m hm L p z1 z2 z3 z4 o e (i + 1) y n (by omega) (by omega) (by omega)
  ·rw [if_neg c,if_pos (by rw [List.length_singleton]; omega)]
   exact node_l1 x7 x14 m hm L p z1 z2 z3 z4 o e (i + 1) _ n (by omega) (by omega) (by rw [List.length_append,List.length_singleton]; omega)
theorem node_l2 {L : List Int} (T : Tp L) (x7 : Int) (s : List Int) (hs : s.length ≤ 4) (hb : ∀ x ∈ s,0 ≤ x ∧ x ≤ 32) (z1 z2 z3 : Int) (z4 : ByteArray) (M : Int) (hM : M ≤ 17592185000000) : ∀ (e i : Nat) (p : Int) (y z : List Int) (n : Nat),s.length = i + e → e < n → 0 ≤ p → p ≤ M - 2 * e → y.length = i → z.length = i →
  ∃ q l r,keep_Tape_node.l2 n x7 s s.length i L p z1 z2 z3 z4 y z = some (q,l,r) ∧ l.length = s.length ∧ r.length = s.length ∧ 0 ≤ q ∧ q ≤ p + 2 * e
 | 0,i,p,y,z,n,hi,hn,h0,hp,hy,hz => by
  obtain ⟨n,rfl⟩ : ∃ q,n = q + 1 := ⟨n - 1,by omega⟩
  rw [keep_Tape_node.l2,if_neg (by omega)]
  exact ⟨p,y,z,rfl,by omega,by omega,h0,by omega⟩
 | e + 1,i,p,y,z,n,hi,hn,h0,hp,hy,hz => by
  obtain ⟨n,rfl⟩ : ∃ q,n = q + 1 := ⟨n - 1,by omega⟩
  have hx := hb _ (getD_mem (show i < s.length by omega) 0)
  rw [keep_Tape_node.l2,if_pos (by omega),if_pos (by omega),Int.toNat_natCast,i64_succ (show i < s.length by omega) (by omega)]
  generalize s.getD i 0 = x at hx
  obtain ⟨r,q,e1,r0,r1,q0,q1⟩ := T.next (x + 1) (by omega) p h0 (by omega)
  obtain ⟨r',q',e2,r0',r1',q0',q1'⟩ := T.next (x - r + 1) (by omega) q q0 (by omega)
  rw [i64_id (n := x + 1) (by omega) (by omega),e1,Option.bind_some,if_pos (by rw [List.length_singleton]; omega)]
  dsimp only
  rw [i64_id (n := x - r) (by omega) (by omega),i64_id (n := x - r + 1) (by omega) (by omega),e2,Option.bind_some,if_pos (by rw [List.length_singleton]; omega)]
  obtain ⟨q'',l,l',g1,g2,g3,g4,g5⟩ := node_l2 T x7 s hs hb z1 z2 z3 z4 M hM e (i + 1) q' (y ++ [r]) (z ++ [r']) n (by omega) (by omega) q0' (by omega) (by simp; omega) (by simp; omega)
  exact ⟨q'',l,l',g1,g2,g3,g4,by omega⟩
theorem node_l3 {L : List Int} (T : Tp L) (x7 : Int) (m : Nat) (hm : m ≤ 4) (z1 z2 z3 : Int) (z4 : ByteArray) (M : Int) (hM : M ≤ 17592185000000) : ∀ (e i : Nat) (p : Int) (y z : List Int) (n : Nat),m = i + e → e < n → 0 ≤ p → p ≤ M - 2 * e → y.length = i → z.length = i →
  ∃ q l r,keep_Tape_node.l3 n x7 m i L p z1 z2 z3 z4 y z = some (q,l,r) ∧ l.length = m ∧ r.length = m ∧ 0 ≤ q ∧ q ≤ p + 2 * e
 | 0,i,p,y,z,n,hi,hn,h0,hp,hy,hz => by
  obtain ⟨n,rfl⟩ : ∃ q,n = q + 1 := ⟨n - 1,by omega⟩
  rw [keep_Tape_node.l3,if_neg (by omega)]
  exact ⟨p,y,z,rfl,by omega,by omega,h0,by omega⟩
 | e + 1,i,p,y,z,n,hi,hn,h0,hp,hy,hz => by
  obtain ⟨n,rfl⟩ : ∃ q,n = q + 1 := ⟨n - 1,by omega⟩
  obtain ⟨r,q,e1,r0,r1,q0,q1⟩ := T.next 3 (by omega) p h0 (by omega)
  obtain ⟨r',q',e2,r0',r1',q0',q1'⟩ := T.next 3 (by omega) q q0 (by omega)
  rw [keep_Tape_node.l3,if_pos (by omega),i64_succ (show i < m by omega) (by omega),e1,Option.bind_some,if_pos (by rw [List.length_singleton]; omega)]
  dsimp only
  rw [e2,Option.bind_some,if_pos (by rw [List.length_singleton]; omega)]
  obtain ⟨q'',l,l',g1,g2,g3,g4,g5⟩ := node_l3 T x7 m hm z1 z2 z3 z4 M hM e (i + 1) q' (y ++ [r]) (z ++ [r']) n (by omega) (by omega) q0' (by omega) (by simp; omega) (by simp; omega)
  exact ⟨q'',l,l',g1,g2,g3,g4,by omega⟩
theorem node_l4 {L : List Int} (T : Tp L) (x7 : Int) (m : Nat) (hm : m ≤ 4) (z1 z2 z3 : Int) (z4 : ByteArray) (M : Int) (hM : M ≤ 17592185000000) : ∀ (e i : Nat) (p : Int) (y : List Int) (n : Nat),m = i + e → e < n → 0 ≤ p → p ≤ M - e → y.length ≤ i →
  ∃ q l,keep_Tape_node.l4 n x7 m i L p z1 z2 z3 z4 y = some (q,l) ∧ l.length ≤ m ∧ 0 ≤ q ∧ q ≤ p + e
 | 0,i,p,y,n,hi,hn,h0,hp,hy => by
  obtain ⟨n,rfl⟩ : ∃ q,n = q + 1 := ⟨n - 1,by omega⟩
  rw [keep_Tape_node.l4,if_neg (by omega)]
  exact ⟨p,y,rfl,by omega,h0,by omega⟩
 | e + 1,i,p,y,n,hi,hn,h0,hp,hy => by
  obtain ⟨n,rfl⟩ : ∃ q,n = q + 1 := ⟨n - 1,by omega⟩
  obtain ⟨r,q,e1,r0,r1,q0,q1⟩ := T.next 2 (by omega) p h0 (by omega)
  rw [keep_Tape_node.l4,if_pos (by omega),i64_succ (show i < m by omega) (by omega),e1,Option.bind_some]
  dsimp only
  by_cases c : r = 0
  ·rw [if_pos c,if_pos (by rw [List.length_singleton]; omega)]
   obtain ⟨q',l,g1,g2,g3,g4⟩ := node_l4 T x7 m hm z1 z2 z3 z4 M hM e (i + 1) q (y ++ [(i : Int)]) n (by omega) (by omega) q0 (by omega) (by simp; omega)
   exact ⟨q',l,g1,g2,g3,by omega⟩
  ·rw [if_neg c]
   obtain ⟨q',l,g1,g2,g3,g4⟩ := node_l4 T x7 m hm z1 z2 z3 z4 M hM e (i + 1) q y n (by omega) (by omega) q0 (by omega) (by omega)
   exact ⟨q',l,g1,g2,g3,by omega⟩
theorem tape_dot {L : List Int} (T : Tp L) (S : List (List Int)) (hS : S.length ≤ 100) (a : Int) (ha0 : 0 ≤ a) (ha : a < (S.length : Int)) (p : Int) (h0 : 0 ≤ p) (hp : p ≤ 17592184000000) (k : Nat) (hk : 50000 ≤ k) :
  ∃ op n h q i A,keep_Tape_dot.f k S a L p = some (op,n,h,ByteArray.empty,q,i,A) ∧ 0 ≤ q ∧ q ≤ p + 100 ∧ i.length ≤ 3 ∧ A.length ≤ 100 ∧ (∀ x ∈ i,0 ≤ x ∧ x < (S.length : Int)) := by
 have l1 : ∀ (x8 x9 : Int) (_ : 0 ≤ x9 ∧ x9 < (S.length : Int)) (y0 : List Int) (y1 z1 z2 z3 : Int) (z4 : ByteArray) (s : List Int) (n : Nat) (hn : 3 ≤ n),∃ u,keep_Tape_dot.l1 k n S a s x8 x9 0 y0 y1 z1 z2 z3 z4 = some u ∧ (u = .inl () ∨ ∃ A : List Int,u = .inr (19,0,0,ByteArray.empty,[a,x9],A) ∧ A.length ≤ 1) := by
  intro x8 x9 h9 y0 y1 z1 z2 z3 z4 s n hn
  have step : ∀ (e : Nat) (i : Int) (n : Nat),i + e = 2 → e < n → 0 ≤ i → ∃ u,keep_Tape_dot.l1 k n S a s x8 x9 i y0 y1 z1 z2 z3 z4 = some u ∧ (u = .inl () ∨ ∃ A : List Int,u = .inr (19,0,0,ByteArray.empty,[a,x9],A) ∧ A.length ≤ 1) := by
   intro e
   induction e with
   | zero =>
    intro i n hi hn h0
    obtain ⟨n,rfl⟩ : ∃ q,n = q + 1 := ⟨n - 1,by omega⟩
    rw [keep_Tape_dot.l1,if_neg (by omega)]
    exact ⟨_,rfl,.inl rfl⟩
   | succ e ih =>
    intro i n hi hn h0
    obtain ⟨n,rfl⟩ : ∃ q,n = q + 1 := ⟨n - 1,by omega⟩
    rw [keep_Tape_dot.l1,if_pos (by omega),if_pos (by omega),ref10_Shape_f _ _ _ _ _ _ _ _ (by simp) (by simp) k (by simp; omega),Option.bind_some,i64_id (n := i + 1) (by omega) (by omega)]
    have nx := ih (i + 1) n (by omega) (by omega) (by omega)
    split
    ·rename_i c
     rw [ref1_Size_f _ k (by omega),Option.bind_some]
     split
     ·exact ⟨_,rfl,.inr ⟨_,rfl,by simp⟩⟩
     ·exact nx
    ·exact nx
  exact step 2 0 n (by omega) (by omega) (by omega)
 have l0 : ∀ (s : List Int) (z1 z2 z3 : Int) (z4 : ByteArray) (M : Int) (_ : M ≤ 17592185000000) (e i : Nat) (p : Int) (n : Nat),S.length = i + e → e + 5 < n → 0 ≤ p → p ≤ M - e →
   ∃ u,keep_Tape_dot.l0 k n S a s i L p z1 z2 z3 z4 = some u ∧ ((∃ q,u = .inl q ∧ 0 ≤ q ∧ q ≤ p + e) ∨ ∃ q x9 A,u = .inr (q,19,0,0,ByteArray.empty,[a,x9],A) ∧ 0 ≤ q ∧ q ≤ p + e ∧ A.length ≤ 1 ∧ 0 ≤ x9 ∧ x9 < (S.length : Int)) := by
  intro s z1 z2 z3 z4 M hM e
  induction e with
  | zero =>
   intro i p n hi hn h0 hp
   obtain ⟨n,rfl⟩ : ∃ q,n = q + 1 := ⟨n - 1,by omega⟩
   rw [keep_Tape_dot.l0,if_neg (by omega)]
   exact ⟨_,rfl,.inl ⟨p,rfl,h0,by omega⟩⟩
  | succ e ih =>
   intro i p n hi hn h0 hp
   obtain ⟨n,rfl⟩ : ∃ q,n = q + 1 := ⟨n - 1,by omega⟩
   obtain ⟨r,q,e1,r0,r1,q0,q1⟩ := T.next 3 (by omega) p h0 (by omega)
   have hm : (IntKind.i64.wrap ((i : Int) + r)).tmod (S.length : Int) = ((i : Int) + r) % (S.length : Int) := by
    rw [i64_id (n := (i : Int) + r) (by omega) (by omega),Int.tmod_eq_emod_of_nonneg (by omega)]
   have hx9 : 0 ≤ (IntKind.i64.wrap ((i : Int) + r)).tmod (S.length : Int) ∧ (IntKind.i64.wrap ((i : Int) + r)).tmod (S.length : Int) < (S.length : Int) := by
    rw [hm]
    exact ⟨Int.emod_nonneg _ (by omega),Int.emod_lt_of_pos _ (by omega)⟩
   obtain ⟨u,g1,g2⟩ := l1 i _ hx9 L q z1 z2 z3 z4 s n (by omega)
   rw [keep_Tape_dot.l0,if_pos (by omega),e1,Option.bind_some,if_pos (by omega)]
   dsimp only
   rw [g1,Option.bind_some,i64_succ (show i < S.length by omega) (by omega)]
   rcases g2 with rfl | ⟨A,rfl,hA⟩
   ·obtain ⟨u,f1,f2⟩ := ih (i + 1) q n (by omega) (by omega) q0 (by omega)
    refine ⟨u,f1,?_⟩
    rcases f2 with ⟨q',a1,a2,a3⟩ | ⟨q',x9,A,a1,a2,a3,a4⟩
    ·exact .inl ⟨q',a1,a2,by omega⟩
    ·exact .inr ⟨q',x9,A,a1,a2,by omega,a4⟩
   ·exact ⟨_,rfl,.inr ⟨q,_,A,rfl,q0,by omega,hA,hx9⟩⟩
 obtain ⟨u,f1,f2⟩ := l0 (S.getD a.toNat []) 0 0 0 ByteArray.empty (p + S.length) (by omega) S.length 0 p k (by omega) (by omega) h0 (by omega)
 rw [n0] at f1
 unfold keep_Tape_dot.f
 rw [if_pos ⟨ha0,ha⟩,f1,Option.bind_some]
 rcases f2 with ⟨q',rfl,a2,a3⟩ | ⟨q',x9,A,rfl,a2,a3,a4,a5⟩
 ·exact ⟨5,0,0,q',[a],[],rfl,a2,by omega,by simp,by simp,fun x h => by rw [List.mem_singleton] at h; omega⟩
 ·exact ⟨19,0,0,q',[a,x9],A,rfl,a2,by omega,by simp,by omega,fun x h => by
   rcases List.mem_cons.1 h with h | h
   ·omega
   ·rw [List.mem_singleton] at h; omega⟩
def nodeG (k : Nat) (o0_0 : List Int) (o0_1 : Int) : Option (Int × (List Int) × (List Int) × Int × Int × ByteArray × Int × (List Int)) := (keep_Tape_Next.f 4 o0_0 o0_1).bind fun t1 => if t1.1 = 0 then ((keep_Tape_Shape.f k o0_0 t1.2).bind fun t2 => (keep_Tape_Number.f o0_0 t2.1).bind fun t3 => some (2,[],t2.2,t3.1,0,ByteArray.empty,t3.2,[])) else if t1.1 = 1 then ((keep_Tape_Shape.f k o0_0 t1.2).bind fun t4 => if ([3] : List Int).length + t4.2.length ≤ 281474976710656 ∧ (([3] : List Int).length + t4.2.length) * 8 ≤ 140737488355328 then if 3 < ((([3] : List Int) ++ t4.2).length : Int) then (if 0 ≤ ((0 : Nat) : Int) ∧ ((0 : Nat) : Int) ≤ 3 ∧ 3 ≤ ((([3] : List Int) ++ t4.2).length : Int) then (keep_Tape_Next.f ((3 - 0 : Nat) : Int) o0_0 t4.1).bind fun t5 => some (3,[],((([3] : List Int) ++ t4.2).take 3).drop 0,0,0,ByteArray.empty,t5.2,[t5.1]) else none) else (keep_Tape_Next.f ((([3] : List Int) ++ t4.2).length : Int) o0_0 t4.1).bind fun t6 => some (3,[],([3] : List Int) ++ t4.2,0,0,ByteArray.empty,t6.2,[t6.1]) else none) else (keep_Tape_Shape.f k o0_0 t1.2).bind fun t7 => some (1,[],t7.2,0,0,ByteArray.empty,t7.1,[])
def NodeOK (S : List (List Int)) (M : Int) (o : Option (Int × (List Int) × (List Int) × Int × Int × ByteArray × Int × (List Int))) : Prop :=
 ∃ op i s n h q a,o = some (op,i,s,n,h,ByteArray.empty,q,a) ∧ 0 ≤ q ∧ q ≤ M ∧ i.length ≤ 3 ∧ a.length ≤ 100 ∧ s.length ≤ 10 ∧ (∀ x ∈ i,0 ≤ x ∧ x < (S.length : Int))
theorem node_G {L : List Int} (T : Tp L) (S : List (List Int)) (p : Int) (h0 : 0 ≤ p) (hp : p ≤ 17592184000000) (k : Nat) (hk : 50000 ≤ k) : NodeOK S (p + 100) (nodeG k L p) := by
 have fin : ∀ {op n h q : Int} {s a : List Int},0 ≤ q → q ≤ p + 100 → s.length ≤ 10 → a.length ≤ 100 → NodeOK S (p + 100) (some (op,[],s,n,h,ByteArray.empty,q,a)) := fun h1 h2 h3 h4 => ⟨_,_,_,_,_,_,_,rfl,h1,h2,by simp,h4,h3,fun x h => by cases h⟩
 unfold nodeG
 obtain ⟨r,q,e1,r0,r1,q0,q1⟩ := T.next 4 (by omega) p h0 (by omega)
 obtain ⟨q',s,e2,s1,s2,s3,s4⟩ := tape_Shape L T.len T.wf q q0 (by omega) k (by omega)
 rw [e1,Option.bind_some]
 dsimp only
 rw [e2,Option.bind_some,Option.bind_some]
 by_cases c1 : r = 0
 ·obtain ⟨m,q2,e3,m1,m2⟩ := tape_Number L T.len T.wf q' s3 (by omega)
  rw [if_pos c1]
  dsimp only
  rw [e3,Option.bind_some]
  exact fin m1 (by dsimp only; omega) (by omega) (by simp)
 by_cases c2 : r = 1
 ·rw [if_neg c1,if_pos c2]
  dsimp only
  have hl : (([3] : List Int) ++ s).length = s.length + 1 := by simp
  rw [if_pos (by rw [List.length_singleton]; omega)]
  by_cases c3 : 3 < ((([3] : List Int) ++ s).length : Int)
  ·obtain ⟨v,q2,e3,v0,v1,v2,v3⟩ := T.next 3 (by omega) q' s3 (by omega)
   rw [if_pos c3,if_pos (by omega),show ((3 - 0 : Nat) : Int) = 3 from rfl,e3,Option.bind_some]
   exact fin v2 (by dsimp only; omega) (by rw [List.drop_zero,List.length_take]; omega) (by simp)
  ·obtain ⟨v,q2,e3,v0,v1,v2,v3⟩ := T.next (([3] : List Int) ++ s).length (by omega) q' s3 (by omega)
   rw [if_neg c3,e3,Option.bind_some]
   exact fin v2 (by dsimp only; omega) (by omega) (by simp)
 rw [if_neg c1,if_neg c2]
 exact fin s3 (by omega) (by dsimp only; omega) (by simp)
set_option maxHeartbeats 1000000 in
theorem tape_node {L : List Int} (T : Tp L) (S : List (List Int)) (hS : S.length ≤ 100) (hb : ∀ s ∈ S,s.length ≤ 4 ∧ ∀ x ∈ s,0 ≤ x ∧ x ≤ 32) (p : Int) (h0 : 0 ≤ p) (hp : p ≤ 17592183000000) (k : Nat) (hk : 50000 ≤ k) : NodeOK S (p + 200) (keep_Tape_node.f k S L p) := by
 unfold keep_Tape_node.f
 by_cases c0 : (S.length : Int) = 0
 ·rw [if_pos c0]
  obtain ⟨op,i,s,n,h,q',a,g1,g2,g3,g4⟩ := node_G T S p h0 (by omega) k hk
  exact ⟨op,i,s,n,h,q',a,g1,g2,by omega,g4⟩
 rw [if_neg c0]
 obtain ⟨r,q,e1,r0,r1,q0,q1⟩ := T.next 5 (by omega) p h0 (by omega)
 rw [e1,Option.bind_some]
 dsimp only
 by_cases c1 : r = 0
 ·rw [if_pos c1]
  have hz := node_G T S q q0 (by omega) k hk
  obtain ⟨op,i,s,n,h,q',a,g1,g2,g3,g4⟩ := hz
  unfold nodeG at g1
  exact ⟨op,i,s,n,h,q',a,g1,g2,by omega,g4⟩
 rw [if_neg c1]
 obtain ⟨a,q2,e2,a0,a1,b0,b1⟩ := T.next S.length (by omega) q q0 (by omega)
 rw [e2,Option.bind_some,if_pos ⟨a0,a1⟩]
 obtain ⟨z,q3,e3,z0,z1,d0,d1⟩ := T.next 12 (by omega) q2 b0 (by omega)
 have hs := hb _ (getD_mem (show a.toNat < S.length by omega) [])
 have hmem : S.getD a.toNat [] ∈ S := getD_mem (show a.toNat < S.length by omega) []
 dsimp only
 rw [e3,Option.bind_some]
 dsimp only
 generalize S.getD a.toNat [] = s at hs hmem
 obtain ⟨hs4,hs32⟩ := hs
 obtain ⟨sl,es,sl1,sl2,sl3⟩ := keep_same_f S s hS (fun x h => (hb x h).1) k (by omega)
 have sl3 := sl3 hmem
 have slm : ∀ j : Int,0 ≤ j → j < (sl.length : Int) → 0 ≤ sl.getD j.toNat 0 ∧ sl.getD j.toNat 0 < (S.length : Int) := fun j h0 h1 => sl2 _ (getD_mem (by omega) 0)
 have fin : ∀ {op n h q : Int} {i s a : List Int},0 ≤ q → q ≤ p + 200 → i.length ≤ 3 → (∀ x ∈ i,0 ≤ x ∧ x < (S.length : Int)) → s.length ≤ 10 → a.length ≤ 100 → NodeOK S (p + 200) (some (op,i,s,n,h,ByteArray.empty,q,a)) := fun h1 h2 h5 h6 h3 h4 => ⟨_,_,_,_,_,_,_,rfl,h1,h2,h5,h4,h3,h6⟩
 have one : ∀ x ∈ [a],0 ≤ x ∧ x < (S.length : Int) := fun x h => by rw [List.mem_singleton] at h; omega
 have two : ∀ {b : Int},(0 ≤ b ∧ b < (S.length : Int)) → ∀ x ∈ [a,b],0 ≤ x ∧ x < (S.length : Int) := fun hb x h => by
  rcases List.mem_cons.1 h with h | h
  ·omega
  ·rw [List.mem_singleton] at h; omega
 have three : ∀ {b c : Int},(0 ≤ b ∧ b < (S.length : Int)) → (0 ≤ c ∧ c < (S.length : Int)) → ∀ x ∈ [a,b,c],0 ≤ x ∧ x < (S.length : Int) := fun hb hc x h => by
  rcases List.mem_cons.1 h with h | h
  ·omega
  rcases List.mem_cons.1 h with h | h
  ·omega
  ·rw [List.mem_singleton] at h; omega
 by_cases k0 : z = 0
 ·obtain ⟨t,q4,e4,t0,t1,f0,f1⟩ := T.next 2 (by omega) q3 d0 (by omega)
  rw [if_pos k0,e4,Option.bind_some]
  exact fin f0 (by dsimp only; omega) (by simp) one (by simp) (by simp)
 rw [if_neg k0]
 have two' : ∀ (_ : z = 1 ∨ z = 2),NodeOK S (p + 200) ((keep_same.f k S s).bind fun t19 => (keep_Tape_Next.f 6 L q3).bind fun t20 => (keep_Tape_Next.f (t19.length : Int) L t20.2).bind fun t21 => if 0 ≤ t21.1 ∧ t21.1 < (t19.length : Int) then if t21.1.toNat < t19.length then some (IntKind.i64.wrap (6 + t20.1),[a,t19.getD t21.1.toNat 0],[],0,0,ByteArray.empty,t21.2,[]) else none else none) := fun _=>by
  obtain ⟨t,q4,e4,t0,t1,f0,f1⟩ := T.next 6 (by omega) q3 d0 (by omega)
  obtain ⟨u,q5,e5,u0,u1,f0',f1'⟩ := T.next sl.length (by omega) q4 f0 (by omega)
  rw [es,Option.bind_some,e4,Option.bind_some]
  dsimp only
  rw [e5,Option.bind_some,if_pos ⟨u0,u1⟩,if_pos (by dsimp only; omega)]
  exact fin f0' (by dsimp only; omega) (by simp) (two (slm _ u0 u1)) (by simp) (by simp)
 by_cases k1 : z = 1
 ·rw [if_pos k1]; exact two' (.inl k1)
 rw [if_neg k1]
 by_cases k2 : z = 2
 ·rw [if_pos k2]; exact two' (.inr k2)
 rw [if_neg k2]
 by_cases k3 : z = 3
 ·rw [if_pos k3,es,Option.bind_some]
  obtain ⟨t,q4,e4,t0,t1,f0,f1⟩ := T.next sl.length (by omega) q3 d0 (by omega)
  obtain ⟨u,q5,e5,u0,u1,f0',f1'⟩ := T.next sl.length (by omega) q4 f0 (by omega)
  rw [e4,Option.bind_some,if_pos ⟨t0,t1⟩,if_pos (by dsimp only; omega)]
  dsimp only
  rw [e5,Option.bind_some,if_pos ⟨u0,u1⟩,if_pos (by dsimp only; omega)]
  exact fin f0' (by dsimp only; omega) (by simp) (three (slm _ t0 t1) (slm _ u0 u1)) (by simp) (by simp)
 rw [if_neg k3]
 by_cases k4 : z = 4
 ·obtain ⟨q4,l,g1,g2,g3,g4⟩ := node_l0 T a s.length hs4 0 0 0 ByteArray.empty (q3 + s.length) (by omega) s.length 0 q3 [] k (by omega) (by omega) d0 (by omega) rfl
  rw [n0] at g1
  rw [if_pos k4,g1,Option.bind_some]
  exact fin g3 (by dsimp only; omega) (by simp) one (by simp) (by dsimp only; omega)
 rw [if_neg k4]
 by_cases k5 : z = 5
 ·rw [if_pos k5]
  by_cases c : 2 < (s.length : Int)
  ·rw [if_pos c]
   exact fin d0 (by omega) (by simp) one (by simp) (by simp)
  obtain ⟨t,q4,e4,t0,t1,f0,f1⟩ := T.next ((s.length : Int) + 1) (by omega) q3 d0 (by omega)
  obtain ⟨u,q5,e5,u0,u1,f0',f1'⟩ := T.next 4 (by omega) q4 f0 (by omega)
  have hA : (s.take t.toNat ++ [IntKind.i64.wrap (1 + u)] ++ s.drop t.toNat).length = s.length + 1 := by
   rw [List.length_append,List.length_append,List.length_singleton,List.length_take,List.length_drop]; omega
  obtain ⟨l,g1,g2⟩ := node_l1 a t (s.take t.toNat ++ [IntKind.i64.wrap (1 + u)] ++ s.drop t.toNat).length (by omega) L q5 0 0 0 ByteArray.empty (s.take t.toNat ++ [IntKind.i64.wrap (1 + u)] ++ s.drop t.toNat) _ 0 [] k (Nat.zero_add _).symm (by omega) (Nat.le_refl _)
  rw [n0] at g1
  rw [if_neg c,i64_id (n := (s.length : Int) + 1) (by omega) (by omega),e4,Option.bind_some]
  dsimp only
  rw [List.drop_zero,List.take_length,List.nil_append,if_pos (by omega),if_pos (by rw [List.length_take]; omega),e5,Option.bind_some]
  dsimp only
  rw [if_pos (by rw [List.length_singleton,List.length_take]; omega),if_pos (by omega),if_pos (by rw [List.length_append,List.length_singleton,List.length_take,List.length_drop]; omega),g1,Option.bind_some]
  exact fin f0' (by omega) (by simp) one (by omega) (by omega)
 rw [if_neg k5]
 by_cases k6 : z = 6
 ·obtain ⟨q4,l,l',g1,g2,g3,g4,g5⟩ := node_l2 T a s hs4 hs32 0 0 0 ByteArray.empty (q3 + 2 * s.length) (by omega) s.length 0 q3 [] [] k (by omega) (by omega) d0 (by omega) rfl rfl
  rw [n0] at g1
  rw [if_pos k6,g1,Option.bind_some,if_pos (by dsimp only; omega)]
  exact fin g4 (by dsimp only; omega) (by simp) one (by simp) (by dsimp only; rw [List.length_append]; omega)
 rw [if_neg k6]
 by_cases k7 : z = 7
 ·obtain ⟨q4,l,l',g1,g2,g3,g4,g5⟩ := node_l3 T a s.length hs4 0 0 0 ByteArray.empty (q3 + 2 * s.length) (by omega) s.length 0 q3 [] [] k (by omega) (by omega) d0 (by omega) rfl rfl
  obtain ⟨m,q5,e5,m1,m2⟩ := tape_Number L T.len T.wf q4 g4 (by omega)
  rw [n0] at g1
  rw [if_pos k7,g1,Option.bind_some,if_pos (by dsimp only; omega)]
  dsimp only
  rw [e5,Option.bind_some]
  exact fin m1 (by dsimp only; omega) (by simp) one (by simp) (by rw [List.length_append]; omega)
 rw [if_neg k7]
 by_cases k8 : z = 8
 ·rw [if_pos k8,es,Option.bind_some]
  by_cases c : (s.length : Int) = 0
  ·rw [if_pos c]
   exact fin d0 (by omega) (by simp) one (by simp) (by simp)
  obtain ⟨t,q4,e4,t0,t1,f0,f1⟩ := T.next sl.length (by omega) q3 d0 (by omega)
  obtain ⟨u,q5,e5,u0,u1,f0',f1'⟩ := T.next 2 (by omega) q4 f0 (by omega)
  obtain ⟨v,q6,e6,v0,v1,f0'',f1''⟩ := T.next s.length (by omega) q5 f0' (by omega)
  rw [if_neg c,e4,Option.bind_some,if_pos ⟨t0,t1⟩,if_pos (by dsimp only; omega)]
  dsimp only
  rw [e5,Option.bind_some]
  dsimp only
  rw [i64_id (n := 2 + u) (by omega) (by omega),if_pos ⟨by omega,by omega,by simp; omega⟩,e6,Option.bind_some]
  have h3 := three (slm _ t0 t1) (show 0 ≤ a ∧ a < (S.length : Int) from ⟨a0,a1⟩)
  exact fin f0'' (by dsimp only; omega) (by rw [List.drop_zero,List.length_take]; simp; omega) (fun x h => h3 x (by rw [List.drop_zero] at h; exact List.mem_of_mem_take h)) (by simp) (by simp)
 rw [if_neg k8]
 by_cases k9 : z = 9
 ·obtain ⟨q4,l,g1,g2,g3,g4⟩ := node_l4 T a s.length hs4 0 0 0 ByteArray.empty (q3 + s.length) (by omega) s.length 0 q3 [] k (by omega) (by omega) d0 (by omega) (Nat.le_refl _)
  obtain ⟨u,q5,e5,u0,u1,f0',f1'⟩ := T.next 4 (by omega) q4 g3 (by omega)
  rw [n0] at g1
  rw [if_pos k9,g1,Option.bind_some]
  dsimp only
  rw [e5,Option.bind_some]
  exact fin f0' (by dsimp only; omega) (by simp) one (by simp) (by omega)
 rw [if_neg k9]
 by_cases k10 : z = 10
 ·obtain ⟨op,n,h,q4,i,A,g1,g2,g3,g4,g5,g6⟩ := tape_dot T S hS a a0 a1 q3 d0 (by omega) k hk
  rw [if_pos k10,g1,Option.bind_some]
  exact fin g2 (by dsimp only; omega) g4 g6 (by simp) g5
 rw [if_neg k10]
 by_cases c : (s.length : Int) = 0
 ·rw [if_pos c]
  exact fin d0 (by omega) (by simp) one (by simp) (by simp)
 obtain ⟨t,q4,e4,t0,t1,f0,f1⟩ := T.next s.length (by omega) q3 d0 (by omega)
 obtain ⟨u,q5,e5,u0,u1,f0',f1'⟩ := T.next 3 (by omega) q4 f0 (by omega)
 obtain ⟨v,q6,e6,v0,v1,f2,f3⟩ := T.next 2 (by omega) q5 f0' (by omega)
 obtain ⟨w,q7,e7,w0,w1,f4,f5⟩ := T.next 4 (by omega) q6 f2 (by omega)
 rw [if_neg c,e4,Option.bind_some]
 dsimp only
 rw [e5,Option.bind_some]
 dsimp only
 rw [e6,Option.bind_some]
 dsimp only
 rw [e7,Option.bind_some]
 exact fin f4 (by dsimp only; omega) (by simp) one (by simp) (by simp)
end Go.Pf

namespace Go.Pf
open Go Go.Vm
theorem nR_spec {l : List Int} : ∀ (e i : Nat),nR l e i = true → ∀ j,i ≤ j → j < i + e → nmay (l.getD j 0) = true ∧ l.getD j 0 ∉ l.take j
 | 0,i,_,j,h1,h2 => by omega
 | e + 1,i,h,j,h1,h2 => by
  rw [nR,Bool.and_eq_true,Bool.and_eq_true,Bool.not_eq_true',decide_eq_false_iff_not] at h
  by_cases c : j = i
  ·subst c; exact h.1
  ·exact nR_spec e (i + 1) h.2 j (by omega) (by omega)
theorem zNR_spec {l : List Int} {n : Int} (h : zNR l n = true) : ((l.length : Int) = n ∧ n ≤ 3) ∧ ∀ j,j < l.length → nmay (l.getD j 0) = true ∧ l.getD j 0 ∉ l.take j := by
 unfold zNR at h
 rw [Bool.and_eq_true,decide_eq_true_eq] at h
 exact ⟨h.1,fun j hj => nR_spec l.length 0 h.2 j (by omega) (by omega)⟩
theorem fnd_nm {l : List Int} {n : Int} (h : zNR l n = true) {j : Nat} (hj : j < l.length) : fnd l (l.getD j 0) = (j : Int) := by
 obtain ⟨_,hs⟩ := zNR_spec h
 have tk : ∀ i j : Nat,i < j → j < l.length → l.getD i 0 ∈ l.take j := fun i j hij hj => by
  have : (l.take j).getD i 0 = l.getD i 0 := by
   rw [List.getD_eq_getElem?_getD,List.getElem?_take,if_pos hij,List.getD_eq_getElem?_getD]
  rw [← this]
  exact getD_mem (by rw [List.length_take]; omega) _
 rcases fnd_spec l (l.getD j 0) with ⟨h1,h2⟩ | ⟨i,h1,h2,h3,h4⟩
 ·exact absurd (getD_mem hj _) h2
 ·rw [h1]
  rcases Nat.lt_trichotomy i j with c | c | c
  ·exact absurd (by rw [← h3]; exact tk i j c hj) (hs j hj).2
  ·rw [c]
  ·exact absurd (tk j i c h2) h4
def zTx (nm : List Int) (k : Int) : Int := if k < 0 ∨ (nm.length : Int) ≤ k then 46 else nm.getD k.toNat 0
theorem enc_size : ∀ l : List Int,(enc l).size ≤ 4 * l.length
 | [] => Nat.le_refl _
 | r :: l => by
  have h := enc_size l
  have : (Utf8.encode r).size ≤ 4 := by
   unfold Utf8.encode
   dsimp only
   generalize (if Utf8.valid r = true then r.toNat else Utf8.runeError) = c
   by_cases c1 : c < 128
   ·rw [if_pos c1]; show 1 ≤ 4; omega
   by_cases c2 : c < 2048
   ·rw [if_neg c1,if_pos c2]; show 2 ≤ 4; omega
   by_cases c3 : c < 65536
   ·rw [if_neg c1,if_neg c2,if_pos c3]; show 3 ≤ 4; omega
   ·rw [if_neg c1,if_neg c2,if_neg c3]; exact Nat.le_refl _
  rw [enc,BA_size_app,List.length_cons]; omega
theorem enc_dot : Utf8.encode 46 = ByteArray.mk #[46] := rfl
theorem enc_snoc (l : List Int) (r : Int) : enc (l ++ [r]) = enc l ++ Utf8.encode r := by
 rw [enc_app,enc,enc,BA_empty']
theorem ref9_Text_f (nm : ByteArray) (hn : nm.size ≤ 100000) (sp : List Int) (hs : sp.length ≤ 1000) (k : Nat) (hk : 200000 ≤ k) : ref9_Text.f k nm sp = some (enc (sp.map (zTx (rs nm)))) := by
 unfold ref9_Text.f
 rw [ref9_Runes_f nm (by omega) k (by omega),Option.bind_some]
 generalize rs nm = l
 have := iter0 (L := fun n i y => ref9_Text.l0 n sp y sp.length i l) (st := fun i => enc ((sp.take i).map (zTx l))) (fun _=>enc (sp.map (zTx l))) (m := sp.length) 0
  (fun n _ => by rw [ref9_Text.l0,if_neg (by omega),List.take_length])
  (fun i n hi _ ih => by
   have hz := enc_size ((sp.take i).map (zTx l))
   have hz2 := enc_size [zTx l (sp.getD i 0)]
   rw [enc,enc,BA_empty',List.length_singleton] at hz2
   rw [List.length_map,List.length_take] at hz
   rw [take_snoc hi,List.map_append,List.map_cons,List.map_nil,enc_snoc] at ih
   rw [ref9_Text.l0,if_pos (by omega),if_pos (by omega),Int.toNat_natCast,i64_succ hi (by omega)]
   by_cases c1 : sp.getD i 0 < 0
   ·have e : zTx l (sp.getD i 0) = 46 := if_pos (.inl c1)
    rw [e,enc_dot] at ih hz2
    rw [if_pos c1,if_pos (by omega),ih]
   by_cases c2 : (l.length : Int) ≤ sp.getD i 0
   ·have e : zTx l (sp.getD i 0) = 46 := if_pos (.inr c2)
    rw [e,enc_dot] at ih hz2
    rw [if_neg c1,if_pos c2,if_pos (by omega),ih]
   ·have e : zTx l (sp.getD i 0) = l.getD (sp.getD i 0).toNat 0 := if_neg (by omega)
    rw [e] at ih hz2
    rw [if_neg c1,if_neg c2,if_pos (by omega),if_pos (by omega),if_pos (by omega),ih]) k (by omega)
 have e0 : enc ((sp.take 0).map (zTx l)) = ByteArray.empty := by rw [List.take_zero,List.map_nil,enc]
 rw [e0] at this
 rw [this,Option.bind_some]
theorem okGo_cons {m : Int} {pre : List Int} {k : Int} {r : List Int} (h : okGo m pre (k :: r) = true) : (-1 ≤ k ∧ k < m) ∧ (k = -1 ∨ k ∉ pre) ∧ okGo m (pre ++ [k]) r = true := by
 simp only [okGo,Bool.and_eq_true,Bool.or_eq_true,decide_eq_true_eq,Bool.not_eq_true',decide_eq_false_iff_not] at h
 exact ⟨h.1.1,h.1.2,h.2⟩
theorem zNl_text {nm : List Int} {n : Int} (h : zNR nm n = true) : ∀ (sp y : List Int),okGo nm.length y sp = true → zNl nm (sp.map (zTx nm)) y = some (y ++ sp)
 | [],y,_ => by rw [List.map_nil,zNl,List.append_nil]
 | k :: r,y,ho => by
  obtain ⟨h1,h2,h3⟩ := okGo_cons ho
  have ih := zNl_text h r (y ++ [k]) h3
  rw [List.map_cons,zNl]
  by_cases c : k < 0
  ·have e : zTx nm k = 46 := if_pos (.inl c)
   have : k = -1 := by omega
   subst this
   rw [e,if_neg (by decide),if_pos rfl,ih,List.append_assoc]; rfl
  ·have e : zTx nm k = nm.getD k.toNat 0 := if_neg (by omega)
   have hk : k.toNat < nm.length := by omega
   have hm := of_decide_eq_true ((zNR_spec h).2 _ hk).1
   rw [e,if_neg (by omega),if_neg (by omega),fnd_nm h hk,show ((k.toNat : Nat) : Int) = k by omega,if_neg (by rintro (h | h); exact c h; exact (h2.resolve_left (by omega)) h),ih,List.append_assoc]; rfl
theorem zTx_valid {nm : List Int} (hv : ∀ r ∈ nm,Utf8.valid r = true) (k : Int) : Utf8.valid (zTx nm k) = true := by
 unfold zTx
 split
 ·rfl
 ·exact hv _ (getD_mem (by omega) 0)
theorem note_text {nm : List Int} {n : Int} (h : zNR nm n = true) (hv : ∀ r ∈ nm,Utf8.valid r = true) {sp : List Int} (ho : okGo nm.length [] sp = true) (hl : sp.length ≤ 16) : (zNote nm (rs (enc (sp.map (zTx nm)))) sp.length).2.1 = 0 := by
 rw [rs_enc (fun r hr => by
  obtain ⟨k,_,rfl⟩ := List.mem_map.1 hr
  exact zTx_valid hv k)]
 unfold zNote
 rw [List.length_map,if_neg (by omega),zNl_text h sp [] ho,List.nil_append]
 dsimp only
 by_cases c : sp.length = 0
 ·rw [if_pos c]
 ·rw [if_neg c,if_pos rfl]
theorem note_empty (nm : List Int) (rank : Int) : (zNote nm (rs ByteArray.empty) rank).2.1 = 0 := rfl
structure MeshOK (nm : ByteArray) (s : List Int) : Prop where
 size : nm.size ≤ 10
 ms : zMs s (rs nm) = true
 val : ∀ r ∈ rs nm,Utf8.valid r = true
theorem MeshOK.mk' {nm : ByteArray} {s l : List Int} (h1 : nm.size ≤ 10) (h2 : nm = enc l) (h3 : l.all Utf8.valid = true) (h4 : zMs s l = true) : MeshOK nm s := by
 have hv : ∀ r ∈ l,Utf8.valid r = true := List.all_eq_true.1 h3
 have e : rs nm = l := by rw [h2,rs_enc hv]
 exact ⟨h1,by rw [e]; exact h4,by rw [e]; exact hv⟩
theorem MeshOK.right {nm : ByteArray} {s : List Int} (h : MeshOK nm s) : mR s = true ∧ zNR (rs nm) s.length = true ∧ (rs nm).length = s.length := by
 have := h.ms
 unfold zMs at this
 rw [Bool.and_eq_true] at this
 exact ⟨this.1,this.2,by have := (zNR_spec this.2).1.1; omega⟩
theorem mesh_x : (ByteArray.mk #[120]) = enc [120] := rfl
theorem mesh_y : (ByteArray.mk #[121,195,169]) = enc [121,233] := by decide
theorem mesh_z : (ByteArray.mk #[97,98,228,184,150]) = enc [97,98,19990] := by decide
end Go.Pf

namespace Go.Pf
open Go Go.Vm
theorem tape_mesh {L : List Int} (T : Tp L) : ∃ nm q s,keep_Tape_mesh.f L 0 = some (nm,q,s) ∧ 0 ≤ q ∧ q ≤ 1 ∧ MeshOK nm s := by
 obtain ⟨r,q,e,r0,r1,q0,q1⟩ := T.next 10 (by omega) 0 (by omega) (by omega)
 have m0 : MeshOK ByteArray.empty [] := MeshOK.mk' (l := []) (by decide) rfl rfl rfl
 have m1 : ∀ s : List Int,zMs s [120] = true → MeshOK (ByteArray.mk #[120]) s := fun s h => MeshOK.mk' (by decide) mesh_x (by decide) h
 have m2 : ∀ s : List Int,zMs s [121,233] = true → MeshOK (ByteArray.mk #[121,195,169]) s := fun s h => MeshOK.mk' (by decide) mesh_y (by decide) h
 have m3 : ∀ s : List Int,zMs s [97,98,19990] = true → MeshOK (ByteArray.mk #[97,98,228,184,150]) s := fun s h => MeshOK.mk' (by decide) mesh_z (by decide) h
 unfold keep_Tape_mesh.f
 rw [e,Option.bind_some]
 have : r = 0 ∨ r = 1 ∨ r = 2 ∨ r = 3 ∨ r = 4 ∨ r = 5 ∨ r = 6 ∨ r = 7 ∨ r = 8 ∨ r = 9 := by omega
 rcases this with rfl | rfl | rfl | rfl | rfl | rfl | rfl | rfl | rfl | rfl
 ·exact ⟨_,q,[2],rfl,q0,by omega,m1 _ (by decide)⟩
 ·exact ⟨_,q,[3],rfl,q0,by omega,m1 _ (by decide)⟩
 ·exact ⟨_,q,[2,2],rfl,q0,by omega,m2 _ (by decide)⟩
 ·exact ⟨_,q,[4],rfl,q0,by omega,m1 _ (by decide)⟩
 ·exact ⟨_,q,[2,3],rfl,q0,by omega,m2 _ (by decide)⟩
 ·exact ⟨_,q,[],rfl,q0,by omega,m0⟩
 ·exact ⟨_,q,[2,2,2],rfl,q0,by omega,m3 _ (by decide)⟩
 ·exact ⟨_,q,[5],rfl,q0,by omega,m1 _ (by decide)⟩
 ·exact ⟨_,q,[1,3],rfl,q0,by omega,m2 _ (by decide)⟩
 ·exact ⟨_,q,[8],rfl,q0,by omega,m1 _ (by decide)⟩
theorem zIn_some {out : List (List Int)} : ∀ {l : List Int},(∀ x ∈ l,0 ≤ x ∧ x < (out.length : Int)) → zIn out l = some (l.map fun x => out.getD x.toNat [])
 | [],_ => rfl
 | x :: l,h => by
  have := h x (List.mem_cons_self ..)
  rw [zIn,if_neg (by omega),zIn_some fun y hy => h y (List.mem_cons_of_mem _ hy)]; rfl
theorem graph_l1 (i : List Int) (hi : i.length ≤ 10) (S : List (List Int)) (h : ∀ x ∈ i,0 ≤ x ∧ x < (S.length : Int)) (x6 : Int) (y0 : ByteArray) (L : List Int) (p : Int) (y2 : ByteArray) (z1 : Int) (z2 z3 : List Int) (z4 z5 : Int) (z6 : ByteArray) (y6 : List Int) (y7 : List Nd) (y8 : List Int) (n : Nat) (hn : 11 ≤ n) :
  keep_Graph.l1 n x6 i i.length 0 y0 L p y2 S z1 z2 z3 z4 z5 z6 [] y6 y7 y8 = some (i.map fun x => S.getD x.toNat []) := by
 have := iter0 (L := fun n j y => keep_Graph.l1 n x6 i i.length j y0 L p y2 S z1 z2 z3 z4 z5 z6 y y6 y7 y8) (st := fun j => (i.take j).map fun x => S.getD x.toNat []) (fun _=>i.map fun x => S.getD x.toNat []) (m := i.length) 0
  (fun n _ => by rw [keep_Graph.l1,if_neg (by omega),List.take_length])
  (fun j n hj _ ih => by
   have hx := h _ (getD_mem hj 0)
   rw [take_snoc hj,List.map_append,List.map_cons,List.map_nil] at ih
   rw [keep_Graph.l1,if_pos (by omega),if_pos (by omega),Int.toNat_natCast,if_pos hx,if_pos (by omega),if_pos (by rw [List.length_map,List.length_take,List.length_singleton]; omega),i64_succ hj (by omega),ih]) n (by omega)
 rw [List.take_zero,List.map_nil] at this
 exact this
theorem zGo_snoc (nm : List Int) (x : Nd) : ∀ (N : List Nd) (o : List (List Int)),(zGo nm N o).1 = 0 → zGo nm (N ++ [x]) o = if (zNd nm (zGo nm N o).2 x).1 = 0 then (0,(zGo nm N o).2 ++ [(zNd nm (zGo nm N o).2 x).2]) else ((zNd nm (zGo nm N o).2 x).1,[])
 | [],o,_ => by
  rw [List.nil_append,zGo,zGo,zGo]
 | y :: N,o,h => by
  rw [zGo] at h
  rw [List.cons_append,zGo,zGo]
  by_cases c : (zNd nm o y).1 = 0
  ·rw [if_pos c] at h
   rw [if_pos c,if_pos c]
   exact zGo_snoc nm x N _ h
  ·rw [if_neg c] at h
   exact absurd h c
def tiN (x : Nd) : Prop := x.2.1.length ≤ 300 ∧ x.2.2.1.length ≤ 300 ∧ x.2.2.2.1.length ≤ 300 ∧ x.2.2.2.2.2.2.size ≤ 300
structure GrOK (nm : List Int) (S : List (List Int)) (N : List Nd) : Prop where
 go : zGo nm N [] = (0,S)
 ti : ∀ x ∈ N,tiN x
 sm : ∀ s ∈ S,mSR s = true
theorem GrOK.ok {nm : List Int} {S : List (List Int)} {N : List Nd} (h : GrOK nm S N) : ∀ x ∈ N,okN x := fun x hx => by
 obtain ⟨h1,h2,h3,h4⟩ := h.ti x hx
 exact ⟨by omega,by omega,by omega⟩
theorem GrOK.len {nm : List Int} {S : List (List Int)} {N : List Nd} (h : GrOK nm S N) : S.length = N.length := by
 have := zGo_len nm N [] (by rw [h.go])
 rw [h.go] at this
 simpa using this
theorem GrOK.snoc {nm : List Int} {S : List (List Int)} {N : List Nd} (h : GrOK nm S N) {x : Nd} {s : List Int} (hx : zNd nm S x = (0,s)) (ho : tiN x) (hs : mSR s = true) : GrOK nm (S ++ [s]) (N ++ [x]) where
 go := by
  rw [zGo_snoc nm x N [] (by rw [h.go]),h.go]
  dsimp only
  rw [hx,if_pos rfl]
 ti := fun y hy => by
  rcases List.mem_append.1 hy with hy | hy
  ·exact h.ti y hy
  ·rw [List.mem_singleton] at hy; rw [hy]; exact ho
 sm := fun y hy => by
  rcases List.mem_append.1 hy with hy | hy
  ·exact h.sm y hy
  ·rw [List.mem_singleton] at hy; rw [hy]; exact hs
theorem graph_l0 {L : List Int} (T : Tp L) {nm : ByteArray} {sz : List Int} (hm : MeshOK nm sz) (y0 : ByteArray) (k : Nat) (hk : 300000 ≤ k) (M : Int) (hM : M ≤ 17592182000000) : ∀ (e : Nat) (p : Int) (S : List (List Int)) (N : List Nd) (n : Nat),e + 100 < n → 0 ≤ p → p ≤ M - 300 * e → S.length + e ≤ 10 → GrOK (rs nm) S N →
  ∃ q S' N',keep_Graph.l0 k n e y0 L p nm S sz N = some (q,S',N') ∧ GrOK (rs nm) S' N' ∧ 0 ≤ q ∧ q ≤ M ∧ S'.length ≤ 10
 | 0,p,S,N,n,hn,h0,hp,hS,hG => by
  obtain ⟨n,rfl⟩ : ∃ q,n = q + 1 := ⟨n - 1,by omega⟩
  rw [keep_Graph.l0,if_neg (by omega)]
  exact ⟨p,S,N,rfl,hG,h0,by omega,by omega⟩
 | e + 1,p,S,N,n,hn,h0,hp,hS,hG => by
  obtain ⟨n,rfl⟩ : ∃ q,n = q + 1 := ⟨n - 1,by omega⟩
  have ih := fun p S N h0 hp hS hG => graph_l0 T hm y0 k hk M hM e p S N n (by omega) h0 hp hS hG
  obtain ⟨hmR,hzR,hln⟩ := hm.right
  have hlen := hG.len
  obtain ⟨op,i,s,v,h,q,a,e1,q0,q1,hi,ha,hs,hx⟩ := tape_node T S (by omega) (fun s hs => by have := mSR_spec (hG.sm s hs); exact ⟨this.1,this.2.1⟩) p h0 (by omega) k (by omega)
  rw [keep_Graph.l0,if_pos (by omega),e1,Option.bind_some]
  dsimp only
  rw [graph_l1 i (by omega) S hx _ _ _ _ _ _ _ _ _ _ _ _ _ _ n (by omega),Option.bind_some,ref10_Shape_f _ _ _ _ _ _ _ _ (by rw [List.length_map]; omega) (by omega) k (by omega),Option.bind_some,show IntKind.i64.wrap (((e + 1 : Nat) : Int) - 1) = (e : Int) by rw [i64_id (by omega) (by omega)]; omega]
  have hzN : ∀ nt : ByteArray,zNd (rs nm) S (op,(i,(s,(a,(v,(h,nt)))))) = if (zSh op s a v h (i.map fun x => S.getD x.toNat [])).1 = 0 then ((zNote (rs nm) (rs nt) (zSh op s a v h (i.map fun x => S.getD x.toNat [])).2.length).2.1,(zSh op s a v h (i.map fun x => S.getD x.toNat [])).2) else ((zSh op s a v h (i.map fun x => S.getD x.toNat [])).1,[]) := fun nt => by
   unfold zNd
   dsimp only
   rw [zIn_some hx]
  generalize hz : zSh op s a v h (i.map fun x => S.getD x.toNat []) = z at hzN
  by_cases c : z.1 = 0
  rotate_left
  ·rw [if_neg c]
   exact ih q S N q0 (by omega) (by omega) hG
  have hR : mSR z.2 = true := by rw [← hz]; exact zSh_R (by rw [hz]; exact c)
  have hb := mSR_spec hR
  rw [if_pos c,ref1_Size_f _ k (by omega),Option.bind_some]
  by_cases c2 : 400 < zSz z.2
  ·rw [if_pos c2]
   exact ih q S N q0 (by omega) (by omega) hG
  obtain ⟨w,q2,e2,w0,w1,f0,f1⟩ := T.next 3 (by omega) q q0 (by omega)
  rw [if_neg c2,e2,Option.bind_some]
  dsimp only
  by_cases c3 : w = 0
  ·obtain ⟨q3,sp,e3,p1,p2,p3,p4⟩ := tape_Spec sz (by have := (mR_spec hmR).1; omega) L T.len T.wf z.2.length (by omega) (by omega) q2 f0 (by omega) k (by omega)
   rw [if_pos c3,e3,Option.bind_some]
   dsimp only
   have hsz := hm.size
   rw [ref9_Text_f nm (by omega) sp (by omega) k (by omega),Option.bind_some,if_pos (by rw [List.length_singleton]; omega),if_pos (by rw [List.length_singleton]; omega)]
   have hx := hzN (enc (sp.map (zTx (rs nm))))
   have he := enc_size (sp.map (zTx (rs nm)))
   rw [List.length_map] at he
   rw [if_pos c,← p1,note_text hzR hm.val (by rw [hln]; exact p2) (by omega)] at hx
   exact ih q3 (S ++ [z.2]) _ p3 (by omega) (by rw [List.length_append,List.length_singleton]; omega) (hG.snoc hx ⟨by dsimp only; omega,by dsimp only; omega,by dsimp only; omega,by dsimp only; omega⟩ hR)
  ·rw [if_neg c3,if_pos (by rw [List.length_singleton]; omega),if_pos (by rw [List.length_singleton]; omega)]
   have hx := hzN ByteArray.empty
   rw [if_pos c,note_empty] at hx
   exact ih q2 (S ++ [z.2]) _ f0 (by omega) (by rw [List.length_append,List.length_singleton]; omega) (hG.snoc hx ⟨by dsimp only; omega,by dsimp only; omega,by dsimp only; omega,show ByteArray.empty.size ≤ 300 by decide⟩ hR)
theorem graph_l2 {L : List Int} (T : Tp L) (S : List (List Int)) (hS : S.length ≤ 10) (y0 y2 : ByteArray) (y4 : List Int) (y5 : List Nd) (M : Int) (hM : M ≤ 17592182000000) : ∀ (e : Nat) (p : Int) (O : List Int) (n : Nat),e < n → 0 ≤ p → p ≤ M - 2 * e → O.length + e ≤ 10 → (∀ x ∈ O,0 ≤ x ∧ x < (S.length : Int)) →
  ∃ O',keep_Graph.l2 n e y0 L p y2 S y4 y5 O = some O' ∧ O'.length ≤ 10 ∧ ∀ x ∈ O',0 ≤ x ∧ x < (S.length : Int)
 | 0,p,O,n,hn,h0,hp,hO,hx => by
  obtain ⟨n,rfl⟩ : ∃ q,n = q + 1 := ⟨n - 1,by omega⟩
  rw [keep_Graph.l2,if_neg (by omega)]
  exact ⟨O,rfl,by omega,hx⟩
 | e + 1,p,O,n,hn,h0,hp,hO,hx => by
  obtain ⟨n,rfl⟩ : ∃ q,n = q + 1 := ⟨n - 1,by omega⟩
  rw [keep_Graph.l2,if_pos (by omega),show IntKind.i64.wrap (((e + 1 : Nat) : Int) - 1) = (e : Int) by rw [i64_id (by omega) (by omega)]; omega]
  by_cases c : 0 < (S.length : Int)
  rotate_left
  ·rw [if_neg c]
   exact ⟨O,rfl,by omega,hx⟩
  obtain ⟨a,q,e1,a0,a1,q0,q1⟩ := T.next S.length (by omega) p h0 (by omega)
  obtain ⟨b,q2,e2,b0,b1,f0,f1⟩ := T.next 2 (by omega) q q0 (by omega)
  rw [if_pos c,e1,Option.bind_some]
  dsimp only
  rw [e2,Option.bind_some,i64_id (n := (S.length : Int) - 1) (by omega) (by omega)]
  dsimp only
  rw [if_pos ⟨b0,by simp; omega⟩,if_pos (by simp; omega),if_pos (by rw [List.length_singleton]; omega)]
  have hb : 0 ≤ [(S.length : Int) - 1,a].getD b.toNat 0 ∧ [(S.length : Int) - 1,a].getD b.toNat 0 < (S.length : Int) := by
   have : b = 0 ∨ b = 1 := by omega
   rcases this with rfl | rfl
   ·show 0 ≤ (S.length : Int) - 1 ∧ (S.length : Int) - 1 < S.length; omega
   ·exact ⟨a0,a1⟩
  exact graph_l2 T S hS y0 y2 y4 y5 M hM e q2 _ n (by omega) f0 (by omega) (by rw [List.length_append,List.length_singleton]; omega) (fun x h => by
   rcases List.mem_append.1 h with h | h
   ·exact hx x h
   ·rw [List.mem_singleton] at h; rw [h]; exact hb)
theorem tape_Graph {L : List Int} (T : Tp L) (k : Nat) (hk : 300000 ≤ k) : ∃ nm sz N O S,keep_Graph.f k L = some (nm,sz,N,O) ∧ MeshOK nm sz ∧ GrOK (rs nm) S N ∧ N.length ≤ 10 ∧ O.length ≤ 10 ∧ ∀ x ∈ O,0 ≤ x ∧ x < (N.length : Int) := by
 obtain ⟨nm,q,sz,e1,q0,q1,hm⟩ := tape_mesh T
 obtain ⟨r,q2,e2,r0,r1,f0,f1⟩ := T.next 9 (by omega) q q0 (by omega)
 obtain ⟨q3,S,N,e3,hG,g0,g1,hS⟩ := graph_l0 T hm ByteArray.empty k hk 10000 (by omega) (1 + r).toNat q2 [] [] k (by omega) f0 (by omega) (by simp; omega) ⟨rfl,(fun x h => by cases h),(fun x h => by cases h)⟩
 obtain ⟨w,q4,e4,w0,w1,h0,h1⟩ := T.next 3 (by omega) q3 g0 (by omega)
 have hlen := hG.len
 obtain ⟨O,e5,o1,o2⟩ := graph_l2 T S hS ByteArray.empty nm sz N 20000 (by omega) (1 + w).toNat q4 [] k (by omega) h0 (by omega) (by simp; omega) (fun x h => by cases h)
 refine ⟨nm,sz,N,O,S,?_,hm,hG,by omega,o1,by rw [← hlen]; exact o2⟩
 unfold keep_Graph.f
 rw [e1,Option.bind_some]
 dsimp only
 rw [e2,Option.bind_some]
 dsimp only
 rw [i64_id (n := 1 + r) (by omega) (by omega),show (1 + r : Int) = (((1 + r).toNat : Nat) : Int) by omega,e3,Option.bind_some]
 dsimp only
 rw [e4,Option.bind_some]
 dsimp only
 rw [i64_id (n := 1 + w) (by omega) (by omega),show (1 + w : Int) = (((1 + w).toNat : Nat) : Int) by omega,e5,Option.bind_some]
end Go.Pf

namespace Go.Pf
open Go Go.Vm
def zPar : Nat → List Nd → List Int
 | _,[] => []
 | i,x :: r => if x.1 = 1 then (i : Int) :: zPar (i + 1) r else zPar (i + 1) r
theorem graph_Params_f (s : List Int) (nm : ByteArray) (N : List Nd) (O : List Int) (hN : N.length ≤ 100000) (k : Nat) (hk : 200000 ≤ k) : graph_Params.f k s nm N O = some (zPar 0 N) := by
 have : ∀ (e i n : Nat) (y : List Int),N.length = i + e → e < n → y.length ≤ i → graph_Params.l0 n N N.length i y = some (y ++ zPar i (N.drop i)) := by
  intro e
  induction e with
  | zero =>
   intro i n y hi hn hy
   obtain ⟨n,rfl⟩ : ∃ m,n = m + 1 := ⟨n - 1,by omega⟩
   rw [graph_Params.l0,if_neg (by omega),List.drop_eq_nil_of_le (by omega),zPar,List.append_nil]
  | succ e ih =>
   intro i n y hi hn hy
   obtain ⟨n,rfl⟩ : ∃ m,n = m + 1 := ⟨n - 1,by omega⟩
   rw [graph_Params.l0,if_pos (by omega),if_pos (by omega),Int.toNat_natCast,i64_succ (show i < N.length by omega) (by omega),drop_getD (show i < N.length by omega) nd0,zPar]
   by_cases c : (N.getD i nd0).1 = 1
   ·rw [if_pos c,if_pos c,if_pos (by rw [List.length_singleton]; omega),ih (i + 1) n _ (by omega) (by omega) (by simp; omega),List.append_assoc]; rfl
   ·rw [if_neg c,if_neg c,ih (i + 1) n _ (by omega) (by omega) (by omega)]
 unfold graph_Params.f
 have h := this N.length 0 k [] (by omega) (by omega) (Nat.le_refl _)
 rw [n0,List.drop_zero,List.nil_append] at h
 rw [h,Option.bind_some]
theorem ref10_Params_f (s : List Int) (nm : ByteArray) (N : List Nd) (O : List Int) (hN : N.length ≤ 100000) (k : Nat) (hk : 200000 ≤ k) : ref10_Params.f k s nm N O = some (zPar 0 N) := by
 have : ∀ (e i n : Nat) (y : List Int),N.length = i + e → e < n → y.length ≤ i → ref10_Params.l0 n N N.length i y = some (y ++ zPar i (N.drop i)) := by
  intro e
  induction e with
  | zero =>
   intro i n y hi hn hy
   obtain ⟨n,rfl⟩ : ∃ m,n = m + 1 := ⟨n - 1,by omega⟩
   rw [ref10_Params.l0,if_neg (by omega),List.drop_eq_nil_of_le (by omega),zPar,List.append_nil]
  | succ e ih =>
   intro i n y hi hn hy
   obtain ⟨n,rfl⟩ : ∃ m,n = m + 1 := ⟨n - 1,by omega⟩
   rw [ref10_Params.l0,if_pos (by omega),if_pos (by omega),Int.toNat_natCast,i64_succ (show i < N.length by omega) (by omega),drop_getD (show i < N.length by omega) nd0,zPar]
   by_cases c : (N.getD i nd0).1 = 1
   ·rw [if_pos c,if_pos c,if_pos (by rw [List.length_singleton]; omega),ih (i + 1) n _ (by omega) (by omega) (by simp; omega),List.append_assoc]; rfl
   ·rw [if_neg c,if_neg c,ih (i + 1) n _ (by omega) (by omega) (by omega)]
 unfold ref10_Params.f
 have h := this N.length 0 k [] (by omega) (by omega) (Nat.le_refl _)
 rw [n0,List.drop_zero,List.nil_append] at h
 rw [h,Option.bind_some]
theorem law10_rows_f (a b : List (List Int)) (ha : a.length ≤ 100000) (hb : ∀ x ∈ a,x.length ≤ 100000) (k : Nat) (hk : 200000 ≤ k) : law10_rows.f k a b = some (decide (a = b)) := by
 unfold law10_rows.f
 by_cases hl : a.length = b.length
 rotate_left
 ·rw [if_neg (by omega),decide_eq_false (fun h => hl (by rw [h]))]
 have := iter0 (L := fun n i (_ : Unit) => law10_rows.l0 k n a b a.length i) (st := fun _=>()) (fun i => if a.drop i = b.drop i then .inl () else .inr false) (m := a.length) 0
  (fun n _ => by rw [law10_rows.l0,if_neg (by omega),List.drop_eq_nil_of_le (Nat.le_refl _),List.drop_eq_nil_of_le (by omega),if_pos rfl])
  (fun i n hi _ ih => by
   have hx := hb _ (getD_mem hi [])
   rw [law10_rows.l0,if_pos (by omega),if_pos (by omega),if_pos (by omega),Int.toNat_natCast,book_Same_f _ _ (by omega) k (by omega),Option.bind_some,i64_succ hi (by omega),ih,drop_getD hi ([] : List Int),drop_getD (show i < b.length by omega) ([] : List Int)]
   by_cases c : a.getD i [] = b.getD i []
   ·rw [decide_eq_true c,if_pos rfl,c]
    by_cases c2 : a.drop (i + 1) = b.drop (i + 1)
    ·rw [if_pos c2,c2,if_pos rfl]
    ·rw [if_neg c2,if_neg (fun h => c2 (List.cons.inj h).2)]
   ·rw [decide_eq_false c,if_neg Bool.false_ne_true,if_neg (fun h => c (List.cons.inj h).1)]) k (by omega)
 rw [if_pos (by omega),this,List.drop_zero,List.drop_zero,Option.bind_some]
 by_cases c : a = b
 ·rw [if_pos c,decide_eq_true c]; rfl
 ·rw [if_neg c,decide_eq_false c]; rfl
def ndEq (a b : Nd) : Bool := decide (a.1 = b.1 ∧ a.2.1 = b.2.1 ∧ a.2.2.1 = b.2.2.1 ∧ a.2.2.2.1 = b.2.2.2.1 ∧ a.2.2.2.2.1 = b.2.2.2.2.1 ∧ a.2.2.2.2.2.1 = b.2.2.2.2.2.1) && (a.2.2.2.2.2.2.toList == b.2.2.2.2.2.2.toList)
def ndsEq : List Nd → List Nd → Bool
 | [],[] => true
 | a :: l,b :: m => ndEq a b && ndsEq l m
 | _,_ => false
def smN (x : Nd) : Prop := x.2.1.length ≤ 100000 ∧ x.2.2.1.length ≤ 100000 ∧ x.2.2.2.1.length ≤ 100000
theorem graph_SameNode_f (a b : Nd) (h : smN a) (k : Nat) (hk : 200000 ≤ k) : graph_SameNode.f k a.1 a.2.1 a.2.2.1 a.2.2.2.1 a.2.2.2.2.1 a.2.2.2.2.2.1 a.2.2.2.2.2.2 b.1 b.2.1 b.2.2.1 b.2.2.2.1 b.2.2.2.2.1 b.2.2.2.2.2.1 b.2.2.2.2.2.2 = some (ndEq a b) := by
 obtain ⟨a1,a2,a3,a4,a5,a6,a7⟩ := a
 obtain ⟨b1,b2,b3,b4,b5,b6,b7⟩ := b
 obtain ⟨h1,h2,h3⟩ := h
 dsimp only at h1 h2 h3
 unfold graph_SameNode.f ndEq
 dsimp only
 by_cases c1 : a1 = b1
 rotate_left
 ·rw [if_neg c1,decide_eq_false (fun h => c1 h.1)]; rfl
 rw [if_pos c1,slices_Equal_int_f _ _ (by omega) k (by omega),Option.bind_some]
 by_cases c2 : a2 = b2
 rotate_left
 ·rw [decide_eq_false c2,if_neg Bool.false_ne_true,decide_eq_false (fun h => c2 h.2.1)]; rfl
 rw [decide_eq_true c2,if_pos rfl,slices_Equal_int_f _ _ (by omega) k (by omega),Option.bind_some]
 by_cases c3 : a3 = b3
 rotate_left
 ·rw [decide_eq_false c3,if_neg Bool.false_ne_true,decide_eq_false (fun h => c3 h.2.2.1)]; rfl
 rw [decide_eq_true c3,if_pos rfl,slices_Equal_int_f _ _ (by omega) k (by omega),Option.bind_some]
 by_cases c4 : a4 = b4
 rotate_left
 ·rw [decide_eq_false c4,if_neg Bool.false_ne_true,decide_eq_false (fun h => c4 h.2.2.2.1)]; rfl
 rw [decide_eq_true c4,if_pos rfl]
 by_cases c5 : a5 = b5
 rotate_left
 ·rw [if_neg c5,decide_eq_false (fun h => c5 h.2.2.2.2.1)]; rfl
 by_cases c6 : a6 = b6
 rotate_left
 ·rw [if_pos c5,if_neg c6,decide_eq_false (fun h => c6 h.2.2.2.2.2)]; rfl
 rw [if_pos c5,if_pos c6,decide_eq_true ⟨c1,c2,c3,c4,c5,c6⟩,Bool.true_and]
theorem EqualFunc_f (a b : List Nd) (ha : a.length ≤ 100000) (hs : ∀ x ∈ a,smN x) (k : Nat) (hk : 200000 ≤ k) : slices_EqualFunc_api_Node_api_Node_api_Node__graph_SameNode.f k a b = some (ndsEq a b) := by
 have hne : ∀ {a b : List Nd},a.length ≠ b.length → ndsEq a b = false := by
  intro a
  induction a with
  | nil => intro b h; cases b with
   | nil => exact absurd rfl h
   | cons => rfl
  | cons x a ih => intro b h; cases b with
   | nil => rfl
   | cons y b => rw [ndsEq,ih (by simpa using h),Bool.and_false]
 unfold slices_EqualFunc_api_Node_api_Node_api_Node__graph_SameNode.f
 by_cases hl : a.length = b.length
 rotate_left
 ·rw [if_neg (by omega),hne hl]
 have := iter0 (L := fun n i (_ : Unit) => slices_EqualFunc_api_Node_api_Node_api_Node__graph_SameNode.l0 k n b a a.length i) (st := fun _=>()) (fun i => if ndsEq (a.drop i) (b.drop i) = true then .inl () else .inr false) (m := a.length) 0
  (fun n _ => by rw [slices_EqualFunc_api_Node_api_Node_api_Node__graph_SameNode.l0,if_neg (by omega),List.drop_eq_nil_of_le (Nat.le_refl _),List.drop_eq_nil_of_le (by omega)]; rfl)
  (fun i n hi _ ih => by
   have hx := hs _ (getD_mem hi nd0)
   rw [slices_EqualFunc_api_Node_api_Node_api_Node__graph_SameNode.l0,if_pos (by omega),if_pos (by omega),if_pos (by omega),Int.toNat_natCast,graph_SameNode_f (a.getD i nd0) (b.getD i nd0) hx k hk,Option.bind_some,i64_succ hi (by omega),ih,drop_getD hi nd0,drop_getD (show i < b.length by omega) nd0,ndsEq]
   cases c : ndEq (a.getD i nd0) (b.getD i nd0)
   ·rfl
   ·rfl) k (by omega)
 rw [if_pos (by omega),this,List.drop_zero,List.drop_zero,Option.bind_some]
 cases ndsEq a b <;> rfl
def grEq (s : List Int) (nm : ByteArray) (N : List Nd) (O : List Int) (s' : List Int) (nm' : ByteArray) (N' : List Nd) (O' : List Int) : Bool := decide (s = s') && (nm.toList == nm'.toList) && ndsEq N N' && decide (O = O')
theorem graph_Same_f (s : List Int) (nm : ByteArray) (N : List Nd) (O : List Int) (s' : List Int) (nm' : ByteArray) (N' : List Nd) (O' : List Int) (h1 : s.length ≤ 100000) (h2 : N.length ≤ 100000) (h3 : O.length ≤ 100000) (h4 : ∀ x ∈ N,smN x) (k : Nat) (hk : 200000 ≤ k) : graph_Same.f k s nm N O s' nm' N' O' = some (grEq s nm N O s' nm' N' O') := by
 unfold graph_Same.f grEq
 rw [slices_Equal_int_f _ _ (by omega) k (by omega),Option.bind_some]
 by_cases c1 : s = s'
 rotate_left
 ·rw [decide_eq_false c1]; rfl
 rw [decide_eq_true c1,if_pos rfl,Bool.true_and]
 cases c2 : (nm.toList == nm'.toList)
 ·rfl
 rw [if_pos rfl,Bool.true_and,EqualFunc_f N N' h2 h4 k hk,Option.bind_some]
 cases c3 : ndsEq N N'
 ·rfl
 rw [if_pos rfl,Bool.true_and,slices_Equal_int_f _ _ (by omega) k (by omega),Option.bind_some]
theorem ndEq_self (a : Nd) : ndEq a a = true := by simp [ndEq]
theorem ndsEq_self : ∀ l : List Nd,ndsEq l l = true
 | [] => rfl
 | a :: l => by rw [ndsEq,ndEq_self,ndsEq_self l]; rfl
theorem grEq_self (s : List Int) (nm : ByteArray) (N : List Nd) (O : List Int) : grEq s nm N O s nm N O = true := by simp [grEq,ndsEq_self]
theorem allN1 {P : Nd → Prop} {a : Nd} (h : P a) : ∀ x ∈ [a],P x := fun x hx => by rw [List.mem_singleton] at hx; rw [hx]; exact h
theorem allN2 {P : Nd → Prop} {a b : Nd} (h : P a) (h2 : P b) : ∀ x ∈ [a,b],P x := fun x hx => by
 rcases List.mem_cons.1 hx with hx | hx
 ·rw [hx]; exact h
 ·rw [List.mem_singleton] at hx; rw [hx]; exact h2
set_option maxRecDepth 20000 in
theorem known10 (k : Nat) (hk : 200000 ≤ k) : law10_known.f k = some true := by
 have e : ByteArray.empty.size ≤ 100000 := by decide
 have n1 : okN (1,([],(([2,3] : List Int),([],(0,(0,ByteArray.empty)))))) := ⟨by decide,by decide,by decide⟩
 have n2 : okN (13,(([0] : List Int),([],(([1,0] : List Int),(0,(0,ByteArray.empty)))))) := ⟨by decide,by decide,by decide⟩
 have n3 : okN (4,(([0] : List Int),([],([],(0,(0,ByteArray.empty)))))) := ⟨by decide,by decide,by decide⟩
 have n4 : okN (1,([],(([2] : List Int),([],(0,(0,(ByteArray.mk #[120,46]))))))) := ⟨by decide,by decide,by decide⟩
 have s3 : smN (4,(([0] : List Int),([],([],(0,(0,ByteArray.empty)))))) := ⟨by decide,by decide,by decide⟩
 have x1 : (ByteArray.mk #[120]).size ≤ 100000 := by decide
 unfold law10_known.f
 rw [graph_Shapes_f _ _ _ _ e (allN2 n1 n2) k hk,Option.bind_some,graph_Right_f _ _ _ _ e (fun x h => by cases h) k hk,Option.bind_some,if_pos (by decide),
  graph_Right_f _ _ _ _ e (allN1 n3) k hk,Option.bind_some,if_pos (by decide),graph_Right_f _ _ _ _ x1 (allN1 n4) k hk,Option.bind_some,if_pos (by decide)]
 have hS : zShs [] ByteArray.empty ([(1,([],(([2,3] : List Int),([],(0,(0,ByteArray.empty)))))),(13,(([0] : List Int),([],(([1,0] : List Int),(0,(0,ByteArray.empty))))))] : List Nd) [] = (0,[[2,3],[3,2]]) := by decide
 rw [hS,if_pos rfl,if_pos (by decide),if_pos ⟨by decide,by decide⟩,if_pos (by decide),book_Same_f _ _ (by decide) k (by show 2 < k; omega),Option.bind_some,if_pos (by decide),graph_Params_f _ _ _ _ (by decide) k hk,Option.bind_some,
  book_Same_f _ _ (by decide) k (by show 1 < k; omega),Option.bind_some,if_pos (by decide),graph_Same_f _ _ _ _ _ _ _ _ (by decide) (by decide) (by decide) (allN1 s3) k hk,Option.bind_some,if_pos (grEq_self _ _ _ _),
  graph_Same_f _ _ _ _ _ _ _ _ (by decide) (by decide) (by decide) (allN1 s3) k hk,Option.bind_some]
 rfl
theorem GrOK.shs {nm : ByteArray} {sz : List Int} {N : List Nd} {S : List (List Int)} (hm : MeshOK nm sz) (hG : GrOK (rs nm) S N) (hN : N.length ≤ 48) {O : List Int} (hO : O.length ≤ 48) (hx : ∀ x ∈ O,0 ≤ x ∧ x < (N.length : Int)) : zShs sz nm N O = (0,S) := by
 unfold zShs
 rw [if_pos hm.ms,if_neg (by omega),if_neg (by omega),hG.go,if_pos rfl,if_pos (List.all_eq_true.2 fun x h => decide_eq_true (hx x h))]
theorem fit_tp {L : List Int} (h : Fit (.sl (.int .i64)) L) : Tp L := by
 obtain ⟨f1,f2⟩ := fit_i64 h
 exact ⟨by omega,f2⟩
theorem GraphMade_ok (a0 : List Int) (w0 : Fit (.sl (.int .i64)) a0) : ∃ k,law10_GraphMade.f k a0 = some true := by
  refine ⟨400000,?_⟩
  generalize hk' : (400000 : Nat) = k
  have hk : 400000 ≤ k := by omega
  clear hk'
  obtain ⟨nm,sz,N,O,S,e1,hm,hG,hN,hO,hx⟩ := tape_Graph (fit_tp w0) k (by omega)
  have hsz := hm.size
  have hlen := hG.len
  have hnew : GrOK (rs nm) (S ++ [[]]) (N ++ [(2,([],([],([],(5,(0,ByteArray.empty))))))]) := hG.snoc rfl ⟨by decide,by decide,by decide,by decide⟩ rfl
  have hO2 : ∀ x ∈ O ++ [(N.length : Int)],0 ≤ x ∧ x < ((N ++ [((2,([],([],([],(5,(0,ByteArray.empty)))))) : Nd)]).length : Int) := fun x h => by
    rw [List.length_append,List.length_singleton]
    rcases List.mem_append.1 h with h | h
    · have := hx x h; omega
    · rw [List.mem_singleton] at h; omega
  have hl4 : ∀ s ∈ S,s.length ≤ 100000 := fun s hs => by have := (mSR_spec (hG.sm s hs)).1; omega
  have z2 : zShs sz nm (N ++ [(2,([],([],([],(5,(0,ByteArray.empty))))))]) (O ++ [(N.length : Int)]) = (0,S ++ [[]]) := GrOK.shs hm hnew (by rw [List.length_append,List.length_singleton]; omega) (by rw [List.length_append,List.length_singleton]; omega) hO2
  have z3 : (zShs sz nm ((5,(([0] : List Int),([],([],(0,(0,ByteArray.empty)))))) :: N) O).1 = 23 := by
    unfold zShs
    rw [if_pos hm.ms,if_neg (by rw [List.length_cons]; omega),if_neg (by omega)]
    rfl
  unfold law10_GraphMade.f
  rw [e1,Option.bind_some]
  dsimp only
  rw [graph_Shapes_f _ _ _ _ (by omega) hG.ok k (by omega),Option.bind_some,GrOK.shs hm hG (by omega) (by omega) hx,if_pos rfl,if_pos (by dsimp only; omega),if_pos (by omega),List.nil_append,if_pos (by rw [List.length_singleton]; omega),if_pos (by omega),List.nil_append,if_pos (by rw [List.length_singleton]; omega),
    graph_Shapes_f _ _ _ _ (by omega) hnew.ok k (by omega),Option.bind_some,if_pos (by rw [List.length_singleton]; omega),z2,if_pos rfl]
  dsimp only
  have hL : (S ++ [([] : List Int)]).length = S.length + 1 := by rw [List.length_append,List.length_singleton]
  rw [if_pos (by rw [hL,i64_id (by omega) (by omega)]; omega),if_pos (by omega),Int.toNat_natCast,List.drop_zero,List.take_left,law10_rows_f _ _ (by omega) hl4 k (by omega),Option.bind_some,if_pos (decide_eq_true rfl),if_pos (by omega),if_pos (by omega),
    List.getD_eq_getElem?_getD,List.getElem?_append_right (Nat.le_refl _),Nat.sub_self,if_pos (show ((([[]] : List (List Int))[0]?.getD []).length : Int) = 0 from rfl),List.singleton_append,graph_Right_f _ _ _ _ (by omega) (fun x h => by
      rcases List.mem_cons.1 h with h | h
      · rw [h]; exact ⟨by decide,by decide,by decide⟩
      · exact hG.ok x h) k (by omega),Option.bind_some,z3,if_pos rfl,known10 k (by omega),Option.bind_some]
end Go.Pf

namespace Go.Pf
open Go Go.Vm
theorem zGo_pre (nm : List Int) : ∀ (N : List Nd) (o T : List (List Int)),zGo nm N o = (0,T) → T.take o.length = o
 | [],o,T,h => by
  rw [zGo] at h
  cases h
  exact List.take_length
 | x :: r,o,T,h => by
  rw [zGo] at h
  by_cases c : (zNd nm o x).1 = 0
  ·rw [if_pos c] at h
   have := zGo_pre nm r _ T h
   have h2 := congrArg (fun l => l.take o.length) this
   rw [List.take_take,List.length_append,List.length_singleton,Nat.min_eq_left (by omega),List.take_left] at h2
   exact h2
  ·rw [if_neg c] at h
   exact absurd (congrArg Prod.fst h) c
theorem zGo_at (nm : List Int) : ∀ (N : List Nd) (o T : List (List Int)),zGo nm N o = (0,T) → ∀ i,i < N.length → zNd nm (T.take (o.length + i)) (N.getD i nd0) = (0,T.getD (o.length + i) [])
  | x :: r,o,T,h,i,hi => by
    have hp := zGo_pre nm (x :: r) o T h
    rw [zGo] at h
    by_cases c : (zNd nm o x).1 = 0
    · rw [if_pos c] at h
      cases i with
      | zero =>
        have h2 := zGo_pre nm r _ T h
        have h3 : T.getD o.length [] = (zNd nm o x).2 := by
          have e := congrArg (fun l => l.getD o.length []) h2
          rw [List.length_append,List.length_singleton,List.getD_eq_getElem?_getD,List.getElem?_take,if_pos (by omega),List.getD_eq_getElem?_getD,List.getElem?_append_right (Nat.le_refl _),Nat.sub_self] at e
          rw [List.getD_eq_getElem?_getD,e]; rfl
        rw [Nat.add_zero,hp,h3]
        show zNd nm o x = _
        rw [← c]
      | succ i =>
        have := zGo_at nm r _ T h i (by simpa using hi)
        rw [List.length_append,List.length_singleton,Nat.add_assoc,Nat.add_comm 1 i] at this
        exact this
    · rw [if_neg c] at h
      exact absurd (congrArg Prod.fst h) c
structure Dots (t : ByteArray) (l : List Int) (m : Nat) : Prop where
 enc : t = enc l
 val : ∀ r ∈ l,r = 32 ∨ r = 46
 len : l.length ≤ 2 * m
 num : ∀ (nm y : List Int),zNl nm l y = some (y ++ List.replicate m (-1))
theorem Dots.app {t : ByteArray} {l : List Int} {m : Nat} (h : Dots t l m) {u : ByteArray} {q : List Int} {j : Nat} (h2 : Dots u q j) : Dots (t ++ u) (l ++ q) (m + j) where
 enc := by rw [enc_app,h.enc,h2.enc]
 val := fun r hr => by
  rcases List.mem_append.1 hr with hr | hr
  ·exact h.val r hr
  ·exact h2.val r hr
 len := by rw [List.length_append]; have := h.len; have := h2.len; omega
 num := fun nm y => by
  have hz : ∀ (a b y : List Int) (z : List Int),zNl nm a y = some z → zNl nm (a ++ b) y = zNl nm b z := by
   intro a b
   induction a with
   | nil => intro y z e; cases e; rfl
   | cons r a ih =>
    intro y z e
    rw [List.cons_append,zNl]
    rw [zNl] at e
    by_cases c1 : r = 32
    ·rw [if_pos c1] at e ⊢; exact ih _ _ e
    by_cases c2 : r = 46
    ·rw [if_neg c1,if_pos c2] at e ⊢; exact ih _ _ e
    by_cases c3 : fnd nm r < 0 ∨ fnd nm r ∈ y
    ·rw [if_neg c1,if_neg c2,if_pos c3] at e; cases e
    ·rw [if_neg c1,if_neg c2,if_neg c3] at e ⊢; exact ih _ _ e
  rw [hz l q y _ (h.num nm y),h2.num,List.append_assoc,List.replicate_append_replicate]
theorem dots0 : Dots ByteArray.empty [] 0 := ⟨rfl,(fun r h => by cases h),Nat.le_refl _,(fun nm y => by rw [zNl,List.replicate_zero,List.append_nil])⟩
theorem dots1 : Dots (ByteArray.mk #[46]) [46] 1 := ⟨rfl,fun r h => .inr (List.mem_singleton.1 h),by decide,fun nm y => rfl⟩
theorem dots2 : Dots (ByteArray.mk #[32,46]) [32,46] 1 := ⟨by decide,fun r h => by simpa using h,by decide,fun nm y => rfl⟩
theorem dots3 : Dots (ByteArray.mk #[46,32]) [46,32] 1 := ⟨by decide,fun r h => by simpa [or_comm] using h,by decide,fun nm y => rfl⟩
theorem dots5 : Dots (ByteArray.mk #[46,46,46,46,46]) [46,46,46,46,46] 5 := ⟨by decide,fun r h => by simp at h; exact .inr h,by decide,fun nm y => by
 show some (y ++ [-1] ++ [-1] ++ [-1] ++ [-1] ++ [-1]) = _
 simp [List.replicate]⟩
theorem Dots.rs {t : ByteArray} {l : List Int} {m : Nat} (h : Dots t l m) : rs t = l := by
 rw [h.enc,rs_enc fun r hr => by rcases h.val r hr with e | e <;> (rw [e]; rfl)]
theorem Dots.size {t : ByteArray} {l : List Int} {m : Nat} (h : Dots t l m) : t.size ≤ 8 * m := by
 have := h.len
 have := enc_size l
 rw [h.enc]; omega
theorem Dots.note {t : ByteArray} {l : List Int} {m : Nat} (h : Dots t l m) (hl : l.length ≤ 16) (nm : List Int) (rank : Int) : (zNote nm (Go.Pf.rs t) rank).2.1 = if m = 0 ∨ (m : Int) = rank then 0 else 14 := by
 rw [h.rs]
 unfold zNote
 rw [if_neg (by omega),h.num nm [],List.nil_append]
 dsimp only
 rw [List.length_replicate]
 by_cases c : m = 0
 ·rw [if_pos c,if_pos (.inl c)]
 by_cases c2 : (m : Int) = rank
 ·rw [if_neg c,if_pos c2,if_pos (.inr c2)]
 ·rw [if_neg c,if_neg c2,if_neg (by rintro (h | h); exact c h; exact c2 h)]
theorem zNd_note {nm : List Int} {o : List (List Int)} {x : Nd} {s : List Int} (h : zNd nm o x = (0,s)) (t : ByteArray) {e : Int} (ht : (zNote nm (rs t) s.length).2.1 = e) : zNd nm o (x.1,x.2.1,x.2.2.1,x.2.2.2.1,x.2.2.2.2.1,x.2.2.2.2.2.1,t) = (e,s) := by
 unfold zNd at h ⊢
 dsimp only
 cases c : zIn o x.2.1 with
 | none => rw [c] at h; cases h
 | some l =>
  rw [c] at h
  dsimp only at h ⊢
  by_cases c2 : (zSh x.1 x.2.2.1 x.2.2.2.1 x.2.2.2.2.1 x.2.2.2.2.2.1 l).1 = 0
  ·rw [if_pos c2] at h ⊢
   have h2 := congrArg Prod.snd h
   dsimp only at h2
   rw [h2,ht]
  ·rw [if_neg c2] at h
   exact absurd (congrArg Prod.fst h) c2
theorem notes_l1 {L : List Int} (T : Tp L) (x38 x39 : Int) (m : Nat) (hm : m ≤ 4) (S : List (List Int)) (y2 : ByteArray) (z1 : Int) (z2 z3 z4 : List Int) (z5 z6 : Int) (y4 : List Nd) (y5 : List Int) (y6 : List Nd) (y7 : List Int) (M : Int) (hM : M ≤ 17592185000000) : ∀ (e i : Nat) (p : Int) (t : ByteArray) (l : List Int) (n : Nat),m = i + e → e < n → 0 ≤ p → p ≤ M - e → Dots t l i →
  ∃ q t' l',law10_GraphNotes.l1 n x38 x39 m i S L p y2 z1 z2 z3 z4 z5 z6 t y4 y5 y6 y7 = some (q,t') ∧ Dots t' l' m ∧ 0 ≤ q ∧ q ≤ p + e
 | 0,i,p,t,l,n,hi,hn,h0,hp,hd => by
  obtain ⟨n,rfl⟩ : ∃ q,n = q + 1 := ⟨n - 1,by omega⟩
  obtain rfl : m = i := by omega
  rw [law10_GraphNotes.l1,if_neg (by omega)]
  exact ⟨p,t,l,rfl,hd,h0,by omega⟩
 | e + 1,i,p,t,l,n,hi,hn,h0,hp,hd => by
  obtain ⟨n,rfl⟩ : ∃ q,n = q + 1 := ⟨n - 1,by omega⟩
  obtain ⟨r,q,e1,r0,r1,q0,q1⟩ := T.next 3 (by omega) p h0 (by omega)
  have hsz := hd.size
  have go : ∀ (u : ByteArray) (v : List Int),Dots u v 1 → ∃ q' t' l',law10_GraphNotes.l1 n x38 x39 m ((i + 1 : Nat) : Int) S L q y2 z1 z2 z3 z4 z5 z6 (t ++ u) y4 y5 y6 y7 = some (q',t') ∧ Dots t' l' m ∧ 0 ≤ q' ∧ q' ≤ p + (e + 1 : Nat) := fun u v hu => by
   obtain ⟨q',t',l',g1,g2,g3,g4⟩ := notes_l1 T x38 x39 m hm S y2 z1 z2 z3 z4 z5 z6 y4 y5 y6 y7 M hM e (i + 1) q (t ++ u) (l ++ v) n (by omega) (by omega) q0 (by omega) (hd.app hu)
   exact ⟨q',t',l',g1,g2,g3,by omega⟩
  rw [law10_GraphNotes.l1,if_pos (by omega),e1,Option.bind_some,i64_succ (show i < m by omega) (by omega)]
  dsimp only
  rw [if_pos ⟨r0,by simp; omega⟩,if_pos (by simp; omega)]
  have : r = 0 ∨ r = 1 ∨ r = 2 := by omega
  rcases this with rfl | rfl | rfl
  ·rw [if_pos (by show t.size + 1 ≤ _; omega)]; exact go _ _ dots1
  ·rw [if_pos (by show t.size + 2 ≤ _; omega)]; exact go _ _ dots2
  ·rw [if_pos (by show t.size + 2 ≤ _; omega)]; exact go _ _ dots3
structure Re (nm : List Int) (S : List (List Int)) (i : Nat) (N : List Nd) : Prop where
 ok : GrOK nm (S.take i) N
 fst : 0 < i → ∃ l,Dots (N.getD 0 nd0).2.2.2.2.2.2 l (S.getD 0 []).length
theorem notes_l0 {L : List Int} (T : Tp L) {nm : List Int} {S : List (List Int)} {N : List Nd} (hG : GrOK nm S N) (hN : N.length ≤ 10) (k : Nat) (y2 : ByteArray) (y4 y6 : List Int) (M : Int) (hM : M ≤ 17592184000000) : ∀ (e i : Nat) (p : Int) (Y : List Nd) (n : Nat),N.length = i + e → e + 100 < n → 0 ≤ p → p ≤ M - 10 * e → Re nm S i Y →
  ∃ Y',law10_GraphNotes.l0 k n N.length i S L p y2 N y4 Y y6 = some Y' ∧ Re nm S N.length Y'
 | 0,i,p,Y,n,hi,hn,h0,hp,hR => by
  obtain ⟨n,rfl⟩ : ∃ q,n = q + 1 := ⟨n - 1,by omega⟩
  rw [law10_GraphNotes.l0,if_neg (by omega)]
  exact ⟨Y,rfl,by rw [hi]; exact hR⟩
 | e + 1,i,p,Y,n,hi,hn,h0,hp,hR => by
  obtain ⟨n,rfl⟩ : ∃ q,n = q + 1 := ⟨n - 1,by omega⟩
  have hlen := hG.len
  have hYl := hR.ok.len
  rw [List.length_take] at hYl
  have hsm := hG.sm _ (getD_mem (show i < S.length by omega) [])
  have h4 := (mSR_spec hsm).1
  have hnd := zGo_at nm N [] S hG.go i (by omega)
  rw [List.length_nil,Nat.zero_add] at hnd
  obtain ⟨q,t,l,g1,g2,g3,g4⟩ := notes_l1 T N.length i (S.getD i []).length h4 S y2 (N.getD i nd0).1 (N.getD i nd0).2.1 (N.getD i nd0).2.2.1 (N.getD i nd0).2.2.2.1 (N.getD i nd0).2.2.2.2.1 (N.getD i nd0).2.2.2.2.2.1 N y4 Y y6 (p + 100) (by omega) (S.getD i []).length 0 p ByteArray.empty [] n (by omega) (by omega) h0 (by omega) dots0
  rw [n0] at g1
  rw [law10_GraphNotes.l0,if_pos (by omega),if_pos (by omega),if_pos (by omega),if_pos (by omega),if_pos (by omega),Int.toNat_natCast,g1,Option.bind_some,if_pos (by rw [List.length_singleton]; omega),i64_succ (show i < N.length by omega) (by omega)]
  have hts := g2.size
  have hll := g2.len
  have hz := zNd_note hnd t (e := 0) (by rw [g2.note (by omega),if_pos (.inr rfl)])
  have hok := hG.ti _ (getD_mem (show i < N.length by omega) nd0)
  have hS : S.take (i + 1) = S.take i ++ [S.getD i []] := by
   rw [List.take_add_one,List.getD_eq_getElem?_getD,List.getElem?_eq_getElem (show i < S.length by omega)]; rfl
  exact notes_l0 T hG hN k y2 y4 y6 M hM e (i + 1) q _ n (by omega) (by omega) g3 (by omega) ⟨by rw [hS]; exact hR.ok.snoc hz ⟨hok.1,hok.2.1,hok.2.2.1,by dsimp only; omega⟩ hsm,fun _=>by
   by_cases c : i = 0
   ·subst c
    have : Y = [] := List.length_eq_zero_iff.1 (by omega)
    subst this
    exact ⟨l,g2⟩
   ·obtain ⟨l',hl'⟩ := hR.fst (by omega)
    refine ⟨l',?_⟩
    rw [List.getD_eq_getElem?_getD,List.getElem?_append_left (by omega),← List.getD_eq_getElem?_getD]
    exact hl'⟩
theorem GraphNotes_ok (a0 a1 : List Int) (w0 : Fit (.sl (.int .i64)) a0) (w1 : Fit (.sl (.int .i64)) a1) : ∃ k,law10_GraphNotes.f k a0 a1 = some true := by
 refine ⟨400000,?_⟩
 generalize hk' : (400000 : Nat) = k
 have hk : 400000 ≤ k := by omega
 clear hk'
 obtain ⟨nm,sz,N,O,S,e1,hm,hG,hN,hO,hx⟩ := tape_Graph (fit_tp w0) k (by omega)
 have hsz := hm.size
 have hlen := hG.len
 obtain ⟨Y,e2,hR⟩ := notes_l0 (fit_tp w1) hG hN k nm sz O 10000 (by omega) N.length 0 0 [] k (by omega) (by omega) (by omega) (by omega) ⟨⟨rfl,(fun x h => by cases h),(fun x h => by cases h)⟩,fun h => absurd h (by omega)⟩
 have hYS : GrOK (rs nm) S Y := by
  have := hR.ok
  rw [← hlen,List.take_length] at this
  exact this
 have hYl := hYS.len
 have hl4 : ∀ s ∈ S,s.length ≤ 100000 := fun s hs => by have := (mSR_spec (hG.sm s hs)).1; omega
 unfold law10_GraphNotes.f
 rw [e1,Option.bind_some]
 dsimp only
 rw [n0] at e2
 rw [graph_Shapes_f _ _ _ _ (by omega) hG.ok k (by omega),Option.bind_some,GrOK.shs hm hG (by omega) (by omega) hx,if_pos rfl,if_pos (by dsimp only; omega)]
 dsimp only
 rw [e2,Option.bind_some,graph_Shapes_f _ _ _ _ (by omega) hYS.ok k (by omega),Option.bind_some,GrOK.shs hm hYS (by omega) (by omega) (fun x h => by have := hx x h; omega),if_pos rfl,law10_rows_f _ _ (by omega) hl4 k (by omega),Option.bind_some,if_pos (decide_eq_true rfl)]
 by_cases c : (Y.length : Int) = 0
 ·rw [if_pos c,known10 k (by omega),Option.bind_some]
 obtain ⟨l,hd⟩ := hR.fst (by omega)
 have hsz := hd.size
 have h4 := (mSR_spec (hG.sm _ (getD_mem (show 0 < S.length by omega) []))).1
 have hd5 := hd.app dots5
 have hdl := hd5.len
 have hds := hd5.size
 have hnd := zGo_at (rs nm) Y [] S hYS.go 0 (by omega)
 rw [List.length_nil,Nat.zero_add] at hnd
 have hz := zNd_note hnd ((Y.getD 0 nd0).2.2.2.2.2.2 ++ ByteArray.mk #[46,46,46,46,46]) (e := 14) (by rw [hd5.note (by have := hd.len; rw [List.length_append]; show _ + 5 ≤ 16; omega),if_neg (by omega)])
 have hok := hYS.ok _ (getD_mem (show 0 < Y.length by omega) nd0)
 rw [if_neg c,if_pos ⟨by decide,by omega⟩,if_pos (by omega),if_pos (by show (Y.getD 0 nd0).2.2.2.2.2.2.size + 5 ≤ _; omega)]
 rw [graph_Right_f _ _ _ _ (by omega) (fun x h => by
  rcases List.mem_or_eq_of_mem_set h with h | h
  ·exact hYS.ok x h
  ·rw [h]; exact ⟨hok.1,hok.2.1,show ((Y.getD 0 nd0).2.2.2.2.2.2 ++ ByteArray.mk #[46,46,46,46,46]).size ≤ 100000 by omega⟩) k (by omega),Option.bind_some]
 have hzs : (zShs sz nm (Y.set 0 ((Y.getD 0 nd0).1,(Y.getD 0 nd0).2.1,(Y.getD 0 nd0).2.2.1,(Y.getD 0 nd0).2.2.2.1,(Y.getD 0 nd0).2.2.2.2.1,(Y.getD 0 nd0).2.2.2.2.2.1,(Y.getD 0 nd0).2.2.2.2.2.2 ++ ByteArray.mk #[46,46,46,46,46])) O).1 = 14 := by
  unfold zShs
  rw [if_pos hm.ms,if_neg (by rw [List.length_set]; omega),if_neg (by omega)]
  cases Y with
  | nil => simp at c
  | cons x Y =>
   rw [List.set_cons_zero,zGo]
   rw [List.take_zero] at hz
   rw [hz,if_neg (show ¬ (14 : Int) = 0 by decide),if_neg (show ¬ (14 : Int) = 0 by decide)]
 rw [hzs,if_pos rfl,known10 k (by omega),Option.bind_some]
end Go.Pf
