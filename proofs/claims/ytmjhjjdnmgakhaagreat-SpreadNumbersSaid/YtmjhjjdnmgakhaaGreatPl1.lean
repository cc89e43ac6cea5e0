/- Own texts put together: M5g, M5h, M5i .. -/
import Derived.Test.YtmjhjjdnmgakhaaGreatPl0
open List renaming replicate→vaa, range→vaf, take_length→vag, append_nil→vah, length_map→vak, mem_singleton→vam, mem_cons→van, mem_cons_self→vao, length_drop→vaq, all_eq_true→var, take_zero→vas, length_replicate→vat, replicate_zero→vav, map_nil→vax, length_set→vay, all_cons→vaz, take_of_length_le→vaA, getElem?_eq_getElem→vaD, length_nil→vaE, getElem?_replicate→vaF, getElem_cons_zero→vaH, range_zero→vaK, getElem?_take→vaL, map_cons→vaN, getElem_map→vaO, ext_getElem→vaP, getElem_cons_succ→vaQ, take_append_drop→vaR, mem_append→vaS, map_append→vaT, mem_of_mem_take→vaX, takeWhile_cons→vaY, length_pos_iff→vaZ, take_add_one→va1, length_range→va2, foldl_append→va3, cons_append→va5, range_succ→va7, getElem?_append_right→va8, take_take→vba, length_eq_one_iff→vbc, mem_map→vbd, map_map→vbe, cons→vbf, getElem_range→vbg
open ByteArray renaming empty→vab, mk→vaw
open Int renaming reduceEq→vac, ediv_le_self→va6, ediv_nonneg→va9, tdiv_eq_ediv_of_nonneg→vbb, le_refl→vbh
open Bool renaming false_ne_true→vad, true_and→vaj, false_and→vap, or_eq_true→vaU, not_eq_true'→vbi, eq_false_iff→vbj
open Nat renaming le_refl→vae, sub_self→vau, sub_zero→vaC, zero_add→vaJ, add_sub_cancel→vaM, min_eq_left→vaV, add_zero→vaW, add_assoc→va0, add_comm→va4, lt_trichotomy→vbk
open Sum renaming elim_inl→vai, elim_inr→vaI
open Array renaming getD_eq_getD_getElem?→vaB, getElem!_eq_getD→vaG
open Go.IntKind renaming i64→iW
set_option linter.unusedVariables false
set_option linter.unusedSimpArgs false
namespace Go.Pf
open Go Go.Vm
theorem qo5 {a b : LI} (h : a.Perm b) : pr a = pr b := by
 induction h with
 | nil => rfl
 | cons x _ ih => show x * _ = x * _; rw [ih]
 | swap x y l => show y * (x * pr l) = x * (y * pr l); rw [Int.mul_left_comm]
 | trans _ _ h1 h2 => rw [h1,h2]
theorem ql4 {n : Nat} {a : LI} (h : Perm' n a) : a.Perm ((vaf n).map fun (i : Nat) => (i : Int)) := by
 refine (List.perm_ext_iff_of_nodup h.nd ?_).2 fun x => ⟨fun hx => ?_,fun hx => ?_⟩
 ·refine List.Pairwise.map _ (fun i j hij => ?_) List.nodup_range
  exact fun e => hij (by omega)
 ·have := h.mem x hx
  exact vbd.2 ⟨x.toNat,List.mem_range.2 (by omega),by show ((x.toNat : Nat) : Int) = x; omega⟩
 ·obtain ⟨i,hi,rfl⟩ := vbd.1 hx
  rw [List.mem_range] at hi
  exact qm1 h.nd h.mem h.len (by omega) (by omega)
theorem qmW (s : LI) : ((vaf s.length).map fun (i : Nat) => s.getD i 0) = s := by
 apply vaP (by simp)
 intro i h1 h2
 rw [vaO,vbg,gDg,vaD h2]; rfl
theorem qmZ {s a : LI} (h : Perm' s.length a) : (pick s a).Perm s := by
 have h1 := (ql4 h).map (fun k : Int => s.getD k.toNat 0)
 rw [vbe] at h1
 have e : ((vaf s.length).map ((fun k : Int => s.getD k.toNat 0) ∘ fun (i : Nat) => (i : Int))) = s := by
  have := qmW s
  simpa [Function.comp_def] using this
 rw [e] at h1
 exact h1
theorem qm0 {s a : LI} (hs : mSR s = true) (h : Perm' s.length a) : mSR (pick s a) = true := by
 obtain ⟨h1,h2,h3⟩ := qar hs
 have hp := qmZ h
 unfold mSR
 simp only [bAt,decide_eq_true_eq,var]
 refine ⟨⟨?_,fun x hx => qcZ.2 (h2 x (hp.mem_iff.1 hx))⟩,by rw [qo5 hp]; exact h3⟩
 rw [hp.length_eq]; exact h1
theorem qjS {s a : LI} {i : Nat} (h : i < a.length) : pick s (a.take i) ++ [s.getD (a.getD i 0).toNat 0] = pick s (a.take (i + 1)) := by
 rw [qdP h,pick,pick,vaT]; rfl
theorem qe0 (s a : LI) (hl : s.length <= 4) (ha : a.length = s.length) (y : LI) (hy : y.length = s.length) : ∀ (e i n : Nat) (seen : LI) (b : List Bool),s.length = i + e -> e < n -> b.length = s.length -> (∀ j : Nat,j < s.length -> (b.getD j false = true ↔ (j : Int) ∈ seen)) ->
  qbG.l0 n s a a.length i (pick s (a.take i) ++ y.drop i) b = some (if zPm s.length seen (a.drop i) = true then .inl (pick s a) else .inr 1)
 | 0,i,n,seen,b,hi,hn,hb,hbs => by
  obtain ⟨n,rfl⟩ := sun (n := n)
  rw [qbG.l0,ifq,dNl (by omega),dNl (by omega),vaA (by omega),vah]; rfl
 | e + 1,i,n,seen,b,hi,hn,hb,hbs => by
  obtain ⟨n,rfl⟩ := sun (n := n)
  have hps := qjS (s := s) (a := a) (i := i) (by omega)
  have hL : (pick s (a.take i)).length = i := by rw [pick,vak,lTk]; omega
  have hset : (pick s (a.take i) ++ y.drop i).set i (s.getD (a.getD i 0).toNat 0) = pick s (a.take (i + 1)) ++ y.drop (i + 1) := by
   rw [qaj (show i < y.length by omega) (0 : Int)]
   have := setL (pick s (a.take i)) (y.drop (i + 1)) (y.getD i 0) (s.getD (a.getD i 0).toNat 0)
   rw [hL] at this
   rw [this,hps]
  have hlen : (pick s (a.take i) ++ y.drop i).length = s.length := by rw [lAp,hL,vaq]; omega
  rw [qbG.l0,ifp,ifp,tNc,hset,qaj (show i < a.length by omega) (0 : Int),hlen]
  generalize a.getD i 0 = k
  by_cases c1 : k < 0
  ·rw [if_pos c1,if_neg (by rw [qcK]; omega)]
  by_cases c2 : (s.length : Int) <= k
  ·rw [if_neg c1,if_pos c2,if_neg (by rw [qcK]; omega)]
  have hk := hbs k.toNat (by omega)
  rw [show ((k.toNat : Nat) : Int) = k by omega] at hk
  rw [if_neg c1,if_neg c2,ifp,ifp]
  by_cases c3 : b.getD k.toNat false = true
  ·rw [if_pos c3,if_neg (fun hh => (qcK.1 hh).1.2.2 (hk.1 c3))]
  have hns : k ∉ seen := fun h => c3 (hk.2 h)
  have ih := qe0 s a hl ha y hy e (i + 1) n (k :: seen) (b.set k.toNat true) (by omega) (by omega) (by simp [hb]) fun j hj => by
   rw [qeg]
   by_cases ej : k.toNat = j
   ·rw [if_pos ⟨ej,by omega⟩]
    exact ⟨fun _=>by rw [show (j : Int) = k by omega]; exact vao ..,fun _=>rfl⟩
   ·rw [if_neg (fun hh => ej hh.1),hbs j hj,van]
    exact ⟨fun h => .inr h,fun h => h.resolve_left (by omega)⟩
  rw [if_neg c3,ifp,ifp,ifp,qaq (n := (i : Int) + 1) (by omega) (by omega),show (i : Int) + 1 = ((i + 1 : Nat) : Int) by omega,ih]
  by_cases c : zPm s.length (k :: seen) (a.drop (i + 1)) = true
  ·rw [if_pos c,if_pos (qcK.2 ⟨⟨by omega,by omega,hns⟩,c⟩)]
  ·rw [if_neg c,if_neg (fun hh => c (qcK.1 hh).2)]
def isPerm (n : Nat) (a : LI) : Bool := decide (a.length = n) && zPm n [] a
theorem qeO {n : Nat} {a : LI} : isPerm n a = true ↔ Perm' n a := by
 unfold isPerm
 rw [bAt,decide_eq_true_eq]
 exact ⟨fun h => (qk3 h.1).1 h.2,fun h => ⟨h.len,(qk3 h.len).2 h⟩⟩
theorem qjl {s : LI} (hl : s.length <= 4) (a : LI) (k : Nat) (hk : 10 <= k) : qbG.f k s a = some (if isPerm s.length a = true then (0,pick s a) else (1,[])) := by
 unfold qbG.f isPerm
 by_cases ha : a.length = s.length
 ·have l0 := qe0 s a hl ha (vaa (s.length : Int).toNat 0) (by simp) s.length 0 k [] (vaa (s.length : Int).toNat false) (by omega) (by omega) (by simp) (fun j hj => by simp [gDg,vaF,hj])
  rw [n0,dZr,dZr,vas] at l0
  rw [ifp,ifp,ifp]
  rw [show pick s [] ++ vaa (s.length : Int).toNat (0 : Int) = vaa (s.length : Int).toNat (0 : Int) from rfl] at l0
  rw [l0]
  by_cases c : zPm s.length [] a = true
  ·rw [if_pos c]; simp [ha,c]
  ·rw [if_neg c]; simp [c]
 ·rw [ifq]; simp [ha]
def zTurn (s d a : LI) : LI := made (pick s a) fun p => d.getD (ix s (scat (vaa s.length 0) a p)).toNat 0
theorem qmK {y a p : LI} {i : Nat} (h1 : i < a.length) (h2 : i < p.length) : scat y (a.drop i) (p.drop i) = scat (y.set (a.getD i 0).toNat (p.getD i 0)) (a.drop (i + 1)) (p.drop (i + 1)) := by
 rw [qaj h1 (0 : Int),qaj h2 (0 : Int)]; rfl
theorem qnY (y p : LI) : scat y [] p = y := by rw [scat]; intros; simp_all
theorem qgj (p a : LI) (hl : a.length <= 4) (hp : p.length = a.length) (m : Nat) (hr : ∀ k ∈ a,0 <= k /\ k < (m : Int)) (x10 x83 x84 : Int) (s d y2 y6 y7 : LI) : ∀ (e i : Nat) (y : LI) (n : Nat),y.length = m -> a.length = i + e -> e < n ->
  qa0.l2 n a x10 x83 x84 p.length i s d y2 p y y6 y7 = some (scat y (a.drop i) (p.drop i))
 | 0,i,y,n,hy,hi,hn => by
  obtain ⟨n,rfl⟩ := sun (n := n)
  rw [qa0.l2,ifq,dNl (by omega),qnY]
 | e + 1,i,y,n,hy,hi,hn => by
  obtain ⟨n,rfl⟩ := sun (n := n)
  have hk := hr _ (qas (show i < a.length by omega) 0)
  have ih := qgj p a hl hp m hr x10 x83 x84 s d y2 y6 y7 e (i + 1) (y.set (a.getD i 0).toNat (p.getD i 0)) n (by simp [hy]) (by omega) (by omega)
  rw [qa0.l2,ifp,ifp,ifp,ifp,tNc,ifp,ifp,qaq (n := (i : Int) + 1) (by omega) (by omega),show (i : Int) + 1 = ((i + 1 : Nat) : Int) by omega,ih,<- qmK (by omega) (by omega)]
def tn (s d a : LI) (i : Nat) : Int := d.getD (ix s (scat (vaa s.length 0) a (pl (pick s a) i))).toNat 0
end Go.Pf

namespace Go.Pf
open Go Go.Vm
theorem qgl (s d a : LI) (hl : s.length ≤ 4) (ha : a.length = s.length) : ∀ (e i n : Nat) (seen : LI) (b : LI),s.length = i + e → e < n → b.length = s.length → (∀ j : Nat,j < s.length → b.getD j 0 = if (j : Int) ∈ seen then 1 else 0) →
    qa0.l0 n a a.length i s d b (pick s (a.take i)) = some (if zPm s.length seen (a.drop i) = true then .inl (pick s a) else .inr 1)
  | 0,i,n,seen,b,hi,hn,hb,hbs => by
    obtain ⟨n,rfl⟩ := sun (n := n)
    rw [qa0.l0,ifq,dNl (by omega),vaA (by omega)]; rfl
  | e + 1,i,n,seen,b,hi,hn,hb,hbs => by
    obtain ⟨n,rfl⟩ := sun (n := n)
    have hps := qjS (s := s) (a := a) (i := i) (by omega)
    have hL : (pick s (a.take i)).length = i := by rw [pick,vak,lTk]; omega
    rw [qa0.l0,ifp,ifp,tNc,hps,qaj (show i < a.length by omega) (0 : Int),hb,hL]
    generalize a.getD i 0 = k
    by_cases c1 : k < 0
    · rw [if_pos c1,if_neg (by rw [qcK]; omega)]
    by_cases c2 : (s.length : Int) ≤ k
    · rw [if_neg c1,if_pos c2,if_neg (by rw [qcK]; omega)]
    have hk := hbs k.toNat (by omega)
    rw [show ((k.toNat : Nat) : Int) = k by omega] at hk
    rw [if_neg c1,if_neg c2,ifp,ifp,hk]
    by_cases c3 : k ∈ seen
    · rw [if_pos (by rw [if_pos c3]; omega),if_neg (fun hh => (qcK.1 hh).1.2.2 c3)]
    rw [if_neg c3] at hk ⊢
    have ih := qgl s d a hl ha e (i + 1) n (k :: seen) (b.set k.toNat 1) (by omega) (by omega) (by simp [hb]) fun j hj => by
      rw [qeg]
      by_cases ej : k.toNat = j
      · rw [if_pos ⟨ej,by omega⟩,if_pos (by rw [show (j : Int) = k by omega]; exact vao ..)]
      · rw [if_neg (fun hh => ej hh.1),hbs j hj]
        by_cases cj : (j : Int) ∈ seen
        · rw [if_pos cj,if_pos (mCm _ cj)]
        · rw [if_neg cj,if_neg (fun hh => by
            rcases van.1 hh with e | hh
            · omega
            · exact cj hh)]
    rw [ifq,ifp,if_pos (by simp only [lSi]; omega),show iW.wrap (0 + 1) = 1 from qaq (by omega) (by omega),qaq (n := (i : Int) + 1) (by omega) (by omega),show (i : Int) + 1 = ((i + 1 : Nat) : Int) by omega,ih]
    by_cases c : zPm s.length (k :: seen) (a.drop (i + 1)) = true
    · rw [if_pos c,if_pos (qcK.2 ⟨⟨by omega,by omega,c3⟩,c⟩)]
    · rw [if_neg c,if_neg (fun hh => c (qcK.1 hh).2)]
theorem qgk {s d a : LI} (h : zT s d = true) (ha : Perm' s.length a) (k : Nat) (hk : 20 <= k) (y4 : LI) : ∀ (e i n : Nat),(pr (pick s a)).toNat = i + e -> e + 10 < n ->
  qa0.l1 k n a (pr (pick s a)) i s d (pick s a) y4 ((vaf i).map (tn s d a) ++ vaa e 0) = some (zTurn s d a)
 | 0,i,n,hi,hn => by
  obtain ⟨n,rfl⟩ := sun (n := n)
  rw [qa0.l1,ifq]
  unfold zTurn made
  rw [hi,vav,vah]; rfl
 | e + 1,i,n,hi,hn => by
  obtain ⟨n,rfl⟩ := sun (n := n)
  have ho := qm0 (qbm h).1 ha
  have hb := (qar ho).2.2
  have h4 := (qar (qbm h).1).1
  have hpl : (pl (pick s a) i).length = a.length := by rw [qcV,pick,vak]
  have hal := ha.len
  have ih := qgk h ha k hk y4 e (i + 1) n (by omega) (by omega)
  have l2 := qgj (pl (pick s a) i) a (by omega) hpl s.length ha.mem i (pr (pick s a)) i s d (pick s a) y4 ((vaf i).map (tn s d a) ++ vaa (e + 1) 0) a.length 0 (vaa s.length 0) n (by simp) (by omega) (by omega)
  rw [n0,dZr,dZr] at l2
  rw [qa0.l1,ifp,qb6 ho (by omega) (by omega) k hk,obs,if_pos (by rw [hpl]; omega),show ((pl (pick s a) i).length : Int).toNat = s.length by rw [hpl]; omega,l2,obs,
   qcA h (qoZ ha (qh6 (fun b hb => (qc4 ho (by omega) b hb).1) i) (by simp)) k hk,obs,
   if_pos (by simp; omega),if_pos (by simp),tNc,show d.getD (ix s (scat (vaa s.length 0) a (pl (pick s a) i))).toNat 0 = tn s d a i from rfl,qg0 (tn s d a),qaq (n := (i : Int) + 1) (by omega) (by omega),show (i : Int) + 1 = ((i + 1 : Nat) : Int) by omega]
  exact ih
theorem qky (s d a : LI) (k : Nat) (hk : 120000 <= k) : qa0.f k s d a = some (if zT s d = true then (if isPerm s.length a = true then (0,pick s a,zTurn s d a) else (1,[],[])) else (13,[],[])) := by
 unfold qa0.f
 rw [qbK s d k (by omega),obs]
 by_cases h : zT s d = true
 ·obtain ⟨hr,_⟩ := qbm h
  have h4 := (qar hr).1
  rw [if_pos h,if_pos h,ifp]
  by_cases hl : a.length = s.length
  ·have l0 := qgl s d a h4 hl s.length 0 k [] (vaa (s.length : Int).toNat 0) (by omega) (by omega) (by simp) (fun j hj => by simp [gDg,vaF,hj])
   rw [n0,dZr,vas,show pick s [] = [] from rfl] at l0
   rw [if_pos (by simp; omega),l0,obs]
   by_cases hc : zPm s.length [] a = true
   ·have hp : isPerm s.length a = true := by simp [isPerm,hl,hc]
    have ha := qeO.1 hp
    have ho := qm0 hr ha
    have hb := qar ho
    have h0 := qct fun x hx => (hb.2.1 x hx).1
    have this := qgk h ha k (by omega) (pick s a) (pr (pick s a)).toNat 0 k (by omega) (by omega)
    rw [if_pos hc,if_pos hp,vai,qbv (pick s a) 0 (by omega) k hk,obs,zSz,if_pos ho,vat,show (((pr (pick s a)).toNat : Nat) : Int) = pr (pick s a) by omega]
    rw [n0] at this
    rw [show vaa (pr (pick s a)).toNat (0 : Int) = (vaf 0).map (tn s d a) ++ vaa (pr (pick s a)).toNat 0 from rfl,this]
    rfl
   ·have hp : ¬ isPerm s.length a = true := by simp [isPerm,hc]
    rw [if_neg hc,if_neg hp]; rfl
  ·have hp : ¬ isPerm s.length a = true := by simp [isPerm,hl]
   rw [if_neg (by simp; omega),if_neg hp]
 ·rw [if_neg h,if_neg h]
end Go.Pf

namespace Go.Pf
open Go Go.Vm
def zp : LI -> LI -> LI -> LI
 | a :: s,l :: lo,h :: hi => (l + a + h) :: zp s lo hi
 | _,_,_ => []
def zMay : LI -> LI -> LI -> Bool
 | [],[],[] => true
 | _ :: s,l :: lo,h :: hi => okS l && okS h && zMay s lo hi
 | _,_,_ => false
theorem qcf {a l h : Int} {s lo hi : LI} : zMay (a :: s) (l :: lo) (h :: hi) = true ↔ ((0 <= l /\ l <= 32) /\ (0 <= h /\ h <= 32)) /\ zMay s lo hi = true := by
 simp only [zMay,bAt,qcZ]
theorem qd1 : ∀ {s lo hi : LI},zMay s lo hi = true -> lo.length = s.length /\ hi.length = s.length
 | [],[],[],_ => ⟨rfl,rfl⟩
 | _ :: s,_ :: f,_ :: z,h => by
  have := qd1 (qcf.1 h).2
  simp [this.1,this.2]
 | [],_ :: _,_,h => by simp [zMay] at h
 | [],[],_ :: _,h => by simp [zMay] at h
 | _ :: _,[],_,h => by simp [zMay] at h
 | _ :: _,_ :: _,[],h => by simp [zMay] at h
theorem qms : ∀ {s lo hi : LI},zMay s lo hi = true -> ∀ x ∈ lo,0 <= x /\ x <= 32
 | [],[],[],_,x,hx => by cases hx
 | _ :: s,_ :: f,_ :: z,h,x,hx => by
  obtain ⟨⟨h1,_⟩,h2⟩ := qcf.1 h
  rcases van.1 hx with e | hx
  ·subst e; exact h1
  ·exact qms h2 x hx
 | [],_ :: _,_,h,_,_ => by simp [zMay] at h
 | [],[],_ :: _,h,_,_ => by simp [zMay] at h
 | _ :: _,[],_,h,_,_ => by simp [zMay] at h
 | _ :: _,_ :: _,[],h,_,_ => by simp [zMay] at h
theorem qmn : ∀ {s lo hi : LI},lo.length = s.length -> hi.length = s.length -> (zp s lo hi).length = s.length
 | [],[],[],_,_ => rfl
 | _ :: s,_ :: lo,_ :: hi,h1,h2 => by simp [zp,qmn (s := s) (by simpa using h1) (by simpa using h2)]
 | [],_ :: _,_,h,_ => by simp at h
 | [],[],_ :: _,_,h => by simp at h
 | _ :: _,[],_,h,_ => by simp at h
 | _ :: _,_ :: _,[],_,h => by simp at h
theorem qeH (a : Int) : qcD.f a = some (okS a) := by
 unfold qcD.f okS
 by_cases h : 0 <= a
 ·rw [if_pos h]; simp [h]
 ·rw [if_neg h]; simp [h]
theorem qe3 (s lo hi : LI) (hs : ∀ a ∈ s,0 <= a /\ a <= 32) (hl : s.length <= 4) (h1 : lo.length = s.length) (h2 : hi.length = s.length) (y : LI) (hy : y.length = s.length) : ∀ (e : Nat) (L : LI) (n : Nat),s.length = L.length + e -> e < n ->
  qbI.l0 n lo hi s s.length L.length (L ++ y.drop L.length) = some (if zMay (s.drop L.length) (lo.drop L.length) (hi.drop L.length) = true then .inl (L ++ zp (s.drop L.length) (lo.drop L.length) (hi.drop L.length)) else .inr 1)
 | 0,L,n,hi',hn => by
  obtain ⟨n,rfl⟩ := sun (n := n)
  rw [qbI.l0,ifq,dNl (by omega),dNl (by omega),dNl (by omega),dNl (by omega)]; rfl
 | e + 1,L,n,hi',hn => by
  obtain ⟨n,rfl⟩ := sun (n := n)
  have ha := hs _ (qas (show L.length < s.length by omega) 0)
  have ih := qe3 s lo hi hs hl h1 h2 y hy e (L ++ [lo.getD L.length 0 + s.getD L.length 0 + hi.getD L.length 0]) n (by simp; omega) (by omega)
  have hL : (L ++ y.drop L.length).length = s.length := by rw [lAp,vaq]; omega
  rw [lAp,lSi] at ih
  rw [qbI.l0,ifp,ifp,ifp,tNc,qeH,obs,if_pos (show 0 <= (L.length : Int) /\ (L.length : Int) < (hi.length : Int) by omega),qeH,obs,hL,
   qaj (show L.length < s.length by omega) (0 : Int),qaj (show L.length < lo.length by omega) (0 : Int),qaj (show L.length < hi.length by omega) (0 : Int),qaj (show L.length < y.length by omega) (0 : Int),setL]
  generalize s.getD L.length 0 = a at *
  generalize lo.getD L.length 0 = l at *
  generalize hi.getD L.length 0 = h at *
  by_cases c1 : okS l = true
  ·by_cases c2 : okS h = true
   ·have b1 := qcZ.1 c1
    have b2 := qcZ.1 c2
    rw [if_pos c1,if_pos c2,ifp,ifp,qaq (n := l + a) (by omega) (by omega),qaq (n := l + a + h) (by omega) (by omega),qaq (n := (L.length : Int) + 1) (by omega) (by omega),show (L.length : Int) + 1 = ((L.length + 1 : Nat) : Int) by omega,ih]
    by_cases c : zMay (s.drop (L.length + 1)) (lo.drop (L.length + 1)) (hi.drop (L.length + 1)) = true
    ·rw [if_pos c,if_pos (qcf.2 ⟨⟨b1,b2⟩,c⟩)]; simp [zp]
    ·rw [if_neg c,if_neg (fun hh => c (qcf.1 hh).2)]
   ·rw [if_pos c1,if_neg c2,if_neg (fun hh => c2 (qcZ.2 (qcf.1 hh).1.2))]
  ·rw [if_neg c1,if_neg (fun hh => c1 (qcZ.2 (qcf.1 hh).1.1))]
theorem qjo {s : LI} (h : mSR s = true) (lo hi : LI) (k : Nat) (hk : 10 <= k) : qbI.f k s lo hi = some (if zMay s lo hi = true then (if mSR (zp s lo hi) = true then (0,zp s lo hi) else (13,[])) else (1,[])) := by
 obtain ⟨hl,hs,_⟩ := qar h
 unfold qbI.f
 by_cases h1 : lo.length = s.length
 ·by_cases h2 : hi.length = s.length
  ·have l0 := qe3 s lo hi hs hl h1 h2 (vaa (s.length : Int).toNat 0) (by simp) s.length [] k (by simp) (by omega)
   rw [vaE,n0,dZr,dZr,dZr,dZr,nAp,nAp] at l0
   rw [ifp,ifp,ifp,l0,obs]
   by_cases c : zMay s lo hi = true
   ·rw [if_pos c,if_pos c,vai,qbV _ k hk,obs]
    by_cases c2 : mSR (zp s lo hi) = true
    ·rw [if_pos c2,if_pos c2]
    ·rw [if_neg c2,if_neg c2]
   ·rw [if_neg c,if_neg c,vaI]
  ·rw [ifp,ifq,if_neg (fun hh => h2 (qd1 hh).2)]
 ·rw [ifq,if_neg (fun hh => h1 (qd1 hh).1)]
def zSub : LI -> LI -> LI := List.zipWith (· - ·)
def pdF (s d lo : LI) (c : Int) (p : LI) : Int := if mIn s (zSub p lo) = true then d.getD (ix s (zSub p lo)).toNat 0 else c
def zPad (s d lo hi : LI) (c : Int) : LI := made (zp s lo hi) (pdF s d lo c)
end Go.Pf

namespace Go.Pf
open Go Go.Vm
theorem qhl (s d lo hi : LI) (c : Int) (hs : ∀ a ∈ s,0 <= a /\ a <= 32) (hl : s.length <= 4) (h1 : lo.length = s.length) (h2 : hi.length = s.length) : ∀ (e : Nat) (L : LI) (n : Nat),s.length = L.length + e -> e < n ->
  qbc.l0 n lo hi c lo.length L.length s d L = some (if zMay (s.drop L.length) (lo.drop L.length) (hi.drop L.length) = true then .inl (L ++ zp (s.drop L.length) (lo.drop L.length) (hi.drop L.length)) else .inr 1)
 | 0,L,n,hi',hn => by
  obtain ⟨n,rfl⟩ := sun (n := n)
  rw [qbc.l0,ifq,dNl (by omega),dNl (by omega),dNl (by omega)]
  simp [zMay,zp]
 | e + 1,L,n,hi',hn => by
  obtain ⟨n,rfl⟩ := sun (n := n)
  have ha := hs _ (qas (show L.length < s.length by omega) 0)
  have ih := qhl s d lo hi c hs hl h1 h2 e (L ++ [lo.getD L.length 0 + s.getD L.length 0 + hi.getD L.length 0]) n (by simp; omega) (by omega)
  rw [lAp,lSi] at ih
  rw [qbc.l0,ifp,ifp,if_pos (show 0 <= (L.length : Int) /\ (L.length : Int) < (hi.length : Int) by omega),if_pos (show 0 <= (L.length : Int) /\ (L.length : Int) < (s.length : Int) by omega),tNc,
   qaj (show L.length < s.length by omega) (0 : Int),qaj (show L.length < lo.length by omega) (0 : Int),qaj (show L.length < hi.length by omega) (0 : Int)]
  generalize s.getD L.length 0 = a at *
  generalize lo.getD L.length 0 = l at *
  generalize hi.getD L.length 0 = h at *
  by_cases c1 : l < 0
  ·rw [if_pos c1,if_neg (by rw [qcf]; omega)]
  by_cases c2 : h < 0
  ·rw [if_neg c1,if_pos c2,if_neg (by rw [qcf]; omega)]
  by_cases c3 : 32 < l
  ·rw [if_neg c1,if_neg c2,if_pos c3,if_neg (by rw [qcf]; omega)]
  by_cases c4 : 32 < h
  ·rw [if_neg c1,if_neg c2,if_neg c3,if_pos c4,if_neg (by rw [qcf]; omega)]
  rw [if_neg c1,if_neg c2,if_neg c3,if_neg c4,if_pos (by simp only [lSi]; omega),qaq (n := l + a) (by omega) (by omega),qaq (n := l + a + h) (by omega) (by omega),qaq (n := (L.length : Int) + 1) (by omega) (by omega),show (L.length : Int) + 1 = ((L.length + 1 : Nat) : Int) by omega,ih]
  by_cases c : zMay (s.drop (L.length + 1)) (lo.drop (L.length + 1)) (hi.drop (L.length + 1)) = true
  ·rw [if_pos c,if_pos (qcf.2 ⟨by omega,c⟩)]; simp [zp]
  ·rw [if_neg c,if_neg (fun hh => c (qcf.1 hh).2)]
theorem qhj (f : LI) (p : LI) (hf : ∀ a ∈ f,0 <= a /\ a <= 32) (hp : ∀ a ∈ p,0 <= a /\ a <= 32) (hl : f.length <= 4) (hlen : p.length = f.length) (x13 x95 x96 : Int) (s d y2 y5 y6 : LI) : ∀ (e : Nat) (L : LI) (n : Nat),f.length = L.length + e -> e < n ->
  qbc.l2 n f x13 x95 x96 p.length L.length s d y2 (L ++ p.drop L.length) y5 y6 = some (L ++ zAdd (p.drop L.length) (f.drop L.length))
 | 0,L,n,hi,hn => by
  obtain ⟨n,rfl⟩ := sun (n := n)
  rw [qbc.l2,ifq,dNl (by omega)]; rfl
 | e + 1,L,n,hi,hn => by
  obtain ⟨n,rfl⟩ := sun (n := n)
  have ha := hf _ (qas (show L.length < f.length by omega) 0)
  have hb := hp _ (qas (show L.length < p.length by omega) 0)
  have ih := qhj f p hf hp hl hlen x13 x95 x96 s d y2 y5 y6 e (L ++ [p.getD L.length 0 + f.getD L.length 0]) n (by simp; omega) (by omega)
  have hL : (L ++ p.drop L.length).length = f.length := by rw [lAp,vaq]; omega
  rw [qbc.l2,ifp,if_pos (by rw [hL]; omega),if_pos (by rw [hL]; omega),ifp,tNc,qaj (show L.length < p.length by omega) (0 : Int),qaj (show L.length < f.length by omega) (0 : Int),getL,setL,qaq (n := p.getD L.length 0 + f.getD L.length 0) (by omega) (by omega),qaq (n := (L.length : Int) + 1) (by omega) (by omega)]
  rw [lAp,lSi] at ih
  rw [show (L.length : Int) + 1 = ((L.length + 1 : Nat) : Int) by omega,ih]
  simp [zAdd]
theorem qju : ∀ {p f : LI},p.length = f.length -> zSub (zAdd p f) f = p
 | [],[],_ => rfl
 | a :: p,b :: f,h => by
  have := qju (p := p) (f := f) (by simpa using h)
  show (a + b - b) :: zSub (zAdd p f) f = a :: p
  rw [this,Int.add_sub_cancel]
 | [],_ :: _,h => by simp at h
 | _ :: _,[],h => by simp at h
theorem qjv : ∀ {p f : LI},p.length = f.length -> zAdd (zSub p f) f = p
 | [],[],_ => rfl
 | a :: p,b :: f,h => by
  have := qjv (p := p) (f := f) (by simpa using h)
  show (a - b + b) :: zAdd (zSub p f) f = a :: p
  rw [this,Int.sub_add_cancel]
 | [],_ :: _,h => by simp at h
 | _ :: _,[],h => by simp at h
theorem qpr : ∀ {s lo hi p : LI},zMay s lo hi = true -> mIn s p = true -> mIn (zp s lo hi) (zAdd p lo) = true
 | [],[],[],[],_,_ => rfl
 | a :: s,l :: lo,h :: hi,b :: p,hm,hp => by
  obtain ⟨h1,h2⟩ := qcf.1 hm
  obtain ⟨h3,h4⟩ := qbC.1 hp
  exact qbC.2 ⟨by show 0 <= b + l /\ b + l < l + a + h; omega,qpr h2 h4⟩
 | [],_ :: _,_,_,h,_ => by simp [zMay] at h
 | [],[],_ :: _,_,h,_ => by simp [zMay] at h
 | _ :: _,[],_,_,h,_ => by simp [zMay] at h
 | _ :: _,_ :: _,[],_,h,_ => by simp [zMay] at h
 | [],[],[],_ :: _,_,h => by simp [mIn] at h
 | _ :: _,_ :: _,_ :: _,[],_,h => by simp [mIn] at h
theorem map_set (m t : Nat) (v : Int) (g g' : Nat -> Int) (h : g' t = v) (ho : ∀ j,j ≠ t -> j < m -> g' j = g j) : ((vaf m).map g).set t v = (vaf m).map g' := by
 apply vaP (by simp)
 intro j h1 h2
 have hj : j < m := by simpa using h2
 rw [List.getElem_set,vaO,vaO,vbg]
 by_cases e : t = j
 ·subst e; rw [if_pos rfl,h]
 ·rw [if_neg e,ho j (fun h => e h.symm) hj]
def pdI (s d lo : LI) (c : Int) (i : Nat) (p : LI) : Int := if mIn s (zSub p lo) = true /\ ix s (zSub p lo) < i then d.getD (ix s (zSub p lo)).toNat 0 else c
theorem qhk {s d lo hi : LI} (h : zT s d = true) (hm : zMay s lo hi = true) (ho : mSR (zp s lo hi) = true) (c : Int) (k : Nat) (hk : 20 <= k) (y4 : LI) : ∀ (e i n : Nat),d.length = i + e -> e + 10 < n ->
  qbc.l1 k n lo d.length i s d (zp s lo hi) y4 ((vaf (pr (zp s lo hi)).toNat).map fun (j : Nat) => pdI s d lo c i (pl (zp s lo hi) j)) = some (zPad s d lo hi c)
 | 0,i,n,hi',hn => by
  obtain ⟨n,rfl⟩ := sun (n := n)
  obtain ⟨_,hd⟩ := qbm h
  rw [qbc.l1,ifq]
  unfold zPad made
  congr 1
  apply List.map_congr_left
  intro j _
  unfold pdI pdF
  by_cases hc : mIn s (zSub (pl (zp s lo hi) j) lo) = true
  ·have := qia hc
   rw [if_pos ⟨hc,by omega⟩,if_pos hc]
  ·rw [if_neg (fun hh => hc hh.1),if_neg hc]
 | e + 1,i,n,hi',hn => by
  obtain ⟨n,rfl⟩ := sun (n := n)
  obtain ⟨hr,hd⟩ := qbm h
  obtain ⟨g1,g2,g3⟩ := qar hr
  obtain ⟨l1,l2⟩ := qd1 hm
  have hpos := qc4 hr (by omega)
  have hpi : mIn s (pl s i) = true := qh6 (fun b hb => (hpos b hb).1) i
  have hpo := qpr hm hpi
  have hb := qia hpo
  have hz : zIx (zp s lo hi) (zAdd (pl s i) lo) = ix (zp s lo hi) (zAdd (pl s i) lo) := if_pos ⟨ho,hpo⟩
  have ih := qhk h hm ho c k hk y4 e (i + 1) n (by omega) (by omega)
  have l2 := qhj lo (pl s i) (qms hm) (qpC hr (by omega) i) (by omega) (by rw [qcV]; omega) i d.length i s d (zp s lo hi) y4 ((vaf (pr (zp s lo hi)).toNat).map fun (j : Nat) => pdI s d lo c i (pl (zp s lo hi) j)) lo.length [] n (by simp) (by omega)
  rw [vaE,n0,dZr,dZr,nAp,nAp] at l2
  have hix : ix s (pl s i) = i := qoh (fun x hx => (g2 x hx).1) (by omega) (by omega)
  have hset := map_set (pr (zp s lo hi)).toNat (ix (zp s lo hi) (zAdd (pl s i) lo)).toNat (d.getD i 0) (fun (j : Nat) => pdI s d lo c i (pl (zp s lo hi) j)) (fun (j : Nat) => pdI s d lo c (i + 1) (pl (zp s lo hi) j))
   (by
    rw [show (((ix (zp s lo hi) (zAdd (pl s i) lo)).toNat : Nat) : Int) = ix (zp s lo hi) (zAdd (pl s i) lo) by omega,qmY hpo]
    unfold pdI
    rw [qju (by rw [qcV]; omega),hix,if_pos ⟨hpi,by omega⟩,tNc])
   (fun j hj hjm => by
    have hpo0 : 0 < pr (zp s lo hi) := by omega
    have hposo := qc4 ho hpo0
    unfold pdI
    by_cases hc : mIn s (zSub (pl (zp s lo hi) j) lo) = true
    ·have hne : ix s (zSub (pl (zp s lo hi) j) lo) ≠ i := fun e => by
      have e1 := qmY hc
      rw [e] at e1
      have e2 : zAdd (pl s i) lo = pl (zp s lo hi) j := by rw [e1]; exact qjv (by rw [qcV,qmn l1 (qd1 hm).2]; omega)
      have e3 := qoh (s := zp s lo hi) (fun x hx => ((hposo x hx).1 |> Int.le_of_lt)) (x := (j : Int)) (by omega) (by omega)
      rw [<- e2] at e3
      omega
     by_cases ha : ix s (zSub (pl (zp s lo hi) j) lo) < i
     ·rw [if_pos ⟨hc,by omega⟩,if_pos ⟨hc,ha⟩]
     ·rw [if_neg (fun hh => by have := hh.2; omega),if_neg (fun hh => ha hh.2)]
    ·rw [if_neg (fun hh => hc hh.1),if_neg (fun hh => hc hh.1)])
  rw [qbc.l1,ifp,qb6 hr (by omega) (by omega) k hk,obs,l2,obs,qdE _ _ k hk,obs,hz,
   ifp,if_pos (by rw [vak,va2]; omega),if_pos (by rw [vak,va2]; omega),tNc,hset,qaq (n := (i : Int) + 1) (by omega) (by omega),show (i : Int) + 1 = ((i + 1 : Nat) : Int) by omega]
  exact ih
theorem ql2 (s d lo hi : LI) (c : Int) (k : Nat) (hk : 120000 ≤ k) : qbc.f k s d lo hi c = some (if zT s d = true then (if zMay s lo hi = true then (if mSR (zp s lo hi) = true then (0,zp s lo hi,zPad s d lo hi c) else (13,[],[])) else (1,[],[])) else (13,[],[])) := by
  unfold qbc.f
  rw [qbK s d k (by omega),obs]
  by_cases h : zT s d = true
  · obtain ⟨hr,hd⟩ := qbm h
    obtain ⟨h4,hs,hpr⟩ := qar hr
    rw [if_pos h,if_pos h]
    by_cases h1 : lo.length = s.length
    · by_cases h2 : hi.length = s.length
      · have l0 := qhl s d lo hi c hs h4 h1 h2 s.length [] k (by simp) (by omega)
        rw [vaE,n0,dZr,dZr,dZr,nAp] at l0
        rw [ifp,ifp,l0,obs]
        by_cases hm : zMay s lo hi = true
        · rw [if_pos hm,if_pos hm,vai,qbj _ k (by omega),obs]
          by_cases ho : mSR (zp s lo hi) = true
          · have hol := qmn h1 h2
            have hb := qar ho
            have h0 := qct fun x hx => (hb.2.1 x hx).1
            have this := qhk h hm ho c k (by omega) (zp s lo hi) d.length 0 k (by omega) (by omega)
            rw [if_pos ho,if_pos ho,qbv _ c (by omega) k hk,obs,zSz,if_pos ho]
            rw [n0] at this
            have e : vaa (pr (zp s lo hi)).toNat c = (vaf (pr (zp s lo hi)).toNat).map fun (j : Nat) => pdI s d lo c 0 (pl (zp s lo hi) j) := by
              apply vaP (by simp)
              intro j _ _
              rw [List.getElem_replicate,vaO]
              unfold pdI
              rw [if_neg (fun hh => by have := qia hh.1; have := hh.2; omega)]
            rw [e,this]; rfl
          · rw [if_neg ho,if_neg ho]
        · rw [if_neg hm,if_neg hm,vaI]
      · rw [ifp,ifq,if_neg (fun hh => h2 (qd1 hh).2)]
    · rw [ifq,if_neg (fun hh => h1 (qd1 hh).1)]
  · rw [if_neg h,if_neg h]
end Go.Pf

namespace Go.Pf
open Go Go.Vm
theorem qaD {l : LI} {i : Nat} {x d : Int} (h : i < l.length) : (l.set i x).getD i d = x := by rw [qeg,if_pos ⟨rfl,h⟩]
abbrev Tn := LI × LI
def zMt (ax : Nat) (s out : LI) : Nat -> Nat -> Bool
 | 0,_ => true
 | d + 1,i => (decide (i = ax) || decide (s.getD i 0 = out.getD i 0)) && zMt ax s out d (i + 1)
theorem qmr {ax : Nat} {s out : LI} : ∀ {d i : Nat},zMt ax s out d i = true -> ∀ j,i <= j -> j < i + d -> j ≠ ax -> s.getD j 0 = out.getD j 0
 | 0,i,_,j,h1,h2,_ => by omega
 | d + 1,i,h,j,h1,h2,hj => by
  simp only [zMt,bAt,vaU,decide_eq_true_eq] at h
  by_cases e : i = j
  ·subst e; exact h.1.resolve_left hj
  ·exact qmr h.2 j (by omega) (by omega) hj
theorem qc9 {ax : Nat} {s out : LI} {d i : Nat} : zMt ax s out (d + 1) i = true ↔ (i = ax \/ s.getD i 0 = out.getD i 0) /\ zMt ax s out d (i + 1) = true := by
 simp only [zMt,bAt,vaU,decide_eq_true_eq]
def zJo (ax : Nat) : List LI -> LI -> Option LI
 | [],out => some out
 | s :: r,out => if s.length = out.length /\ zMt ax s out s.length 0 = true /\ out.getD ax 0 + s.getD ax 0 <= 32 then zJo ax r (out.set ax (out.getD ax 0 + s.getD ax 0)) else none
theorem qe4 (ax : Nat) (s out : LI) (hl : s.length <= 1000) (he : s.length = out.length) (x33 : List LI) (x34 x35 : Int) (x8 : LI) : ∀ (d i n : Nat),s.length = i + d -> d < n ->
  qaY.l1 n ax x8 x33 x34 x35 s s.length i out = some (if zMt ax s out d i = true then .inl () else .inr 13)
 | 0,i,n,hi,hn => by
  obtain ⟨n,rfl⟩ := sun (n := n)
  rw [qaY.l1,ifq]; rfl
 | d + 1,i,n,hi,hn => by
  obtain ⟨n,rfl⟩ := sun (n := n)
  have ih := qe4 ax s out hl he x33 x34 x35 x8 d (i + 1) n (by omega) (by omega)
  rw [qaY.l1,ifp,ifp,qaq (n := (i : Int) + 1) (by omega) (by omega),show (i : Int) + 1 = ((i + 1 : Nat) : Int) by omega,ih,tNc]
  by_cases c1 : (i : Int) = ax
  ·rw [if_pos c1]
   by_cases c : zMt ax s out d (i + 1) = true
   ·rw [if_pos c,if_pos (qc9.2 ⟨.inl (by omega),c⟩)]
   ·rw [if_neg c,if_neg (fun hh => c (qc9.1 hh).2)]
  rw [if_neg c1,ifp,ifp]
  by_cases c2 : s.getD i 0 = out.getD i 0
  ·rw [if_pos c2]
   by_cases c : zMt ax s out d (i + 1) = true
   ·rw [if_pos c,if_pos (qc9.2 ⟨.inr c2,c⟩)]
   ·rw [if_neg c,if_neg (fun hh => c (qc9.1 hh).2)]
  ·rw [if_neg c2,if_neg (fun hh => by
    rcases (qc9.1 hh).1 with e | e
    ·omega
    ·exact c2 e)]
theorem qe5 (ax : Nat) (k : Nat) (sh : List LI) (hsh : ∀ s ∈ sh,s.length ≤ 4 ∧ ∀ x ∈ s,0 ≤ x ∧ x ≤ 32) (hl : sh.length ≤ 17592186043904) : ∀ (d i n : Nat) (out : LI),sh.length = i + d → d + 10 < n → ax < out.length → 0 ≤ out.getD ax 0 → out.getD ax 0 ≤ 32 →
    qaY.l0 k n ax sh sh.length i out = some (match zJo ax (sh.drop i) out with | some o => .inl o | none => .inr 13)
  | 0,i,n,out,hi,hn,hax,h0,h1 => by
    obtain ⟨n,rfl⟩ := sun (n := n)
    rw [qaY.l0,ifq,dNl (by omega)]; rfl
  | d + 1,i,n,out,hi,hn,hax,h0,h1 => by
    obtain ⟨n,rfl⟩ := sun (n := n)
    have hs := hsh _ (qas (show i < sh.length by omega) [])
    rw [qaY.l0,ifp,ifp,tNc,qaj (show i < sh.length by omega) ([] : LI)]
    generalize sh.getD i [] = s at hs ⊢
    by_cases c1 : s.length = out.length
    · rw [ifp]
      have l1 := qe4 ax s out (by omega) c1 sh sh.length i s s.length 0 n (by omega) (by omega)
      rw [n0] at l1
      rw [l1,obs]
      by_cases c2 : zMt ax s out s.length 0 = true
      · have hx := hs.2 _ (qas (show ax < s.length by omega) 0)
        rw [if_pos c2,vai,tNc,ifp,ifp,ifp,qaq (n := out.getD ax 0 + s.getD ax 0) (by omega) (by omega),if_pos (by rw [vay]; omega),if_pos (by rw [vay]; omega),qaD hax]
        by_cases c3 : 32 < out.getD ax 0 + s.getD ax 0
        · rw [if_pos c3,zJo,ifq]
        · have ih := qe5 ax k sh hsh hl d (i + 1) n (out.set ax (out.getD ax 0 + s.getD ax 0)) (by omega) (by omega) (by rw [vay]; exact hax) (by rw [qaD hax]; omega) (by rw [qaD hax]; omega)
          rw [if_neg c3,qaq (n := (i : Int) + 1) (by omega) (by omega),show (i : Int) + 1 = ((i + 1 : Nat) : Int) by omega,ih,zJo,if_pos ⟨c1,c2,by omega⟩]
      · rw [if_neg c2,vaI,zJo,if_neg (fun hh => c2 hh.2.1)]
    · rw [ifq,zJo,if_neg (fun hh => c1 hh.1)]
def zJs (ax : Int) (sh : List LI) : Int × LI :=
 if sh = [] \/ ax < 0 \/ ((sh.getD 0 []).length : Int) <= ax then (1,[]) else
 match zJo ax.toNat sh ((sh.getD 0 []).set ax.toNat 0) with
 | some o => if mSR o = true then (0,o) else (13,[])
 | none => (13,[])
theorem qjp (ax : Int) (sh : List LI) (hsh : ∀ s ∈ sh,s.length <= 4 /\ ∀ x ∈ s,0 <= x /\ x <= 32) (hl : sh.length <= 17592186043904) (k : Nat) (hk : sh.length + 100 <= k) : qaY.f k ax sh = some (zJs ax sh) := by
 unfold qaY.f zJs
 by_cases c1 : sh = []
 ·subst c1; rw [if_pos (show (([] : List LI).length : Int) = 0 from rfl),if_pos (.inl rfl)]
 have hpos : 0 < sh.length := vaZ.2 c1
 rw [ifq]
 by_cases c2 : ax < 0
 ·rw [if_pos c2,if_pos (.inr (.inl c2))]
 rw [if_neg c2,ifp]
 by_cases c3 : ((sh.getD 0 []).length : Int) <= ax
 ·rw [if_pos c3,if_pos (.inr (.inr c3))]
 have hs := hsh _ (qas hpos [])
 rw [if_neg c3,if_neg (fun hh => hh.elim c1 fun hh => hh.elim c2 c3),qbi _ (by omega),obs,ifp,ifp]
 have l0 := qe5 ax.toNat k sh hsh hl sh.length 0 k ((sh.getD 0 []).set ax.toNat 0) (by omega) (by omega) (by rw [vay]; omega) (by rw [qaD (by omega)]; omega) (by rw [qaD (by omega)]; omega)
 rw [n0,dZr,show ((ax.toNat : Nat) : Int) = ax by omega] at l0
 rw [l0,obs]
 cases zJo ax.toNat sh ((sh.getD 0 []).set ax.toNat 0) with
 | none => rfl
 | some o =>
  dsimp only
  rw [vai,qbV o k (by omega),obs]
  by_cases c : mSR o = true
  ·rw [if_pos c,if_pos c]
  ·rw [if_neg c,if_neg c]
def zJ (ax : Nat) : List Tn -> LI -> Int
 | [],_ => 0
 | t :: r,p => if p.getD ax 0 < t.1.getD ax 0 then (if mIn t.1 p = true then t.2.getD (ix t.1 p).toNat 0 else 0) else zJ ax r (p.set ax (p.getD ax 0 - t.1.getD ax 0))
end Go.Pf

namespace Go.Pf
open Go Go.Vm
theorem qch {l : LI} {i : Nat} {x : Int} : (l.set i x).length = l.length := vay
theorem qcQ {l : LI} {i j : Nat} {x d : Int} (h : i ≠ j) : (l.set i x).getD j d = l.getD j d := by rw [qeg,if_neg (fun hh => h hh.1)]
theorem qk5 {ax : Nat} : ∀ {sh : List LI} {o0 o : LI},zJo ax sh o0 = some o -> ax < o0.length ->
  o.length = o0.length /\ (∀ s ∈ sh,s.length = o0.length /\ ∀ j,j < s.length -> j ≠ ax -> s.getD j 0 = o0.getD j 0) /\ (∀ j,j ≠ ax -> o.getD j 0 = o0.getD j 0) /\ o.getD ax 0 = o0.getD ax 0 + sm (sh.map fun s => s.getD ax 0)
 | [],o0,o,h,hax => by
  cases h
  exact ⟨rfl,(fun s hs => by cases hs),fun _ _ => rfl,(by simp [sm])⟩
 | s :: r,o0,o,h,hax => by
  unfold zJo at h
  split at h
  rotate_left
  ·cases h
  rename_i hc
  obtain ⟨h1,h2,h3⟩ := hc
  obtain ⟨i1,i2,i3,i4⟩ := qk5 h (by rw [qch]; exact hax)
  rw [qch] at i1
  rw [qaD hax] at i4
  refine ⟨i1,fun t ht => ?_,fun j hj => by rw [i3 j hj,qcQ (fun e => hj e.symm)],?_⟩
  ·rcases van.1 ht with e | ht
   ·subst e; exact ⟨h1,fun j hj hne => qmr h2 j (by omega) (by omega) hne⟩
   ·obtain ⟨k1,k2⟩ := i2 t ht
    rw [qch] at k1
    exact ⟨k1,fun j hj hne => by rw [k2 j hj hne,qcQ (fun e => hne e.symm)]⟩
  ·rw [i4,vaN]
   show _ = o0.getD ax 0 + (s.getD ax 0 + sm (r.map fun s => s.getD ax 0))
   omega
def zJoin (ax : Int) (l : List Tn) : Int × LI × LI :=
 if l.all (fun t => zT t.1 t.2) = true then
  (if (zJs ax (l.map (·.1))).1 = 0 then (0,(zJs ax (l.map (·.1))).2,made (zJs ax (l.map (·.1))).2 (zJ ax.toNat l)) else ((zJs ax (l.map (·.1))).1,[],[]))
 else (13,[],[])
theorem qpv {ax : Int} {l : List Tn} (hT : l.all (fun t => zT t.1 t.2) = true) (h : (zJs ax (l.map (·.1))).1 = 0) :
  ∃ o,(zJs ax (l.map (·.1))).2 = o /\ mSR o = true /\ 0 < l.length /\ 0 <= ax /\ ax.toNat < o.length /\ zJo ax.toNat (l.map (·.1)) ((l.getD 0 ([],[])).1.set ax.toNat 0) = some o /\
   o.length = (l.getD 0 ([],[])).1.length /\ (∀ t ∈ l,t.1.length = o.length /\ ∀ j,j < o.length -> j ≠ ax.toNat -> t.1.getD j 0 = o.getD j 0) /\ o.getD ax.toNat 0 = sm (l.map fun t => t.1.getD ax.toNat 0) := by
 unfold zJs at h ⊢
 split at h
 ·simp at h
 rename_i hc
 rw [if_neg hc]
 have hl : 0 < l.length := by
  refine Nat.pos_of_ne_zero fun e => hc (.inl ?_)
  rw [List.length_eq_zero_iff.1 e]; rfl
 have h0 : ((l.map (·.1)).getD 0 []) = (l.getD 0 ([],[])).1 := by
  cases l with
  | nil => simp at hl
  | cons _ _ => rfl
 rw [h0] at h hc ⊢
 have hax : ax.toNat < ((l.getD 0 ([],[])).1.set ax.toNat 0).length := by rw [qch]; omega
 cases hz : zJo ax.toNat (l.map (·.1)) ((l.getD 0 ([],[])).1.set ax.toNat 0) with
 | none => rw [hz] at h; simp at h
 | some o =>
  rw [hz] at h
  dsimp only at h ⊢
  by_cases ho : mSR o = true
  ·rw [if_pos ho]
   obtain ⟨i1,i2,i3,i4⟩ := qk5 hz hax
   rw [qch] at i1
   rw [qch] at hax
   refine ⟨o,rfl,ho,hl,by omega,by omega,rfl,i1,fun t ht => ?_,?_⟩
   ·obtain ⟨k1,k2⟩ := i2 t.1 (List.mem_map_of_mem ht)
    rw [qch] at k1
    exact ⟨by omega,fun j hj hne => by rw [k2 j (by omega) hne,i3 j hne]⟩
   ·rw [i4,qaD hax,Int.zero_add,vbe]; rfl
  ·rw [if_neg ho] at h; simp at h
end Go.Pf

namespace Go.Pf
open Go Go.Vm
theorem qgq (k : Nat) (hk : 10 <= k) (l : List Tn) (hl : l.length <= 100000) (a0 : Int) : ∀ (d i n : Nat),l.length = i + d -> d < n ->
  qay.l0 k n a0 l l.length i = some (if (l.drop i).all (fun t => zT t.1 t.2) = true then .inl () else .inr 13)
 | 0,i,n,hi,hn => by
  obtain ⟨n,rfl⟩ := sun (n := n)
  rw [qay.l0,ifq,dNl (by omega)]; rfl
 | d + 1,i,n,hi,hn => by
  obtain ⟨n,rfl⟩ := sun (n := n)
  have ih := qgq k hk l hl a0 d (i + 1) n (by omega) (by omega)
  rw [qay.l0,ifp,ifp,tNc,qbK _ _ k hk,obs,qaj (show i < l.length by omega) (([],[]) : Tn),vaz]
  by_cases c : zT (l.getD i ([],[])).1 (l.getD i ([],[])).2 = true
  ·rw [if_pos c,qaq (n := (i : Int) + 1) (by omega) (by omega),show (i : Int) + 1 = ((i + 1 : Nat) : Int) by omega,ih,c,vaj]
  ·rw [if_neg c,if_neg (by rw [bAt]; exact fun hh => c hh.1)]
theorem qgo (ax : Nat) (l : List Tn) (q : Nat) (hq : q < l.length) (out : LI) (hl : out.length <= 1000) (he : (l.getD q ([],[])).1.length = out.length) (x55 x56 : Int) : ∀ (d i n : Nat),out.length = i + d -> d < n ->
  qay.l2 n ax l q x55 x56 out.length i out = some (if zMt ax (l.getD q ([],[])).1 out d i = true then .inl () else .inr 13)
 | 0,i,n,hi,hn => by
  obtain ⟨n,rfl⟩ := sun (n := n)
  rw [qay.l2,ifq]; rfl
 | d + 1,i,n,hi,hn => by
  obtain ⟨n,rfl⟩ := sun (n := n)
  have ih := qgo ax l q hq out hl he x55 x56 d (i + 1) n (by omega) (by omega)
  rw [qay.l2,ifp,qaq (n := (i : Int) + 1) (by omega) (by omega),show (i : Int) + 1 = ((i + 1 : Nat) : Int) by omega,ih,tNc,tNc]
  by_cases c1 : (i : Int) = ax
  ·rw [if_pos c1]
   by_cases c : zMt ax (l.getD q ([],[])).1 out d (i + 1) = true
   ·rw [if_pos c,if_pos (qc9.2 ⟨.inl (by omega),c⟩)]
   ·rw [if_neg c,if_neg (fun hh => c (qc9.1 hh).2)]
  rw [if_neg c1,ifp,ifp,ifp,ifp]
  by_cases c2 : (l.getD q ([],[])).1.getD i 0 = out.getD i 0
  ·rw [if_pos c2]
   by_cases c : zMt ax (l.getD q ([],[])).1 out d (i + 1) = true
   ·rw [if_pos c,if_pos (qc9.2 ⟨.inr c2,c⟩)]
   ·rw [if_neg c,if_neg (fun hh => c (qc9.1 hh).2)]
  ·rw [if_neg c2,if_neg (fun hh => by
    rcases (qc9.1 hh).1 with e | e
    ·omega
    ·exact c2 e)]
theorem qgp (ax : Nat) (k : Nat) (l : List Tn) (hsh : ∀ t ∈ l,t.1.length ≤ 4 ∧ ∀ x ∈ t.1,0 ≤ x ∧ x ≤ 32) (hl : l.length ≤ 100000) : ∀ (d i n : Nat) (out : LI),l.length = i + d → d + 10 < n → ax < out.length → 0 ≤ out.getD ax 0 → out.getD ax 0 ≤ 32 →
    qay.l1 k n ax l l.length i out = some (match zJo ax ((l.drop i).map (·.1)) out with | some o => .inl o | none => .inr 13)
  | 0,i,n,out,hi,hn,hax,h0,h1 => by
    obtain ⟨n,rfl⟩ := sun (n := n)
    rw [qay.l1,ifq,dNl (by omega)]; rfl
  | d + 1,i,n,out,hi,hn,hax,h0,h1 => by
    obtain ⟨n,rfl⟩ := sun (n := n)
    have hs := hsh _ (qas (show i < l.length by omega) ([],[]))
    rw [qay.l1,ifp,ifp,qaj (show i < l.length by omega) (([],[]) : Tn),vaN,show ((i : Int)).toNat = i from tNc i]
    by_cases c1 : (l.getD i ([],[])).1.length = out.length
    · rw [ifp]
      have l2 := qgo ax l i (by omega) out (by omega) c1 l.length i out.length 0 n (by omega) (by omega)
      rw [n0] at l2
      rw [l2,obs]
      generalize (l.getD i ([],[])).1 = s at hs c1 ⊢
      by_cases c2 : zMt ax s out out.length 0 = true
      · have hx := hs.2 _ (qas (show ax < s.length by omega) 0)
        rw [if_pos c2,vai,tNc,ifp,ifp,ifp,qaq (n := out.getD ax 0 + s.getD ax 0) (by omega) (by omega),if_pos (by rw [vay]; omega),if_pos (by rw [vay]; omega),qaD hax]
        by_cases c3 : 32 < out.getD ax 0 + s.getD ax 0
        · rw [if_pos c3,zJo,ifq]
        · have ih := qgp ax k l hsh hl d (i + 1) n (out.set ax (out.getD ax 0 + s.getD ax 0)) (by omega) (by omega) (by rw [vay]; exact hax) (by rw [qaD hax]; omega) (by rw [qaD hax]; omega)
          rw [if_neg c3,qaq (n := (i : Int) + 1) (by omega) (by omega),show (i : Int) + 1 = ((i + 1 : Nat) : Int) by omega,ih,zJo,if_pos ⟨c1,by rw [c1]; exact c2,by omega⟩]
      · rw [if_neg c2,vaI,zJo,if_neg (fun hh => c2 (by rw [← c1]; exact hh.2.1))]
    · rw [ifq,zJo,if_neg (fun hh => c1 hh.1)]
def jnG (ax : Nat) (l : List Tn) (c : Int) (s : LI) (i : Nat) (p : LI) : Int :=
 if p.getD ax 0 < c \/ (p.getD ax 0 < c + s.getD ax 0 /\ ix s (p.set ax (p.getD ax 0 - c)) < i) then zJ ax l p else 0
structure JOK (ax : Nat) (o : LI) (t : Tn) : Prop where
 T : zT t.1 t.2 = true
 len : t.1.length = o.length
 eq : ∀ j,j < o.length -> j ≠ ax -> t.1.getD j 0 = o.getD j 0
theorem qgV {ax : Nat} {o : LI} {t : Tn} (h : JOK ax o t) (hax : ax < o.length) {p : LI} (hp : mIn o p = true) {c : Int} (h0 : c <= p.getD ax 0) (h1 : p.getD ax 0 < c + t.1.getD ax 0) : mIn t.1 (p.set ax (p.getD ax 0 - c)) = true := by
 have hl := qex hp
 refine qjX (by rw [qch,hl,h.len]) fun j hj => ?_
 by_cases e : j = ax
 ·subst e; rw [qaD (by omega)]; omega
 ·rw [qcQ (fun e' => e e'.symm),h.eq j (by rw [<- h.len]; exact hj) e]
  exact qey hp j (by rw [<- h.len]; exact hj)
theorem qpH {ax : Nat} {o : LI} {t : Tn} (h : JOK ax o t) (hax : ax < o.length) {r : LI} (hr : mIn t.1 r = true) {c : Int} (h0 : 0 <= c) (h1 : c + t.1.getD ax 0 <= o.getD ax 0) : mIn o (r.set ax (r.getD ax 0 + c)) = true := by
 have hl := qex hr
 refine qjX (by rw [qch,hl,h.len]) fun j hj => ?_
 have hg := qey hr j (by rw [h.len]; exact hj)
 by_cases e : j = ax
 ·subst e; rw [qaD (by rw [hl,h.len]; exact hax)]; omega
 ·rw [qcQ (fun e' => e e'.symm),<- h.eq j hj e]; exact hg
theorem set_set {l : LI} {i : Nat} {x y : Int} : (l.set i x).set i y = l.set i y := by simp
theorem qfn {l : LI} {i : Nat} {x : Int} (h : x = l.getD i 0) : l.set i x = l := by
 subst h
 apply qok (by simp)
 intro j hj
 rw [qeg]
 split
 ·rename_i hh; rw [hh.1]
 ·rfl
theorem qmt (ax : Nat) {o : LI} (hax : ax < o.length) : ∀ (l r : List Tn) (p : LI),(∀ t ∈ l,0 <= t.1.getD ax 0) -> ax < p.length -> sm (l.map fun t => t.1.getD ax 0) <= p.getD ax 0 -> zJ ax (l ++ r) p = zJ ax r (p.set ax (p.getD ax 0 - sm (l.map fun t => t.1.getD ax 0)))
 | [],r,p,_,hp,h => by
  show zJ ax r p = zJ ax r (p.set ax (p.getD ax 0 - 0))
  rw [qfn (by omega)]
 | t :: l,r,p,h0,hp,h => by
  have h1 : t.1.getD ax 0 + sm (l.map fun t => t.1.getD ax 0) <= p.getD ax 0 := h
  have h2 : 0 <= sm (l.map fun t => t.1.getD ax 0) := by
   have : ∀ l : List Tn,(∀ t ∈ l,0 <= t.1.getD ax 0) -> 0 <= sm (l.map fun t => t.1.getD ax 0) := fun l => by
    induction l with
    | nil => intro _; exact vbh _
    | cons a l ih =>
     intro hh
     have e1 := hh a (vao ..)
     have e2 := ih fun b hb => hh b (mCm _ hb)
     show 0 <= a.1.getD ax 0 + sm (l.map fun t => t.1.getD ax 0)
     omega
   exact this l fun b hb => h0 b (mCm _ hb)
  rw [va5,zJ,ifq,qmt ax hax l r _ (fun b hb => h0 b (mCm _ hb)) (by rw [qch]; exact hp) (by rw [qaD hp]; omega),qaD hp,set_set]
  show _ = zJ ax r (p.set ax (p.getD ax 0 - (t.1.getD ax 0 + sm (l.map fun t => t.1.getD ax 0))))
  congr 2; omega
end Go.Pf

namespace Go.Pf
open Go Go.Vm
def jnE (ax : Nat) (l : List Tn) (c : Int) (p : LI) : Int := if p.getD ax 0 < c then zJ ax l p else 0
def puts (o : LI) (f : LI -> Int) : LI := (vaf (pr o).toNat).map fun (j : Nat) => f (pl o j)
theorem qeL {o : LI} (ho : mSR o = true) {f g : LI -> Int} (h : ∀ p,mIn o p = true -> f p = g p) : puts o f = puts o g := ql8 ho h
theorem qlk {o : LI} (f : LI -> Int) : (puts o f).length = (pr o).toNat := by simp [puts]
theorem qgm {ax : Nat} {o : LI} {l : List Tn} {q : Nat} (hq : q < l.length) (hl : l.length <= 100000) (ho : mSR o = true) (hax : ax < o.length) (hj : JOK ax o (l.getD q ([],[]))) {c : Int} (c0 : 0 <= c) (c1 : c + (l.getD q ([],[])).1.getD ax 0 <= o.getD ax 0)
  (hv : ∀ p,mIn o p = true -> c <= p.getD ax 0 -> p.getD ax 0 < c + (l.getD q ([],[])).1.getD ax 0 -> zJ ax l p = (l.getD q ([],[])).2.getD (ix (l.getD q ([],[])).1 (p.set ax (p.getD ax 0 - c))).toNat 0)
  (k : Nat) (hk : 20 <= k) (x124 x125 : Int) (y3 : LI) : ∀ (e i n : Nat),(l.getD q ([],[])).2.length = i + e -> e < n ->
  qay.l4 k n ax l c q x124 x125 (l.getD q ([],[])).2.length i o y3 (puts o (jnG ax l c (l.getD q ([],[])).1 i)) = some (puts o (jnE ax l (c + (l.getD q ([],[])).1.getD ax 0)))
 | 0,i,n,hi,hn => by
  obtain ⟨n,rfl⟩ := sun (n := n)
  rw [qay.l4,ifq]
  generalize l.getD q ([],[]) = t at *
  obtain ⟨_,hd⟩ := qbm hj.T
  congr 1
  refine qeL ho fun p hp => ?_
  unfold jnG jnE
  by_cases h1 : p.getD ax 0 < c
  ·have hs := (qar (qbm hj.T).1).2.1 _ (qas (show ax < t.1.length by rw [hj.len]; exact hax) 0)
   rw [if_pos (.inl h1),ifp]
  ·by_cases h2 : p.getD ax 0 < c + t.1.getD ax 0
   ·have := qia (qgV hj hax hp (c := c) (by omega) h2)
    rw [if_pos (.inr ⟨h2,by omega⟩),if_pos h2]
   ·rw [if_neg (fun hh => hh.elim h1 fun h => h2 h.1),if_neg h2]
 | e + 1,i,n,hi,hn => by
  obtain ⟨n,rfl⟩ := sun (n := n)
  have ih := qgm hq hl ho hax hj c0 c1 hv k hk x124 x125 y3 e (i + 1) n (by omega) (by omega)
  rw [qay.l4,ifp,ifp,tNc]
  generalize l.getD q ([],[]) = t at *
  obtain ⟨hr,hd⟩ := qbm hj.T
  obtain ⟨g1,g2,g3⟩ := qar hr
  obtain ⟨b1,b2,b3⟩ := qar ho
  have hta : ax < t.1.length := by rw [hj.len]; exact hax
  have hpos := qc4 hr (by omega)
  have hpi : mIn t.1 (pl t.1 i) = true := qh6 (fun b hb => (hpos b hb).1) i
  have hpo := qpH hj hax hpi c0 c1
  have hb := qia hpo
  have hrx := qey hpi ax hta
  have hox := b2 _ (qas hax 0)
  have hix : ix t.1 (pl t.1 i) = i := qoh (fun x hx => (g2 x hx).1) (by omega) (by omega)
  have hpl : (pl t.1 i).length = t.1.length := qcV ..
  rw [qb6 hr (by omega) (by omega) k hk,obs,ifp,tNc,ifp,qaq (n := (pl t.1 i).getD ax 0 + c) (by omega) (by omega),qdE _ _ k hk,obs]
  have hz : zIx o ((pl t.1 i).set ax ((pl t.1 i).getD ax 0 + c)) = ix o ((pl t.1 i).set ax ((pl t.1 i).getD ax 0 + c)) := if_pos ⟨ho,hpo⟩
  rw [hz]
  have hset := map_set (pr o).toNat (ix o ((pl t.1 i).set ax ((pl t.1 i).getD ax 0 + c))).toNat (t.2.getD i 0) (fun (j : Nat) => jnG ax l c t.1 i (pl o j)) (fun (j : Nat) => jnG ax l c t.1 (i + 1) (pl o j))
   (by
    rw [show (((ix o ((pl t.1 i).set ax ((pl t.1 i).getD ax 0 + c))).toNat : Nat) : Int) = ix o ((pl t.1 i).set ax ((pl t.1 i).getD ax 0 + c)) by omega,qmY hpo]
    have hg : ((pl t.1 i).set ax ((pl t.1 i).getD ax 0 + c)).getD ax 0 = (pl t.1 i).getD ax 0 + c := qaD (by omega)
    have hback : (((pl t.1 i).set ax ((pl t.1 i).getD ax 0 + c)).set ax (((pl t.1 i).set ax ((pl t.1 i).getD ax 0 + c)).getD ax 0 - c)) = pl t.1 i := by
     rw [hg,set_set,qfn (by omega)]
    have hval := hv _ hpo (by rw [hg]; omega) (by rw [hg]; omega)
    rw [hback,hix,tNc] at hval
    unfold jnG
    rw [if_pos (.inr ⟨by rw [hg]; omega,by rw [hback,hix]; omega⟩),hval])
   (fun j hjne hjm => by
    have hposo := qc4 ho (by omega)
    have hpj : mIn o (pl o j) = true := qh6 (fun b hb => (hposo b hb).1) j
    have hjx : ix o (pl o j) = j := qoh (fun x hx => (b2 x hx).1) (by omega) (by omega)
    unfold jnG
    by_cases h1 : (pl o j).getD ax 0 < c
    ·rw [if_pos (.inl h1),if_pos (.inl h1)]
    ·by_cases h2 : (pl o j).getD ax 0 < c + t.1.getD ax 0
     ·have hdn := qgV hj hax hpj (c := c) (by omega) h2
      have hne : ix t.1 ((pl o j).set ax ((pl o j).getD ax 0 - c)) ≠ i := fun e => by
       have e1 := qmY hdn
       rw [e] at e1
       have e2 : (pl t.1 i).set ax ((pl t.1 i).getD ax 0 + c) = pl o j := by
        rw [e1,qaD (by rw [qcV]; exact hax),set_set,qfn (by omega)]
       rw [e2] at hjne
       omega
      by_cases h3 : ix t.1 ((pl o j).set ax ((pl o j).getD ax 0 - c)) < i
      ·rw [if_pos (.inr ⟨h2,by omega⟩),if_pos (.inr ⟨h2,h3⟩)]
      ·rw [if_neg (fun hh => hh.elim h1 fun h => by have := h.2; omega),if_neg (fun hh => hh.elim h1 fun h => h3 h.2)]
     ·rw [if_neg (fun hh => hh.elim h1 fun h => h2 h.1),if_neg (fun hh => hh.elim h1 fun h => h2 h.1)])
  rw [ifp,if_pos (by rw [qlk]; omega),if_pos (by rw [qlk]; omega),tNc,show puts o (jnG ax l c t.1 i) = (vaf (pr o).toNat).map (fun (j : Nat) => jnG ax l c t.1 i (pl o j)) from rfl,hset,qaq (n := (i : Int) + 1) (by omega) (by omega),show (i : Int) + 1 = ((i + 1 : Nat) : Int) by omega]
  exact ih
theorem qgn {ax : Nat} {o : LI} {l : List Tn} (hl : l.length <= 100000) (ho : mSR o = true) (hax : ax < o.length) (hj : ∀ t ∈ l,JOK ax o t) (hsum : o.getD ax 0 = sm (l.map fun t => t.1.getD ax 0)) (k : Nat) (hk : 120000 <= k) (y3 : LI) : ∀ (e q n : Nat),l.length = q + e -> e + 4500 < n ->
  qay.l3 k n ax l (sm ((l.take q).map fun t => t.1.getD ax 0)) l.length q o y3 (puts o (jnE ax l (sm ((l.take q).map fun t => t.1.getD ax 0)))) = some (made o (zJ ax l))
 | 0,q,n,hi,hn => by
  obtain ⟨n,rfl⟩ := sun (n := n)
  rw [qay.l3,ifq,vaA (by omega),<- hsum]
  congr 1
  refine qeL ho fun p hp => ?_
  unfold jnE
  rw [if_pos (qey hp ax hax).2]
 | e + 1,q,n,hi,hn => by
  obtain ⟨n,rfl⟩ := sun (n := n)
  have ih := qgn hl ho hax hj hsum k hk y3 e (q + 1) n (by omega) (by omega)
  have hnn : ∀ t ∈ l,0 <= t.1.getD ax 0 := fun t ht => ((qar (qbm (hj t ht).T).1).2.1 _ (qas (show ax < t.1.length by rw [(hj t ht).len]; exact hax) 0)).1
  have sm_nn : ∀ r : List Tn,(∀ t ∈ r,0 <= t.1.getD ax 0) -> 0 <= sm (r.map fun t => t.1.getD ax 0) := fun r => by
   induction r with
   | nil => intro _; exact vbh _
   | cons a r ih =>
    intro hh
    have e1 := hh a (vao ..)
    have e2 := ih fun b hb => hh b (mCm _ hb)
    show 0 <= a.1.getD ax 0 + sm (r.map fun t => t.1.getD ax 0)
    omega
  have sm_app : ∀ a b : List Tn,sm ((a ++ b).map fun t => t.1.getD ax 0) = sm (a.map fun t => t.1.getD ax 0) + sm (b.map fun t => t.1.getD ax 0) := fun a b => by
   induction a with
   | nil => simp [sm]
   | cons x a ih =>
    show x.1.getD ax 0 + sm ((a ++ b).map fun t => t.1.getD ax 0) = x.1.getD ax 0 + sm (a.map fun t => t.1.getD ax 0) + _
    rw [ih]; omega
  have hmem := qas (show q < l.length by omega) (([],[]) : Tn)
  have hc0 := sm_nn (l.take q) fun t ht => hnn t (vaX ht)
  have hsplit : l = l.take q ++ (l.getD q ([],[]) :: l.drop (q + 1)) := by
   rw [<- qaj (show q < l.length by omega) (([],[]) : Tn)]
   exact (vaR q l).symm
  have hc2 := sm_nn (l.drop (q + 1)) fun t ht => hnn t (List.mem_of_mem_drop ht)
  have htot : o.getD ax 0 = sm ((l.take q).map fun t => t.1.getD ax 0) + ((l.getD q ([],[])).1.getD ax 0 + sm ((l.drop (q + 1)).map fun t => t.1.getD ax 0)) := by
   rw [hsum]
   conv => lhs; rw [hsplit]
   rw [sm_app]; rfl
  have hnext : sm ((l.take (q + 1)).map fun t => t.1.getD ax 0) = sm ((l.take q).map fun t => t.1.getD ax 0) + (l.getD q ([],[])).1.getD ax 0 := by
   have : l.take (q + 1) = l.take q ++ [l.getD q ([],[])] := by
    rw [va1,gDg,vaD (show q < l.length by omega)]; rfl
   rw [this,sm_app]
   show _ + ((l.getD q ([],[])).1.getD ax 0 + 0) = _
   omega
  rw [hnext] at ih
  have hj1 := hj _ hmem
  have hv : ∀ p,mIn o p = true -> sm ((l.take q).map fun t => t.1.getD ax 0) <= p.getD ax 0 -> p.getD ax 0 < sm ((l.take q).map fun t => t.1.getD ax 0) + (l.getD q ([],[])).1.getD ax 0 -> zJ ax l p = (l.getD q ([],[])).2.getD (ix (l.getD q ([],[])).1 (p.set ax (p.getD ax 0 - sm ((l.take q).map fun t => t.1.getD ax 0)))).toNat 0 := fun p hp h1 h2 => by
   have hpl := qex hp
   have hdn := qgV hj1 hax hp h1 h2
   have e1 := qmt ax hax (l.take q) (l.getD q ([],[]) :: l.drop (q + 1)) p (fun t ht => hnn t (vaX ht)) (by omega) h1
   rw [<- hsplit] at e1
   rw [e1,zJ,if_pos (by rw [qaD (by omega)]; omega),if_pos hdn]
  have hx := (qar (qbm hj1.T).1).2.1 _ (qas (show ax < (l.getD q ([],[])).1.length by rw [hj1.len]; exact hax) 0)
  have hox := (qar ho).2.1 _ (qas hax 0)
  have hdl := (qbm hj1.T).2
  have hpr := (qar (qbm hj1.T).1).2.2
  have l4 := qgm (show q < l.length by omega) hl ho hax hj1 hc0 (by omega) hv k (by omega) l.length q y3 (l.getD q ([],[])).2.length 0 n (by omega) (by omega)
  have e0 : puts o (jnG ax l (sm ((l.take q).map fun t => t.1.getD ax 0)) (l.getD q ([],[])).1 0) = puts o (jnE ax l (sm ((l.take q).map fun t => t.1.getD ax 0))) := qeL ho fun p hp => by
   unfold jnG jnE
   by_cases h1 : p.getD ax 0 < sm ((l.take q).map fun t => t.1.getD ax 0)
   ·rw [if_pos (.inl h1),if_pos h1]
   ·rw [if_neg (fun hh => hh.elim h1 fun h => by
     have := qia (qgV hj1 hax hp (c := sm ((l.take q).map fun t => t.1.getD ax 0)) (by omega) h.1)
     have := h.2
     omega),if_neg h1]
  rw [e0,n0] at l4
  rw [qay.l3,ifp,ifp,show ((q : Int)).toNat = q from tNc q,l4,obs,if_pos (by rw [hj1.len]; omega),tNc,qaq (n := _ + (l.getD q ([],[])).1.getD ax 0) (by omega) (by omega),qaq (n := (q : Int) + 1) (by omega) (by omega),show (q : Int) + 1 = ((q + 1 : Nat) : Int) by omega]
  exact ih
theorem qkA (ax : Int) (l : List Tn) (hl : l.length ≤ 100000) (k : Nat) (hk : 120000 ≤ k) : qay.f k ax l = some (zJoin ax l) := by
  unfold qay.f zJoin
  have l0 := qgq k (by omega) l (by omega) ax l.length 0 k (by omega) (by omega)
  rw [n0,dZr] at l0
  rw [l0,obs]
  by_cases hT : l.all (fun t => zT t.1 t.2) = true
  · have hT' : ∀ t ∈ l,zT t.1 t.2 = true := var.1 hT
    rw [if_pos hT,if_pos hT,vai]
    by_cases c1 : l = []
    · subst c1; rw [if_pos (show (([] : List Tn).length : Int) = 0 from rfl)]; rfl
    have hpos : 0 < l.length := vaZ.2 c1
    have h0 : ((l.map (·.1)).getD 0 []) = (l.getD 0 ([],[])).1 := by
      cases l with
      | nil => simp at hpos
      | cons _ _ => rfl
    have hne : l.map (·.1) ≠ [] := fun e => c1 (List.map_eq_nil_iff.1 e)
    rw [ifq]
    by_cases c2 : ax < 0
    · have e : zJs ax (l.map (·.1)) = (1,[]) := if_pos (.inr (.inl c2))
      rw [if_pos c2,e]; rfl
    rw [if_neg c2,ifp]
    by_cases c3 : ((l.getD 0 ([],[])).1.length : Int) ≤ ax
    · have e : zJs ax (l.map (·.1)) = (1,[]) := if_pos (.inr (.inr (by rw [h0]; exact c3)))
      rw [if_pos c3,e]; rfl
    have hs := qar (qbm (hT' _ (qas hpos ([],[])))).1
    rw [if_neg c3,ifp,if_pos (by rw [nAp]; omega),if_pos (by rw [nAp]; omega),nAp]
    have l1 := qgp ax.toNat k l (fun t ht => by have := qar (qbm (hT' t ht)).1; exact ⟨this.1,this.2.1⟩) (by omega) l.length 0 k ((l.getD 0 ([],[])).1.set ax.toNat 0) (by omega) (by omega) (by rw [qch]; omega) (by rw [qaD (by omega)]; omega) (by rw [qaD (by omega)]; omega)
    rw [n0,dZr,show ((ax.toNat : Nat) : Int) = ax by omega] at l1
    rw [l1,obs]
    have ejs : zJs ax (l.map (·.1)) = match zJo ax.toNat (l.map (·.1)) ((l.getD 0 ([],[])).1.set ax.toNat 0) with
      | some o => if mSR o = true then (0,o) else (13,[])
      | none => (13,[]) := by
      unfold zJs
      rw [if_neg (fun hh => hh.elim hne fun hh => hh.elim c2 (by rw [h0]; exact c3)),h0]
      all_goals (cases zJo ax.toNat (l.map (·.1)) ((l.getD 0 ([],[])).1.set ax.toNat 0) <;> rfl)
    cases hz : zJo ax.toNat (l.map (·.1)) ((l.getD 0 ([],[])).1.set ax.toNat 0) with
    | none =>
      rw [hz] at ejs
      rw [ejs]; rfl
    | some o =>
      rw [hz] at ejs
      dsimp only at ejs ⊢
      rw [vai,qbj o k (by omega),obs]
      by_cases ho : mSR o = true
      · rw [if_pos ho] at ejs
        have hc : (zJs ax (l.map (·.1))).1 = 0 := by rw [ejs]
        obtain ⟨o',e,ho',_,hax0,hax,hz',hlen,hall,hsum⟩ := qpv hT hc
        have : o' = o := by rw [← e,ejs]
        subst this
        have hb := qar ho
        have l3 := qgn (ax := ax.toNat) (by omega) ho hax (fun t ht => ⟨hT' t ht,(hall t ht).1,(hall t ht).2⟩) hsum k hk o' l.length 0 k (by omega) (by omega)
        rw [n0,show ((ax.toNat : Nat) : Int) = ax by omega,vas] at l3
        have ez : vaa (pr o').toNat (0 : Int) = puts o' (jnE ax.toNat l (sm (([] : List Tn).map fun t => t.1.getD ax.toNat 0))) := by
          rw [show vaa (pr o').toNat (0 : Int) = puts o' (fun _=>0) by
            apply vaP (by simp [puts])
            intro j _ _
            simp [puts]]
          refine qeL ho fun p hp => ?_
          unfold jnE
          rw [if_neg (fun hh => by have := (qey hp ax.toNat hax).1; have hh : p.getD ax.toNat 0 < 0 := hh; omega)]
        rw [if_pos ho,qbv o' 0 (by omega) k hk,obs,zSz,if_pos ho,ez,ejs]
        dsimp only
        rw [if_pos rfl]
        rw [show sm (([] : List Tn).map fun t => t.1.getD ax.toNat 0) = 0 from rfl] at l3 ⊢
        rw [l3]; rfl
      · rw [if_neg ho] at ejs
        rw [if_neg ho,ejs]; rfl
  · rw [if_neg hT,if_neg hT]; rfl
end Go.Pf

namespace Go.Pf
open Go Go.Vm
theorem qpw {ax : Int} {sh : List LI} (h : (zJs ax sh).1 = 0) : mSR (zJs ax sh).2 = true := by
 unfold zJs at h ⊢
 split at h
 ·simp at h
 rename_i hc
 rw [if_neg hc]
 cases hz : zJo ax.toNat sh ((sh.getD 0 []).set ax.toNat 0) with
 | none => rw [hz] at h; simp at h
 | some o =>
  rw [hz] at h
  dsimp only at h ⊢
  by_cases ho : mSR o = true
  ·rw [if_pos ho]; exact ho
  ·rw [if_neg ho] at h; simp at h
theorem qg5 (L : LI) (hL : L.length <= 17592186044415) (hw : ∀ x ∈ L,-9223372036854775808 <= x /\ x < 9223372036854775808) (p : Int) (h0 : 0 <= p) (hp : p <= 17592186000000) :
  ∃ r q,qbA.f L p = some (r,q) /\ 0 <= q /\ q <= p + 2 := by
 unfold qbA.f
 obtain ⟨r,q,e,r0,r1,q0,_,_,q1⟩ := qdb 9 L hL hw p h0 (by omega) (by omega)
 rw [e,obs]
 dsimp only
 by_cases c : r = 0
 ·obtain ⟨r',q',e',r0',r1',q0',_,_,q1'⟩ := qdb 6 L hL hw q q0 (by omega) (by omega)
  rw [if_pos c,e',obs]
  dsimp only
  rw [if_pos ⟨r0',by show r' < 6; omega⟩,if_pos (by show r'.toNat < 6; omega)]
  exact ⟨_,_,rfl,q0',by omega⟩
 ·rw [if_neg c]
  by_cases c1 : r = 1
  ·rw [if_pos c1]; exact ⟨_,_,rfl,q0,by omega⟩
  ·obtain ⟨r',q',e',r0',r1',q0',_,_,q1'⟩ := qdb 19 L hL hw q q0 (by omega) (by omega)
   rw [if_neg c1,e',obs]
   exact ⟨_,_,rfl,q0',by omega⟩
end Go.Pf

namespace Go.Pf
open Go Go.Vm
theorem qn2 (n j : Nat) : (vaa n (0 : Int)).getD j 0 = 0 := by
 rw [gDg,vaF]; split <;> rfl
theorem qox : ∀ {s f z : LI},f.length = s.length -> z.length = s.length -> (∀ j,j < s.length -> 0 <= f.getD j 0 /\ f.getD j 0 <= s.getD j 0 /\ 0 <= z.getD j 0 /\ z.getD j 0 <= s.getD j 0 - f.getD j 0) -> zSl s f z = true
 | [],[],[],_,_,_ => rfl
 | a :: s,b :: f,c :: z,h1,h2,h => qcd.2 ⟨h 0 (by simp),qox (by simpa using h1) (by simpa using h2) fun j hj => h (j + 1) (by simpa using hj)⟩
 | [],_ :: _,_,h,_,_ => by simp at h
 | [],[],_ :: _,_,h,_ => by simp at h
 | _ :: _,[],_,h,_,_ => by simp at h
 | _ :: _,_ :: _,[],_,h,_ => by simp at h
theorem qkJ {s : LI} (h : mSR s = true) {j : Nat} (hj : j < s.length) : 0 <= s.getD j 0 /\ s.getD j 0 <= 32 := (qar h).2.1 _ (qas hj 0)
theorem qlt {s p : LI} (h : mIn s p = true) {j : Nat} (hj : j < s.length) : 0 <= p.getD j 0 /\ p.getD j 0 < s.getD j 0 := qey h j hj
end Go.Pf

namespace Go.Pf
open Go Go.Vm
theorem iterX {S R : Type} {L : Nat -> Int -> S -> Option R} {st : Nat -> S} (res : Nat -> R) {m : Nat} (N : Nat)
  (hend : ∀ n,N <= n -> L (n + 1) (m : Int) (st m) = some (res m))
  (hstep : ∀ i n,i < m -> N <= n -> L n ((i + 1 : Nat) : Int) (st (i + 1)) = some (res (i + 1)) -> L (n + 1) (i : Int) (st i) = some (res i)) :
  ∀ (e i n : Nat),m = i + e -> e + N < n -> L n (i : Int) (st i) = some (res i)
 | 0,i,n,hi,hn => by
  obtain ⟨n,rfl⟩ := sun (n := n)
  obtain rfl : m = i := by omega
  exact hend n (by omega)
 | e + 1,i,n,hi,hn => by
  obtain ⟨n,rfl⟩ := sun (n := n)
  exact hstep i n (by omega) (by omega) (iterX res N hend hstep e (i + 1) n (by omega) (by omega))
theorem iter0 {S R : Type} {L : Nat -> Int -> S -> Option R} {st : Nat -> S} (res : Nat -> R) {m : Nat} (N : Nat)
  (hend : ∀ n,N <= n -> L (n + 1) (m : Int) (st m) = some (res m))
  (hstep : ∀ i n,i < m -> N <= n -> L n ((i + 1 : Nat) : Int) (st (i + 1)) = some (res (i + 1)) -> L (n + 1) (i : Int) (st i) = some (res i)) (n : Nat) (hn : m + N < n) : L n 0 (st 0) = some (res 0) :=
 iterX res N hend hstep m 0 n (by omega) hn
theorem qam {i m : Nat} (h : i < m) (hm : m <= 1152921504606846976) : iW.wrap ((i : Int) + 1) = ((i + 1 : Nat) : Int) := by
 rw [qaq (by omega) (by omega)]; omega
theorem qcs (a b : LI) (ha : a.length <= 17592186043904) (k : Nat) (hk : a.length < k) : qbr.f k a b = some (decide (a = b)) := by
 unfold qbr.f
 by_cases hl : a.length = b.length
 ·have := iter0 (L := fun n i (_ : Unit) => qbr.l0 n a b i) (st := fun _=>()) (fun i => if a.drop i = b.drop i then .inl () else .inr false) (m := a.length) 0
   (fun n _ => by rw [qbr.l0,ifq,dNl (vae _),dNl (by omega),if_pos rfl])
   (fun i n hi _ ih => by
    rw [qbr.l0,ifp,ifp,ifp,tNc,qam hi (by omega),ih,qaj hi (0 : Int),qaj (show i < b.length by omega) (0 : Int)]
    by_cases c : a.getD i 0 = b.getD i 0
    ·rw [if_pos c,c]
     by_cases c2 : a.drop (i + 1) = b.drop (i + 1)
     ·rw [if_pos c2,c2,if_pos rfl]
     ·rw [if_neg c2,if_neg (fun h => c2 (vbf.inj h).2)]
    ·rw [if_neg c,if_neg (fun h => c (vbf.inj h).1)]) k (by omega)
  rw [ifp,this,dZr,dZr]
  by_cases c : a = b
  ·rw [if_pos c,decide_eq_true c]; rfl
  ·rw [if_neg c,decide_eq_false c]; rfl
 ·rw [ifq,decide_eq_false (fun h => hl (by rw [h]))]
theorem qbP (a b : LI) (ha : a.length <= 17592186043904) (k : Nat) (hk : a.length < k) : qaE.f k a b = some (decide (a = b)) := by
 unfold qaE.f
 by_cases hl : a.length = b.length
 ·have := iter0 (L := fun n i (_ : Unit) => qaE.l0 n a b a.length i) (st := fun _=>()) (fun i => if a.drop i = b.drop i then .inl () else .inr false) (m := a.length) 0
   (fun n _ => by rw [qaE.l0,ifq,dNl (vae _),dNl (by omega),if_pos rfl])
   (fun i n hi _ ih => by
    rw [qaE.l0,ifp,ifp,ifp,tNc,qam hi (by omega),ih,qaj hi (0 : Int),qaj (show i < b.length by omega) (0 : Int)]
    by_cases c : a.getD i 0 = b.getD i 0
    ·rw [if_pos c,c]
     by_cases c2 : a.drop (i + 1) = b.drop (i + 1)
     ·rw [if_pos c2,c2,if_pos rfl]
     ·rw [if_neg c2,if_neg (fun h => c2 (vbf.inj h).2)]
    ·rw [if_neg c,if_neg (fun h => c (vbf.inj h).1)]) k (by omega)
  rw [ifp,this,dZr,dZr]
  by_cases c : a = b
  ·rw [if_pos c,decide_eq_true c]; rfl
  ·rw [if_neg c,decide_eq_false c]; rfl
 ·rw [ifq,decide_eq_false (fun h => hl (by rw [h]))]
def stp (op a b : Int) : Int :=
 if op = 4 then iW.wrap (0 - a) else if op = 5 then (if a = 0 then 1 else 0) else if op = 6 then iW.wrap (a + b) else if op = 7 then iW.wrap (a - b) else if op = 8 then iW.wrap (a * b)
 else if op = 9 then (if b < a then b else a) else if op = 10 then (if a < b then b else a) else if op = 11 then (if a < b then 1 else 0) else 0
theorem qhi (op a b : Int) : qdS.f op a b = some (stp op a b) := by
 unfold qdS.f stp qft.f
 repeat' split
 all_goals simp_all
theorem qdR (l : List Tn) (hl : l.length <= 100000) (hpos : l ≠ []) (k : Nat) (hk : 120000 <= k) :
  qbJ.f k l = some (if l.all (fun t => zT t.1 t.2 && decide (t.1 = (l.getD 0 ([],[])).1)) = true then 0 else 13) := by
 have hp := vaZ.2 hpos
 have := iter0 (L := fun n i (_ : Unit) => qbJ.l0 k n l i) (st := fun _=>()) (fun i => if (l.drop i).all (fun t => zT t.1 t.2 && decide (t.1 = (l.getD 0 ([],[])).1)) = true then .inl () else .inr 13) (m := l.length) 0
  (fun n _ => by rw [qbJ.l0,ifq,dNl (vae _)]; rfl)
  (fun i n hi _ ih => by
   rw [qbJ.l0,ifp,ifp,tNc,qbK _ _ k (by omega),obs,qam hi (by omega),ih,qaj hi (([],[]) : Tn),vaz]
   by_cases c : zT (l.getD i ([],[])).1 (l.getD i ([],[])).2 = true
   ·have hb := qar (qbm c).1
    rw [if_pos c,ifp,qcs _ _ (by omega) k (by omega),obs,c,vaj]
    by_cases c2 : (l.getD i ([],[])).1 = (l.getD 0 ([],[])).1
    ·rw [decide_eq_true c2,if_pos rfl,vaj]
    ·rw [decide_eq_false c2,if_neg (by decide),vap,if_neg (by decide)]
   ·rw [if_neg c,vbj.2 c,vap,vap,if_neg (by decide)]) k (by omega)
 unfold qbJ.f
 rw [this,dZr,obs]
 split <;> rfl
def tab (m : Nat) (g : Nat -> Int) : LI := (vaf m).map g
theorem qdY (g : Nat -> Int) {m i : Nat} (h : i < m) (c : Int) : ((vaf i).map g ++ vaa (m - i) c).set i (g i) = (vaf (i + 1)).map g ++ vaa (m - (i + 1)) c := by
 have := qg0 g i (m - (i + 1)) c
 rwa [show m - (i + 1) + 1 = m - i by omega] at this
def zOne (op : Int) (d : LI) : LI := tab d.length fun i => stp op (d.getD i 0) 0
def zTwo (op : Int) (a b : LI) : LI := tab a.length fun i => stp op (a.getD i 0) (b.getD i 0)
def zPick (c a b : LI) : LI := tab a.length fun i => if c.getD i 0 = 0 then b.getD i 0 else a.getD i 0
theorem qoR {s d : LI} (h : zT s d = true) : (zSz s).toNat = d.length := by
 obtain ⟨h1,h2⟩ := qbm h
 unfold zSz
 rw [if_pos h1]; omega
theorem qdM {s d : LI} (h : zT s d = true) : s.length <= 4 /\ d.length <= 4096 := by
 obtain ⟨h1,h2⟩ := qbm h
 have := qar h1
 omega
theorem qik (op : Int) (s d : LI) (k : Nat) (hk : 120000 <= k) : qce.f k op s d = some (if op = 4 \/ op = 5 then (if zT s d = true then (0,s,zOne op d) else (13,[],[])) else (1,[],[])) := by
 have hall : qbJ.f k [(s,d)] = some (if zT s d = true then 0 else 13) := by
  rw [qdR _ (by simp) (by simp) k hk]
  simp
 have main : zT s d = true -> qce.l0 k op ((vaa (zSz s).toNat (0 : Int)).length : Int) 0 s d s (vaa (zSz s).toNat 0) = some (zOne op d) := fun h => by
  have hz := qoR h
  have hs := qdM h
  have := iter0 (L := fun n i y => qce.l0 n op d.length i s d s y) (st := fun i => (vaf i).map (fun i => stp op (d.getD i 0) 0) ++ vaa (d.length - i) 0) (fun _=>zOne op d) (m := d.length) 0
   (fun n _ => by rw [qce.l0,ifq,vau,vav,vah]; rfl)
   (fun i n hi _ ih => by
    rw [qce.l0,ifp,ifp,tNc,qhi,obs,if_pos (by simp; omega),if_pos (by simp; omega),qdY (fun i => stp op (d.getD i 0) 0) hi,qam hi (by omega),ih]) k (by omega)
  rw [hz,vat,<- this,vaC]; rfl
 unfold qce.f
 rw [hall,obs]
 by_cases h : zT s d = true
 ·have hs := qdM h
  rw [if_pos h,if_pos rfl,qbv s 0 (by omega) k hk,obs,main h,obs,if_pos h]
  by_cases c : op = 4
  ·rw [if_pos c,if_pos (.inl c)]
  ·rw [if_neg c]
   by_cases c2 : op = 5
   ·rw [if_pos c2,if_pos (.inr c2)]
   ·rw [if_neg c2,if_neg (fun hh => hh.elim c c2)]
 ·rw [if_neg h,if_neg h]
  by_cases c : op = 4
  ·rw [if_pos c,if_neg (by decide),if_pos (.inl c)]
  ·rw [if_neg c]
   by_cases c2 : op = 5
   ·rw [if_pos c2,if_neg (by decide),if_pos (.inr c2)]
   ·rw [if_neg c2,if_neg (fun hh => hh.elim c c2)]
theorem qpq {s a b : LI} (ha : zT s a = true) (hb : zT s b = true) : a.length = b.length := by
 have h1 := (qbm ha).2
 have h2 := (qbm hb).2
 omega
theorem ql1 (op : Int) (s a s' b : LI) (k : Nat) (hk : 120000 <= k) : qcB.f k op s a s' b = some (if 6 <= op /\ op <= 11 then (if zT s a = true /\ zT s' b = true /\ s' = s then (0,s,zTwo op a b) else (13,[],[])) else (1,[],[])) := by
 unfold qcB.f
 by_cases c1 : op < 6
 ·rw [if_pos c1,ifq]
 by_cases c2 : 11 < op
 ·rw [if_neg c1,if_pos c2,ifq]
 rw [if_neg c1,if_neg c2,if_pos (show 6 <= op /\ op <= 11 by omega)]
 by_cases h : zT s a = true /\ zT s' b = true /\ s' = s
 ·obtain ⟨h1,h2,rfl⟩ := h
  have hz := qoR h1
  have hs := qdM h1
  have hl := qpq h1 h2
  have := iter0 (L := fun n i y => qcB.l0 n op a.length i s' a s' b s' y) (st := fun i => (vaf i).map (fun i => stp op (a.getD i 0) (b.getD i 0)) ++ vaa (a.length - i) 0) (fun _=>zTwo op a b) (m := a.length) 0
   (fun n _ => by rw [qcB.l0,ifq,vau,vav,vah]; rfl)
   (fun i n hi _ ih => by
    rw [qcB.l0,ifp,ifp,ifp,tNc,qhi,obs,if_pos (by simp; omega),if_pos (by simp; omega),qdY (fun i => stp op (a.getD i 0) (b.getD i 0)) hi,qam hi (by omega),ih]) k (by omega)
  rw [vaC,vaK,vax,nAp] at this
  have e : qbJ.f k [(s',a),(s',b)] = some 0 := by rw [qdR _ (by simp) (by simp) k hk,if_pos (by simp [h1,h2])]
  rw [e,obs,if_pos rfl,qbv s' 0 (by omega) k hk,obs,hz,vat,this,obs,if_pos ⟨h1,h2,rfl⟩]
 ·have e : qbJ.f k [(s,a),(s',b)] = some 13 := by
   rw [qdR _ (by simp) (by simp) k hk,if_neg (by
    intro hh
    simp only [vaz,List.all_nil,Bool.and_true,bAt,decide_eq_true_eq] at hh
    exact h ⟨hh.1.1,hh.2.1,hh.2.2⟩)]
  rw [if_neg h,e,obs,if_neg (by decide)]
theorem qkz (s c s1 a s2 b : LI) (k : Nat) (hk : 120000 <= k) : qb5.f k s c s1 a s2 b = some (if zT s c = true /\ (zT s1 a = true /\ s1 = s) /\ zT s2 b = true /\ s2 = s then (0,s,zPick c a b) else (13,[],[])) := by
 unfold qb5.f
 by_cases h : zT s c = true /\ (zT s1 a = true /\ s1 = s) /\ zT s2 b = true /\ s2 = s
 ·obtain ⟨h0,⟨h1,rfl⟩,h2,rfl⟩ := h
  have hz := qoR h1
  have hs := qdM h1
  have hl := qpq h1 h2
  have hl2 := qpq h1 h0
  have hset : ∀ (i : Nat) (y : LI) (v : Int),i < y.length -> (y.set i v).set i (a.getD i 0) = y.set i (a.getD i 0) := fun i y v _ => by simp
  have := iter0 (L := fun n i y => qb5.l0 n a.length i s2 c s2 a s2 b s2 y) (st := fun i => (vaf i).map (fun i => if c.getD i 0 = 0 then b.getD i 0 else a.getD i 0) ++ vaa (a.length - i) 0) (fun _=>zPick c a b) (m := a.length) 0
   (fun n _ => by rw [qb5.l0,ifq,vau,vav,vah]; rfl)
   (fun i n hi _ ih => by
    have hlen : ((vaf i).map (fun i => if c.getD i 0 = 0 then b.getD i 0 else a.getD i 0) ++ vaa (a.length - i) (0 : Int)).length = a.length := by simp; omega
    have hf := qdY (fun i => if c.getD i 0 = 0 then b.getD i 0 else a.getD i 0) hi 0
    rw [qb5.l0,ifp,ifp,if_pos (by rw [hlen]; omega),tNc,if_pos (by rw [hlen]; omega),ifp]
    by_cases cc : c.getD i 0 = 0
    ·rw [if_pos cc] at hf
     rw [if_pos cc,hf,qam hi (by omega),ih]
    ·rw [if_neg cc] at hf
     rw [if_neg cc,ifp,if_pos (by rw [qch,hlen]; omega),if_pos (by rw [qch,hlen]; omega),hset i _ _ (by rw [hlen]; exact hi),hf,qam hi (by omega),ih]) k (by omega)
  rw [vaC,vaK,vax,nAp] at this
  have e : qbJ.f k [(s2,c),(s2,a),(s2,b)] = some 0 := by rw [qdR _ (by simp) (by simp) k hk,if_pos (by simp [h0,h1,h2])]
  rw [e,obs,if_pos rfl,qbv s2 0 (by omega) k hk,obs,hz,vat,this,obs,if_pos ⟨h0,⟨h1,rfl⟩,h2,rfl⟩]
 ·have e : qbJ.f k [(s,c),(s1,a),(s2,b)] = some 13 := by
   rw [qdR _ (by simp) (by simp) k hk,if_neg (by
    intro hh
    simp only [vaz,List.all_nil,Bool.and_true,bAt,decide_eq_true_eq] at hh
    exact h ⟨hh.1.1,⟨hh.2.1.1,hh.2.1.2⟩,hh.2.2.1,hh.2.2.2⟩)]
  rw [if_neg h,e,obs,if_neg (by decide)]
end Go.Pf

namespace Go.Pf
open Go Go.Vm
theorem qii (a : LI) (x : Int) (ha : a.length <= 17592186043904) (k : Nat) (hk : a.length < k) : qcn.f k a x = some (decide (x ∈ a)) := by
 have := iter0 (L := fun n i (_ : Unit) => qcn.l0 n a x a.length i) (st := fun _=>()) (fun i => if x ∈ a.drop i then .inr true else .inl ()) (m := a.length) 0
  (fun n _ => by rw [qcn.l0,ifq,dNl (vae _),if_neg (by simp)])
  (fun i n hi _ ih => by
   rw [qcn.l0,ifp,ifp,tNc,qam hi (by omega),ih,qaj hi (0 : Int)]
   by_cases c : a.getD i 0 = x
   ·rw [if_pos c,if_pos (by rw [c]; exact vao ..)]
   ·rw [if_neg c]
    by_cases c2 : x ∈ a.drop (i + 1)
    ·rw [if_pos c2,if_pos (mCm _ c2)]
    ·rw [if_neg c2,if_neg (fun h => by rcases van.1 h with h | h; exact c h.symm; exact c2 h)]) k (by omega)
 unfold qcn.f
 rw [this,dZr,obs]
 by_cases c : x ∈ a
 ·rw [if_pos c,decide_eq_true c]; rfl
 ·rw [if_neg c,decide_eq_false c]; rfl
def zRs (a : LI) (m : Int) : Nat -> Nat -> Bool
 | 0,_ => true
 | d + 1,i => decide (0 <= a.getD i 0 /\ a.getD i 0 < m /\ (0 < i -> a.getD (i - 1) 0 < a.getD i 0)) && zRs a m d (i + 1)
theorem qkn {a : LI} {m : Int} : ∀ (d i : Nat) (l : Int),a.length = i + d -> (i = 0 -> l = -1) -> (0 < i -> l = a.getD (i - 1) 0 /\ 0 <= l) -> zRs a m d i = zRi m l (a.drop i)
 | 0,i,l,hi,_,_ => by rw [dNl (by omega)]; rfl
 | d + 1,i,l,hi,h0,h1 => by
  rw [qaj (show i < a.length by omega) (0 : Int)]
  generalize hx : a.getD i 0 = x
  refine qos ?_
  rw [zRs,qcm,bAt,decide_eq_true_eq,hx]
  constructor
  ·rintro ⟨⟨k1,k2,k3⟩,k4⟩
   refine ⟨⟨?_,k2⟩,?_⟩
   ·by_cases c : i = 0
    ·have := h0 c; omega
    ·have := h1 (by omega); have := k3 (by omega); omega
   ·rw [<- qkn d (i + 1) x (by omega) (by omega) (fun _=>⟨by rw [vaM]; exact hx.symm,k1⟩)]; exact k4
  ·rintro ⟨⟨k1,k2⟩,k4⟩
   have hx0 : 0 <= x := by
    by_cases c : i = 0
    ·have := h0 c; omega
    ·have := h1 (by omega); omega
   refine ⟨⟨hx0,k2,fun c => by have := h1 c; omega⟩,?_⟩
   rw [qkn d (i + 1) x (by omega) (by omega) (fun _=>⟨by rw [vaM]; exact hx.symm,hx0⟩)]; exact k4
theorem qiX (a : LI) (m : Int) (ha : a.length <= 17592186043904) (k : Nat) (hk : a.length < k) : qbt.f k a m = some (zRi m (-1) a) := by
 have := iter0 (L := fun n i (_ : Unit) => qbt.l0 n a m a.length i) (st := fun _=>()) (fun i => if zRs a m (a.length - i) i = true then .inl () else .inr false) (m := a.length) 0
  (fun n _ => by rw [qbt.l0,ifq,vau]; rfl)
  (fun i n hi _ ih => by
   rw [qbt.l0,ifp,ifp,tNc,qam hi (by omega),ih,show a.length - i = (a.length - (i + 1)) + 1 by omega,zRs]
   by_cases c1 : a.getD i 0 < 0
   ·rw [if_pos c1,decide_eq_false (by omega),vap,if_neg (by decide)]
   by_cases c2 : m <= a.getD i 0
   ·rw [if_neg c1,if_pos c2,decide_eq_false (by omega),vap,if_neg (by decide)]
   rw [if_neg c1,if_neg c2]
   by_cases c3 : (0 : Int) < (i : Int)
   ·rw [if_pos c3,qaq (n := (i : Int) - 1) (by omega) (by omega),ifp,show ((i : Int) - 1).toNat = i - 1 by omega]
    by_cases c4 : a.getD i 0 <= a.getD (i - 1) 0
    ·rw [if_pos c4,decide_eq_false (fun h => by have := h.2.2 (by omega); omega),vap,if_neg (by decide)]
    ·rw [if_neg c4,decide_eq_true ⟨by omega,by omega,fun _=>by omega⟩,vaj]
   ·rw [if_neg c3,decide_eq_true ⟨by omega,by omega,fun _=>by omega⟩,vaj]) k (by omega)
 unfold qbt.f
 rw [this,vaC,obs,qkn a.length 0 (-1) (by omega) (fun _=>rfl) (fun h => by omega),dZr]
 cases zRi m (-1) a <;> rfl
def lefI (a : LI) : Nat -> LI -> LI
 | _,[] => []
 | j,x :: r => if (j : Int) ∈ a then lefI a (j + 1) r else x :: lefI a (j + 1) r
def lef (a s : LI) : LI := lefI a 0 s
theorem qja (a : LI) : ∀ (j : Nat) (s : LI),(lefI a j s).length <= s.length
 | _,[] => vae _
 | j,x :: r => by
  have := qja a (j + 1) r
  rw [lefI]
  split
  ·simp; omega
  ·simp; omega
theorem qj0 (a : LI) (y : Int) : ∀ (s : LI) (j : Nat),lefI a j (s ++ [y]) = lefI a j s ++ (if ((j + s.length : Nat) : Int) ∈ a then [] else [y])
 | [],j => by
  show lefI a j [y] = [] ++ _
  rw [lefI,nAp]; rfl
 | x :: s,j => by
  have ih := qj0 a y s (j + 1)
  rw [show j + 1 + s.length = j + (s.length + 1) by omega] at ih
  show lefI a j (x :: (s ++ [y])) = _
  rw [lefI,lefI,ih]
  split <;> simp
theorem qlz (a s : LI) {i : Nat} (h : i < s.length) : lef a (s.take (i + 1)) = lef a (s.take i) ++ (if (i : Int) ∈ a then [] else [s.getD i 0]) := by
 rw [qdP h,lef,qj0,lTk,show 0 + min i s.length = i by omega]; rfl
theorem qkM (a : LI) : ∀ (j : Nat) {s p : LI},mIn s p = true -> mIn (lefI a j s) (lefI a j p) = true
 | _,[],[],_ => rfl
 | j,x :: s,y :: p,h => by
  obtain ⟨h1,h2⟩ := qbC.1 h
  rw [lefI,lefI]
  split
  ·exact qkM a (j + 1) h2
  ·exact qbC.2 ⟨h1,qkM a (j + 1) h2⟩
 | _,[],_ :: _,h => by simp [mIn] at h
 | _,_ :: _,[],h => by simp [mIn] at h
def put (how a b : Int) : Int := if how = 1 then iW.wrap (a + b) else if how = 2 then iW.wrap (a * b) else if how = 3 then (if b < a then b else a) else if how = 4 then (if a < b then b else a) else 0
def zNone (how : Int) : Int := if how = 2 then 1 else if how = 3 then 9223372036854775807 else if how = 4 then -9223372036854775808 else 0
theorem qij (how a b : Int) : qeJ.f how a b = some (put how a b) := by
 unfold qeJ.f put
 repeat' split
 all_goals rfl
theorem qhm (how : Int) : qdT.f how = some (zNone how) := by
 unfold qdT.f zNone
 repeat' split
 all_goals rfl
theorem qil (how : Int) : qeK.f how = some (decide (1 <= how /\ how <= 4)) := by
 unfold qeK.f
 by_cases c : 1 <= how
 ·rw [if_pos c]; simp [c]
 ·rw [if_neg c]; simp [c]
def fdA (how : Int) (s d a : LI) (i : Nat) : LI :=
 (vaf i).foldl (fun out (i : Nat) => out.set (ix (lef a s) (lef a (pl s i))).toNat (put how (out.getD (ix (lef a s) (lef a (pl s i))).toNat 0) (d.getD i 0))) (vaa (pr (lef a s)).toNat (zNone how))
def zFold (how : Int) (s d a : LI) : LI := fdA how s d a d.length
theorem qlJ (how : Int) (s d a : LI) (i : Nat) : fdA how s d a (i + 1) = (fdA how s d a i).set (ix (lef a s) (lef a (pl s i))).toNat (put how ((fdA how s d a i).getD (ix (lef a s) (lef a (pl s i))).toNat 0) (d.getD i 0)) := by
 unfold fdA
 rw [va7,va3]; rfl
theorem qnn (how : Int) (s d a : LI) : ∀ i,(fdA how s d a i).length = (pr (lef a s)).toNat
 | 0 => by simp [fdA]
 | i + 1 => by rw [qlJ,qch,qnn how s d a i]
theorem qkB (how : Int) (s d a : LI) (ha : a.length <= 17592186043904) (k : Nat) (hk : a.length + 120000 <= k) :
  qaU.f k how s d a = some (if 1 <= how /\ how <= 4 then (if zT s d = true then (if zRi s.length (-1) a = true then (if mSR (lef a s) = true then (0,lef a s,zFold how s d a) else (13,[],[])) else (1,[],[])) else (13,[],[])) else (1,[],[])) := by
 unfold qaU.f
 rw [qil,obs]
 by_cases c0 : 1 <= how /\ how <= 4
 rotate_left
 ·rw [decide_eq_false c0,if_neg (by decide),if_neg c0]
 rw [decide_eq_true c0,if_pos rfl,if_pos c0,qbK s d k (by omega),obs]
 by_cases hT : zT s d = true
 rotate_left
 ·rw [if_neg hT,if_neg hT]
 have hs := qdM hT
 obtain ⟨hr,hd⟩ := qbm hT
 rw [if_pos hT,if_pos hT,qiX a _ ha k (by omega),obs]
 by_cases hA : zRi s.length (-1) a = true
 rotate_left
 ·rw [if_neg hA,if_neg hA]
 have l0 := iter0 (L := fun n i y => qaU.l0 k n how a s.length i s d y) (st := fun i => lef a (s.take i)) (fun _=>lef a s) (m := s.length) 0
  (fun n _ => by rw [qaU.l0,ifq,vag])
  (fun i n hi _ ih => by
   have hl := qja a 0 (s.take i)
   rw [lTk] at hl
   rw [qlz a s hi] at ih
   rw [qaU.l0,ifp,qii a _ ha k (by omega),obs,qam hi (by omega)]
   by_cases c : (i : Int) ∈ a
   ·rw [if_pos c,vah] at ih
    rw [decide_eq_true c,if_pos rfl,ih]
   ·rw [if_neg c] at ih
    rw [decide_eq_false c,if_neg (by decide),ifp,tNc,if_pos (by rw [lSi]; unfold lef; omega),ih]) k (by omega)
 rw [vas,show lef a [] = [] from rfl] at l0
 rw [if_pos hA,if_pos hA,l0,obs,qbj _ k (by omega),obs]
 by_cases hR : mSR (lef a s) = true
 rotate_left
 ·rw [if_neg hR,if_neg hR]
 have hll := qar hR
 rw [if_pos hR,if_pos hR,qhm,obs,qbv _ _ (by omega) k (by omega),obs]
 have l1 := iter0 (L := fun n i y => qaU.l1 k n how a d.length i s d (lef a s) (lef a s) y) (st := fun i => fdA how s d a i) (fun _=>zFold how s d a) (m := d.length) 100
  (fun n _ => by rw [qaU.l1,ifq]; rfl)
  (fun i n hi hn ih => by
   have hpi : mIn s (pl s i) = true := qh6 (fun x hx => (qc4 hr (by omega) x hx).1) i
   have hin : mIn (lef a s) (lef a (pl s i)) = true := qkM a 0 hpi
   have hb := qia hin
   have hbb := (qc4 hr (by omega))
   have l2 := iter0 (L := fun n j y => qaU.l2 k n how a i d.length i (pl s i).length j s d (lef a s) y (pl s i) (lef a s) (fdA how s d a i)) (st := fun j => lef a ((pl s i).take j)) (fun _=>lef a (pl s i)) (m := (pl s i).length) 0
    (fun n _ => by rw [qaU.l2,ifq,vag])
    (fun j n hj _ ih => by
     have hl := qja a 0 ((pl s i).take j)
     rw [lTk,qcV] at hl
     rw [qcV] at hj
     rw [qlz a (pl s i) (by rw [qcV]; exact hj)] at ih
     rw [qaU.l2,if_pos (by rw [qcV]; omega),if_pos (by rw [qcV]; omega),if_pos (by rw [qcV]; omega),qii a _ ha k (by omega),obs,qam hj (by omega)]
     by_cases c : (j : Int) ∈ a
     ·rw [if_pos c,vah] at ih
      rw [decide_eq_true c,if_pos rfl,ih]
     ·rw [if_neg c] at ih
      rw [decide_eq_false c,if_neg (by decide),if_pos (by rw [lSi]; unfold lef; omega),tNc,ih]) n (by rw [qcV]; omega)
   rw [vas,show lef a [] = [] from rfl] at l2
   have hzi : zIx (lef a s) (lef a (pl s i)) = ix (lef a s) (lef a (pl s i)) := by
    unfold zIx
    rw [if_pos ⟨hR,hin⟩]
   have hfl := qnn how s d a i
   rw [qaU.l1,ifp,qb6 hr (by omega) (by omega) k (by omega),obs,l2,obs,qdE _ _ k (by omega),obs,hzi,
    if_pos (by rw [hfl]; omega),if_pos (by rw [hfl]; omega),ifp,tNc,qij,obs,qam hi (by omega),<- qlJ,ih]) k (by omega)
 have hz : (zSz (lef a s)).toNat = (pr (lef a s)).toNat := by rw [zSz,if_pos hR]
 have e0 : fdA how s d a 0 = vaa (zSz (lef a s)).toNat (zNone how) := by rw [hz]; rfl
 rw [e0] at l1
 rw [l1,obs]
end Go.Pf

namespace Go.Pf
open Go Go.Vm
theorem qlQ (g : Nat -> Int) {i M : Nat} (h : i < M) (c : Int) : ((vaf i).map g ++ vaa (M - i) c).getD i 0 = c := by
 rw [gDg,va8 (by simp),vak,va2,vau,vaF,ifp]; rfl
theorem qkK : ∀ {s p s' p' : LI},mIn s p = true -> mIn s' p' = true -> mIn (s ++ s') (p ++ p') = true
 | [],[],_,_,_,h => h
 | _ :: _,_ :: _,_,_,h,h' => qbC.2 ⟨(qbC.1 h).1,qkK (qbC.1 h).2 h'⟩
 | [],_ :: _,_,_,h,_ => by simp [mIn] at h
 | _ :: _,[],_,_,h,_ => by simp [mIn] at h
theorem qhA : ∀ {s s' p : LI},mIn (s ++ s') p = true -> mIn s (p.take s.length) = true /\ mIn s' (p.drop s.length) = true
 | [],s',p,h => ⟨by rw [vaE,vas]; rfl,h⟩
 | x :: s,s',y :: p,h => by
  obtain ⟨h1,h2⟩ := qbC.1 h
  obtain ⟨i1,i2⟩ := qhA h2
  exact ⟨qbC.2 ⟨h1,i1⟩,i2⟩
 | _ :: _,_,[],h => by simp [mIn] at h
theorem qoa {s p : LI} (h : mIn s p = true) (n : Nat) : mIn (s.take n) (p.take n) = true := by
 have hl := qex h
 have := qhA (s := s.take n) (s' := s.drop n) (p := p) (by rw [vaR]; exact h)
 rw [lTk] at this
 by_cases c : n <= s.length
 ·rw [vaV c] at this; exact this.1
 ·rw [vaA (show s.length <= n by omega),vaA (show p.length <= n by omega)]; exact h
def dsh (a b : LI) (n : Nat) : LI := a.take (a.length - 1) ++ b.drop (n + 1)
def zDS (a b : LI) (n : Int) : Int × LI :=
 if n < 0 \/ (a.length : Int) <= n \/ (b.length : Int) <= n then (1,[]) else
 if mSR a = true /\ mSR b = true /\ a.take n.toNat = b.take n.toNat /\ a.getD (a.length - 1) 0 = b.getD n.toNat 0 then
  (if mSR (dsh a b n.toNat) = true then (0,dsh a b n.toNat) else (13,[]))
 else (13,[])
theorem qhn (a b : LI) (n : Int) (k : Nat) (hk : 120000 <= k) : qcY.f k a b n = some (zDS a b n) := by
 unfold qcY.f zDS
 by_cases c1 : n < 0
 ·rw [if_pos c1,if_pos (.inl c1)]
 by_cases c2 : (a.length : Int) <= n
 ·rw [if_neg c1,if_pos c2,if_pos (.inr (.inl c2))]
 by_cases c3 : (b.length : Int) <= n
 ·rw [if_neg c1,if_neg c2,if_pos c3,if_pos (.inr (.inr c3))]
 rw [if_neg c1,if_neg c2,if_neg c3,if_neg (show ¬ (n < 0 \/ (a.length : Int) <= n \/ (b.length : Int) <= n) by omega),qbj a k (by omega),obs]
 by_cases ra : mSR a = true
 rotate_left
 ·rw [if_neg ra,if_neg (fun h => ra h.1)]
 rw [if_pos ra,qbj b k (by omega),obs]
 by_cases rb : mSR b = true
 rotate_left
 ·rw [if_neg rb,if_neg (fun h => rb h.2.1)]
 have ha := qar ra
 have hb := qar rb
 rw [if_pos rb,ifp,ifp,dZr,dZr,qcs _ _ (by rw [lTk]; omega) k (by rw [lTk]; omega),obs]
 by_cases c4 : a.take n.toNat = b.take n.toNat
 rotate_left
 ·rw [decide_eq_false c4,if_neg (by decide),if_neg (fun h => c4 h.2.2.1)]
 rw [decide_eq_true c4,if_pos rfl,qaq (n := (a.length : Int) - 1) (by omega) (by omega),ifp,ifp,show ((a.length : Int) - 1).toNat = a.length - 1 by omega]
 by_cases c5 : a.getD (a.length - 1) 0 = b.getD n.toNat 0
 rotate_left
 ·rw [if_neg c5,if_neg (fun h => c5 h.2.2.2)]
 rw [if_pos c5,ifp,dZr,if_pos (by rw [lTk]; omega),qaq (n := n + 1) (by omega) (by omega),ifp,nAp,vag,show (n + 1).toNat = n.toNat + 1 by omega,if_pos (by rw [lTk,vaq]; omega),if_pos ⟨ra,rb,c4,c5⟩]
 show (qaL.f k (dsh a b n.toNat)).bind _ = _
 rw [qbj _ k (by omega),obs]
 by_cases c6 : mSR (dsh a b n.toNat) = true
 ·rw [if_pos c6,if_pos c6]; rfl
 ·rw [if_neg c6,if_neg c6]
theorem qmv {a b : LI} {n : Int} (h : (zDS a b n).1 = 0) : (zDS a b n).2 = dsh a b n.toNat /\ mSR (dsh a b n.toNat) = true /\ 0 <= n /\ n.toNat < a.length /\ n.toNat < b.length /\ a.take n.toNat = b.take n.toNat /\ a.getD (a.length - 1) 0 = b.getD n.toNat 0 := by
 unfold zDS at h ⊢
 split at h
 ·simp at h
 rename_i c
 rw [if_neg c]
 split at h
 ·rename_i c2
  rw [if_pos c2]
  split at h
  ·rename_i c3
   rw [if_pos c3]
   exact ⟨rfl,c3,by omega,by omega,by omega,c2.2.2.1,c2.2.2.2⟩
  ·simp at h
 ·simp at h
def dotS (a A b B : LI) (n : Nat) (p : LI) (m : Nat) : Int :=
 (vaf m).foldl (fun acc (j : Nat) => iW.wrap (acc + iW.wrap (A.getD (ix a (p.take (a.length - 1) ++ [(j : Int)])).toNat 0 * B.getD (ix b (p.take n ++ (j : Int) :: p.drop (a.length - 1))).toNat 0))) 0
theorem qnt (a A b B : LI) (n : Nat) (p : LI) (m : Nat) : dotS a A b B n p (m + 1) = iW.wrap (dotS a A b B n p m + iW.wrap (A.getD (ix a (p.take (a.length - 1) ++ [(m : Int)])).toNat 0 * B.getD (ix b (p.take n ++ (m : Int) :: p.drop (a.length - 1))).toNat 0)) := by
 unfold dotS
 rw [va7,va3]; rfl
def zDot (a A b B : LI) (n : Nat) : LI := made (dsh a b n) fun p => dotS a A b B n p (b.getD n 0).toNat
theorem qpQ {a b p : LI} {n : Nat} {j : Int} (ha : n < a.length) (hb : n < b.length) (he : a.take n = b.take n) (hl : a.getD (a.length - 1) 0 = b.getD n 0) (hp : mIn (dsh a b n) p = true) (h0 : 0 <= j) (h1 : j < b.getD n 0) :
  mIn a (p.take (a.length - 1) ++ [j]) = true /\ mIn b (p.take n ++ j :: p.drop (a.length - 1)) = true := by
 obtain ⟨i1,i2⟩ := qhA hp
 rw [lTk,vaV (by omega)] at i1 i2
 constructor
 ·have e : a = a.take (a.length - 1) ++ [a.getD (a.length - 1) 0] := by
   rw [<- qdP (by omega),Nat.sub_add_cancel (by omega),vag]
  have := qkK i1 (s' := [a.getD (a.length - 1) 0]) (p' := [j]) (qbC.2 ⟨by omega,rfl⟩)
  rwa [<- e] at this
 ·have e : b = b.take n ++ b.getD n 0 :: b.drop (n + 1) := by rw [<- qaj hb]; exact (vaR n b).symm
  have i3 := qoa i1 n
  rw [vba,vba,vaV (by omega),he] at i3
  have := qkK i3 (s' := b.getD n 0 :: b.drop (n + 1)) (p' := j :: p.drop (a.length - 1)) (qbC.2 ⟨by omega,i2⟩)
  rwa [<- e] at this
theorem pl_Z {s : LI} (hr : mSR s = true) {i : Nat} (h : (i : Int) < pr s) : mIn s (pl s i) = true := qh6 (fun x hx => (qc4 hr (by omega) x hx).1) i
theorem ql3 (a A b B : LI) (n : Int) (k : Nat) (hk : 120000 ≤ k) :
    qbB.f k a A b B n = some (if zT a A = true ∧ zT b B = true then (if (zDS a b n).1 = 0 then (0,(zDS a b n).2,zDot a A b B n.toNat) else ((zDS a b n).1,[],[])) else (13,[],[])) := by
  unfold qbB.f
  rw [qbK a A k (by omega),obs]
  by_cases hA : zT a A = true
  rotate_left
  · rw [if_neg hA,if_neg (fun h => hA h.1)]
  rw [if_pos hA,qbK b B k (by omega),obs]
  by_cases hB : zT b B = true
  rotate_left
  · rw [if_neg hB,if_neg (fun h => hB h.2)]
  rw [if_pos hB,if_pos ⟨hA,hB⟩,qhn a b n k (by omega),obs]
  by_cases hc : (zDS a b n).1 = 0
  rotate_left
  · rw [if_neg hc,if_neg hc]
  obtain ⟨e,hR,h0,h1,h2,h3,h4⟩ := qmv hc
  obtain ⟨N,rfl⟩ : ∃ N : Nat,n = N := ⟨n.toNat,by omega⟩
  rw [tNc] at *
  have ha := qdM hA
  have hb := qdM hB
  have hs := qar hR
  have hp0 := qct fun x hx => (hs.2.1 x hx).1
  have hbN := qkJ (qbm hB).1 h2
  rw [if_pos hc,if_pos hc,e,qbv _ _ (by omega) k (by omega),obs,zSz,if_pos hR,vat,qaq (n := (a.length : Int) - 1) (by omega) (by omega),show (((pr (dsh a b N)).toNat : Nat) : Int) = ((pr (dsh a b N)).toNat : Nat) from rfl]
  have key : ∀ (M : Nat),M = (pr (dsh a b N)).toNat → qbB.l0 k k (N : Int) ((a.length : Int) - 1) (M : Int) 0 a A b B (dsh a b N) (dsh a b N) (vaa M 0) = some (zDot a A b B N) := fun M hM => by
    have := iter0 (L := fun n i y => qbB.l0 k n (N : Int) ((a.length : Int) - 1) (M : Int) i a A b B (dsh a b N) (dsh a b N) y) (st := fun (i : Nat) => (vaf i).map (fun (i : Nat) => dotS a A b B N (pl (dsh a b N) i) (b.getD N 0).toNat) ++ vaa (M - i) 0) (fun _=>zDot a A b B N) (m := M) 100
      (fun n _ => by rw [qbB.l0,ifq,vau,vav,vah,hM]; rfl)
      (fun i n hi hn ih => by
        have hpi := pl_Z hR (i := i) (by omega)
        have hpl := qcV (dsh a b N) i
        have hdl : (dsh a b N).length = (a.length - 1) + (b.length - (N + 1)) := by unfold dsh; rw [lAp,lTk,vaq]; omega
        generalize hp : pl (dsh a b N) (i : Int) = p at *
        have hbase : ((vaf i).map (fun (i : Nat) => dotS a A b B N (pl (dsh a b N) i) (b.getD N 0).toNat) ++ vaa (M - i) (0 : Int)).length = M := by simp; omega
        have hget : ((vaf i).map (fun (i : Nat) => dotS a A b B N (pl (dsh a b N) i) (b.getD N 0).toNat) ++ vaa (M - i) (0 : Int)).getD i 0 = 0 := qlQ _ hi 0
        have hfill := qdY (fun (i : Nat) => dotS a A b B N (pl (dsh a b N) i) (b.getD N 0).toNat) hi 0
        rw [hp] at hfill
        generalize (vaf i).map (fun (i : Nat) => dotS a A b B N (pl (dsh a b N) i) (b.getD N 0).toNat) ++ vaa (M - i) (0 : Int) = base at *
        have l1 := iter0 (L := fun n j y => qbB.l1 k n (N : Int) ((a.length : Int) - 1) (i : Int) j (M : Int) (i : Int) a A b B (dsh a b N) p (dsh a b N) y) (st := fun j => base.set i (dotS a A b B N p j)) (fun _=>base.set i (dotS a A b B N p (b.getD N 0).toNat)) (m := (b.getD N 0).toNat) 0
          (fun n _ => by rw [qbB.l1,ifp,if_neg (by rw [tNc]; omega)])
          (fun j n hj _ ih => by
            obtain ⟨k1,k2⟩ := qpQ (j := (j : Int)) h1 h2 h3 h4 hpi (by omega) (by omega)
            have hpt : (p.take (a.length - 1)).length = a.length - 1 := by rw [lTk]; omega
            have hpn : (p.take N).length = N := by rw [lTk]; omega
            have hset : ∀ v,(base.set i (dotS a A b B N p j)).set i v = base.set i v := fun v => by simp
            rw [qbB.l1,ifp,tNc,ifp,show ((a.length : Int) - 1).toNat = a.length - 1 by omega,dZr,dZr,nAp,nAp,vag,ifp,if_pos (by rw [hpt]; omega),if_pos (by rw [hpt,lSi]; omega),ifp,if_pos (by rw [hpn]; omega),if_pos (by rw [hpn,lSi]; omega),ifp,
              if_pos (by rw [lAp,hpn,lSi,vaq]; omega),if_pos (by rw [qch,hbase]; omega),tNc,if_pos (by rw [qch,hbase]; exact hi),qcA hA k1 k (by omega),obs,aAs,List.singleton_append,qcA hB k2 k (by omega),obs,hset,qaD (by rw [hbase]; exact hi),qam hj (by omega),← qnt,ih]) n (by omega)
        rw [show dotS a A b B N p 0 = 0 from rfl,qfn hget.symm] at l1
        rw [hfill] at l1
        rw [qbB.l0,ifp,qb6 hR (by omega) (by omega) k (by omega),obs,hp,l1,obs,qam hi (by omega),ih]) k (by omega)
    rw [vaC,vaK,vax,nAp] at this
    exact this
  rw [key _ rfl,obs]
def zWn (n w ap : Int) : Int := if n < 0 \/ w < 1 \/ ap < 1 \/ n < w then 0 else (n - w) / ap + 1
theorem qh3 {n w ap : Int} (hn : n <= 1000) (hn0 : 0 <= n) (hw : w <= 1000) (hw0 : 0 <= w) : qdc.f n w ap = some (zWn n w ap) := by
 unfold qdc.f zWn
 by_cases c1 : n < 0
 ·omega
 by_cases c2 : w < 1
 ·rw [if_neg c1,if_pos c2,if_pos (.inr (.inl c2))]
 by_cases c3 : ap < 1
 ·rw [if_neg c1,if_neg c2,if_pos c3,if_pos (.inr (.inr (.inl c3)))]
 by_cases c4 : n < w
 ·rw [if_neg c1,if_neg c2,if_neg c3,if_pos c4,if_pos (.inr (.inr (.inr c4)))]
 have h1 : 0 <= (n - w) / ap := va9 (by omega) (by omega)
 have h2 : (n - w) / ap <= n - w := va6 _ (by omega)
 rw [if_neg c1,if_neg c2,if_neg c3,if_neg c4,ifp,ifq,qaq (n := n - w) (by omega) (by omega),vbb (by omega),qaq (n := (n - w) / ap) (by omega) (by omega),qaq (n := (n - w) / ap + 1) (by omega) (by omega)]
theorem qpt {n w ap : Int} (h0 : 0 <= n) : 0 <= zWn n w ap /\ zWn n w ap <= n := by
 unfold zWn
 split
 ·omega
 ·rename_i c
  have h1 : 0 <= (n - w) / ap := va9 (by omega) (by omega)
  have h2 : (n - w) / ap <= n - w := va6 _ (by omega)
  omega
theorem qps {n w ap i j : Int} (hi0 : 0 <= i) (hi : i < zWn n w ap) (hj0 : 0 <= j) (hj : j < w) : 0 <= i * ap + j /\ i * ap + j < n /\ 1 <= ap := by
 unfold zWn at hi
 split at hi
 ·omega
 ·rename_i c
  have h3 : i * ap <= (n - w) / ap * ap := Int.mul_le_mul_of_nonneg_right (by omega) (by omega)
  have h4 : (n - w) / ap * ap <= n - w := Int.ediv_mul_le _ (by omega)
  have h5 : 0 <= i * ap := Int.mul_nonneg hi0 (by omega)
  omega
def winS (how : Int) (s d : LI) (ax : Nat) (ap : Int) (p : LI) (m : Nat) : Int :=
 (vaf m).foldl (fun acc (j : Nat) => put how acc (d.getD (ix s (p.set ax (p.getD ax 0 * ap + (j : Int)))).toNat 0)) (zNone how)
theorem qmw (how : Int) (s d : LI) (ax : Nat) (ap : Int) (p : LI) (m : Nat) : winS how s d ax ap p (m + 1) = put how (winS how s d ax ap p m) (d.getD (ix s (p.set ax (p.getD ax 0 * ap + (m : Int)))).toNat 0) := by
 unfold winS
 rw [va7,va3]; rfl
def wsh (s : LI) (ax : Nat) (w ap : Int) : LI := s.set ax (zWn (s.getD ax 0) w ap)
def zWin (how : Int) (s d : LI) (ax : Nat) (w ap : Int) : LI := made (wsh s ax w ap) fun p => winS how s d ax ap p w.toNat
theorem qpy {s : LI} (h : mSR s = true) {ax : Nat} (hax : ax < s.length) (w ap : Int) : mSR (wsh s ax w ap) = true := by
 refine qnJ h (f := vaa s.length 0) (qox (by simp) (by simp [wsh]) fun j hj => ?_)
 have hb := qkJ h hj
 rw [qn2,wsh]
 by_cases e : j = ax
 ·subst e; rw [qaD hj]
  have := qpt (w := w) (ap := ap) hb.1
  omega
 ·rw [qcQ (fun hh => e hh.symm)]; omega
theorem qoA {s p : LI} {ax : Nat} {w ap : Int} (hax : ax < s.length) (hp : mIn (wsh s ax w ap) p = true) {j : Int} (h0 : 0 <= j) (h1 : j < w) : mIn s (p.set ax (p.getD ax 0 * ap + j)) = true /\ 0 <= p.getD ax 0 * ap /\ p.getD ax 0 * ap + j < s.getD ax 0 := by
 have hl := qex hp
 have hl' : (wsh s ax w ap).length = s.length := by simp [wsh]
 have hg := qlt hp (j := ax) (by rw [hl']; exact hax)
 rw [wsh,qaD hax] at hg
 have hw := qps hg.1 hg.2 h0 h1
 have hw0 : 0 <= p.getD ax 0 * ap := Int.mul_nonneg hg.1 (by omega)
 refine ⟨qjX (by rw [qch,hl,hl']) fun q hq => ?_,hw0,hw.2.1⟩
 by_cases e : q = ax
 ·subst e; rw [qaD (by omega)]; omega
 ·have := qlt hp (j := q) (by rw [hl']; exact hq)
  rw [wsh,qcQ (fun hh => e hh.symm)] at this
  rw [qcQ (fun hh => e hh.symm)]; exact this
theorem qiY (how : Int) (s d : LI) (ax w ap : Int) (k : Nat) (hk : 120000 ≤ k) :
    qaX.f k how s d ax w ap = some (if (1 ≤ how ∧ how ≤ 4) ∧ (1 ≤ w ∧ w ≤ 32) ∧ 1 ≤ ap ∧ ap ≤ 32 then (if zT s d = true then (if 0 ≤ ax ∧ ax < (s.length : Int) then (0,wsh s ax.toNat w ap,zWin how s d ax.toNat w ap) else (1,[],[])) else (13,[],[])) else (1,[],[])) := by
  unfold qaX.f
  rw [qil,obs]
  by_cases c0 : 1 ≤ how ∧ how ≤ 4
  rotate_left
  · rw [decide_eq_false c0,if_neg (by decide),if_neg (fun h => c0 h.1)]
  rw [decide_eq_true c0,if_pos rfl]
  by_cases c1 : w < 1
  · rw [if_pos c1,ifq]
  by_cases c2 : 32 < w
  · rw [if_neg c1,if_pos c2,ifq]
  by_cases c3 : ap < 1
  · rw [if_neg c1,if_neg c2,if_pos c3,ifq]
  by_cases c4 : 32 < ap
  · rw [if_neg c1,if_neg c2,if_neg c3,if_pos c4,ifq]
  rw [if_neg c1,if_neg c2,if_neg c3,if_neg c4,if_pos (show (1 ≤ how ∧ how ≤ 4) ∧ (1 ≤ w ∧ w ≤ 32) ∧ 1 ≤ ap ∧ ap ≤ 32 by omega),qbK s d k (by omega),obs]
  by_cases hT : zT s d = true
  rotate_left
  · rw [if_neg hT,if_neg hT]
  have hs := qdM hT
  rw [if_pos hT,if_pos hT]
  by_cases c5 : ax < 0
  · rw [if_pos c5,ifq]
  by_cases c6 : (s.length : Int) ≤ ax
  · rw [if_neg c5,if_pos c6,ifq]
  obtain ⟨X,rfl⟩ : ∃ X : Nat,ax = X := ⟨ax.toNat,by omega⟩
  obtain ⟨hr,hd⟩ := qbm hT
  have hX : X < s.length := by omega
  have hsX := qkJ hr hX
  have hR := qpy hr hX w ap
  have hRs := qar hR
  have hp0 := qct fun x hx => (hRs.2.1 x hx).1
  rw [if_neg c5,if_neg c6,if_pos (show (0 : Int) ≤ X ∧ (X : Int) < s.length by omega),ifp,nAp,ifp,tNc,if_pos hX,qh3 (by omega) hsX.1 (by omega) (by omega),obs,qhm,obs]
  rw [show s.set X (zWn (s.getD X 0) w ap) = wsh s X w ap from rfl,qbv _ _ (by omega) k (by omega),obs,zSz,if_pos hR,vat]
  have key : ∀ (M : Nat),M = (pr (wsh s X w ap)).toNat → qaX.l0 k k how (X : Int) w ap (M : Int) 0 s d (wsh s X w ap) (wsh s X w ap) (vaa M (zNone how)) = some (zWin how s d X w ap) := fun M hM => by
    have := iter0 (L := fun n i y => qaX.l0 k n how (X : Int) w ap (M : Int) i s d (wsh s X w ap) (wsh s X w ap) y) (st := fun (i : Nat) => (vaf i).map (fun (i : Nat) => winS how s d X ap (pl (wsh s X w ap) i) w.toNat) ++ vaa (M - i) (zNone how)) (fun _=>zWin how s d X w ap) (m := M) 100
      (fun n _ => by rw [qaX.l0,ifq,vau,vav,vah,hM]; rfl)
      (fun i n hi hn ih => by
        have hpi := pl_Z hR (i := i) (by omega)
        have hpl := qcV (wsh s X w ap) i
        have hwl : (wsh s X w ap).length = s.length := by simp [wsh]
        generalize hp : pl (wsh s X w ap) (i : Int) = p at *
        have hbase : ((vaf i).map (fun (i : Nat) => winS how s d X ap (pl (wsh s X w ap) i) w.toNat) ++ vaa (M - i) (zNone how)).length = M := by simp; omega
        have hget : ((vaf i).map (fun (i : Nat) => winS how s d X ap (pl (wsh s X w ap) i) w.toNat) ++ vaa (M - i) (zNone how)).getD i 0 = zNone how := qlQ _ hi _
        have hfill := qdY (fun (i : Nat) => winS how s d X ap (pl (wsh s X w ap) i) w.toNat) hi (zNone how)
        rw [hp] at hfill
        generalize (vaf i).map (fun (i : Nat) => winS how s d X ap (pl (wsh s X w ap) i) w.toNat) ++ vaa (M - i) (zNone how) = base at *
        have hg := qoA hX hpi (j := 0) (by omega) (by omega)
        have l1 := iter0 (L := fun n j (y : LI × LI) => qaX.l1 k n how (X : Int) w ap (i : Int) (p.getD X 0 * ap) j (M : Int) (i : Int) s d (wsh s X w ap) y.1 (wsh s X w ap) y.2) (st := fun j => (if j = 0 then p else p.set X (p.getD X 0 * ap + ((j - 1 : Nat) : Int)),base.set i (winS how s d X ap p j))) (fun _=>base.set i (winS how s d X ap p w.toNat)) (m := w.toNat) 0
          (fun n _ => by rw [qaX.l1,ifq])
          (fun j n hj _ ih => by
            have hin := qoA hX hpi (j := (j : Int)) (by omega) (by omega)
            have hset : ∀ v,(base.set i (winS how s d X ap p j)).set i v = base.set i v := fun v => by simp
            have hcl : (if j = 0 then p else p.set X (p.getD X 0 * ap + ((j - 1 : Nat) : Int))).length = p.length := by split <;> simp
            have hps : ∀ v,(if j = 0 then p else p.set X (p.getD X 0 * ap + ((j - 1 : Nat) : Int))).set X v = p.set X v := fun v => by split <;> simp
            rw [if_neg (Nat.succ_ne_zero j),vaM] at ih
            rw [qaX.l1,ifp,if_pos (by rw [hcl]; omega),tNc,if_pos (by rw [hcl]; omega),if_pos (by rw [qch,hbase]; omega),tNc,if_pos (by rw [qch,hbase]; exact hi),hps,qaq (n := p.getD X 0 * ap + (j : Int)) (by omega) (by omega),qcA hT hin.1 k (by omega),obs,qij,obs,hset,qaD (by rw [hbase]; exact hi),qam hj (by omega),← qmw,ih]) n (by omega)
        rw [if_pos rfl,show winS how s d X ap p 0 = zNone how from rfl,qfn hget.symm,hfill] at l1
        rw [qaX.l0,ifp,qb6 hR (by omega) (by omega) k (by omega),obs,hp,ifp,tNc,ifp,qaq (n := p.getD X 0 * ap) (by omega) (by omega),l1,obs,qam hi (by omega),ih]) k (by omega)
    rw [vaC,vaK,vax,nAp] at this
    exact this
  dsimp only
  rw [key _ rfl,obs]
end Go.Pf

namespace Go.Pf
open Go Go.Vm
def tq (op : Int) : Option (Int × Bool × Bool × Bool × Bool × Bool) :=
 if op = 1 then some (0,false,true,false,false,false) else if op = 2 then some (0,false,true,false,true,false) else if op = 3 then some (0,false,true,true,false,false)
 else if op = 4 \/ op = 5 then some (1,false,false,false,false,false) else if 6 <= op /\ op <= 11 then some (2,false,false,false,false,false) else if op = 12 then some (3,false,false,false,false,false)
 else if op = 13 \/ op = 15 then some (1,false,false,true,false,false) else if op = 14 then some (1,false,true,true,false,false) else if op = 16 then some (1,false,false,true,true,false)
 else if op = 17 then some (2,true,false,true,false,false) else if op = 18 \/ op = 20 then some (1,false,false,true,false,true) else if op = 19 then some (2,false,false,true,false,false) else none
def zF (op : Int) (ls la : Nat) (n h m : Int) : Bool :=
 match tq op with
 | none => false
 | some (lo,more,s,a,v,w) => decide (lo <= m) && (more || decide (m <= lo)) && (s || decide (ls = 0)) && (a || decide (la = 0)) && (v || decide (n = 0)) && (w || decide (h = 0))
theorem qgT (op : Int) : op = 1 \/ op = 2 \/ op = 3 \/ op = 4 \/ op = 5 \/ op = 6 \/ op = 7 \/ op = 8 \/ op = 9 \/ op = 10 \/ op = 11 \/ op = 12 \/ op = 13 \/ op = 14 \/ op = 15 \/ op = 16 \/ op = 17 \/ op = 18 \/ op = 19 \/ op = 20 \/ (op < 1 \/ 20 < op) := by omega
theorem qk9 {op : Int} (h : op < 1 \/ 20 < op) : tq op = none := by
 unfold tq
 rw [ifq,ifq,ifq,ifq,ifq,ifq,ifq,ifq,ifq,ifq,ifq,ifq]
theorem qj7 (op : Int) : qdX.f op = some (match tq op with | none => (0,false,false,false,false,false,false) | some (lo,more,s,a,v,w) => (lo,more,s,a,v,w,true)) := by
 rcases qgT op with rfl | rfl | rfl | rfl | rfl | rfl | rfl | rfl | rfl | rfl | rfl | rfl | rfl | rfl | rfl | rfl | rfl | rfl | rfl | rfl | hout
 iterate 20 exact rfl
 rw [qk9 hout]
 unfold qdX.f
 rw [ifq,ifq,ifq,ifq,ifq,ifq,ifq,ifq,ifq,ifq,ifq,ifq,ifq,ifq,ifq,ifq,ifq,ifq,ifq,ifq]
theorem qi1 (op : Int) : qdq.f op = some (match tq op with | none => (-2,false,false,false,false) | some (lo,more,s,a,v,w) => (if more = true then -1 else lo,s,a,v,w)) := by
 rcases qgT op with rfl | rfl | rfl | rfl | rfl | rfl | rfl | rfl | rfl | rfl | rfl | rfl | rfl | rfl | rfl | rfl | rfl | rfl | rfl | rfl | hout
 iterate 20 exact rfl
 rw [qk9 hout]
 unfold qdq.f
 rw [ifq,ifq,ifq,ifq,ifq]
 by_cases c : 6 <= op
 ·rw [if_pos c,ifq,ifq,ifq,ifq,ifq,ifq,ifq,ifq,ifq,ifq]
 ·rw [if_neg c,ifq,ifq,ifq,ifq,ifq,ifq,ifq,ifq,ifq]
theorem tq_lo {op lo : Int} {more s a v w : Bool} (h : tq op = some (lo,more,s,a,v,w)) : 0 <= lo /\ lo <= 3 /\ (more = true -> lo = 2) := by
 rcases qgT op with rfl | rfl | rfl | rfl | rfl | rfl | rfl | rfl | rfl | rfl | rfl | rfl | rfl | rfl | rfl | rfl | rfl | rfl | rfl | rfl | hout
 iterate 20
  simp [tq] at h
  obtain ⟨rfl,rfl,_⟩ := h
  simp
 rw [qk9 hout] at h; cases h
theorem qje (op : Int) (i s a : LI) (n h : Int) (nt : ByteArray) (m : Int) : qdx.f op i s a n h nt m = some (zF op s.length a.length n h m) := by
 unfold qdx.f zF
 rw [qj7,obs]
 cases tq op with
 | none => rfl
 | some q =>
  obtain ⟨lo,more,qs,qa,qv,qw⟩ := q
  dsimp only
  rw [if_pos rfl]
  by_cases c1 : m < lo
  ·rw [if_pos c1,decide_eq_false (show ¬ lo <= m by omega)]; simp
  ·rw [if_neg c1,decide_eq_true (show lo <= m by omega),vaj]
   have e1 : decide ((s.length : Int) = 0) = decide (s.length = 0) := decide_eq_decide.2 (by omega)
   have e2 : decide ((a.length : Int) = 0) = decide (a.length = 0) := decide_eq_decide.2 (by omega)
   by_cases c2 : lo < m
   ·rw [if_pos c2,decide_eq_false (show ¬ m <= lo by omega)]
    cases more <;> cases qs <;> cases qa <;> cases qv <;> cases qw <;> simp <;> (repeat' split) <;> simp_all
   ·rw [if_neg c2,decide_eq_true (show m <= lo by omega)]
    cases more <;> cases qs <;> cases qa <;> cases qv <;> cases qw <;> simp <;> (repeat' split) <;> simp_all
theorem qjQ (op : Int) (i s a : LI) (n h : Int) (nt : ByteArray) (m : Int) : qdU.f op i s a n h nt m = some (zF op s.length a.length n h m) := by
 unfold qdU.f zF
 rw [qi1,obs]
 cases hq : tq op with
 | none => rfl
 | some q =>
  obtain ⟨lo,more,qs,qa,qv,qw⟩ := q
  obtain ⟨h1,h2,h3⟩ := tq_lo hq
  dsimp only
  cases more with
  | true =>
   obtain rfl : lo = 2 := h3 rfl
   simp only [reduceIte,show ¬ ((-1 : Int) = -2) by decide,show ¬ ((0 : Int) <= -1) by decide]
   by_cases c1 : m < 2
   ·rw [if_pos c1,decide_eq_false (show ¬ (2 : Int) <= m by omega)]; simp
   ·rw [if_neg c1,decide_eq_true (show (2 : Int) <= m by omega)]
    cases qs <;> cases qa <;> cases qv <;> cases qw <;> simp <;> (repeat' split) <;> simp_all
  | false =>
   simp only [Bool.false_eq_true,reduceIte,show ¬ (lo = -2) by omega,h1]
   by_cases c1 : m = lo
   ·subst c1
    rw [if_pos rfl,ifq,decide_eq_true (vbh m)]
    cases qs <;> cases qa <;> cases qv <;> cases qw <;> simp <;> (repeat' split) <;> simp_all
   ·have : (decide (lo <= m) && (false || decide (m <= lo))) = false := by
     rw [Bool.false_or,<- Bool.decide_and]; exact decide_eq_false (by omega)
    rw [if_neg c1,this]; simp
end Go.Pf

namespace Go.Pf
open Go Go.Vm
def zShape (op : Int) (s a : LI) (h : Int) (l : List LI) : Int × LI :=
 if op = 1 \/ op = 2 then (if mSR s = true then (0,s) else (13,[])) else
 if op = 3 then (if mSR s = true then (if a.length = 1 /\ 0 <= a.getD 0 0 /\ a.getD 0 0 < (s.length : Int) then (0,s) else (1,[])) else (13,[])) else
 if op = 13 then (if isPerm (l.getD 0 []).length a = true then (0,pick (l.getD 0 []) a) else (1,[])) else
 if op = 14 then (if mSR s = true then (if zWi s (-1) (l.getD 0 []) a = true then (0,s) else (1,[])) else (13,[])) else
 if op = 15 then (if a.length = 2 * (l.getD 0 []).length /\ zSl (l.getD 0 []) (a.take (l.getD 0 []).length) (a.drop (l.getD 0 []).length) = true then (0,a.drop (l.getD 0 []).length) else (1,[])) else
 if op = 16 then (if a.length = 2 * (l.getD 0 []).length /\ zMay (l.getD 0 []) (a.take (l.getD 0 []).length) (a.drop (l.getD 0 []).length) = true then
  (if mSR (zp (l.getD 0 []) (a.take (l.getD 0 []).length) (a.drop (l.getD 0 []).length)) = true then (0,zp (l.getD 0 []) (a.take (l.getD 0 []).length) (a.drop (l.getD 0 []).length)) else (13,[])) else (1,[])) else
 if op = 17 then (if a.length = 1 then zJs (a.getD 0 0) l else (1,[])) else
 if op = 18 then (if 1 <= h /\ h <= 4 then (if zRi (l.getD 0 []).length (-1) a = true then (if mSR (lef a (l.getD 0 [])) = true then (0,lef a (l.getD 0 [])) else (13,[])) else (1,[])) else (1,[])) else
 if op = 19 then (if a.length = 1 then zDS (l.getD 0 []) (l.getD 1 []) (a.getD 0 0) else (1,[])) else
 if op = 20 then (if a.length = 3 /\ ((1 <= h /\ h <= 4) /\ (1 <= a.getD 1 0 /\ a.getD 1 0 <= 32) /\ 1 <= a.getD 2 0 /\ a.getD 2 0 <= 32) /\ 0 <= a.getD 0 0 /\ a.getD 0 0 < ((l.getD 0 []).length : Int) then (0,wsh (l.getD 0 []) (a.getD 0 0).toNat (a.getD 1 0) (a.getD 2 0)) else (1,[])) else
 if l.all (fun t => decide (t = l.getD 0 [])) = true then (0,l.getD 0 []) else (13,[])
def nou (s : LI) : Tn := (s,vaa (zSz s).toNat 0)
theorem nou_T {s : LI} (h : mSR s = true) : zT s (vaa (zSz s).toNat 0) = true := by
 have := qct fun x hx => ((qar h).2.1 x hx).1
 unfold zT
 rw [vat,zSz,if_pos h]
 simp [h]; omega
theorem qh5 (k : Nat) (hk : 120000 <= k) (l : List LI) (hl : l.length <= 100000) (op : Int) (i s a : LI) (n h : Int) (nt : ByteArray) :
  qbg.l0 k k l (l.length : Int) 0 op i s a n h nt [] = some (if l.all mSR = true then .inl (l.map nou) else .inr 13) := by
 have := iter0 (L := fun m j y => qbg.l0 k m l (l.length : Int) j op i s a n h nt y) (st := fun j => (l.take j).map nou) (fun j => if (l.drop j).all mSR = true then .inl (l.map nou) else .inr 13) (m := l.length) 0
  (fun m _ => by rw [qbg.l0,ifq,dNl (vae _),vag]; rfl)
  (fun j m hj _ ih => by
   have ht : (l.take (j + 1)).map nou = (l.take j).map nou ++ [nou (l.getD j [])] := by
    rw [va1,vaT,gDg,vaD hj]; rfl
   rw [ht] at ih
   rw [qbg.l0,ifp,ifp,tNc,qbj _ k (by omega),obs,qaj hj ([] : LI),vaz]
   by_cases c : mSR (l.getD j []) = true
   ·have hb := qar c
    rw [if_pos c,qbv _ _ (by omega) k (by omega),obs,if_pos (by rw [vak,lTk,lSi]; omega),qam hj (by omega),c,vaj]
    exact ih
   ·rw [if_neg c,if_neg (by rw [bAt]; exact fun hh => c hh.1)]) k (by omega)
 rw [vas,vax,dZr] at this
 exact this
theorem qpa {l : List LI} (h : l.all mSR = true) : (l.map nou).all (fun t => zT t.1 t.2) = true := by
 rw [List.all_map,var]
 intro s hs
 exact nou_T (var.1 h s hs)
theorem qo9 (l : List LI) : (l.map nou).map (·.1) = l := by
 rw [vbe]
 conv => rhs; rw [<- List.map_id l]
 rfl
def shp (x : Int × LI × LI) : Int × LI := if x.1 = 0 then (0,x.2.1) else (x.1,[])
theorem qkC {s : LI} (hs : mSR s = true) (ax : Nat) (hax : ax < s.length) (k : Nat) (hk : 120000 <= k) : qb7.f k s ax = some (s,made s fun p => p.getD ax 0) := by
 have hb := qar hs
 have h0 := qct fun x hx => (hb.2.1 x hx).1
 unfold qb7.f
 rw [qbv _ _ (by omega) k (by omega),obs,zSz,if_pos hs]
 have key : ∀ M : Nat,M = (pr s).toNat -> qb7.l0 k k s ax 0 s (vaa M 0) = some (made s fun p => p.getD ax 0) := fun M hM => by
  have := iter0 (L := fun n i y => qb7.l0 k n s ax i s y) (st := fun (i : Nat) => (vaf i).map (fun (i : Nat) => (pl s i).getD ax 0) ++ vaa (M - i) 0) (fun _=>made s fun p => p.getD ax 0) (m := M) 0
   (fun n _ => by rw [qb7.l0,if_neg (by simp),vau,vav,vah,hM]; rfl)
   (fun i n hi _ ih => by
    have hpl := qcV s i
    have hlen : ((vaf i).map (fun (i : Nat) => (pl s i).getD ax 0) ++ vaa (M - i) (0 : Int)).length = M := by simp; omega
    rw [qb7.l0,if_pos (by rw [hlen]; omega),qb6 hs (by omega) (by omega) k (by omega),obs,ifp,tNc,ifp,if_pos (by rw [hlen]; omega),tNc,if_pos (by rw [hlen]; exact hi),qdY (fun (i : Nat) => (pl s i).getD ax 0) hi,qam hi (by omega),ih]) k (by omega)
  rw [vaC,vaK,vax,nAp] at this
  exact this
 dsimp only
 rw [key _ rfl,obs]
theorem qcC (op : Int) (i s a : LI) (n h : Int) (nt : ByteArray) (m : Int) : qcj.f op i s a n h nt m = some (decide ((a.length : Int) = m)) := rfl
end Go.Pf

namespace Go.Pf
open Go Go.Vm
def zWork (op : Int) (s a : LI) (n h : Int) (l : List Tn) : Int × LI × LI :=
 if op = 2 then (if mSR s = true then (0,s,vaa (zSz s).toNat n) else (13,[],[])) else
 if op = 3 then (if mSR s = true then (if a.length = 1 /\ 0 <= a.getD 0 0 /\ a.getD 0 0 < (s.length : Int) then (0,s,made s fun p => p.getD (a.getD 0 0).toNat 0) else (1,[],[])) else (13,[],[])) else
 if op = 4 \/ op = 5 then (0,(l.getD 0 ([],[])).1,zOne op (l.getD 0 ([],[])).2) else
 if op = 12 then (if (l.getD 1 ([],[])).1 = (l.getD 0 ([],[])).1 /\ (l.getD 2 ([],[])).1 = (l.getD 0 ([],[])).1 then (0,(l.getD 0 ([],[])).1,zPick (l.getD 0 ([],[])).2 (l.getD 1 ([],[])).2 (l.getD 2 ([],[])).2) else (13,[],[])) else
 if op = 13 then (if isPerm (l.getD 0 ([],[])).1.length a = true then (0,pick (l.getD 0 ([],[])).1 a,zTurn (l.getD 0 ([],[])).1 (l.getD 0 ([],[])).2 a) else (1,[],[])) else
 if op = 14 then (if mSR s = true then (if zWi s (-1) (l.getD 0 ([],[])).1 a = true then (0,s,zSpr (l.getD 0 ([],[])).1 (l.getD 0 ([],[])).2 s a) else (1,[],[])) else (13,[],[])) else
 if op = 15 then (if a.length = 2 * (l.getD 0 ([],[])).1.length /\ zSl (l.getD 0 ([],[])).1 (a.take (l.getD 0 ([],[])).1.length) (a.drop (l.getD 0 ([],[])).1.length) = true then
  (0,a.drop (l.getD 0 ([],[])).1.length,zCut (l.getD 0 ([],[])).1 (l.getD 0 ([],[])).2 (a.take (l.getD 0 ([],[])).1.length) (a.drop (l.getD 0 ([],[])).1.length)) else (1,[],[])) else
 if op = 16 then (if a.length = 2 * (l.getD 0 ([],[])).1.length /\ zMay (l.getD 0 ([],[])).1 (a.take (l.getD 0 ([],[])).1.length) (a.drop (l.getD 0 ([],[])).1.length) = true then
  (if mSR (zp (l.getD 0 ([],[])).1 (a.take (l.getD 0 ([],[])).1.length) (a.drop (l.getD 0 ([],[])).1.length)) = true then
   (0,zp (l.getD 0 ([],[])).1 (a.take (l.getD 0 ([],[])).1.length) (a.drop (l.getD 0 ([],[])).1.length),zPad (l.getD 0 ([],[])).1 (l.getD 0 ([],[])).2 (a.take (l.getD 0 ([],[])).1.length) (a.drop (l.getD 0 ([],[])).1.length) n) else (13,[],[])) else (1,[],[])) else
 if op = 17 then (if a.length = 1 then zJoin (a.getD 0 0) l else (1,[],[])) else
 if op = 18 then (if 1 <= h /\ h <= 4 then (if zRi (l.getD 0 ([],[])).1.length (-1) a = true then (if mSR (lef a (l.getD 0 ([],[])).1) = true then (0,lef a (l.getD 0 ([],[])).1,zFold h (l.getD 0 ([],[])).1 (l.getD 0 ([],[])).2 a) else (13,[],[])) else (1,[],[])) else (1,[],[])) else
 if op = 19 then (if a.length = 1 then (if (zDS (l.getD 0 ([],[])).1 (l.getD 1 ([],[])).1 (a.getD 0 0)).1 = 0 then
   (0,(zDS (l.getD 0 ([],[])).1 (l.getD 1 ([],[])).1 (a.getD 0 0)).2,zDot (l.getD 0 ([],[])).1 (l.getD 0 ([],[])).2 (l.getD 1 ([],[])).1 (l.getD 1 ([],[])).2 (a.getD 0 0).toNat) else ((zDS (l.getD 0 ([],[])).1 (l.getD 1 ([],[])).1 (a.getD 0 0)).1,[],[])) else (1,[],[])) else
 if op = 20 then (if a.length = 3 /\ ((1 <= h /\ h <= 4) /\ (1 <= a.getD 1 0 /\ a.getD 1 0 <= 32) /\ 1 <= a.getD 2 0 /\ a.getD 2 0 <= 32) /\ 0 <= a.getD 0 0 /\ a.getD 0 0 < ((l.getD 0 ([],[])).1.length : Int) then
  (0,wsh (l.getD 0 ([],[])).1 (a.getD 0 0).toNat (a.getD 1 0) (a.getD 2 0),zWin h (l.getD 0 ([],[])).1 (l.getD 0 ([],[])).2 (a.getD 0 0).toNat (a.getD 1 0) (a.getD 2 0)) else (1,[],[])) else
 if (l.getD 1 ([],[])).1 = (l.getD 0 ([],[])).1 then (0,(l.getD 0 ([],[])).1,zTwo op (l.getD 0 ([],[])).2 (l.getD 1 ([],[])).2) else (13,[],[])
set_option maxHeartbeats 2000000 in
theorem qk8 {op : Int} {ls la : Nat} {n h m : Int} (hF : zF op ls la n h m = true) : (op = 1 /\ m = 0) \/ (op = 2 /\ m = 0) \/ (op = 3 /\ m = 0) \/ ((op = 4 \/ op = 5) /\ m = 1) \/ ((6 <= op /\ op <= 11) /\ m = 2) \/ (op = 12 /\ m = 3) \/ (op = 13 /\ m = 1) \/ (op = 14 /\ m = 1) \/ (op = 15 /\ m = 1) \/ (op = 16 /\ m = 1) \/ (op = 17 /\ 2 <= m) \/ (op = 18 /\ m = 1) \/ (op = 19 /\ m = 2) \/ (op = 20 /\ m = 1) := by
 unfold zF at hF
 cases hq : tq op with
 | none => rw [hq] at hF; cases hF
 | some q =>
  obtain ⟨lo,more,qs,qa,qv,qw⟩ := q
  rw [hq] at hF
  simp only [bAt,decide_eq_true_eq,vaU] at hF
  obtain ⟨⟨⟨⟨⟨h1,h2⟩,_⟩,_⟩,_⟩,_⟩ := hF
  rcases qgT op with rfl | rfl | rfl | rfl | rfl | rfl | rfl | rfl | rfl | rfl | rfl | rfl | rfl | rfl | rfl | rfl | rfl | rfl | rfl | rfl | hout
  ·simp [tq] at hq
   obtain ⟨rfl,rfl,_⟩ := hq
   simp at h2
   exact .inl ⟨rfl,by omega⟩
  ·simp [tq] at hq
   obtain ⟨rfl,rfl,_⟩ := hq
   simp at h2
   exact .inr (.inl ⟨rfl,by omega⟩)
  ·simp [tq] at hq
   obtain ⟨rfl,rfl,_⟩ := hq
   simp at h2
   exact .inr (.inr (.inl ⟨rfl,by omega⟩))
  ·simp [tq] at hq
   obtain ⟨rfl,rfl,_⟩ := hq
   simp at h2
   exact .inr (.inr (.inr (.inl ⟨.inl rfl,by omega⟩)))
  ·simp [tq] at hq
   obtain ⟨rfl,rfl,_⟩ := hq
   simp at h2
   exact .inr (.inr (.inr (.inl ⟨.inr rfl,by omega⟩)))
  ·simp [tq] at hq
   obtain ⟨rfl,rfl,_⟩ := hq
   simp at h2
   exact .inr (.inr (.inr (.inr (.inl ⟨by omega,by omega⟩))))
  ·simp [tq] at hq
   obtain ⟨rfl,rfl,_⟩ := hq
   simp at h2
   exact .inr (.inr (.inr (.inr (.inl ⟨by omega,by omega⟩))))
  ·simp [tq] at hq
   obtain ⟨rfl,rfl,_⟩ := hq
   simp at h2
   exact .inr (.inr (.inr (.inr (.inl ⟨by omega,by omega⟩))))
  ·simp [tq] at hq
   obtain ⟨rfl,rfl,_⟩ := hq
   simp at h2
   exact .inr (.inr (.inr (.inr (.inl ⟨by omega,by omega⟩))))
  ·simp [tq] at hq
   obtain ⟨rfl,rfl,_⟩ := hq
   simp at h2
   exact .inr (.inr (.inr (.inr (.inl ⟨by omega,by omega⟩))))
  ·simp [tq] at hq
   obtain ⟨rfl,rfl,_⟩ := hq
   simp at h2
   exact .inr (.inr (.inr (.inr (.inl ⟨by omega,by omega⟩))))
  ·simp [tq] at hq
   obtain ⟨rfl,rfl,_⟩ := hq
   simp at h2
   exact .inr (.inr (.inr (.inr (.inr (.inl ⟨rfl,by omega⟩)))))
  ·simp [tq] at hq
   obtain ⟨rfl,rfl,_⟩ := hq
   simp at h2
   exact .inr (.inr (.inr (.inr (.inr (.inr (.inl ⟨rfl,by omega⟩))))))
  ·simp [tq] at hq
   obtain ⟨rfl,rfl,_⟩ := hq
   simp at h2
   exact .inr (.inr (.inr (.inr (.inr (.inr (.inr (.inl ⟨rfl,by omega⟩)))))))
  ·simp [tq] at hq
   obtain ⟨rfl,rfl,_⟩ := hq
   simp at h2
   exact .inr (.inr (.inr (.inr (.inr (.inr (.inr (.inr (.inl ⟨rfl,by omega⟩))))))))
  ·simp [tq] at hq
   obtain ⟨rfl,rfl,_⟩ := hq
   simp at h2
   exact .inr (.inr (.inr (.inr (.inr (.inr (.inr (.inr (.inr (.inl ⟨rfl,by omega⟩)))))))))
  ·simp [tq] at hq
   obtain ⟨rfl,rfl,_⟩ := hq
   simp at h2
   exact .inr (.inr (.inr (.inr (.inr (.inr (.inr (.inr (.inr (.inr (.inl ⟨rfl,by omega⟩))))))))))
  ·simp [tq] at hq
   obtain ⟨rfl,rfl,_⟩ := hq
   simp at h2
   exact .inr (.inr (.inr (.inr (.inr (.inr (.inr (.inr (.inr (.inr (.inr (.inl ⟨rfl,by omega⟩)))))))))))
  ·simp [tq] at hq
   obtain ⟨rfl,rfl,_⟩ := hq
   simp at h2
   exact .inr (.inr (.inr (.inr (.inr (.inr (.inr (.inr (.inr (.inr (.inr (.inr (.inl ⟨rfl,by omega⟩))))))))))))
  ·simp [tq] at hq
   obtain ⟨rfl,rfl,_⟩ := hq
   simp at h2
   exact .inr (.inr (.inr (.inr (.inr (.inr (.inr (.inr (.inr (.inr (.inr (.inr (.inr (⟨rfl,by omega⟩)))))))))))))
  rw [qk9 hout] at hq; cases hq
set_option maxHeartbeats 2000000 in
theorem qjO (op : Int) (i s a : LI) (n h : Int) (nt : ByteArray) (l : List Tn) (hT : ∀ t ∈ l,zT t.1 t.2 = true) (hl : l.length <= 100000) (h1 : op ≠ 1) (hF : zF op s.length a.length n h l.length = true) (ha : a.length <= 17592186043904) (k : Nat) (hk : a.length + 120000 <= k) :
  qbl.f k op i s a n h nt l = some (zWork op s a n h l) := by
 have g : ∀ j,j < l.length -> zT (l.getD j ([],[])).1 (l.getD j ([],[])).2 = true := fun j hj => hT _ (qas hj _)
 have e3 : ∀ x : Int × LI × LI,(x.1,x.2.1,x.2.2) = x := fun _=>rfl
 rcases qk8 hF with ⟨rfl,m⟩ | ⟨rfl,m⟩ | ⟨rfl,m⟩ | ⟨rfl | rfl,m⟩ | ⟨c,m⟩ | ⟨rfl,m⟩ | ⟨rfl,m⟩ | ⟨rfl,m⟩ | ⟨rfl,m⟩ | ⟨rfl,m⟩ | ⟨rfl,m⟩ | ⟨rfl,m⟩ | ⟨rfl,m⟩ | ⟨rfl,m⟩
 ·exact absurd rfl h1
 ·simp only [qbl.f,zWork,vac,reduceIte]
  rw [qbj _ k (by omega),obs]
  by_cases hs : mSR s = true
  ·have hb := qar hs
   rw [if_pos hs,if_pos hs,qbv _ _ (by omega) k (by omega),obs]
  ·rw [if_neg hs,if_neg hs]
 ·simp only [qbl.f,zWork,vac,reduceIte]
  rw [qbj _ k (by omega),obs]
  by_cases hs : mSR s = true
  ·rw [if_pos hs,if_pos hs,qcC,obs]
   by_cases c1 : a.length = 1
   ·rw [decide_eq_true (show (a.length : Int) = 1 by omega),if_pos rfl,ifp]
    by_cases c2 : a.getD 0 0 < 0
    ·rw [if_pos c2,ifq]
    by_cases c3 : (s.length : Int) <= a.getD 0 0
    ·rw [if_neg c2,if_pos c3,ifq]
    have := qkC hs (a.getD 0 0).toNat (by omega) k (by omega)
    rw [show (((a.getD 0 0).toNat : Nat) : Int) = a.getD 0 0 by omega] at this
    rw [if_neg c2,if_neg c3,this,obs,ifp]
   ·rw [decide_eq_false (show ¬ (a.length : Int) = 1 by omega),if_neg (by decide),ifq]
  ·rw [if_neg hs,if_neg hs]
 ·simp only [qbl.f,zWork,vac,reduceIte,true_or]
  rw [ifp,qik _ _ _ k (by omega),if_pos (.inl rfl),if_pos (g 0 (by omega)),obs]
 ·simp only [qbl.f,zWork,vac,reduceIte,or_true]
  rw [ifp,qik _ _ _ k (by omega),if_pos (.inr rfl),if_pos (g 0 (by omega)),obs]
 ·unfold qbl.f zWork
  rw [ifq,ifq,ifq,ifq,ifq,ifq,ifq,ifq,ifq,ifq,ifq,ifq,ifq,ifp,ifp,
   ifq,ifq,ifq,ifq,ifq,ifq,ifq,ifq,ifq,ifq,ifq,ifq,ql1 _ _ _ _ _ k (by omega),if_pos c,obs]
  by_cases e : (l.getD 1 ([],[])).1 = (l.getD 0 ([],[])).1
  ·rw [if_pos e,if_pos ⟨g 0 (by omega),g 1 (by omega),e⟩]
  ·rw [if_neg e,if_neg (fun hh => e hh.2.2)]
 ·simp only [qbl.f,zWork,vac,reduceIte,or_self]
  rw [ifp,ifp,ifp,qkz _ _ _ _ _ _ k (by omega),obs]
  by_cases e : (l.getD 1 ([],[])).1 = (l.getD 0 ([],[])).1 /\ (l.getD 2 ([],[])).1 = (l.getD 0 ([],[])).1
  ·rw [if_pos e,if_pos ⟨g 0 (by omega),⟨g 1 (by omega),e.1⟩,g 2 (by omega),e.2⟩]
  ·rw [if_neg e,if_neg (fun hh => e ⟨hh.2.1.2,hh.2.2.2⟩)]
 ·simp only [qbl.f,zWork,vac,reduceIte,or_self]
  rw [ifp,qky _ _ _ k (by omega),if_pos (g 0 (by omega)),obs]
 ·simp only [qbl.f,zWork,vac,reduceIte,or_self]
  rw [ifp,qiZ _ _ _ _ k (by omega),if_pos (g 0 (by omega)),obs]
 ·simp only [qbl.f,zWork,vac,reduceIte,or_self]
  have hb := qdM (g 0 (by omega))
  rw [ifp,qaq (n := 2 * ((l.getD 0 ([],[])).1.length : Int)) (by omega) (by omega),qcC,obs]
  by_cases c : a.length = 2 * (l.getD 0 ([],[])).1.length
  ·rw [decide_eq_true (show (a.length : Int) = 2 * ((l.getD 0 ([],[])).1.length : Int) by omega),if_pos rfl,ifp,ifp,tNc,dZr,vag,qjM _ _ _ _ k (by omega),if_pos (g 0 (by omega)),obs]
   by_cases c2 : zSl (l.getD 0 ([],[])).1 (a.take (l.getD 0 ([],[])).1.length) (a.drop (l.getD 0 ([],[])).1.length) = true
   ·rw [if_pos c2,if_pos ⟨c,c2⟩]
   ·rw [if_neg c2,if_neg (fun hh => c2 hh.2)]
  ·rw [decide_eq_false (show ¬ (a.length : Int) = 2 * ((l.getD 0 ([],[])).1.length : Int) by omega),if_neg (by decide),if_neg (fun hh => c hh.1)]
 ·simp only [qbl.f,zWork,vac,reduceIte,or_self]
  have hb := qdM (g 0 (by omega))
  rw [ifp,qaq (n := 2 * ((l.getD 0 ([],[])).1.length : Int)) (by omega) (by omega),qcC,obs]
  by_cases c : a.length = 2 * (l.getD 0 ([],[])).1.length
  ·rw [decide_eq_true (show (a.length : Int) = 2 * ((l.getD 0 ([],[])).1.length : Int) by omega),if_pos rfl,ifp,ifp,tNc,dZr,vag,ql2 _ _ _ _ _ k (by omega),if_pos (g 0 (by omega)),obs]
   by_cases c2 : zMay (l.getD 0 ([],[])).1 (a.take (l.getD 0 ([],[])).1.length) (a.drop (l.getD 0 ([],[])).1.length) = true
   ·have cc := And.intro c c2
    rw [if_pos c2,if_pos cc]
   ·rw [if_neg c2,if_neg (fun hh => c2 hh.2)]
  ·rw [decide_eq_false (show ¬ (a.length : Int) = 2 * ((l.getD 0 ([],[])).1.length : Int) by omega),if_neg (by decide),if_neg (fun hh => c hh.1)]
 ·simp only [qbl.f,zWork,vac,reduceIte,or_self]
  rw [qcC,obs]
  by_cases c : a.length = 1
  ·rw [decide_eq_true (show (a.length : Int) = 1 by omega),if_pos rfl,ifp,qkA _ _ hl k (by omega),obs,if_pos c]
  ·rw [decide_eq_false (show ¬ (a.length : Int) = 1 by omega),if_neg (by decide),if_neg c]
 ·simp only [qbl.f,zWork,vac,reduceIte,or_self]
  rw [ifp,qkB _ _ _ _ ha k (by omega),if_pos (g 0 (by omega)),obs]
 ·simp only [qbl.f,zWork,vac,reduceIte,or_self]
  rw [qcC,obs]
  by_cases c : a.length = 1
  ·rw [decide_eq_true (show (a.length : Int) = 1 by omega),if_pos rfl,ifp,ifp,ifp,ql3 _ _ _ _ _ k (by omega),if_pos ⟨g 0 (by omega),g 1 (by omega)⟩,obs,if_pos c]
  ·rw [decide_eq_false (show ¬ (a.length : Int) = 1 by omega),if_neg (by decide),if_neg c]
 ·simp only [qbl.f,zWork,vac,reduceIte,or_self]
  rw [qcC,obs]
  by_cases c : a.length = 3
  ·rw [decide_eq_true (show (a.length : Int) = 3 by omega),if_pos rfl,ifp,ifp,ifp,ifp,qiY _ _ _ _ _ _ k (by omega),if_pos (g 0 (by omega)),obs]
   by_cases c2 : (1 <= h /\ h <= 4) /\ (1 <= a.getD 1 0 /\ a.getD 1 0 <= 32) /\ 1 <= a.getD 2 0 /\ a.getD 2 0 <= 32
   ·by_cases c3 : 0 <= a.getD 0 0 /\ a.getD 0 0 < ((l.getD 0 ([],[])).1.length : Int)
    ·rw [if_pos c2,if_pos c3,if_pos ⟨c,c2,c3⟩]
    ·rw [if_pos c2,if_neg c3,if_neg (fun hh => c3 hh.2.2)]
   ·rw [if_neg c2,if_neg (fun hh => c2 hh.2.1)]
  ·rw [decide_eq_false (show ¬ (a.length : Int) = 3 by omega),if_neg (by decide),if_neg (fun hh => c hh.1)]
theorem qmp {op : Int} {s a : LI} {n h : Int} {l : List Tn} (hT : ∀ t ∈ l,zT t.1 t.2 = true) (h1 : op ≠ 1) (hF : zF op s.length a.length n h l.length = true) : shp (zWork op s a n h l) = zShape op s a h (l.map (·.1)) := by
  have g0 : 0 < l.length → (l.map (·.1)).getD 0 [] = (l.getD 0 ([],[])).1 := fun hl => by
    cases l with
    | nil => simp at hl
    | cons _ _ => rfl
  have g1 : 1 < l.length → (l.map (·.1)).getD 1 [] = (l.getD 1 ([],[])).1 := fun hl => by
    rcases l with _ | ⟨_,_ | ⟨_,_⟩⟩
    · simp at hl
    · simp at hl
    · rfl
  have ite3 : ∀ (p : Prop) [Decidable p] (x y : Int × LI × LI),shp (if p then x else y) = if p then shp x else shp y := fun p _ x y => by split <;> rfl
  rcases qk8 hF with ⟨rfl,m⟩ | ⟨rfl,m⟩ | ⟨rfl,m⟩ | ⟨rfl | rfl,m⟩ | ⟨c,m⟩ | ⟨rfl,m⟩ | ⟨rfl,m⟩ | ⟨rfl,m⟩ | ⟨rfl,m⟩ | ⟨rfl,m⟩ | ⟨rfl,m⟩ | ⟨rfl,m⟩ | ⟨rfl,m⟩ | ⟨rfl,m⟩
  · exact absurd rfl h1
  · simp only [zWork,zShape,vac,reduceIte,or_true,or_false,false_or,ite3]; rfl
  · simp only [zWork,zShape,vac,reduceIte,or_self,ite3]; rfl
  · obtain ⟨t,rfl⟩ : ∃ t,l = [t] := vbc.1 (by omega)
    simp only [zWork,zShape,vac,reduceIte,or_self,or_true,true_or]
    simp [shp]
  · obtain ⟨t,rfl⟩ : ∃ t,l = [t] := vbc.1 (by omega)
    simp only [zWork,zShape,vac,reduceIte,or_self,or_true,true_or]
    simp [shp]
  · obtain ⟨t,u,rfl⟩ : ∃ t u,l = [t,u] := by
      rcases l with _ | ⟨t,_ | ⟨u,_ | ⟨_,_⟩⟩⟩
      · simp at m
      · simp at m
      · exact ⟨t,u,rfl⟩
      · simp at m; omega
    have e1 : zWork op s a n h [t,u] = if ([t,u].getD 1 ([],[])).1 = ([t,u].getD 0 ([],[])).1 then (0,([t,u].getD 0 ([],[])).1,zTwo op ([t,u].getD 0 ([],[])).2 ([t,u].getD 1 ([],[])).2) else (13,[],[]) := by
      unfold zWork
      rw [ifq,ifq,ifq,ifq,ifq,ifq,ifq,ifq,ifq,ifq,ifq,ifq]
    have e2 : ∀ l,zShape op s a h l = if l.all (fun t => decide (t = l.getD 0 [])) = true then (0,l.getD 0 []) else (13,[]) := fun l => by
      unfold zShape
      rw [ifq,ifq,ifq,ifq,ifq,ifq,ifq,ifq,ifq,ifq]
    rw [e1,e2,ite3]
    simp [shp]
  · obtain ⟨t,u,v,rfl⟩ : ∃ t u v,l = [t,u,v] := by
      rcases l with _ | ⟨t,_ | ⟨u,_ | ⟨v,_ | ⟨_,_⟩⟩⟩⟩
      · simp at m
      · simp at m
      · simp at m
      · exact ⟨t,u,v,rfl⟩
      · simp at m; omega
    simp only [zWork,zShape,vac,reduceIte,or_self,ite3]
    simp [shp]
  · simp only [zWork,zShape,vac,reduceIte,or_self,ite3,g0 (by omega)]; rfl
  · simp only [zWork,zShape,vac,reduceIte,or_self,ite3,g0 (by omega)]; rfl
  · simp only [zWork,zShape,vac,reduceIte,or_self,ite3,g0 (by omega)]; rfl
  · simp only [zWork,zShape,vac,reduceIte,or_self,ite3,g0 (by omega)]; rfl
  · simp only [zWork,zShape,vac,reduceIte,or_self,ite3]
    have : shp (zJoin (a.getD 0 0) l) = zJs (a.getD 0 0) (l.map (·.1)) := by
      unfold zJoin
      rw [if_pos (var.2 hT)]
      by_cases c : (zJs (a.getD 0 0) (l.map (·.1))).1 = 0
      · rw [if_pos c]
        exact Prod.ext c.symm rfl
      · rw [if_neg c]
        show (if (zJs (a.getD 0 0) (l.map (·.1))).1 = 0 then _ else _) = _
        rw [if_neg c]
        unfold zJs at c ⊢
        split
        · rfl
        · rename_i c2
          rw [if_neg c2] at c
          split
          · rename_i o ho
            rw [ho] at c
            split
            · rename_i c3
              dsimp only at c
              rw [if_pos c3] at c; exact absurd rfl c
            · rfl
          · rfl
    rw [this]; rfl
  · simp only [zWork,zShape,vac,reduceIte,or_self,ite3,g0 (by omega)]; rfl
  · simp only [zWork,zShape,vac,reduceIte,or_self,ite3,g0 (by omega),g1 (by omega)]
    have : ∀ x : Int × LI,(x.1 ≠ 0 → x.2 = []) → ∀ d : LI,(if x.1 = 0 then shp (0,x.2,d) else shp (x.1,[],[])) = x := fun x hx d => by
      by_cases c : x.1 = 0
      · rw [if_pos c]; show (0,x.2) = x; rw [← c]
      · rw [if_neg c]
        show (if x.1 = 0 then _ else _) = x
        rw [if_neg c,← hx c]
    rw [this _ (fun c => by
      unfold zDS at c ⊢
      split
      · rfl
      · rename_i c1
        rw [if_neg c1] at c
        split
        · rename_i c2
          rw [if_pos c2] at c
          split
          · rename_i c3; rw [if_pos c3] at c; exact absurd rfl c
          · rfl
        · rfl)]; rfl
  · simp only [zWork,zShape,vac,reduceIte,or_self,ite3,g0 (by omega)]; rfl
def zSh (op : Int) (s a : LI) (n h : Int) (l : List LI) : Int × LI :=
 if zF op s.length a.length n h l.length = true then (if l.all mSR = true then zShape op s a h l else (13,[])) else (1,[])
theorem qd6 (op : Int) (i s a : LI) (n h : Int) (nt : ByteArray) (l : List LI) (hl : l.length <= 100000) (ha : a.length <= 17592186043904) (k : Nat) (hk : a.length + 120000 <= k) :
  qbg.f k op i s a n h nt l = some (zSh op s a n h l) := by
 unfold qbg.f zSh
 rw [qjQ,obs]
 by_cases hF : zF op s.length a.length n h l.length = true
 rotate_left
 ·rw [if_neg hF,if_neg hF]
 rw [if_pos hF,if_pos hF,qh5 k (by omega) l (by omega),obs]
 by_cases hA : l.all mSR = true
 rotate_left
 ·rw [if_neg hA,if_neg hA]; rfl
 rw [if_pos hA,if_pos hA,vai]
 by_cases h1 : op = 1
 ·subst h1
  rw [if_pos rfl,qbj _ k (by omega),obs]
  simp only [zShape,vac,reduceIte,true_or]
  by_cases c : mSR s = true
  ·have hb := qar c
   rw [if_pos c,if_pos c,ifp,nAp]
  ·rw [if_neg c,if_neg c]
 ·have hT : ∀ t ∈ l.map nou,zT t.1 t.2 = true := var.1 (qpa hA)
  have hF' : zF op s.length a.length n h ((l.map nou).length) = true := by rw [vak]; exact hF
  have hs := qmp (n := n) hT h1 hF'
  rw [qo9] at hs
  rw [if_neg h1,qjO op i s a n h nt (l.map nou) hT (by rw [vak]; exact hl) h1 hF' ha k hk,obs,<- hs]
  unfold shp
  by_cases c : (zWork op s a n h (l.map nou)).1 = 0
  ·rw [if_pos c,if_pos c]
  ·rw [if_neg c,if_neg c]
end Go.Pf

namespace Go.Pf
open Go Go.Vm
theorem qjn (a : LI) (m : Int) (ha : a.length <= 17592186043904) (k : Nat) (hk : a.length < k) : qa8.f k a m = some (zRi m (-1) a) := by
 have := iter0 (L := fun n i l => qa8.l0 n m l a a.length i) (st := fun i => if i = 0 then -1 else a.getD (i - 1) 0) (fun i => if zRi m (if i = 0 then -1 else a.getD (i - 1) 0) (a.drop i) = true then .inl () else .inr false) (m := a.length) 0
  (fun n _ => by rw [qa8.l0,ifq,dNl (vae _)]; rfl)
  (fun i n hi _ ih => by
   rw [if_neg (show ¬ i + 1 = 0 by omega),vaM] at ih
   generalize (if i = 0 then (-1 : Int) else a.getD (i - 1) 0) = l
   rw [qa8.l0,ifp,ifp,tNc,qaj hi (0 : Int)]
   generalize a.getD i 0 = b at ih ⊢
   by_cases c1 : b <= l
   ·rw [if_pos c1,if_neg (by rw [qcm]; omega)]
   by_cases c2 : m <= b
   ·rw [if_neg c1,if_pos c2,if_neg (by rw [qcm]; omega)]
   rw [if_neg c1,if_neg c2,qam hi (by omega),ih]
   by_cases c : zRi m b (a.drop (i + 1)) = true
   ·rw [if_pos c,if_pos (qcm.2 ⟨by omega,c⟩)]
   ·rw [if_neg c,if_neg (fun hh => c (qcm.1 hh).2)]) k (by omega)
 unfold qa8.f
 have this : qa8.l0 k m (-1) a a.length 0 = some (if zRi m (-1) (a.drop 0) = true then .inl () else .inr false) := this
 rw [this,dZr,obs]
 cases zRi m (-1) a <;> rfl
theorem qgh (a b : LI) (ha : a.length <= 17592186043904) (k : Nat) (hk : a.length < k) : qdm.f k a b = some (decide (a = b)) := by
 unfold qdm.f
 rw [qbP a b ha k hk,obs]
theorem qpW {n : Int} (h0 : 0 <= n) (h : n <= 1000000) : qcp.f n = some [] := by
 unfold qcp.f
 rw [ifq,show (iW.wrap (0 - 0) : Int) = 0 by decide,Int.sub_zero,qaq (by omega) (by omega)]
 by_cases c : 0 < n
 ·rw [if_pos c,if_pos (by decide),ifp,ifp,vas]
 ·rw [if_neg c]
theorem qow {a b : LI} (ha : a.length <= 1000) (hb : b.length <= 1000) (k : Nat) (hk : 10 <= k) : qap.f k [a,b] = some (a ++ b) := by
 obtain ⟨n,rfl⟩ : ∃ m,k = m + 3 := ⟨k - 3,by omega⟩
 have l0 : qap.l0 (n + 3) [a,b] 0 [a,b] 2 0 = some ((a.length : Int) + (b.length : Int)) := by
  rw [qap.l0,if_pos (by decide),if_pos ⟨by decide,by show (0 : Int) < 2; decide⟩,show ([a,b].getD (0 : Int).toNat []) = a from rfl,Int.zero_add,qaq (n := (a.length : Int)) (by omega) (by omega),ifq,
   show (iW.wrap (0 + 1) : Int) = 1 by decide,qap.l0,if_pos (by decide),if_pos ⟨by decide,by show (1 : Int) < 2; decide⟩,show ([a,b].getD (1 : Int).toNat []) = b from rfl,qaq (n := (a.length : Int) + (b.length : Int)) (by omega) (by omega),ifq,
   show (iW.wrap (1 + 1) : Int) = 2 by decide,qap.l0,if_neg (by decide)]
 have l1 : qap.l1 (n + 3) [a,b] 2 0 [] = some (a ++ b) := by
  rw [qap.l1,if_pos (by decide),if_pos ⟨by decide,by show (0 : Int) < 2; decide⟩,show ([a,b].getD (0 : Int).toNat []) = a from rfl,if_pos (by rw [vaE]; omega),
   show (iW.wrap (0 + 1) : Int) = 1 by decide,qap.l1,if_pos (by decide),if_pos ⟨by decide,by show (1 : Int) < 2; decide⟩,show ([a,b].getD (1 : Int).toNat []) = b from rfl,nAp,ifp,
   show (iW.wrap (1 + 1) : Int) = 2 by decide,qap.l1,if_neg (by decide)]
 unfold qap.f
 rw [show (([a,b] : List LI).length : Int) = 2 from rfl,l0,obs,qpW (by omega) (by omega),obs,l1,obs]
theorem qkW (a b : LI) (n : Int) (k : Nat) (hk : 120000 <= k) : qeG.f k a b n = some (zDS a b n) := by
 unfold qeG.f zDS
 by_cases c1 : n < 0
 ·rw [if_pos c1,if_pos (.inl c1)]
 by_cases c2 : (a.length : Int) <= n
 ·rw [if_neg c1,if_pos c2,if_pos (.inr (.inl c2))]
 by_cases c3 : (b.length : Int) <= n
 ·rw [if_neg c1,if_neg c2,if_pos c3,if_pos (.inr (.inr c3))]
 rw [if_neg c1,if_neg c2,if_neg c3,if_neg (show ¬ (n < 0 \/ (a.length : Int) <= n \/ (b.length : Int) <= n) by omega),qbV a k (by omega),obs]
 by_cases ra : mSR a = true
 rotate_left
 ·rw [if_neg ra,if_neg (fun h => ra h.1)]
 rw [if_pos ra,qbV b k (by omega),obs]
 by_cases rb : mSR b = true
 rotate_left
 ·rw [if_neg rb,if_neg (fun h => rb h.2.1)]
 have ha := qar ra
 have hb := qar rb
 rw [if_pos rb,ifp,ifp,dZr,dZr,qgh _ _ (by rw [lTk]; omega) k (by rw [lTk]; omega),obs]
 by_cases c4 : a.take n.toNat = b.take n.toNat
 rotate_left
 ·rw [decide_eq_false c4,if_neg (by decide),if_neg (fun h => c4 h.2.2.1)]
 rw [decide_eq_true c4,if_pos rfl,qaq (n := (a.length : Int) - 1) (by omega) (by omega),ifp,ifp,show ((a.length : Int) - 1).toNat = a.length - 1 by omega]
 by_cases c5 : a.getD (a.length - 1) 0 = b.getD n.toNat 0
 rotate_left
 ·rw [if_neg c5,if_neg (fun h => c5 h.2.2.2)]
 rw [if_pos c5,ifp,dZr,qaq (n := n + 1) (by omega) (by omega),ifp,vag,show (n + 1).toNat = n.toNat + 1 by omega,qow (by rw [lTk]; omega) (by rw [vaq]; omega) k (by omega),obs,if_pos ⟨ra,rb,c4,c5⟩]
 show (qaW.f k (dsh a b n.toNat)).bind _ = _
 rw [qbV _ k (by omega),obs]
 by_cases c6 : mSR (dsh a b n.toNat) = true
 ·rw [if_pos c6,if_pos c6]; rfl
 ·rw [if_neg c6,if_neg c6]
theorem qie {m : Int} : ∀ {l : Int} {a : LI},zRi m l a = true -> ∀ k ∈ a,l < k
 | _,[],_,_,h => by cases h
 | l,b :: a,h,k,hk => by
  obtain ⟨h1,h2⟩ := qcm.1 h
  rcases van.1 hk with e | hk
  ·omega
  ·have := qie h2 k hk; omega
theorem qeF (s : LI) (hs : s.length ≤ 1000) (a0 : LI) : ∀ (e i : Nat) (a y : LI) (l : Int) (n : Nat),s.length = i + e → e < n → y.length ≤ i → zRi s.length l a = true → l < i → (∀ x ∈ a,(i : Int) ≤ x) → (∀ j : Nat,i ≤ j → ((j : Int) ∈ a0 ↔ (j : Int) ∈ a)) →
    qbN.l0 n a s s.length i y = some (y ++ lefI a0 i (s.drop i))
  | 0,i,a,y,l,n,hi,hn,_,_,_,_,_ => by
    obtain ⟨n,rfl⟩ := sun (n := n)
    rw [qbN.l0,ifq,dNl (by omega),lefI,vah]
  | e + 1,i,a,y,l,n,hi,hn,hy,hr,hl,hm,ha => by
    obtain ⟨n,rfl⟩ := sun (n := n)
    rw [qbN.l0,ifp,ifp,tNc,qam (show i < s.length by omega) (by omega),qaj (show i < s.length by omega) (0 : Int),lefI]
    have keep : ((i : Int) ∉ a) → qbN.l0 n a s s.length ((i + 1 : Nat) : Int) (y ++ [s.getD i 0]) = some (y ++ (if (i : Int) ∈ a0 then lefI a0 (i + 1) (s.drop (i + 1)) else s.getD i 0 :: lefI a0 (i + 1) (s.drop (i + 1)))) := fun hna => by
      rw [qeF s hs a0 e (i + 1) a (y ++ [s.getD i 0]) l n (by omega) (by omega) (by simp; omega) hr (by omega) (fun x hx => by
        have := hm x hx
        have : x ≠ (i : Int) := fun h => hna (h ▸ hx)
        omega) (fun j hj => ha j (by omega)),if_neg (fun h => hna ((ha i (vae _)).1 h)),aAs]; rfl
    have hb : y.length + [s.getD i 0].length ≤ 281474976710656 ∧ (y.length + [s.getD i 0].length) * 8 ≤ 140737488355328 := by rw [lSi]; omega
    cases a with
    | nil =>
      rw [if_neg (by simp),if_pos hb]
      exact keep (by simp)
    | cons b r =>
      rw [if_pos (by simp),if_pos ⟨by decide,by simp⟩]
      show (if b = (i : Int) then _ else _) = _
      obtain ⟨h1,h2⟩ := qcm.1 hr
      have hbi := hm b (vao ..)
      by_cases c : b = (i : Int)
      · rw [if_pos c,if_pos ⟨by decide,by simp; omega,by omega⟩,vag,List.drop_one]
        show qbN.l0 n r s s.length ((i + 1 : Nat) : Int) y = _
        rw [qeF s hs a0 e (i + 1) r y b n (by omega) (by omega) (by omega) h2 (by omega) (fun x hx => by
          have := qie h2 x hx
          omega) (fun j hj => by
            rw [ha j (by omega),van]
            constructor
            · rintro (h | h)
              · omega
              · exact h
            · exact .inr),if_pos ((ha i (vae _)).2 (by rw [c]; exact vao ..))]
      · rw [if_neg c,if_pos hb]
        exact keep (fun h => by
          rcases van.1 h with h | h
          · exact c h.symm
          · have := qie h2 _ h; omega)
theorem qkR (s a : LI) (hs : s.length <= 1000) (ha : a.length <= 17592186043904) (k : Nat) (hk : a.length + 1001 <= k) : qbN.f k s a = some (if zRi s.length (-1) a = true then (0,lef a s) else (1,[])) := by
 unfold qbN.f
 rw [qjn a _ ha k (by omega),obs]
 by_cases c : zRi s.length (-1) a = true
 ·have := qeF s hs a s.length 0 a [] (-1) k (by omega) (by omega) (by simp) c (by omega) (fun x hx => by have := qie c x hx; omega) (fun _ _ => Iff.rfl)
  rw [n0,dZr,nAp] at this
  rw [if_pos c,if_pos c,this,obs]; rfl
 ·rw [if_neg c,if_neg c]
theorem qgv (h : Int) : qdo.f h = some (decide (1 <= h /\ h <= 4)) := by
 unfold qdo.f
 by_cases c : 1 <= h
 ·rw [if_pos c]; simp [c]
 ·rw [if_neg c]; simp [c]
theorem qjx (h w a : Int) : qdO.f h w a = some (decide ((1 <= h /\ h <= 4) /\ (1 <= w /\ w <= 32) /\ 1 <= a /\ a <= 32)) := by
 have m : ∀ x,qcT.f x = some (decide (1 <= x /\ x <= 32)) := fun x => by
  unfold qcT.f
  by_cases c : 1 <= x
  ·rw [if_pos c]; simp [c]
  ·rw [if_neg c]; simp [c]
 unfold qdO.f
 rw [qgv,obs,m,m]
 by_cases c1 : 1 <= h /\ h <= 4
 rotate_left
 ·rw [decide_eq_false c1,if_neg (by decide),decide_eq_false (fun h => c1 h.1)]
 rw [decide_eq_true c1,if_pos rfl,obs]
 by_cases c2 : 1 <= w /\ w <= 32
 rotate_left
 ·rw [decide_eq_false c2,if_neg (by decide),decide_eq_false (fun h => c2 h.2.1)]
 rw [decide_eq_true c2,if_pos rfl,obs]
 simp [c1,c2]
theorem qjw {n w ap : Int} (hn : n <= 1000) (hn0 : 0 <= n) (hw : w <= 1000) (hw0 : 0 <= w) : qdN.f n w ap = some (zWn n w ap) := by
 unfold qdN.f zWn
 by_cases c1 : n < 0
 ·omega
 by_cases c2 : w < 1
 ·rw [if_neg c1,if_pos c2,if_pos (.inr (.inl c2))]
 by_cases c3 : ap < 1
 ·rw [if_neg c1,if_neg c2,if_pos c3,if_pos (.inr (.inr (.inl c3)))]
 by_cases c4 : n < w
 ·rw [if_neg c1,if_neg c2,if_neg c3,if_pos c4,if_pos (.inr (.inr (.inr c4)))]
 have h1 : 0 <= (n - w) / ap := va9 (by omega) (by omega)
 have h2 : (n - w) / ap <= n - w := va6 _ (by omega)
 rw [if_neg c1,if_neg c2,if_neg c3,if_neg c4,ifp,ifq,qaq (n := n - w) (by omega) (by omega),vbb (by omega),qaq (n := (n - w) / ap) (by omega) (by omega),qaq (n := (n - w) / ap + 1) (by omega) (by omega)]
theorem qjf (k : Nat) (l : List LI) (h0 : 0 < l.length) (hl : l.length <= 100000) (hb : ∀ s ∈ l,s.length <= 1000) (hk : 120000 <= k) :
  qdy.f k l = some (if l.all (fun t => decide (t = l.getD 0 [])) = true then (l.getD 0 [],0) else ([],13)) := by
 have := iter0 (L := fun n i (_ : Unit) => qah.l0 k n l l.length i l) (st := fun _=>()) (fun i => if (l.drop i).all (fun t => decide (t = l.getD 0 [])) = true then .inl () else .inr ((i + ((l.drop i).takeWhile (fun t => decide (t = l.getD 0 []))).length : Nat) : Int)) (m := l.length) 0
  (fun n _ => by rw [qah.l0,ifq,dNl (vae _)]; rfl)
  (fun i n hi _ ih => by
   have hm := hb _ (qas hi ([] : LI))
   rw [qah.l0,ifp,ifp,tNc,qdk.f,ifp,qgh _ _ (by omega) k (by omega),obs,obs,qaj hi ([] : LI),vaz,vaY]
   by_cases c : l.getD i [] = l.getD 0 []
   ·rw [decide_eq_true c,if_neg (show ¬ (!true) = true from vad),qam hi (by omega),ih,vaj,if_pos rfl,lCo,va0 i 1,va4 1]
   ·rw [decide_eq_false c,if_pos (show (!false) = true from rfl),vap,if_neg vad,if_neg vad]; rfl) k (by omega)
 rw [dZr] at this
 unfold qdy.f qaT.f qah.f
 rw [this,obs]
 by_cases c : l.all (fun t => decide (t = l.getD 0 [])) = true
 ·rw [if_pos c,if_pos c,vai,obs,obs,if_neg (by decide),ifp]
 ·rw [if_neg c,if_neg c,vaI,obs,obs,if_pos (by rw [decide_eq_true_eq]; omega)]
theorem qgK (k : Nat) (l : List LI) (hl : l.length <= 100000) (hk : 120000 <= k) : qaI.f k l = some (!l.all mSR) := by
 have := iter0 (L := fun n i (_ : Unit) => qai.l0 k n l l.length i) (st := fun _=>()) (fun i => if (l.drop i).all mSR = true then .inl () else .inr ((i + ((l.drop i).takeWhile mSR).length : Nat) : Int)) (m := l.length) 0
  (fun n _ => by rw [qai.l0,ifq,dNl (vae _)]; rfl)
  (fun i n hi _ ih => by
   rw [qai.l0,ifp,ifp,tNc,qdl.f,qbV _ k (by omega),obs,obs,qaj hi ([] : LI),vaz,vaY]
   cases c : mSR (l.getD i [])
   ·rw [if_pos (show (!false) = true from rfl),vap,if_neg vad,if_neg vad]; rfl
   ·rw [if_neg (show ¬ (!true) = true from vad),qam hi (by omega),ih,vaj,if_pos rfl,lCo,va0 i 1,va4 1]) k (by omega)
 rw [dZr] at this
 unfold qaI.f qai.f
 rw [this,obs]
 cases c : l.all mSR
 ·rw [if_neg (by decide),vaI,obs,decide_eq_true (by omega)]; rfl
 ·rw [if_pos rfl,vai,obs]; rfl
end Go.Pf

namespace Go.Pf
open Go Go.Vm
theorem qg8 {l : List LI} (h : l.all mSR = true) : ∀ s ∈ l,s.length <= 4 /\ ∀ x ∈ s,0 <= x /\ x <= 32 := fun s hs => by
 have := qar (var.1 h s hs)
 exact ⟨this.1,this.2.1⟩
set_option maxHeartbeats 1000000 in
theorem qhI (op : Int) (i s a : LI) (n h : Int) (nt : ByteArray) (l : List LI) (hl : l.length ≤ 100000) (hA : l.all mSR = true) (hF : zF op s.length a.length n h l.length = true) (ha : a.length ≤ 17592186043904) (k : Nat) (hk : a.length + 120000 ≤ k) :
    ∃ x,qa1.f k op i s a n h nt l = some (x,(zShape op s a h l).1) ∧ ((zShape op s a h l).1 = 0 → x = (zShape op s a h l).2 ∧ x.length ≤ 1000) := by
  have hR : ∀ j,j < l.length → mSR (l.getD j []) = true := fun j hj => var.1 hA _ (qas hj _)
  have fin : ∀ {o : Option (LI × Int)} {z : Int × LI},o = some (z.2,z.1) → (z.1 = 0 → z.2.length ≤ 1000) → ∃ x,o = some (x,z.1) ∧ (z.1 = 0 → x = z.2 ∧ x.length ≤ 1000) := fun {o z} e hz => ⟨z.2,e,fun h => ⟨rfl,hz h⟩⟩
  have len4 : ∀ {x : LI},mSR x = true → x.length ≤ 1000 := fun h => by have := (qar h).1; omega
  have given : ∀ op,op = 1 ∨ op = 2 ∨ op = 3 → qcO.f k op i s a n h nt = some ((zShape op s a h l).2,(zShape op s a h l).1) ∧ ((zShape op s a h l).1 = 0 → (zShape op s a h l).2.length ≤ 1000) := fun op ho => by
    unfold qcO.f
    rw [qbV _ k (by omega),obs]
    by_cases c : mSR s = true
    · have h4 := (qar c).1
      rw [if_pos c]
      by_cases c3 : op = 3
      · subst c3
        simp only [zShape,vac,reduceIte,or_self,if_pos c]
        by_cases c1 : a.length = 1
        · rw [ifp,ifp]
          by_cases c2 : a.getD 0 0 < 0
          · rw [if_pos c2,ifq]; exact ⟨rfl,fun h => by simp at h⟩
          by_cases c3 : (s.length : Int) ≤ a.getD 0 0
          · rw [if_neg c2,if_pos c3,ifq]; exact ⟨rfl,fun h => by simp at h⟩
          rw [if_neg c2,if_neg c3,ifp]; exact ⟨rfl,fun _=>by show s.length ≤ 1000; omega⟩
        · rw [ifq,ifq]; exact ⟨rfl,fun h => by simp at h⟩
      · have e : zShape op s a h l = (0,s) := by
          unfold zShape
          rw [ifp,if_pos c]
        rw [if_neg c3,e]; exact ⟨rfl,fun _=>by show s.length ≤ 1000; omega⟩
    · have e : zShape op s a h l = (13,[]) := by
        unfold zShape
        by_cases c3 : op = 3
        · rw [ifq,if_pos c3,if_neg c]
        · rw [ifp,if_neg c]
      rw [if_neg c,e]; exact ⟨rfl,fun h => by simp at h⟩
  have alike : ∀ op,4 ≤ op ∧ op ≤ 12 → 0 < l.length → ∃ x,qa1.f k op i s a n h nt l = some (x,(zShape op s a h l).1) ∧ ((zShape op s a h l).1 = 0 → x = (zShape op s a h l).2 ∧ x.length ≤ 1000) := fun op ho h0 => by
    have h4 := (qar (hR 0 h0)).1
    have e2 : zShape op s a h l = if l.all (fun t => decide (t = l.getD 0 [])) = true then (0,l.getD 0 []) else (13,[]) := by
      unfold zShape
      rw [ifq,ifq,ifq,ifq,ifq,ifq,ifq,ifq,ifq,ifq]
    rw [e2]
    unfold qa1.f
    rw [ifq,ifq,ifq,ifq,ifq,ifq,ifq,ifq,ifq,ifq,ifq,
      qjf k l h0 (by omega) (fun s hs => by have := (qg8 hA s hs).1; omega) (by omega),obs]
    split
    · exact ⟨l.getD 0 [],rfl,fun _=>⟨rfl,by omega⟩⟩
    · exact ⟨_,rfl,fun h => by simp at h⟩
  rcases qk8 hF with ⟨rfl,m⟩ | ⟨rfl,m⟩ | ⟨rfl,m⟩ | ⟨rfl | rfl,m⟩ | ⟨c,m⟩ | ⟨rfl,m⟩ | ⟨rfl,m⟩ | ⟨rfl,m⟩ | ⟨rfl,m⟩ | ⟨rfl,m⟩ | ⟨rfl,m⟩ | ⟨rfl,m⟩ | ⟨rfl,m⟩ | ⟨rfl,m⟩
  · obtain ⟨g1,g2⟩ := given 1 (by omega)
    refine fin ?_ g2
    unfold qa1.f
    rw [if_pos rfl,g1,obs]
  · obtain ⟨g1,g2⟩ := given 2 (by omega)
    refine fin ?_ g2
    unfold qa1.f
    rw [if_neg (by decide),if_pos rfl,g1,obs]
  · obtain ⟨g1,g2⟩ := given 3 (by omega)
    refine fin ?_ g2
    unfold qa1.f
    rw [if_neg (by decide),if_neg (by decide),if_pos rfl,g1,obs]
  · exact alike 4 (by omega) (by omega)
  · exact alike 5 (by omega) (by omega)
  · exact alike op (by omega) (by omega)
  · exact alike 12 (by omega) (by omega)
  · -- turn
    have hr := hR 0 (by omega)
    have h4 := (qar hr).1
    simp only [qa1.f,zShape,vac,reduceIte,or_self]
    rw [ifp,qjl h4 a k (by omega),obs]
    refine fin rfl fun _=>?_
    split
    · rename_i hp
      show (List.map _ a).length ≤ 1000
      have := (qeO.1 hp).len
      rw [vak]; omega
    · rename_i hp
      exact Nat.zero_le _
  · -- spread
    have hr := hR 0 (by omega)
    have h4 := (qar hr).1
    simp only [qa1.f,zShape,vac,reduceIte,or_self]
    rw [ifp,qkl h4 s a k (by omega),obs]
    by_cases c : mSR s = true
    · rw [if_pos c,if_pos c]
      by_cases c2 : zWi s (-1) (l.getD 0 []) a = true
      · rw [if_pos c2,if_pos c2]; exact ⟨s,rfl,fun _=>⟨rfl,len4 c⟩⟩
      · rw [if_neg c2,if_neg c2]; exact ⟨s,rfl,fun h => by simp at h⟩
    · rw [if_neg c,if_neg c]; exact ⟨s,rfl,fun h => by simp at h⟩
  · -- slice
    have hr := hR 0 (by omega)
    have h4 := (qar hr).1
    simp only [qa1.f,qdW.f,zShape,vac,reduceIte,or_self]
    rw [ifp,qaq (n := 2 * ((l.getD 0 []).length : Int)) (by omega) (by omega)]
    by_cases c : a.length = 2 * (l.getD 0 []).length
    · rw [ifp,ifp,ifp,tNc,dZr,vag,qjm hr _ _ k (by omega),obs,obs]
      refine ⟨a.drop (l.getD 0 []).length,?_,fun hz => ?_⟩
      · by_cases c2 : zSl (l.getD 0 []) (a.take (l.getD 0 []).length) (a.drop (l.getD 0 []).length) = true
        · rw [if_pos c2,if_pos ⟨c,c2⟩]
        · rw [if_neg c2,if_neg (fun hh => c2 hh.2)]
      · by_cases c2 : zSl (l.getD 0 []) (a.take (l.getD 0 []).length) (a.drop (l.getD 0 []).length) = true
        · rw [if_pos ⟨c,c2⟩]; exact ⟨rfl,by rw [vaq]; omega⟩
        · rw [if_neg (fun hh => c2 hh.2)] at hz; simp at hz
    · rw [ifq,if_neg (fun hh => c hh.1)]
      exact ⟨[],rfl,fun h => by simp at h⟩
  · -- pad
    have hr := hR 0 (by omega)
    have h4 := (qar hr).1
    simp only [qa1.f,qdW.f,zShape,vac,reduceIte,or_self]
    rw [ifp,qaq (n := 2 * ((l.getD 0 []).length : Int)) (by omega) (by omega)]
    by_cases c : a.length = 2 * (l.getD 0 []).length
    · rw [ifp,ifp,ifp,tNc,dZr,vag,qjo hr _ _ k (by omega),obs,obs]
      by_cases c2 : zMay (l.getD 0 []) (a.take (l.getD 0 []).length) (a.drop (l.getD 0 []).length) = true
      · have cc := And.intro c c2
        rw [if_pos c2,if_pos cc]
        refine fin rfl fun hz => ?_
        split at hz
        · rename_i c3
          rw [if_pos c3]; exact len4 c3
        · simp at hz
      · rw [if_neg c2,if_neg (fun hh => c2 hh.2)]
        exact ⟨[],rfl,fun h => by simp at h⟩
    · rw [ifq,if_neg (fun hh => c hh.1)]
      exact ⟨[],rfl,fun h => by simp at h⟩
  · -- join
    simp only [qa1.f,zShape,vac,reduceIte,or_self]
    by_cases c : a.length = 1
    · rw [ifp,ifp,qjp _ l (qg8 hA) (by omega) k (by omega),obs,if_pos c]
      exact fin rfl fun hz => len4 (qpw hz)
    · rw [ifq,if_neg c]
      exact ⟨[],rfl,fun h => by simp at h⟩
  · -- fold
    have hr := hR 0 (by omega)
    have h4 := (qar hr).1
    simp only [qa1.f,qdH.f,zShape,vac,reduceIte,or_self]
    rw [ifp,qgv,obs]
    by_cases c : 1 ≤ h ∧ h ≤ 4
    · rw [decide_eq_true c,if_pos rfl,if_pos c,qkR _ _ (by omega) ha k (by omega),obs]
      by_cases c2 : zRi (l.getD 0 []).length (-1) a = true
      · rw [if_pos c2,if_pos c2,if_pos rfl,qbV _ k (by omega),obs]
        by_cases c3 : mSR (lef a (l.getD 0 [])) = true
        · rw [if_pos c3,if_pos c3,obs]; exact fin rfl fun _=>len4 c3
        · rw [if_neg c3,if_neg c3,obs]; exact ⟨_,rfl,fun h => by simp at h⟩
      · rw [if_neg c2,if_neg c2,if_neg (by decide),obs]; exact ⟨_,rfl,fun h => by simp at h⟩
    · rw [decide_eq_false c,if_neg (by decide),if_neg c,obs]; exact ⟨_,rfl,fun h => by simp at h⟩
  · -- dot
    simp only [qa1.f,zShape,vac,reduceIte,or_self]
    by_cases c : a.length = 1
    · rw [ifp,ifp,ifp,ifp,qkW _ _ _ k (by omega),obs,if_pos c]
      exact fin rfl fun hz => by
        have := qmv hz
        rw [this.1]; exact len4 this.2.1
    · rw [ifq,if_neg c]
      exact ⟨[],rfl,fun h => by simp at h⟩
  · -- window
    have hr := hR 0 (by omega)
    have h4 := qar hr
    simp only [qa1.f,qee.f,zShape,vac,reduceIte,or_self]
    rw [ifp]
    by_cases c : a.length = 3
    · rw [ifp,ifp,ifp,qjx,obs]
      by_cases c2 : (1 ≤ h ∧ h ≤ 4) ∧ (1 ≤ a.getD 1 0 ∧ a.getD 1 0 ≤ 32) ∧ 1 ≤ a.getD 2 0 ∧ a.getD 2 0 ≤ 32
      · rw [decide_eq_true c2,if_pos rfl,ifp]
        by_cases c3 : a.getD 0 0 < 0
        · rw [if_pos c3,obs,ifq]; exact ⟨_,rfl,fun h => by simp at h⟩
        by_cases c4 : ((l.getD 0 []).length : Int) ≤ a.getD 0 0
        · rw [if_neg c3,if_pos c4,obs,ifq]; exact ⟨_,rfl,fun h => by simp at h⟩
        have hj : (a.getD 0 0).toNat < (l.getD 0 []).length := by omega
        have hbd := h4.2.1 _ (qas hj (0 : Int))
        rw [if_neg c3,if_neg c4,qbi _ (by omega),obs,ifp,qjw (by omega) (by omega) (by omega) (by omega),obs,ifp,if_pos hj,obs,if_pos ⟨c,c2,by omega⟩]
        exact fin rfl fun _=>by
          show (List.set _ _ _).length ≤ 1000
          rw [qch]; omega
      · rw [decide_eq_false c2,if_neg (by decide),obs,if_neg (fun hh => c2 hh.2.1)]; exact ⟨_,rfl,fun h => by simp at h⟩
    · rw [ifq,obs,if_neg (fun hh => c hh.1)]; exact ⟨_,rfl,fun h => by simp at h⟩
theorem qoS {ax : Int} {l : List LI} (h : (zJs ax l).1 ≠ 0) : (zJs ax l).2 = [] := by
 unfold zJs at h ⊢
 split
 ·rfl
 rename_i c
 rw [if_neg c] at h
 split
 ·rename_i o ho
  rw [ho] at h
  dsimp only at h
  split
  ·rename_i c2
   rw [if_pos c2] at h; exact absurd rfl h
  ·rfl
 ·rfl
theorem qoT {a b : LI} {n : Int} (h : (zDS a b n).1 ≠ 0) : (zDS a b n).2 = [] := by
 unfold zDS at h ⊢
 split
 ·rfl
 rename_i c
 rw [if_neg c] at h
 split
 ·rename_i c2
  rw [if_pos c2] at h
  split
  ·rename_i c3
   rw [if_pos c3] at h; exact absurd rfl h
  ·rfl
 ·rfl
theorem qlU {op : Int} {s a : LI} {h : Int} {l : List LI} (e : (zShape op s a h l).1 ≠ 0) : (zShape op s a h l).2 = [] := by
 have t : ∀ {p : Prop} [Decidable p] {x y : Int × LI},(x.1 ≠ 0 -> x.2 = []) -> (y.1 ≠ 0 -> y.2 = []) -> (if p then x else y).1 ≠ 0 -> (if p then x else y).2 = [] := fun hx hy => by
  split
  ·exact hx
  ·exact hy
 have z : ∀ {x : LI},((0,x) : Int × LI).1 ≠ 0 -> ((0,x) : Int × LI).2 = [] := fun h => absurd rfl h
 have w : ∀ {x : Int},((x,[]) : Int × LI).1 ≠ 0 -> ((x,[]) : Int × LI).2 = [] := fun _=>rfl
 revert e
 unfold zShape
 exact t (t z w) (t (t (t z w) w) (t (t z w) (t (t (t z w) w) (t (t z w) (t (t (t z w) w) (t (t qoS w) (t (t (t (t z w) w) w) (t (t qoT w) (t (t z w) (t z w))))))))))
theorem qjg (op : Int) (i s a : LI) (n h : Int) (nt : ByteArray) (l : List LI) (hl : l.length <= 100000) (ha : a.length <= 17592186043904) (k : Nat) (hk : a.length + 120000 <= k) :
  qdz.f k op i s a n h nt l = some (zSh op s a n h l) := by
 unfold qdz.f zSh
 rw [qje,obs]
 by_cases hF : zF op s.length a.length n h l.length = true
 rotate_left
 ·rw [if_neg hF,if_neg hF]
 rw [if_pos hF,if_pos hF,qgK k l (by omega) (by omega),obs]
 by_cases hA : l.all mSR = true
 rotate_left
 ·rw [if_neg hA,vbj.2 hA,if_pos (show (!false) = true from rfl)]
 rw [hA,if_neg (show ¬ (!true) = true from vad),if_pos rfl]
 obtain ⟨x,e,hx⟩ := qhI op i s a n h nt l hl hA hF ha k hk
 rw [e,obs]
 by_cases c : (zShape op s a h l).1 = 0
 ·obtain ⟨rfl,hx2⟩ := hx c
  rw [if_pos c,qbi _ (by dsimp only; omega),obs,<- c]
 ·rw [if_neg c,<- qlU c]
end Go.Pf

namespace Go.Pf
open Go Go.Vm
theorem qgO (s t : ByteArray) (i k : Nat) (h : s.size <= i) : (s ++ t).get! (i + k) = t.get! (i - s.size + k) := by
 have e : (s ++ t).data = s.data ++ t.data := by simp
 have hs : s.size = s.data.size := rfl
 show (s ++ t).data[i + k]! = t.data[i - s.size + k]!
 rw [e,vaG,vaG,vaB,vaB,Array.getElem?_append_right (by omega),show i + k - s.data.size = i - s.size + k by omega]
theorem qh1 (s t : ByteArray) (i : Nat) (h : i < s.size) : (s ++ t).get! i = s.get! i := by
 have e : (s ++ t).data = s.data ++ t.data := by simp
 have hs : s.size = s.data.size := rfl
 show (s ++ t).data[i]! = s.data[i]!
 rw [e,vaG,vaG,vaB,vaB,Array.getElem?_append_left (by omega)]
theorem qcR (s t : ByteArray) : (s ++ t).size = s.size + t.size := ByteArray.size_append
theorem qlT (s t u : ByteArray) : s ++ t ++ u = s ++ (t ++ u) := ByteArray.append_assoc
theorem qlS (s : ByteArray) : vab ++ s = s := ByteArray.empty_append
theorem qh2 (s : ByteArray) : s ++ vab = s := ByteArray.append_empty
theorem qmf (s t : ByteArray) : Utf8.decode (s ++ t) s.size = Utf8.decode t 0 := by
 have g : ∀ k,(s ++ t).get! (s.size + k) = t.get! (0 + k) := fun k => by rw [qgO s t s.size k (vae _),vau]
 have z : ∀ k,(decide (s.size + k < (s ++ t).size)) = decide (0 + k < t.size) := fun k => by rw [qcR]; congr 1; simp
 unfold Utf8.decode
 simp only [g,z]
theorem qcb {n : Nat} (h : n < 256) : (UInt8.ofNat n).toNat = n := by simp [UInt8.toNat_ofNat']; omega
theorem qeY (l : List UInt8) (k : Nat) (h : k < l.length) (t : ByteArray) : ((vaw ⟨l⟩) ++ t).get! k = l[k] := by
 rw [qh1 _ _ _ h]
 show (Array.mk l)[k]! = l[k]
 simp [h]
theorem qkI (l : List UInt8) (t : ByteArray) : ((vaw ⟨l⟩) ++ t).size = l.length + t.size := by rw [qcR]; rfl
theorem qjj {r : Nat} (h : Utf8.valid r = true) (t : ByteArray) : Utf8.decode (Utf8.encode r ++ t) 0 = (r,(Utf8.encode r).size) := by
 have hv : r < 0xD800 \/ (0xE000 <= r /\ r <= 0x10FFFF) := by
  unfold Utf8.valid at h
  simp at h; omega
 unfold Utf8.encode
 rw [h]
 simp only [reduceIte,tNc]
 by_cases c1 : r < 128
 ·rw [if_pos c1]
  unfold Utf8.decode
  simp only [vaJ,vaW,qeY [UInt8.ofNat r] 0 (by simp) t,vaH,qcb (show r < 256 by omega)]
  rw [if_pos c1]; rfl
 by_cases c2 : r < 2048
 ·rw [if_neg c1,if_pos c2]
  unfold Utf8.decode
  simp only [vaJ,vaW,qeY [UInt8.ofNat (0xC0 + r / 64),UInt8.ofNat (0x80 + r % 64)] 0 (by simp) t,qeY [UInt8.ofNat (0xC0 + r / 64),UInt8.ofNat (0x80 + r % 64)] 1 (by simp) t,qkI,vaH,vaQ,qcb (show 0xC0 + r / 64 < 256 by omega),qcb (show 0x80 + r % 64 < 256 by omega)]
  rw [ifq,if_pos (by simp; omega),ifp]
  exact Prod.ext (by show _ = r; dsimp only; omega) rfl
 by_cases c3 : r < 65536
 ·rw [if_neg c1,if_neg c2,if_pos c3]
  unfold Utf8.decode
  have g0 := qeY [UInt8.ofNat (0xE0 + r / 4096),UInt8.ofNat (0x80 + r / 64 % 64),UInt8.ofNat (0x80 + r % 64)] 0 (by simp) t
  have g1 := qeY [UInt8.ofNat (0xE0 + r / 4096),UInt8.ofNat (0x80 + r / 64 % 64),UInt8.ofNat (0x80 + r % 64)] 1 (by simp) t
  have g2 := qeY [UInt8.ofNat (0xE0 + r / 4096),UInt8.ofNat (0x80 + r / 64 % 64),UInt8.ofNat (0x80 + r % 64)] 2 (by simp) t
  simp only [vaJ,vaW,g0,g1,g2,qkI,vaH,vaQ,qcb (show 0xE0 + r / 4096 < 256 by omega),qcb (show 0x80 + r / 64 % 64 < 256 by omega),qcb (show 0x80 + r % 64 < 256 by omega)]
  have e : (224 + r / 4096) % 16 * 4096 + (128 + r / 64 % 64) % 64 * 64 + (128 + r % 64) % 64 = r := by omega
  rw [e,ifq,if_neg (by simp; omega),if_pos (by simp; omega),if_pos (by simp [h]; omega)]; rfl
 ·rw [if_neg c1,if_neg c2,if_neg c3]
  unfold Utf8.decode
  have g0 := qeY [UInt8.ofNat (0xF0 + r / 262144),UInt8.ofNat (0x80 + r / 4096 % 64),UInt8.ofNat (0x80 + r / 64 % 64),UInt8.ofNat (0x80 + r % 64)] 0 (by simp) t
  have g1 := qeY [UInt8.ofNat (0xF0 + r / 262144),UInt8.ofNat (0x80 + r / 4096 % 64),UInt8.ofNat (0x80 + r / 64 % 64),UInt8.ofNat (0x80 + r % 64)] 1 (by simp) t
  have g2 := qeY [UInt8.ofNat (0xF0 + r / 262144),UInt8.ofNat (0x80 + r / 4096 % 64),UInt8.ofNat (0x80 + r / 64 % 64),UInt8.ofNat (0x80 + r % 64)] 2 (by simp) t
  have g3 := qeY [UInt8.ofNat (0xF0 + r / 262144),UInt8.ofNat (0x80 + r / 4096 % 64),UInt8.ofNat (0x80 + r / 64 % 64),UInt8.ofNat (0x80 + r % 64)] 3 (by simp) t
  simp only [vaJ,vaW,g0,g1,g2,g3,qkI,vaH,vaQ,qcb (show 0xF0 + r / 262144 < 256 by omega),qcb (show 0x80 + r / 4096 % 64 < 256 by omega),qcb (show 0x80 + r / 64 % 64 < 256 by omega),qcb (show 0x80 + r % 64 < 256 by omega)]
  have e : (240 + r / 262144) % 8 * 262144 + (128 + r / 4096 % 64) % 64 * 4096 + (128 + r / 64 % 64) % 64 * 64 + (128 + r % 64) % 64 = r := by omega
  rw [e,ifq,if_neg (by simp; omega),if_neg (by simp; omega),if_pos (by simp; omega),if_pos (by simp [h]; omega)]; rfl
theorem qf9 (s : ByteArray) (i : Nat) : 1 <= (Utf8.decode s i).2 := by
 unfold Utf8.decode
 dsimp only
 repeat' split
 all_goals simp
def rsx (s : ByteArray) : Nat -> Nat -> LI
 | 0,_ => []
 | n + 1,i => if i < s.size then ((Utf8.decode s i).1 : Int) :: rsx s n (i + (Utf8.decode s i).2) else []
def rs (s : ByteArray) : LI := rsx s s.size 0
theorem qmO (s : ByteArray) : ∀ n i,(rsx s n i).length <= n
 | 0,_ => vae _
 | n + 1,i => by
  rw [rsx]
  split
  ·have := qmO s n (i + (Utf8.decode s i).2)
   simp; omega
  ·simp
theorem qlg (s : ByteArray) : (rs s).length <= s.size := qmO s _ _
def enc : LI -> ByteArray
 | [] => vab
 | r :: l => Utf8.encode r ++ enc l
theorem qnq : ∀ a b : LI,enc (a ++ b) = enc a ++ enc b
 | [],b => by rw [nAp,enc,qlS]
 | r :: a,b => by rw [va5,enc,enc,qnq a b,qlT]
theorem qmP : ∀ (l : LI) (p : ByteArray) (n : Nat),(∀ r ∈ l,Utf8.valid r = true) -> (enc l).size <= n -> rsx (p ++ enc l) n p.size = l
 | [],p,n,_,_ => by
  cases n with
  | zero => rfl
  | succ n => rw [rsx,enc,qh2,ifq]
 | r :: l,p,n,hv,hn => by
  have h := hv r (vao ..)
  have hr : 0 <= r := by
   unfold Utf8.valid at h
   simp at h; omega
  obtain ⟨q,rfl⟩ : ∃ q : Nat,r = (q : Int) := ⟨r.toNat,by omega⟩
  have hd := qjj h (enc l)
  have hp := qf9 (Utf8.encode q ++ enc l) 0
  rw [enc,qcR] at hn
  rw [hd] at hp
  obtain ⟨n,rfl⟩ : ∃ m,n = m + 1 := ⟨n - 1,by dsimp only at hp; omega⟩
  dsimp only at hp
  rw [enc,rsx,if_pos (by rw [qcR,qcR]; omega),qmf,hd]
  dsimp only
  rw [<- qlT,<- qcR,qmP l _ n (fun r hr => hv r (mCm _ hr)) (by omega)]
theorem qmQ {l : LI} (h : ∀ r ∈ l,Utf8.valid r = true) : rs (enc l) = l := by
 have := qmP l vab (enc l).size h (vae _)
 rwa [qlS] at this
theorem qeX (s : ByteArray) (hs : s.size <= 17592186043904) : ∀ (e i n : Nat) (y : LI),s.size <= i + e -> e < n -> y.length <= i -> qbn.l0 n y s i = some (y ++ rsx s e i)
 | 0,i,n,y,hi,hn,hy => by
  obtain ⟨n,rfl⟩ := sun (n := n)
  rw [qbn.l0,ifq,rsx,vah]
 | e + 1,i,n,y,hi,hn,hy => by
  obtain ⟨n,rfl⟩ := sun (n := n)
  have hp := qf9 s i
  rw [qbn.l0,rsx]
  by_cases c : i < s.size
  ·rw [if_pos c,if_pos c,if_pos (by rw [lSi]; omega),qeX s hs e _ n _ (by omega) (by omega) (by simp; omega),aAs]; rfl
  ·rw [if_neg c,if_neg c,vah]
theorem qd9 (s : ByteArray) (hs : s.size <= 17592186043904) (k : Nat) (hk : s.size < k) : qbn.f k s = some (rs s) := by
 unfold qbn.f
 rw [qeX s hs s.size 0 k [] (by omega) hk (vae _)]; rfl
theorem qfs (s : ByteArray) (hs : s.size <= 17592186043904) : ∀ (e i n : Nat) (y : LI),s.size <= i + e -> e < n -> y.length <= i -> qby.l0 n y s i = some (y ++ rsx s e i)
 | 0,i,n,y,hi,hn,hy => by
  obtain ⟨n,rfl⟩ := sun (n := n)
  rw [qby.l0,ifq,rsx,vah]
 | e + 1,i,n,y,hi,hn,hy => by
  obtain ⟨n,rfl⟩ := sun (n := n)
  have hp := qf9 s i
  rw [qby.l0,rsx]
  by_cases c : i < s.size
  ·rw [if_pos c,if_pos c,if_pos (by rw [lSi]; omega),qfs s hs e _ n _ (by omega) (by omega) (by simp; omega),aAs]; rfl
  ·rw [if_neg c,if_neg c,vah]
theorem qdD (s : ByteArray) (hs : s.size <= 17592186043904) (k : Nat) (hk : s.size < k) : qby.f k s = some (rs s) := by
 unfold qby.f
 rw [qfs s hs s.size 0 k [] (by omega) hk (vae _)]; rfl
end Go.Pf

namespace Go.Pf
open Go Go.Vm
def fnI (x : Int) : Nat -> LI -> Int
 | _,[] => -1
 | i,y :: l => if y = x then (i : Int) else fnI x (i + 1) l
def fnd (l : LI) (x : Int) : Int := fnI x 0 l
theorem qlF (x : Int) : ∀ (l : LI) (i : Nat),(fnI x i l = -1 /\ x ∉ l) \/ ∃ j : Nat,fnI x i l = ((i + j : Nat) : Int) /\ j < l.length /\ l.getD j 0 = x /\ x ∉ l.take j
 | [],i => .inl ⟨rfl,by simp⟩
 | y :: l,i => by
  rw [fnI]
  by_cases c : y = x
  ·rw [if_pos c]
   exact .inr ⟨0,rfl,by simp,c,by simp⟩
  ·rw [if_neg c]
   rcases qlF x l (i + 1) with ⟨h1,h2⟩ | ⟨j,h1,h2,h3,h4⟩
   ·exact .inl ⟨h1,by simp [h2]; exact fun h => c h.symm⟩
   ·exact .inr ⟨j + 1,by rw [h1]; omega,by simp; omega,h3,by simp [h4]; exact fun h => c h.symm⟩
theorem qgZ (l : LI) (x : Int) : (fnd l x = -1 /\ x ∉ l) \/ ∃ j : Nat,fnd l x = (j : Int) /\ j < l.length /\ l.getD j 0 = x /\ x ∉ l.take j := by
 have := qlF x l 0
 simp only [vaJ] at this
 exact this
theorem qgD (l : LI) (x : Int) (hl : l.length <= 17592186043904) (k : Nat) (hk : l.length < k) : qaO.f k l x = some (fnd l x) := by
 have := iter0 (L := fun n i (_ : Unit) => qaO.l0 n l x l.length i) (st := fun _=>()) (fun i => if fnI x i (l.drop i) = -1 then .inl () else .inr (fnI x i (l.drop i))) (m := l.length) 0
  (fun n _ => by rw [qaO.l0,ifq,dNl (vae _)]; rfl)
  (fun i n hi _ ih => by
   rw [qaO.l0,ifp,ifp,tNc,qaj hi (0 : Int),fnI]
   by_cases c : l.getD i 0 = x
   ·rw [if_pos c.symm,if_pos c,ifq]
   ·rw [if_neg (fun h => c h.symm),if_neg c,qam hi (by omega),ih]) k (by omega)
 rw [dZr] at this
 unfold qaO.f fnd
 rw [this,obs]
 by_cases c : fnI x 0 l = -1
 ·rw [if_pos c,c]; rfl
 ·rw [if_neg c]; rfl
theorem qh0 (l : LI) (x : Int) (hl : l.length <= 17592186043904) (k : Nat) (hk : l.length < k) : qbT.f k l x = some (decide (x ∈ l)) := by
 unfold qbT.f
 rw [qgD l x hl k hk,obs]
 rcases qgZ l x with ⟨h1,h2⟩ | ⟨j,h1,h2,h3,h4⟩
 ·rw [h1,decide_eq_false h2]; rfl
 ·rw [h1,decide_eq_true (by omega),decide_eq_true (by rw [<- h3]; exact qas h2 _)]
theorem qjW (s : ByteArray) (x : Int) (hs : s.size <= 17592186043904) (k : Nat) (hk : s.size < k) : qdV.f k s x = some (fnd (rs s) x) := by
 have := qlg s
 unfold qdV.f
 rw [qd9 s hs k hk,obs,qgD _ _ (by omega) k (by omega),obs]
theorem qhh (s : ByteArray) (x : Int) (hs : s.size <= 17592186043904) (k : Nat) (hk : s.size < k) : qb4.f k s x = some (fnd (rs s) x) := by
 have hl := qlg s
 unfold qb4.f
 rw [qdD s hs k hk,obs]
 generalize rs s = l at hl ⊢
 have := iter0 (L := fun n i (_ : Unit) => qb4.l0 n x l.length i l) (st := fun _=>()) (fun i => if fnI x i (l.drop i) = -1 then .inl () else .inr (fnI x i (l.drop i))) (m := l.length) 0
  (fun n _ => by rw [qb4.l0,ifq,dNl (vae _)]; rfl)
  (fun i n hi _ ih => by
   rw [qb4.l0,ifp,ifp,ifp,tNc,qaj hi (0 : Int),fnI]
   by_cases c : l.getD i 0 = x
   ·rw [if_pos c,if_pos c,ifq]
   ·rw [if_neg c,if_neg c,qam hi (by omega),ih]) k (by omega)
 rw [dZr] at this
 unfold fnd
 rw [this,obs]
 by_cases c : fnI x 0 l = -1
 ·rw [if_pos c,c]; rfl
 ·rw [if_neg c]; rfl
def nmay (x : Int) : Bool := decide (33 <= x /\ x ≠ 46 /\ x ≠ 45 /\ x ≠ 40 /\ x ≠ 41 /\ x ≠ 65533)
def nR (l : LI) : Nat -> Nat -> Bool
 | 0,_ => true
 | e + 1,i => nmay (l.getD i 0) && !decide (l.getD i 0 ∈ l.take i) && nR l e (i + 1)
def zNR (l : LI) (n : Int) : Bool := decide ((l.length : Int) = n /\ n <= 3) && nR l l.length 0
theorem qkH (x : Int) : qew.f x = some (nmay x) := by
 unfold qew.f nmay
 by_cases c1 : x = 46
 ·rw [if_pos c1]; subst c1; rfl
 by_cases c2 : x = 45
 ·rw [if_neg c1,if_pos c2]; subst c2; rfl
 by_cases c3 : x = 40
 ·rw [if_neg c1,if_neg c2,if_pos c3]; subst c3; rfl
 by_cases c4 : x = 41
 ·rw [if_neg c1,if_neg c2,if_neg c3,if_pos c4]; subst c4; rfl
 by_cases c5 : x = 65533
 ·rw [if_neg c1,if_neg c2,if_neg c3,if_neg c4,if_pos c5]; subst c5; rfl
 rw [if_neg c1,if_neg c2,if_neg c3,if_neg c4,if_neg c5]
 congr 1
 simp [c1,c2,c3,c4,c5]
theorem qi3 (s : ByteArray) (n : Int) (hs : s.size <= 17592186043904) (k : Nat) (hk : s.size < k) : qbx.f k s n = some (zNR (rs s) n) := by
 have hl := qlg s
 unfold qbx.f zNR
 rw [qd9 s hs k hk,obs]
 generalize rs s = l at hl ⊢
 by_cases c1 : (l.length : Int) = n
 rotate_left
 ·rw [if_neg c1,decide_eq_false (fun h => c1 h.1)]; rfl
 by_cases c2 : 3 < n
 ·rw [if_pos c1,if_pos c2,decide_eq_false (by omega)]; rfl
 rw [if_pos c1,if_neg c2,decide_eq_true ⟨c1,by omega⟩,vaj]
 have := iter0 (L := fun n i (_ : Unit) => qbx.l0 k n l.length i l) (st := fun _=>()) (fun i => if nR l (l.length - i) i = true then .inl () else .inr false) (m := l.length) 0
  (fun n _ => by rw [qbx.l0,ifq,vau]; rfl)
  (fun i n hi _ ih => by
   rw [qbx.l0,ifp,ifp,ifp,tNc,qkH,obs,show l.length - i = (l.length - (i + 1)) + 1 by omega,nR]
   cases c : nmay (l.getD i 0)
   ·rw [if_neg vad,vap,vap,if_neg vad]
   rw [if_pos rfl,vaj,ifp,dZr,qh0 _ _ (by rw [lTk]; omega) k (by rw [lTk]; omega),obs]
   cases c3 : decide (l.getD i 0 ∈ l.take i)
   ·rw [if_neg vad,qam hi (by omega),ih]; rfl
   ·rw [if_pos rfl]; rfl) k (by omega)
 rw [vaC] at this
 have this : qbx.l0 k k l.length 0 l = _ := this
 rw [this,obs]
 cases nR l l.length 0 <;> rfl
theorem qjK (s : ByteArray) (n : Int) (hs : s.size ≤ 17592186043904) (k : Nat) (hk : s.size < k) : qbQ.f k s n = some (zNR (rs s) n) := by
  have hl := qlg s
  unfold qbQ.f zNR
  rw [qdD s hs k hk,obs]
  have hF := fun x => qhh s x hs k hk
  generalize rs s = l at hl hF ⊢
  by_cases c0 : n < 0
  · rw [if_pos c0,decide_eq_false (by omega)]; rfl
  by_cases c2 : 3 < n
  · rw [if_neg c0,if_pos c2,decide_eq_false (by omega)]; rfl
  by_cases c1 : (l.length : Int) = n
  rotate_left
  · rw [if_neg c0,if_neg c2,if_neg c1,decide_eq_false (fun h => c1 h.1)]; rfl
  rw [if_neg c0,if_neg c2,if_pos c1,decide_eq_true ⟨c1,by omega⟩,vaj]
  have := iter0 (L := fun n i (_ : Unit) => qbQ.l0 k n s l.length i l) (st := fun _=>()) (fun i => if nR l (l.length - i) i = true then .inl () else .inr false) (m := l.length) 0
    (fun n _ => by rw [qbQ.l0,ifq,vau]; rfl)
    (fun i n hi _ ih => by
      rw [qbQ.l0,ifp,ifp,ifp,tNc,show l.length - i = (l.length - (i + 1)) + 1 by omega,nR,hF,obs]
      have bad : nmay (l.getD i 0) = false → (if (nmay (l.getD i 0) && !decide (l.getD i 0 ∈ l.take i) && nR l (l.length - (i + 1)) (i + 1)) = true then (Sum.inl () : Unit ⊕ Bool) else .inr false) = .inr false := fun h => by
        rw [h]; rfl
      by_cases d1 : l.getD i 0 < 33
      · rw [if_pos d1,bad (decide_eq_false (by omega))]
      by_cases d2 : l.getD i 0 = 65533
      · rw [if_neg d1,if_pos d2,bad (decide_eq_false (by omega))]
      by_cases d3 : l.getD i 0 = 46
      · rw [if_neg d1,if_neg d2,if_pos d3,bad (decide_eq_false (by omega))]
      by_cases d4 : l.getD i 0 = 45
      · rw [if_neg d1,if_neg d2,if_neg d3,if_pos d4,bad (decide_eq_false (by omega))]
      by_cases d5 : l.getD i 0 = 40
      · rw [if_neg d1,if_neg d2,if_neg d3,if_neg d4,if_pos d5,bad (decide_eq_false (by omega))]
      by_cases d6 : l.getD i 0 = 41
      · rw [if_neg d1,if_neg d2,if_neg d3,if_neg d4,if_neg d5,if_pos d6,bad (decide_eq_false (by omega))]
      rw [if_neg d1,if_neg d2,if_neg d3,if_neg d4,if_neg d5,if_neg d6,show nmay (l.getD i 0) = true from decide_eq_true (by omega),vaj]
      rcases qgZ l (l.getD i 0) with ⟨h1,h2⟩ | ⟨j,h1,h2,h3,h4⟩
      · exact absurd (qas hi _) h2
      by_cases c : l.getD i 0 ∈ l.take i
      · rw [decide_eq_true c,if_neg (fun h => by
          obtain rfl : j = i := by omega
          exact h4 c)]; rfl
      · have : i = j := by
          rcases vbk i j with h | h | h
          · refine absurd ?_ h4
            have : (l.take j).getD i 0 = l.getD i 0 := by
              rw [gDg,vaL,if_pos h,gDg]
            rw [← this]
            exact qas (by rw [lTk]; omega) _
          · exact h
          · refine absurd ?_ c
            have : (l.take i).getD j 0 = l.getD j 0 := by
              rw [gDg,vaL,if_pos h,gDg]
            rw [← h3,← this]
            exact qas (by rw [lTk]; omega) _
        rw [decide_eq_false c,ifp,qam hi (by omega),ih]; rfl) k (by omega)
  rw [vaC] at this
  have this : qbQ.l0 k k s l.length 0 l = _ := this
  rw [this,obs]
  cases nR l l.length 0 <;> rfl
def zNl (nm : LI) : LI -> LI -> Option LI
 | [],y => some y
 | r :: l,y => if r = 32 then zNl nm l y else if r = 46 then zNl nm l (y ++ [-1]) else if fnd nm r < 0 \/ fnd nm r ∈ y then none else zNl nm l (y ++ [fnd nm r])
def zNote (nm l : LI) (rank : Int) : Bool × Int × LI :=
 if 16 < l.length then (false,14,[]) else
 match zNl nm l [] with
 | none => (false,14,[])
 | some y => if y.length = 0 then (false,0,[]) else if (y.length : Int) = rank then (true,0,y) else (false,14,[])
theorem qfF (s : ByteArray) (hs : s.size <= 17592186043904) (l : LI) (hl : l.length <= 16) (rank : Int) (k : Nat) (hk : s.size + 100 < k) : ∀ (e i n : Nat) (y : LI),l.length = i + e -> e < n -> y.length <= i ->
  qbs.l0 k n s rank l.length i y l = some (match zNl (rs s) (l.drop i) y with | some y => .inl y | none => .inr (false,14))
 | 0,i,n,y,hi,hn,_ => by
  obtain ⟨n,rfl⟩ := sun (n := n)
  rw [qbs.l0,ifq,dNl (by omega)]; rfl
 | e + 1,i,n,y,hi,hn,hy => by
  obtain ⟨n,rfl⟩ := sun (n := n)
  have ih := fun y hy => qfF s hs l hl rank k hk e (i + 1) n y (by omega) (by omega) hy
  rw [qbs.l0,ifp,ifp,ifp,tNc,qjW s _ hs k (by omega),obs,qam (show i < l.length by omega) (by omega),qaj (show i < l.length by omega) (0 : Int),zNl]
  by_cases c1 : l.getD i 0 = 32
  ·rw [if_pos c1,if_pos c1,ih y (by omega)]
  by_cases c2 : l.getD i 0 = 46
  ·rw [if_neg c1,if_pos c2,if_neg c1,if_pos c2,if_pos (by simp; omega),ih _ (by simp; omega)]
  rw [if_neg c1,if_neg c2,if_neg c1,if_neg c2]
  by_cases c3 : fnd (rs s) (l.getD i 0) < 0
  ·rw [if_pos c3,if_pos (.inl c3)]
  rw [if_neg c3,qfR _ _ (by omega) k (by omega),obs]
  by_cases c4 : fnd (rs s) (l.getD i 0) ∈ y
  ·rw [decide_eq_true c4,if_pos rfl,if_pos (show fnd (rs s) (l.getD i 0) < 0 \/ fnd (rs s) (l.getD i 0) ∈ y from .inr c4)]
  ·rw [decide_eq_false c4,if_neg vad,if_neg (show ¬ (fnd (rs s) (l.getD i 0) < 0 \/ fnd (rs s) (l.getD i 0) ∈ y) from fun h => h.elim c3 c4),if_pos (by simp; omega),ih _ (by simp; omega)]
theorem qgu (s t : ByteArray) (rank : Int) (hs : s.size <= 17592186043904) (ht : t.size <= 17592186043904) (k : Nat) (hk : s.size + 100 < k) (hk2 : t.size < k) : qbs.f k s t rank = some (zNote (rs s) (rs t) rank) := by
 unfold qbs.f zNote
 rw [qd9 t ht k hk2,obs]
 by_cases c : 16 < (rs t).length
 ·rw [ifp,if_pos c]
 ·have := qfF s hs (rs t) (by omega) rank k hk (rs t).length 0 k [] (by omega) (by omega) (vae _)
  rw [n0,dZr] at this
  rw [ifq,if_neg c,this,obs]
  cases zNl (rs s) (rs t) [] with
  | none => rfl
  | some y =>
   dsimp only [vai]
   by_cases c1 : y.length = 0
   ·rw [ifp,if_pos c1]
   ·rw [ifq,if_neg c1]
    split <;> rfl
theorem qjL (s : ByteArray) (rank x13 x21 x22 : Int) (y y1 : LI) (hy : y.length <= 1000) (n : Nat) (hn : 2000 <= n) :
  qa6.l1 n s rank x13 x21 x22 y.length 0 y y1 = some (if x13 ∈ y then .inr (false,14) else .inl ()) := by
 have := iter0 (L := fun n i (_ : Unit) => qa6.l1 n s rank x13 x21 x22 y.length i y y1) (st := fun _=>()) (fun i => if x13 ∈ y.drop i then .inr (false,14) else .inl ()) (m := y.length) 0
  (fun n _ => by rw [qa6.l1,ifq,dNl (vae _),if_neg (by simp)])
  (fun i n hi _ ih => by
   rw [qa6.l1,ifp,ifp,ifp,tNc,qaj hi (0 : Int)]
   by_cases c : y.getD i 0 = x13
   ·rw [if_pos c,if_pos (by rw [c]; exact vao ..)]
   ·rw [if_neg c,qam hi (by omega),ih]
    by_cases c2 : x13 ∈ y.drop (i + 1)
    ·rw [if_pos c2,if_pos (mCm _ c2)]
    ·rw [if_neg c2,if_neg (fun h => by rcases van.1 h with h | h; exact c h.symm; exact c2 h)]) n (by omega)
 rw [dZr] at this
 exact this
theorem qgi (s : ByteArray) (hs : s.size <= 17592186043904) (l : LI) (hl : l.length <= 16) (rank : Int) (k : Nat) (hk : s.size + 100 < k) : ∀ (e i n : Nat) (y : LI),l.length = i + e -> e + 2000 < n -> y.length <= i ->
  qa6.l0 k n s rank l.length i y l = some (match zNl (rs s) (l.drop i) y with | some y => .inl y | none => .inr (false,14))
 | 0,i,n,y,hi,hn,_ => by
  obtain ⟨n,rfl⟩ := sun (n := n)
  rw [qa6.l0,ifq,dNl (by omega)]; rfl
 | e + 1,i,n,y,hi,hn,hy => by
  obtain ⟨n,rfl⟩ := sun (n := n)
  have ih := fun y hy => qgi s hs l hl rank k hk e (i + 1) n y (by omega) (by omega) hy
  rw [qa6.l0,ifp,ifp,ifp,tNc,qhh s _ hs k (by omega),obs,qam (show i < l.length by omega) (by omega),qaj (show i < l.length by omega) (0 : Int),zNl]
  by_cases c1 : l.getD i 0 = 32
  ·rw [if_pos c1,if_pos c1,ih y (by omega)]
  by_cases c2 : l.getD i 0 = 46
  ·rw [if_neg c1,if_pos c2,if_neg c1,if_pos c2,if_pos (by simp; omega),ih _ (by simp; omega)]
  rw [if_neg c1,if_neg c2,if_neg c1,if_neg c2]
  by_cases c3 : fnd (rs s) (l.getD i 0) < 0
  ·rw [if_pos c3,if_pos (.inl c3)]
  rw [if_neg c3,qjL s rank _ _ _ y l (by omega) n (by omega),obs]
  by_cases c4 : fnd (rs s) (l.getD i 0) ∈ y
  ·rw [if_pos c4,if_pos (show fnd (rs s) (l.getD i 0) < 0 \/ fnd (rs s) (l.getD i 0) ∈ y from .inr c4)]; rfl
  ·rw [if_neg c4,vai,if_neg (show ¬ (fnd (rs s) (l.getD i 0) < 0 \/ fnd (rs s) (l.getD i 0) ∈ y) from fun h => h.elim c3 c4),if_pos (by simp; omega),ih _ (by simp; omega)]
theorem qhg (s t : ByteArray) (rank : Int) (hs : s.size <= 17592186043904) (ht : t.size <= 17592186043904) (k : Nat) (hk : s.size + 5000 < k) (hk2 : t.size < k) : qa6.f k s t rank = some (zNote (rs s) (rs t) rank) := by
 unfold qa6.f zNote
 rw [qdD t ht k hk2,obs]
 by_cases c : 16 < (rs t).length
 ·rw [ifp,if_pos c]
 ·have := qgi s hs (rs t) (by omega) rank k (by omega) (rs t).length 0 k [] (by omega) (by omega) (vae _)
  rw [n0,dZr] at this
  rw [ifq,if_neg c,this,obs]
  cases zNl (rs s) (rs t) [] with
  | none => rfl
  | some y =>
   dsimp only [vai]
   by_cases c1 : y.length = 0
   ·rw [ifp,if_pos c1]
   ·rw [ifq,if_neg c1]
    split <;> rfl
end Go.Pf

namespace Go.Pf
open Go Go.Vm
abbrev Nd := Int × LI × LI × LI × Int × Int × ByteArray
abbrev nd0 : Nd := ln0
def zIn (out : List LI) : LI -> Option (List LI)
 | [] => some []
 | x :: l => if x < 0 \/ (out.length : Int) <= x then none else (zIn out l).map (out.getD x.toNat [] :: ·)
theorem qiE {out : List LI} : ∀ {l : LI} {r : List LI},zIn out l = some r -> r.length = l.length
 | [],r,h => by cases h; rfl
 | x :: l,r,h => by
  rw [zIn] at h
  split at h
  ·cases h
  ·cases e : zIn out l with
   | none => rw [e] at h; cases h
   | some q =>
    rw [e] at h
    cases h
    rw [lCo,lCo,qiE e]
def zNd (nm : LI) (out : List LI) (x : Nd) : Int × LI :=
 match zIn out x.2.1 with
 | none => (23,[])
 | some l => if (zSh x.1 x.2.2.1 x.2.2.2.1 x.2.2.2.2.1 x.2.2.2.2.2.1 l).1 = 0 then
   ((zNote nm (rs x.2.2.2.2.2.2) (zSh x.1 x.2.2.1 x.2.2.2.1 x.2.2.2.2.1 x.2.2.2.2.2.1 l).2.length).2.1,(zSh x.1 x.2.2.1 x.2.2.2.1 x.2.2.2.2.1 x.2.2.2.2.2.1 l).2)
  else ((zSh x.1 x.2.2.1 x.2.2.2.1 x.2.2.2.2.1 x.2.2.2.2.2.1 l).1,[])
def zGo (nm : LI) : List Nd -> List LI -> Int × List LI
 | [],out => (0,out)
 | x :: r,out => if (zNd nm out x).1 = 0 then zGo nm r (out ++ [(zNd nm out x).2]) else ((zNd nm out x).1,[])
def zMs (s : LI) (nm : LI) : Bool := mR s && zNR nm s.length
def zShs (s : LI) (nm : ByteArray) (N : List Nd) (O : LI) : Int × List LI :=
 if zMs s (rs nm) = true then
  (if 48 < N.length then (3,[]) else if 48 < O.length then (3,[]) else
   if (zGo (rs nm) N []).1 = 0 then (if O.all (fun k => decide (0 <= k /\ k < (N.length : Int))) = true then zGo (rs nm) N [] else (23,[])) else ((zGo (rs nm) N []).1,[]))
 else (15,[])
def okN (x : Nd) : Prop := x.2.1.length <= 100000 /\ x.2.2.2.1.length <= 100000 /\ x.2.2.2.2.2.2.size <= 100000
theorem qkr (nm : LI) : ∀ (N : List Nd) (out : List LI),(zGo nm N out).1 = 0 -> (zGo nm N out).2.length = out.length + N.length
 | [],out,_ => rfl
 | x :: r,out,h => by
  rw [zGo] at h ⊢
  by_cases c : (zNd nm out x).1 = 0
  ·rw [if_pos c] at h ⊢
   rw [qkr nm r _ h]; simp; omega
  ·rw [if_neg c] at h; exact absurd h c
theorem qfH (l : LI) (hl : l.length <= 3) (nm : ByteArray) (N : List Nd) (O : LI) : ∀ (d i : Nat) (p : Int) (n : Nat),l.length = i + d -> 1 <= p -> p <= 8 ^ i -> d < n ->
  qb0.l0 n p l l.length i l nm N O = some (if (l.drop i).all okD = true then .inl (p * pd (l.drop i)) else .inr false)
 | 0,i,p,n,hi,h1,h2,hn => by
  obtain ⟨n,rfl⟩ := sun (n := n)
  rw [qb0.l0,ifq,dNl (by omega)]
  simp [pd]
 | d + 1,i,p,n,hi,h1,h2,hn => by
  obtain ⟨n,rfl⟩ := sun (n := n)
  rw [qb0.l0,ifp,ifp,tNc,qaj (show i < l.length by omega) 0]
  generalize l.getD i 0 = x
  by_cases c1 : x < 1
  ·rw [if_pos c1]; simp [qdJ]; omega
  by_cases c2 : 8 < x
  ·rw [if_neg c1,if_pos c2]; simp [qdJ]; omega
  have hx : okD x = true := qdJ.2 (by omega)
  have hm := qi4 h1 h2 (show 1 <= x /\ x <= 8 by omega)
  have h8 := p8 (show i + 1 <= 3 by omega)
  rw [if_neg c1,if_neg c2,qaq (n := p * x) (by omega) (by omega),qaq (n := (i : Int) + 1) (by omega) (by omega)]
  have := qfH l hl nm N O d (i + 1) (p * x) n (by omega) hm.1 hm.2 (by omega)
  rw [show (i : Int) + 1 = ((i + 1 : Nat) : Int) by omega,this]
  simp [hx,pd,Int.mul_assoc]
theorem qj6 (l : LI) (nm : ByteArray) (N : List Nd) (O : LI) (hn : nm.size <= 100000) (k : Nat) (hk : 300000 <= k) : qb0.f k l nm N O = some (zMs l (rs nm)) := by
 unfold qb0.f zMs
 by_cases h : 3 < (l.length : Int)
 ·rw [if_pos h]; simp [mR]; omega
 ·have := qfH l (by omega) nm N O l.length 0 1 k (by omega) (by omega) (by simp) (by omega)
  rw [if_neg h,show (0 : Int) = ((0 : Nat) : Int) from rfl,this,qi3 nm _ (by omega) k (by omega)]
  have hl : l.length <= 3 := by omega
  by_cases ha : l.all okD = true
  ·simp only [dZr,ha,if_true,obs,vai,Int.one_mul]
   by_cases c : pd l <= 8
   ·simp [mR,hl,ha,c]
   ·simp [mR,c]
  ·simp [ha,mR]
theorem qfC (l : LI) (nm : ByteArray) (N : List Nd) (O : LI) : ∀ (d i : Nat) (p : Int) (n : Nat),l.length = i + d -> i <= 3 -> 1 <= p -> p <= 8 ^ i -> 4 < n + i ->
  qbX.l0 n p l.length i l nm N O = some (if l.length <= 3 /\ (l.drop i).all okD = true then .inl (p * pd (l.drop i)) else .inr false)
 | 0,i,p,n,hi,hi3,h1,h2,hn => by
  obtain ⟨n,rfl⟩ := sun (n := n)
  rw [qbX.l0,ifq,dNl (by omega),if_pos ⟨by omega,by simp⟩]
  simp [pd]
 | d + 1,i,p,n,hi,hi3,h1,h2,hn => by
  obtain ⟨n,rfl⟩ := sun (n := n)
  rw [qbX.l0,ifp,ifp,tNc,qaj (show i < l.length by omega) 0]
  generalize l.getD i 0 = x
  by_cases c1 : x < 1
  ·rw [if_pos c1,if_neg (by simp [qdJ]; omega)]
  by_cases c2 : 8 < x
  ·rw [if_neg c1,if_pos c2,if_neg (by simp [qdJ]; omega)]
  by_cases c0 : 3 <= (i : Int)
  ·rw [if_neg c1,if_neg c2,if_pos c0,ifq]
  have hx : okD x = true := qdJ.2 (by omega)
  have hm := qi4 h1 h2 (show 1 <= x /\ x <= 8 by omega)
  have h8 := p8 (show i + 1 <= 3 by omega)
  rw [if_neg c1,if_neg c2,if_neg c0,qaq (n := p * x) (by omega) (by omega),qaq (n := (i : Int) + 1) (by omega) (by omega)]
  have := qfC l nm N O d (i + 1) (p * x) n (by omega) (by omega) hm.1 hm.2 (by omega)
  rw [show (i : Int) + 1 = ((i + 1 : Nat) : Int) by omega,this]
  simp [hx,pd,Int.mul_assoc]
theorem qjP (l : LI) (nm : ByteArray) (N : List Nd) (O : LI) (hn : nm.size <= 100000) (k : Nat) (hk : 300000 <= k) : qbX.f k l nm N O = some (zMs l (rs nm)) := by
 unfold qbX.f zMs
 have := qfC l nm N O l.length 0 1 k (by omega) (by omega) (by omega) (by simp) (by omega)
 rw [show ((0 : Nat) : Int) = 0 from rfl] at this
 rw [this,qjK nm _ (by omega) k (by omega)]
 by_cases ha : l.length <= 3 /\ l.all okD = true
 ·simp only [dZr,ha,if_true,obs,vai,Int.one_mul,and_self]
  by_cases c : pd l <= 8
  ·simp [mR,ha.1,ha.2,c]
  ·simp [mR,c]
 ·rw [dZr,if_neg ha]
  have : mR l = false := by
   cases h : mR l with
   | false => rfl
   | true => exact absurd ⟨(qhz h).1,(qhz h).2.1⟩ ha
  simp [this]
theorem qjd (out : List LI) (l : LI) (hl : l.length <= 100000) (g1 : LI) (g2 : ByteArray) (g3 : List Nd) (g4 : LI) (x1 : Int) (x2 x3 x4 : LI) (x5 x6 : Int) (x7 : ByteArray) (n : Nat) (hn : 100001 <= n) :
  qbS.l0 n out l l.length 0 g1 g2 g3 g4 x1 x2 x3 x4 x5 x6 x7 [] = some (match zIn out l with | some r => .inl r | none => .inr 23) := by
 have : ∀ (e i n : Nat) (y : List LI),l.length = i + e -> e < n -> y.length <= i -> qbS.l0 n out l l.length i g1 g2 g3 g4 x1 x2 x3 x4 x5 x6 x7 y = some (match zIn out (l.drop i) with | some r => .inl (y ++ r) | none => .inr 23) := by
  intro e
  induction e with
  | zero =>
   intro i n y hi hn hy
   obtain ⟨n,rfl⟩ := sun (n := n)
   rw [qbS.l0,ifq,dNl (by omega),zIn]
   simp
  | succ e ih =>
   intro i n y hi hn hy
   obtain ⟨n,rfl⟩ := sun (n := n)
   rw [qbS.l0,ifp,ifp,tNc,qaj (show i < l.length by omega) 0,zIn]
   by_cases c1 : l.getD i 0 < 0
   ·rw [if_pos c1,if_pos (.inl c1)]
   by_cases c2 : (out.length : Int) <= l.getD i 0
   ·rw [if_neg c1,if_pos c2,if_pos (.inr c2)]
   rw [if_neg c1,if_neg c2,if_neg (show ¬ (l.getD i 0 < 0 \/ (out.length : Int) <= l.getD i 0) by omega),ifp,if_pos (by rw [lSi]; omega),qam (show i < l.length by omega) (by omega),ih (i + 1) n _ (by omega) (by omega) (by simp; omega)]
   cases zIn out (l.drop (i + 1)) with
   | none => rfl
   | some r => simp
 have := this l.length 0 n [] (by omega) (by omega) (vae _)
 rw [n0,dZr] at this
 rw [this]
 cases zIn out l <;> simp
theorem qj5 (s : LI) (nm : ByteArray) (N : List Nd) (O : LI) (x : Nd) (out : List LI) (hn : nm.size <= 100000) (hx : okN x) (k : Nat) (hk : 300000 <= k) :
  qbS.f k s nm N O x.1 x.2.1 x.2.2.1 x.2.2.2.1 x.2.2.2.2.1 x.2.2.2.2.2.1 x.2.2.2.2.2.2 out = some (zNd (rs nm) out x) := by
 obtain ⟨h1,h2,h3⟩ := hx
 unfold qbS.f zNd
 rw [qjd out x.2.1 h1 s nm N O _ _ _ _ _ _ _ k (by omega),obs]
 cases e : zIn out x.2.1 with
 | none => rfl
 | some l =>
  have hl := qiE e
  dsimp only [vai]
  rw [qjg _ _ _ _ _ _ _ l (by omega) (by omega) k (by omega),obs]
  split
  ·rename_i c
   rw [qgu _ _ _ (by omega) (by omega) k (by omega) (by omega),obs]
  ·rfl
theorem qeA (s : LI) (nm : ByteArray) (N : List Nd) (O : LI) (hn : nm.size <= 100000) (hN : ∀ x ∈ N,okN x) (h48 : N.length <= 48) (k : Nat) (hk : 300000 <= k) : ∀ (e i n : Nat) (out : List LI),N.length = i + e -> e < n -> out.length = i ->
  qba.l0 k n N N.length i s nm N O out = some (if (zGo (rs nm) (N.drop i) out).1 = 0 then .inl (zGo (rs nm) (N.drop i) out).2 else .inr (zGo (rs nm) (N.drop i) out).1)
 | 0,i,n,out,hi,hn',ho => by
  obtain ⟨n,rfl⟩ := sun (n := n)
  rw [qba.l0,ifq,dNl (by omega),zGo,if_pos rfl]
 | e + 1,i,n,out,hi,hn',ho => by
  obtain ⟨n,rfl⟩ := sun (n := n)
  have hx := hN _ (qas (show i < N.length by omega) nd0)
  rw [qba.l0,ifp,ifp,tNc,qj5 s nm N O (N.getD i nd0) out hn hx k hk,obs,qaj (show i < N.length by omega) nd0,zGo]
  by_cases c : (zNd (rs nm) out (N.getD i nd0)).1 = 0
  ·rw [if_pos c,if_pos c,if_pos (by rw [lSi]; omega),qam (show i < N.length by omega) (by omega),qeA s nm N O hn hN h48 k hk e (i + 1) n _ (by omega) (by omega) (by simp; omega)]
  ·rw [if_neg c,if_neg c,if_neg c]
theorem qgN (O : LI) (hO : O.length ≤ 48) (out : List LI) (k : Nat) (hk : 100 ≤ k) : qaM.f k O out = some (!O.all (fun x => decide (0 ≤ x ∧ x < (out.length : Int)))) := by
  have := iter0 (L := fun n i (_ : Unit) => qak.l0 n O O.length i out) (st := fun _=>()) (fun i => if (O.drop i).all (fun x => decide (0 ≤ x ∧ x < (out.length : Int))) = true then .inl () else .inr ((i + ((O.drop i).takeWhile (fun x => decide (0 ≤ x ∧ x < (out.length : Int)))).length : Nat) : Int)) (m := O.length) 0
    (fun n _ => by rw [qak.l0,ifq,dNl (vae _)]; rfl)
    (fun i n hi _ ih => by
      have e1 : qcH.f (O.getD i 0) out = some (!decide (0 ≤ O.getD i 0 ∧ O.getD i 0 < (out.length : Int))) := by
        unfold qcH.f
        by_cases c : O.getD i 0 < 0
        · rw [if_pos c,decide_eq_false (by omega)]; rfl
        · rw [if_neg c]
          by_cases c2 : (out.length : Int) ≤ O.getD i 0
          · rw [decide_eq_true c2,decide_eq_false (by omega)]; rfl
          · rw [decide_eq_false c2,decide_eq_true (by omega)]; rfl
      rw [qak.l0,ifp,ifp,tNc,e1,obs,qaj hi (0 : Int),vaz,vaY]
      cases c : decide (0 ≤ O.getD i 0 ∧ O.getD i 0 < (out.length : Int))
      · rw [if_pos (show (!false) = true from rfl),vap,if_neg vad,if_neg vad]; rfl
      · rw [if_neg (show ¬ (!true) = true from vad),qam hi (by omega),ih,vaj,if_pos rfl,lCo,va0 i 1,va4 1]) k (by omega)
  rw [dZr] at this
  unfold qaM.f qak.f
  rw [this,obs]
  cases c : O.all (fun x => decide (0 ≤ x ∧ x < (out.length : Int)))
  · rw [if_neg (by decide),vaI,obs,decide_eq_true (by omega)]; rfl
  · rw [if_pos rfl,vai,obs]; rfl
theorem qcG (s : LI) (nm : ByteArray) (N : List Nd) (O : LI) (hn : nm.size <= 100000) (hN : ∀ x ∈ N,okN x) (k : Nat) (hk : 300000 <= k) : qba.f k s nm N O = some (zShs s nm N O) := by
 unfold qba.f zShs
 rw [qj6 s nm N O hn k hk,obs]
 by_cases c1 : zMs s (rs nm) = true
 rotate_left
 ·rw [if_neg c1,if_neg c1]
 rw [if_pos c1,if_pos c1]
 by_cases c2 : 48 < N.length
 ·rw [ifp,if_pos c2]
 by_cases c3 : 48 < O.length
 ·rw [ifq,ifp,if_neg c2,if_pos c3]
 have h0 := qeA s nm N O hn hN (by omega) k hk N.length 0 k [] (by omega) (by omega) rfl
 rw [n0,dZr] at h0
 rw [ifq,ifq,if_neg c2,if_neg c3,h0,obs]
 by_cases c4 : (zGo (rs nm) N []).1 = 0
 ·have hlen := qkr _ N [] c4
  rw [vaE,vaJ] at hlen
  rw [if_pos c4,if_pos c4,vai,qgN O (by omega) _ k (by omega),obs,hlen]
  cases c5 : O.all (fun x => decide (0 <= x /\ x < (N.length : Int)))
  ·rfl
  ·rw [if_neg (show ¬ (!true) = true from vad),if_pos rfl,<- c4]
 ·rw [if_neg c4,if_neg c4]; rfl
theorem qef (s : LI) (nm : ByteArray) (N : List Nd) (O : LI) (hn : nm.size <= 100000) (hN : ∀ x ∈ N,okN x) (k : Nat) (hk : 300000 <= k) : qcP.f k s nm N O = some (zShs s nm N O).1 := by
 unfold qcP.f
 rw [qcG s nm N O hn hN k hk,obs]
end Go.Pf

namespace Go.Pf
open Go Go.Vm
theorem zSh_R {op : Int} {s a : LI} {n h : Int} {l : List LI} (e : (zSh op s a n h l).1 = 0) : mSR (zSh op s a n h l).2 = true := by
 unfold zSh at e ⊢
 by_cases hF : zF op s.length a.length n h l.length = true
 rotate_left
 ·rw [if_neg hF] at e; simp at e
 rw [if_pos hF] at e ⊢
 by_cases hA : l.all mSR = true
 rotate_left
 ·rw [if_neg hA] at e; simp at e
 rw [if_pos hA] at e ⊢
 have hR : ∀ j,j < l.length -> mSR (l.getD j []) = true := fun j hj => var.1 hA _ (qas hj _)
 have m0 := qk8 hF
 have t : ∀ {p : Prop} [Decidable p] {x y : Int × LI},(p -> x.1 = 0 -> mSR x.2 = true) -> (¬ p -> y.1 = 0 -> mSR y.2 = true) -> (if p then x else y).1 = 0 -> mSR (if p then x else y).2 = true := fun hx hy => by
  split
  ·rename_i h; exact hx h
  ·rename_i h; exact hy h
 have w : ∀ {x : Int} {p : Prop},x ≠ 0 -> p -> ((x,[]) : Int × LI).1 = 0 -> mSR ((x,[]) : Int × LI).2 = true := fun h _ hh => absurd hh h
 have z : ∀ {x : LI} {p : Prop},(p -> mSR x = true) -> p -> ((0,x) : Int × LI).1 = 0 -> mSR ((0,x) : Int × LI).2 = true := fun h hp _ => h hp
 revert e
 unfold zShape
 refine t (fun _=>t (z id) (w (by decide))) fun _=>t (fun _=>t (fun hs => t (z fun _=>hs) (w (by decide))) (w (by decide))) fun _=>t (fun ho => t (z fun h => qm0 (hR 0 (by omega)) (qeO.1 h)) (w (by decide))) fun _=>t (fun _=>t (fun hs => t (z fun _=>hs) (w (by decide))) (w (by decide))) fun _ =>
  t (fun ho => t (z fun h => qnJ (hR 0 (by omega)) h.2) (w (by decide))) fun _=>t (fun _=>t (fun _=>t (z id) (w (by decide))) (w (by decide))) fun _=>t (fun _=>t (fun _ e => qpw e) (w (by decide))) fun _=>t (fun _=>t (fun _=>t (fun _=>t (z id) (w (by decide))) (w (by decide))) (w (by decide))) fun _ =>
  t (fun _=>t (fun _ e => by have := qmv e; rw [this.1]; exact this.2.1) (w (by decide))) fun _=>t (fun ho => t (z fun h => qpy (hR 0 (by omega)) (by omega) _ _) (w (by decide))) fun _=>t (z fun _=>hR 0 (by omega)) (w (by decide))
theorem qkO (S : List LI) (s : LI) (hS : S.length ≤ 100) (hb : ∀ x ∈ S,x.length ≤ 4) (k : Nat) (hk : 120000 ≤ k) : ∃ l,qbD.f k S s = some l ∧ l.length ≤ 100 ∧ (∀ x ∈ l,0 ≤ x ∧ x < (S.length : Int)) ∧ (s ∈ S → 0 < l.length) := by
  have : ∀ (e i n : Nat) (y : LI),S.length = i + e → e < n → y.length ≤ i → (∀ x ∈ y,0 ≤ x ∧ x < (S.length : Int)) → ∃ l,qbD.l0 k n S s S.length i y = some l ∧ l.length ≤ S.length ∧ (∀ x ∈ l,0 ≤ x ∧ x < (S.length : Int)) ∧ (s ∈ S.drop i ∨ 0 < y.length → 0 < l.length) := by
    intro e
    induction e with
    | zero =>
      intro i n y hi hn hy hx
      obtain ⟨n,rfl⟩ := sun (n := n)
      rw [qbD.l0,ifq,dNl (by omega)]
      exact ⟨y,rfl,by omega,hx,fun h => by
        rcases h with h | h
        · cases h
        · exact h⟩
    | succ e ih =>
      intro i n y hi hn hy hx
      obtain ⟨n,rfl⟩ := sun (n := n)
      have h4 := hb _ (qas (show i < S.length by omega) [])
      rw [qbD.l0,ifp,ifp,tNc,qcs _ _ (by omega) k (by omega),obs,qam (show i < S.length by omega) (by omega),qaj (show i < S.length by omega) ([] : LI)]
      by_cases c : S.getD i [] = s
      · rw [decide_eq_true c,if_pos rfl,if_pos (by rw [lSi]; omega)]
        obtain ⟨l,e1,e2,e3,e4⟩ := ih (i + 1) n (y ++ [(i : Int)]) (by omega) (by omega) (by simp; omega) (fun x h => by
          rcases vaS.1 h with h | h
          · exact hx x h
          · rw [vam] at h; omega)
        exact ⟨l,e1,e2,e3,fun _=>e4 (.inr (by simp))⟩
      · rw [decide_eq_false c,if_neg vad]
        obtain ⟨l,e1,e2,e3,e4⟩ := ih (i + 1) n y (by omega) (by omega) (by omega) hx
        exact ⟨l,e1,e2,e3,fun h => e4 (by
          rcases h with h | h
          · rcases van.1 h with h | h
            · exact absurd h.symm c
            · exact .inl h
          · exact .inr h)⟩
  obtain ⟨l,e1,e2,e3,e4⟩ := this S.length 0 k [] (by omega) (by omega) (vae _) (fun x h => by cases h)
  rw [n0] at e1
  refine ⟨l,?_,by omega,e3,fun h => e4 (.inl (by rw [dZr]; exact h))⟩
  unfold qbD.f
  rw [e1,obs]
structure Tp (L : LI) : Prop where
 len : L.length <= 17592186044415
 wf : ∀ x ∈ L,-9223372036854775808 <= x /\ x < 9223372036854775808
theorem Tp.next {L : LI} (T : Tp L) (n : Int) (hn : 1 <= n) (p : Int) (h0 : 0 <= p) (hp : p <= 17592186000000) : ∃ r q,qae.f n L p = some (r,q) /\ 0 <= r /\ r < n /\ 0 <= q /\ q <= p + 1 := by
 obtain ⟨r,q,e,r0,r1,q0,_,_,q1⟩ := qdb n L T.len T.wf p h0 (by omega) hn
 exact ⟨r,q,e,r0,r1,q0,q1⟩
theorem qm9 {L : LI} (T : Tp L) (x7 : Int) (m : Nat) (hm : m <= 4) (z1 z2 z3 : Int) (z4 : ByteArray) (M : Int) (hM : M <= 17592185000000) : ∀ (e i : Nat) (p : Int) (y : LI) (n : Nat),m = i + e -> e < n -> 0 <= p -> p <= M - e -> y.length = i ->
  ∃ q l,qaf.l0 n x7 m i L p z1 z2 z3 z4 y = some (q,l) /\ l.length = m /\ 0 <= q /\ q <= p + e
 | 0,i,p,y,n,hi,hn,h0,hp,hy => by
  obtain ⟨n,rfl⟩ := sun (n := n)
  rw [qaf.l0,ifq]
  exact ⟨p,y,rfl,by omega,h0,by omega⟩
 | e + 1,i,p,y,n,hi,hn,h0,hp,hy => by
  obtain ⟨n,rfl⟩ := sun (n := n)
  obtain ⟨r,q,e1,r0,r1,q0,q1⟩ := T.next ((i : Int) + 1) (by omega) p h0 (by omega)
  have ht : (y.take r.toNat).length = r.toNat := by rw [lTk]; omega
  have hd : (y.drop r.toNat).length = y.length - r.toNat := vaq ..
  rw [qaf.l0,ifp,qam (show i < m by omega) (by omega),show ((i + 1 : Nat) : Int) = (i : Int) + 1 by omega,e1,obs]
  dsimp only
  rw [dZr,vag,nAp,ifp,ifp,if_pos (by rw [lSi]; omega),ifp,if_pos (by rw [lAp,lSi]; omega)]
  obtain ⟨q',l,g1,g2,g3,g4⟩ := qm9 T x7 m hm z1 z2 z3 z4 M hM e (i + 1) q ((y.take r.toNat ++ [(i : Int)]) ++ y.drop r.toNat) n (by omega) (by omega) q0 (by omega) (by rw [lAp,lAp,lSi]; omega)
  exact ⟨q',l,g1,g2,g3,by omega⟩
theorem qkF (x7 x14 : Int) (m : Nat) (hm : m <= 10) (L : LI) (p z1 z2 z3 : Int) (z4 : ByteArray) (o : LI) : ∀ (e i : Nat) (y : LI) (n : Nat),m = i + e -> e < n -> y.length <= i ->
  ∃ l,qaf.l1 n x7 x14 m i L p z1 z2 z3 z4 o y = some l /\ l.length <= m
 | 0,i,y,n,hi,hn,hy => by
  obtain ⟨n,rfl⟩ := sun (n := n)
  rw [qaf.l1,ifq]
  exact ⟨y,rfl,by omega⟩
 | e + 1,i,y,n,hi,hn,hy => by
  obtain ⟨n,rfl⟩ := sun (n := n)
  rw [qaf.l1,ifp,qam (show i < m by omega) (by omega)]
  by_cases c : (i : Int) = x14
  ·rw [if_pos c]
   exact qkF x7 x14 m hm L p z1 z2 z3 z4 o e (i + 1) y n (by omega) (by omega) (by omega)
  ·rw [if_neg c,if_pos (by rw [lSi]; omega)]
   exact qkF x7 x14 m hm L p z1 z2 z3 z4 o e (i + 1) _ n (by omega) (by omega) (by rw [lAp,lSi]; omega)
theorem qm8 {L : LI} (T : Tp L) (x7 : Int) (s : LI) (hs : s.length <= 4) (hb : ∀ x ∈ s,0 <= x /\ x <= 32) (z1 z2 z3 : Int) (z4 : ByteArray) (M : Int) (hM : M <= 17592185000000) : ∀ (e i : Nat) (p : Int) (y z : LI) (n : Nat),s.length = i + e -> e < n -> 0 <= p -> p <= M - 2 * e -> y.length = i -> z.length = i ->
  ∃ q l r,qaf.l2 n x7 s s.length i L p z1 z2 z3 z4 y z = some (q,l,r) /\ l.length = s.length /\ r.length = s.length /\ 0 <= q /\ q <= p + 2 * e
 | 0,i,p,y,z,n,hi,hn,h0,hp,hy,hz => by
  obtain ⟨n,rfl⟩ := sun (n := n)
  rw [qaf.l2,ifq]
  exact ⟨p,y,z,rfl,by omega,by omega,h0,by omega⟩
 | e + 1,i,p,y,z,n,hi,hn,h0,hp,hy,hz => by
  obtain ⟨n,rfl⟩ := sun (n := n)
  have hx := hb _ (qas (show i < s.length by omega) 0)
  rw [qaf.l2,ifp,ifp,tNc,qam (show i < s.length by omega) (by omega)]
  generalize s.getD i 0 = x at hx
  obtain ⟨r,q,e1,r0,r1,q0,q1⟩ := T.next (x + 1) (by omega) p h0 (by omega)
  obtain ⟨r',q',e2,r0',r1',q0',q1'⟩ := T.next (x - r + 1) (by omega) q q0 (by omega)
  rw [qaq (n := x + 1) (by omega) (by omega),e1,obs,if_pos (by rw [lSi]; omega)]
  dsimp only
  rw [qaq (n := x - r) (by omega) (by omega),qaq (n := x - r + 1) (by omega) (by omega),e2,obs,if_pos (by rw [lSi]; omega)]
  obtain ⟨q'',l,l',g1,g2,g3,g4,g5⟩ := qm8 T x7 s hs hb z1 z2 z3 z4 M hM e (i + 1) q' (y ++ [r]) (z ++ [r']) n (by omega) (by omega) q0' (by omega) (by simp; omega) (by simp; omega)
  exact ⟨q'',l,l',g1,g2,g3,g4,by omega⟩
theorem qm7 {L : LI} (T : Tp L) (x7 : Int) (m : Nat) (hm : m <= 4) (z1 z2 z3 : Int) (z4 : ByteArray) (M : Int) (hM : M <= 17592185000000) : ∀ (e i : Nat) (p : Int) (y z : LI) (n : Nat),m = i + e -> e < n -> 0 <= p -> p <= M - 2 * e -> y.length = i -> z.length = i ->
  ∃ q l r,qaf.l3 n x7 m i L p z1 z2 z3 z4 y z = some (q,l,r) /\ l.length = m /\ r.length = m /\ 0 <= q /\ q <= p + 2 * e
 | 0,i,p,y,z,n,hi,hn,h0,hp,hy,hz => by
  obtain ⟨n,rfl⟩ := sun (n := n)
  rw [qaf.l3,ifq]
  exact ⟨p,y,z,rfl,by omega,by omega,h0,by omega⟩
 | e + 1,i,p,y,z,n,hi,hn,h0,hp,hy,hz => by
  obtain ⟨n,rfl⟩ := sun (n := n)
  obtain ⟨r,q,e1,r0,r1,q0,q1⟩ := T.next 3 (by omega) p h0 (by omega)
  obtain ⟨r',q',e2,r0',r1',q0',q1'⟩ := T.next 3 (by omega) q q0 (by omega)
  rw [qaf.l3,ifp,qam (show i < m by omega) (by omega),e1,obs,if_pos (by rw [lSi]; omega)]
  dsimp only
  rw [e2,obs,if_pos (by rw [lSi]; omega)]
  obtain ⟨q'',l,l',g1,g2,g3,g4,g5⟩ := qm7 T x7 m hm z1 z2 z3 z4 M hM e (i + 1) q' (y ++ [r]) (z ++ [r']) n (by omega) (by omega) q0' (by omega) (by simp; omega) (by simp; omega)
  exact ⟨q'',l,l',g1,g2,g3,g4,by omega⟩
theorem qkE {L : LI} (T : Tp L) (x7 : Int) (m : Nat) (hm : m <= 4) (z1 z2 z3 : Int) (z4 : ByteArray) (M : Int) (hM : M <= 17592185000000) : ∀ (e i : Nat) (p : Int) (y : LI) (n : Nat),m = i + e -> e < n -> 0 <= p -> p <= M - e -> y.length <= i ->
  ∃ q l,qaf.l4 n x7 m i L p z1 z2 z3 z4 y = some (q,l) /\ l.length <= m /\ 0 <= q /\ q <= p + e
 | 0,i,p,y,n,hi,hn,h0,hp,hy => by
  obtain ⟨n,rfl⟩ := sun (n := n)
  rw [qaf.l4,ifq]
  exact ⟨p,y,rfl,by omega,h0,by omega⟩
 | e + 1,i,p,y,n,hi,hn,h0,hp,hy => by
  obtain ⟨n,rfl⟩ := sun (n := n)
  obtain ⟨r,q,e1,r0,r1,q0,q1⟩ := T.next 2 (by omega) p h0 (by omega)
  rw [qaf.l4,ifp,qam (show i < m by omega) (by omega),e1,obs]
  dsimp only
  by_cases c : r = 0
  ·rw [if_pos c,if_pos (by rw [lSi]; omega)]
   obtain ⟨q',l,g1,g2,g3,g4⟩ := qkE T x7 m hm z1 z2 z3 z4 M hM e (i + 1) q (y ++ [(i : Int)]) n (by omega) (by omega) q0 (by omega) (by simp; omega)
   exact ⟨q',l,g1,g2,g3,by omega⟩
  ·rw [if_neg c]
   obtain ⟨q',l,g1,g2,g3,g4⟩ := qkE T x7 m hm z1 z2 z3 z4 M hM e (i + 1) q y n (by omega) (by omega) q0 (by omega) (by omega)
   exact ⟨q',l,g1,g2,g3,by omega⟩
theorem qnR {L : LI} (T : Tp L) (S : List LI) (hS : S.length <= 100) (a : Int) (ha0 : 0 <= a) (ha : a < (S.length : Int)) (p : Int) (h0 : 0 <= p) (hp : p <= 17592184000000) (k : Nat) (hk : 250000 <= k) :
  ∃ op n h q i A,qaH.f k S a L p = some (op,n,h,vab,q,i,A) /\ 0 <= q /\ q <= p + 100 /\ i.length <= 3 /\ A.length <= 100 /\ (∀ x ∈ i,0 <= x /\ x < (S.length : Int)) := by
 have l1 : ∀ (x8 x9 : Int) (_ : 0 <= x9 /\ x9 < (S.length : Int)) (y0 : LI) (y1 z1 z2 z3 : Int) (z4 : ByteArray) (s : LI) (n : Nat) (hn : 3 <= n),∃ u,qaH.l1 k n S a s x8 x9 0 y0 y1 z1 z2 z3 z4 = some u /\ (u = .inl () \/ ∃ A : LI,u = .inr (19,0,0,vab,[a,x9],A) /\ A.length <= 1) := by
  intro x8 x9 h9 y0 y1 z1 z2 z3 z4 s n hn
  have step : ∀ (e : Nat) (i : Int) (n : Nat),i + e = 2 -> e < n -> 0 <= i -> ∃ u,qaH.l1 k n S a s x8 x9 i y0 y1 z1 z2 z3 z4 = some u /\ (u = .inl () \/ ∃ A : LI,u = .inr (19,0,0,vab,[a,x9],A) /\ A.length <= 1) := by
   intro e
   induction e with
   | zero =>
    intro i n hi hn h0
    obtain ⟨n,rfl⟩ := sun (n := n)
    rw [qaH.l1,ifq]
    exact ⟨_,rfl,.inl rfl⟩
   | succ e ih =>
    intro i n hi hn h0
    obtain ⟨n,rfl⟩ := sun (n := n)
    rw [qaH.l1,ifp,ifp,qd6 _ _ _ _ _ _ _ _ (by simp) (by simp) k (by simp; omega),obs,qaq (n := i + 1) (by omega) (by omega)]
    have nx := ih (i + 1) n (by omega) (by omega) (by omega)
    split
    ·rename_i c
     rw [qc3 _ k (by omega),obs]
     split
     ·exact ⟨_,rfl,.inr ⟨_,rfl,by simp⟩⟩
     ·exact nx
    ·exact nx
  exact step 2 0 n (by omega) (by omega) (by omega)
 have l0 : ∀ (s : LI) (z1 z2 z3 : Int) (z4 : ByteArray) (M : Int) (_ : M <= 17592185000000) (e i : Nat) (p : Int) (n : Nat),S.length = i + e -> e + 5 < n -> 0 <= p -> p <= M - e ->
   ∃ u,qaH.l0 k n S a s i L p z1 z2 z3 z4 = some u /\ ((∃ q,u = .inl q /\ 0 <= q /\ q <= p + e) \/ ∃ q x9 A,u = .inr (q,19,0,0,vab,[a,x9],A) /\ 0 <= q /\ q <= p + e /\ A.length <= 1 /\ 0 <= x9 /\ x9 < (S.length : Int)) := by
  intro s z1 z2 z3 z4 M hM e
  induction e with
  | zero =>
   intro i p n hi hn h0 hp
   obtain ⟨n,rfl⟩ := sun (n := n)
   rw [qaH.l0,ifq]
   exact ⟨_,rfl,.inl ⟨p,rfl,h0,by omega⟩⟩
  | succ e ih =>
   intro i p n hi hn h0 hp
   obtain ⟨n,rfl⟩ := sun (n := n)
   obtain ⟨r,q,e1,r0,r1,q0,q1⟩ := T.next 3 (by omega) p h0 (by omega)
   have hm : (iW.wrap ((i : Int) + r)).tmod (S.length : Int) = ((i : Int) + r) % (S.length : Int) := by
    rw [qaq (n := (i : Int) + r) (by omega) (by omega),Int.tmod_eq_emod_of_nonneg (by omega)]
   have hx9 : 0 <= (iW.wrap ((i : Int) + r)).tmod (S.length : Int) /\ (iW.wrap ((i : Int) + r)).tmod (S.length : Int) < (S.length : Int) := by
    rw [hm]
    exact ⟨Int.emod_nonneg _ (by omega),Int.emod_lt_of_pos _ (by omega)⟩
   obtain ⟨u,g1,g2⟩ := l1 i _ hx9 L q z1 z2 z3 z4 s n (by omega)
   rw [qaH.l0,ifp,e1,obs,ifp]
   dsimp only
   rw [g1,obs,qam (show i < S.length by omega) (by omega)]
   rcases g2 with rfl | ⟨A,rfl,hA⟩
   ·obtain ⟨u,f1,f2⟩ := ih (i + 1) q n (by omega) (by omega) q0 (by omega)
    refine ⟨u,f1,?_⟩
    rcases f2 with ⟨q',a1,a2,a3⟩ | ⟨q',x9,A,a1,a2,a3,a4⟩
    ·exact .inl ⟨q',a1,a2,by omega⟩
    ·exact .inr ⟨q',x9,A,a1,a2,by omega,a4⟩
   ·exact ⟨_,rfl,.inr ⟨q,_,A,rfl,q0,by omega,hA,hx9⟩⟩
 obtain ⟨u,f1,f2⟩ := l0 (S.getD a.toNat []) 0 0 0 vab (p + S.length) (by omega) S.length 0 p k (by omega) (by omega) h0 (by omega)
 rw [n0] at f1
 unfold qaH.f
 rw [if_pos ⟨ha0,ha⟩,f1,obs]
 rcases f2 with ⟨q',rfl,a2,a3⟩ | ⟨q',x9,A,rfl,a2,a3,a4,a5⟩
 ·exact ⟨5,0,0,q',[a],[],rfl,a2,by omega,by simp,by simp,fun x h => by rw [vam] at h; omega⟩
 ·exact ⟨19,0,0,q',[a,x9],A,rfl,a2,by omega,by simp,by omega,fun x h => by
   rcases van.1 h with h | h
   ·omega
   ·rw [vam] at h; omega⟩
def nodeG (k : Nat) (o0_0 : LI) (o0_1 : Int) : Option (Int × LI × LI × Int × Int × ByteArray × Int × LI) := (qae.f 4 o0_0 o0_1).bind fun t1 => if t1.1 = 0 then ((qaA.f k o0_0 t1.2).bind fun t2 => (qbA.f o0_0 t2.1).bind fun t3 => some (2,[],t2.2,t3.1,0,vab,t3.2,[])) else if t1.1 = 1 then ((qaA.f k o0_0 t1.2).bind fun t4 => if ([3] : LI).length + t4.2.length <= 281474976710656 /\ (([3] : LI).length + t4.2.length) * 8 <= 140737488355328 then if 3 < ((([3] : LI) ++ t4.2).length : Int) then (if 0 <= ((0 : Nat) : Int) /\ ((0 : Nat) : Int) <= 3 /\ 3 <= ((([3] : LI) ++ t4.2).length : Int) then (qae.f ((3 - 0 : Nat) : Int) o0_0 t4.1).bind fun t5 => some (3,[],((([3] : LI) ++ t4.2).take 3).drop 0,0,0,vab,t5.2,[t5.1]) else none) else (qae.f ((([3] : LI) ++ t4.2).length : Int) o0_0 t4.1).bind fun t6 => some (3,[],([3] : LI) ++ t4.2,0,0,vab,t6.2,[t6.1]) else none) else (qaA.f k o0_0 t1.2).bind fun t7 => some (1,[],t7.2,0,0,vab,t7.1,[])
def NodeOK (S : List LI) (M : Int) (o : Option (Int × LI × LI × Int × Int × ByteArray × Int × LI)) : Prop :=
 ∃ op i s n h q a,o = some (op,i,s,n,h,vab,q,a) /\ 0 <= q /\ q <= M /\ i.length <= 3 /\ a.length <= 100 /\ s.length <= 10 /\ (∀ x ∈ i,0 <= x /\ x < (S.length : Int))
theorem qoG {L : LI} (T : Tp L) (S : List LI) (p : Int) (h0 : 0 <= p) (hp : p <= 17592184000000) (k : Nat) (hk : 250000 <= k) : NodeOK S (p + 100) (nodeG k L p) := by
 have fin : ∀ {op n h q : Int} {s a : LI},0 <= q -> q <= p + 100 -> s.length <= 10 -> a.length <= 100 -> NodeOK S (p + 100) (some (op,[],s,n,h,vab,q,a)) := fun h1 h2 h3 h4 => ⟨_,_,_,_,_,_,_,rfl,h1,h2,by simp,h4,h3,fun x h => by cases h⟩
 unfold nodeG
 obtain ⟨r,q,e1,r0,r1,q0,q1⟩ := T.next 4 (by omega) p h0 (by omega)
 obtain ⟨q',s,e2,s1,s2,s3,s4⟩ := qlV L T.len T.wf q q0 (by omega) k (by omega)
 rw [e1,obs]
 dsimp only
 rw [e2,obs,obs]
 by_cases c1 : r = 0
 ·obtain ⟨m,q2,e3,m1,m2⟩ := qg5 L T.len T.wf q' s3 (by omega)
  rw [if_pos c1]
  dsimp only
  rw [e3,obs]
  exact fin m1 (by dsimp only; omega) (by omega) (by simp)
 by_cases c2 : r = 1
 ·rw [if_neg c1,if_pos c2]
  dsimp only
  have hl : (([3] : LI) ++ s).length = s.length + 1 := by simp
  rw [if_pos (by rw [lSi]; omega)]
  by_cases c3 : 3 < ((([3] : LI) ++ s).length : Int)
  ·obtain ⟨v,q2,e3,v0,v1,v2,v3⟩ := T.next 3 (by omega) q' s3 (by omega)
   rw [if_pos c3,ifp,show ((3 - 0 : Nat) : Int) = 3 from rfl,e3,obs]
   exact fin v2 (by dsimp only; omega) (by rw [dZr,lTk]; omega) (by simp)
  ·obtain ⟨v,q2,e3,v0,v1,v2,v3⟩ := T.next (([3] : LI) ++ s).length (by omega) q' s3 (by omega)
   rw [if_neg c3,e3,obs]
   exact fin v2 (by dsimp only; omega) (by omega) (by simp)
 rw [if_neg c1,if_neg c2]
 exact fin s3 (by omega) (by dsimp only; omega) (by simp)
set_option maxHeartbeats 1000000 in
theorem qmE {L : LI} (T : Tp L) (S : List LI) (hS : S.length <= 100) (hb : ∀ s ∈ S,s.length <= 4 /\ ∀ x ∈ s,0 <= x /\ x <= 32) (p : Int) (h0 : 0 <= p) (hp : p <= 17592183000000) (k : Nat) (hk : 250000 <= k) : NodeOK S (p + 200) (qaf.f k S L p) := by
 unfold qaf.f
 by_cases c0 : (S.length : Int) = 0
 ·rw [if_pos c0]
  obtain ⟨op,i,s,n,h,q',a,g1,g2,g3,g4⟩ := qoG T S p h0 (by omega) k hk
  exact ⟨op,i,s,n,h,q',a,g1,g2,by omega,g4⟩
 rw [if_neg c0]
 obtain ⟨r,q,e1,r0,r1,q0,q1⟩ := T.next 5 (by omega) p h0 (by omega)
 rw [e1,obs]
 dsimp only
 by_cases c1 : r = 0
 ·rw [if_pos c1]
  have hz := qoG T S q q0 (by omega) k hk
  obtain ⟨op,i,s,n,h,q',a,g1,g2,g3,g4⟩ := hz
  unfold nodeG at g1
  exact ⟨op,i,s,n,h,q',a,g1,g2,by omega,g4⟩
 rw [if_neg c1]
 obtain ⟨a,q2,e2,a0,a1,b0,b1⟩ := T.next S.length (by omega) q q0 (by omega)
 rw [e2,obs,if_pos ⟨a0,a1⟩]
 obtain ⟨z,q3,e3,z0,z1,d0,d1⟩ := T.next 12 (by omega) q2 b0 (by omega)
 have hs := hb _ (qas (show a.toNat < S.length by omega) [])
 have hmem : S.getD a.toNat [] ∈ S := qas (show a.toNat < S.length by omega) []
 dsimp only
 rw [e3,obs]
 dsimp only
 generalize S.getD a.toNat [] = s at hs hmem
 obtain ⟨hs4,hs32⟩ := hs
 obtain ⟨sl,es,sl1,sl2,sl3⟩ := qkO S s hS (fun x h => (hb x h).1) k (by omega)
 have sl3 := sl3 hmem
 have slm : ∀ j : Int,0 <= j -> j < (sl.length : Int) -> 0 <= sl.getD j.toNat 0 /\ sl.getD j.toNat 0 < (S.length : Int) := fun j h0 h1 => sl2 _ (qas (by omega) 0)
 have fin : ∀ {op n h q : Int} {i s a : LI},0 <= q -> q <= p + 200 -> i.length <= 3 -> (∀ x ∈ i,0 <= x /\ x < (S.length : Int)) -> s.length <= 10 -> a.length <= 100 -> NodeOK S (p + 200) (some (op,i,s,n,h,vab,q,a)) := fun h1 h2 h5 h6 h3 h4 => ⟨_,_,_,_,_,_,_,rfl,h1,h2,h5,h4,h3,h6⟩
 have one : ∀ x ∈ [a],0 <= x /\ x < (S.length : Int) := fun x h => by rw [vam] at h; omega
 have two : ∀ {b : Int},(0 <= b /\ b < (S.length : Int)) -> ∀ x ∈ [a,b],0 <= x /\ x < (S.length : Int) := fun hb x h => by
  rcases van.1 h with h | h
  ·omega
  ·rw [vam] at h; omega
 have three : ∀ {b c : Int},(0 <= b /\ b < (S.length : Int)) -> (0 <= c /\ c < (S.length : Int)) -> ∀ x ∈ [a,b,c],0 <= x /\ x < (S.length : Int) := fun hb hc x h => by
  rcases van.1 h with h | h
  ·omega
  rcases van.1 h with h | h
  ·omega
  ·rw [vam] at h; omega
 by_cases k0 : z = 0
 ·obtain ⟨t,q4,e4,t0,t1,f0,f1⟩ := T.next 2 (by omega) q3 d0 (by omega)
  rw [if_pos k0,e4,obs]
  exact fin f0 (by dsimp only; omega) (by simp) one (by simp) (by simp)
 rw [if_neg k0]
 have two' : ∀ (_ : z = 1 \/ z = 2),NodeOK S (p + 200) ((qbD.f k S s).bind fun t19 => (qae.f 6 L q3).bind fun t20 => (qae.f (t19.length : Int) L t20.2).bind fun t21 => if 0 <= t21.1 /\ t21.1 < (t19.length : Int) then if t21.1.toNat < t19.length then some (iW.wrap (6 + t20.1),[a,t19.getD t21.1.toNat 0],[],0,0,vab,t21.2,[]) else none else none) := fun _=>by
  obtain ⟨t,q4,e4,t0,t1,f0,f1⟩ := T.next 6 (by omega) q3 d0 (by omega)
  obtain ⟨u,q5,e5,u0,u1,f0',f1'⟩ := T.next sl.length (by omega) q4 f0 (by omega)
  rw [es,obs,e4,obs]
  dsimp only
  rw [e5,obs,if_pos ⟨u0,u1⟩,if_pos (by dsimp only; omega)]
  exact fin f0' (by dsimp only; omega) (by simp) (two (slm _ u0 u1)) (by simp) (by simp)
 by_cases k1 : z = 1
 ·rw [if_pos k1]; exact two' (.inl k1)
 rw [if_neg k1]
 by_cases k2 : z = 2
 ·rw [if_pos k2]; exact two' (.inr k2)
 rw [if_neg k2]
 by_cases k3 : z = 3
 ·rw [if_pos k3,es,obs]
  obtain ⟨t,q4,e4,t0,t1,f0,f1⟩ := T.next sl.length (by omega) q3 d0 (by omega)
  obtain ⟨u,q5,e5,u0,u1,f0',f1'⟩ := T.next sl.length (by omega) q4 f0 (by omega)
  rw [e4,obs,if_pos ⟨t0,t1⟩,if_pos (by dsimp only; omega)]
  dsimp only
  rw [e5,obs,if_pos ⟨u0,u1⟩,if_pos (by dsimp only; omega)]
  exact fin f0' (by dsimp only; omega) (by simp) (three (slm _ t0 t1) (slm _ u0 u1)) (by simp) (by simp)
 rw [if_neg k3]
 by_cases k4 : z = 4
 ·obtain ⟨q4,l,g1,g2,g3,g4⟩ := qm9 T a s.length hs4 0 0 0 vab (q3 + s.length) (by omega) s.length 0 q3 [] k (by omega) (by omega) d0 (by omega) rfl
  rw [n0] at g1
  rw [if_pos k4,g1,obs]
  exact fin g3 (by dsimp only; omega) (by simp) one (by simp) (by dsimp only; omega)
 rw [if_neg k4]
 by_cases k5 : z = 5
 ·rw [if_pos k5]
  by_cases c : 2 < (s.length : Int)
  ·rw [if_pos c]
   exact fin d0 (by omega) (by simp) one (by simp) (by simp)
  obtain ⟨t,q4,e4,t0,t1,f0,f1⟩ := T.next ((s.length : Int) + 1) (by omega) q3 d0 (by omega)
  obtain ⟨u,q5,e5,u0,u1,f0',f1'⟩ := T.next 4 (by omega) q4 f0 (by omega)
  have hA : (s.take t.toNat ++ [iW.wrap (1 + u)] ++ s.drop t.toNat).length = s.length + 1 := by
   rw [lAp,lAp,lSi,lTk,vaq]; omega
  obtain ⟨l,g1,g2⟩ := qkF a t (s.take t.toNat ++ [iW.wrap (1 + u)] ++ s.drop t.toNat).length (by omega) L q5 0 0 0 vab (s.take t.toNat ++ [iW.wrap (1 + u)] ++ s.drop t.toNat) _ 0 [] k (vaJ _).symm (by omega) (vae _)
  rw [n0] at g1
  rw [if_neg c,qaq (n := (s.length : Int) + 1) (by omega) (by omega),e4,obs]
  dsimp only
  rw [dZr,vag,nAp,ifp,if_pos (by rw [lTk]; omega),e5,obs]
  dsimp only
  rw [if_pos (by rw [lSi,lTk]; omega),ifp,if_pos (by rw [lAp,lSi,lTk,vaq]; omega),g1,obs]
  exact fin f0' (by omega) (by simp) one (by omega) (by omega)
 rw [if_neg k5]
 by_cases k6 : z = 6
 ·obtain ⟨q4,l,l',g1,g2,g3,g4,g5⟩ := qm8 T a s hs4 hs32 0 0 0 vab (q3 + 2 * s.length) (by omega) s.length 0 q3 [] [] k (by omega) (by omega) d0 (by omega) rfl rfl
  rw [n0] at g1
  rw [if_pos k6,g1,obs,if_pos (by dsimp only; omega)]
  exact fin g4 (by dsimp only; omega) (by simp) one (by simp) (by dsimp only; rw [lAp]; omega)
 rw [if_neg k6]
 by_cases k7 : z = 7
 ·obtain ⟨q4,l,l',g1,g2,g3,g4,g5⟩ := qm7 T a s.length hs4 0 0 0 vab (q3 + 2 * s.length) (by omega) s.length 0 q3 [] [] k (by omega) (by omega) d0 (by omega) rfl rfl
  obtain ⟨m,q5,e5,m1,m2⟩ := qg5 L T.len T.wf q4 g4 (by omega)
  rw [n0] at g1
  rw [if_pos k7,g1,obs,if_pos (by dsimp only; omega)]
  dsimp only
  rw [e5,obs]
  exact fin m1 (by dsimp only; omega) (by simp) one (by simp) (by rw [lAp]; omega)
 rw [if_neg k7]
 by_cases k8 : z = 8
 ·rw [if_pos k8,es,obs]
  by_cases c : (s.length : Int) = 0
  ·rw [if_pos c]
   exact fin d0 (by omega) (by simp) one (by simp) (by simp)
  obtain ⟨t,q4,e4,t0,t1,f0,f1⟩ := T.next sl.length (by omega) q3 d0 (by omega)
  obtain ⟨u,q5,e5,u0,u1,f0',f1'⟩ := T.next 2 (by omega) q4 f0 (by omega)
  obtain ⟨v,q6,e6,v0,v1,f0'',f1''⟩ := T.next s.length (by omega) q5 f0' (by omega)
  rw [if_neg c,e4,obs,if_pos ⟨t0,t1⟩,if_pos (by dsimp only; omega)]
  dsimp only
  rw [e5,obs]
  dsimp only
  rw [qaq (n := 2 + u) (by omega) (by omega),if_pos ⟨by omega,by omega,by simp; omega⟩,e6,obs]
  have h3 := three (slm _ t0 t1) (show 0 <= a /\ a < (S.length : Int) from ⟨a0,a1⟩)
  exact fin f0'' (by dsimp only; omega) (by rw [dZr,lTk]; simp; omega) (fun x h => h3 x (by rw [dZr] at h; exact vaX h)) (by simp) (by simp)
 rw [if_neg k8]
 by_cases k9 : z = 9
 ·obtain ⟨q4,l,g1,g2,g3,g4⟩ := qkE T a s.length hs4 0 0 0 vab (q3 + s.length) (by omega) s.length 0 q3 [] k (by omega) (by omega) d0 (by omega) (vae _)
  obtain ⟨u,q5,e5,u0,u1,f0',f1'⟩ := T.next 4 (by omega) q4 g3 (by omega)
  rw [n0] at g1
  rw [if_pos k9,g1,obs]
  dsimp only
  rw [e5,obs]
  exact fin f0' (by dsimp only; omega) (by simp) one (by simp) (by omega)
 rw [if_neg k9]
 by_cases k10 : z = 10
 ·obtain ⟨op,n,h,q4,i,A,g1,g2,g3,g4,g5,g6⟩ := qnR T S hS a a0 a1 q3 d0 (by omega) k hk
  rw [if_pos k10,g1,obs]
  exact fin g2 (by dsimp only; omega) g4 g6 (by simp) g5
 rw [if_neg k10]
 by_cases c : (s.length : Int) = 0
 ·rw [if_pos c]
  exact fin d0 (by omega) (by simp) one (by simp) (by simp)
 obtain ⟨t,q4,e4,t0,t1,f0,f1⟩ := T.next s.length (by omega) q3 d0 (by omega)
 obtain ⟨u,q5,e5,u0,u1,f0',f1'⟩ := T.next 3 (by omega) q4 f0 (by omega)
 obtain ⟨v,q6,e6,v0,v1,f2,f3⟩ := T.next 2 (by omega) q5 f0' (by omega)
 obtain ⟨w,q7,e7,w0,w1,f4,f5⟩ := T.next 4 (by omega) q6 f2 (by omega)
 rw [if_neg c,e4,obs]
 dsimp only
 rw [e5,obs]
 dsimp only
 rw [e6,obs]
 dsimp only
 rw [e7,obs]
 exact fin f4 (by dsimp only; omega) (by simp) one (by simp) (by simp)
end Go.Pf

namespace Go.Pf
open Go Go.Vm
theorem qnb {l : LI} : ∀ (e i : Nat),nR l e i = true -> ∀ j,i <= j -> j < i + e -> nmay (l.getD j 0) = true /\ l.getD j 0 ∉ l.take j
 | 0,i,_,j,h1,h2 => by omega
 | e + 1,i,h,j,h1,h2 => by
  rw [nR,bAt,bAt,vbi,decide_eq_false_iff_not] at h
  by_cases c : j = i
  ·subst c; exact h.1
  ·exact qnb e (i + 1) h.2 j (by omega) (by omega)
theorem qiD {l : LI} {n : Int} (h : zNR l n = true) : ((l.length : Int) = n /\ n <= 3) /\ ∀ j,j < l.length -> nmay (l.getD j 0) = true /\ l.getD j 0 ∉ l.take j := by
 unfold zNR at h
 rw [bAt,decide_eq_true_eq] at h
 exact ⟨h.1,fun j hj => qnb l.length 0 h.2 j (by omega) (by omega)⟩
theorem qpP {l : LI} {n : Int} (h : zNR l n = true) {j : Nat} (hj : j < l.length) : fnd l (l.getD j 0) = (j : Int) := by
 obtain ⟨_,hs⟩ := qiD h
 have tk : ∀ i j : Nat,i < j -> j < l.length -> l.getD i 0 ∈ l.take j := fun i j hij hj => by
  have : (l.take j).getD i 0 = l.getD i 0 := by
   rw [gDg,vaL,if_pos hij,gDg]
  rw [<- this]
  exact qas (by rw [lTk]; omega) _
 rcases qgZ l (l.getD j 0) with ⟨h1,h2⟩ | ⟨i,h1,h2,h3,h4⟩
 ·exact absurd (qas hj _) h2
 ·rw [h1]
  rcases vbk i j with c | c | c
  ·exact absurd (by rw [<- h3]; exact tk i j c hj) (hs j hj).2
  ·rw [c]
  ·exact absurd (tk j i c h2) h4
def zTx (nm : LI) (k : Int) : Int := if k < 0 \/ (nm.length : Int) <= k then 46 else nm.getD k.toNat 0
theorem qfL : ∀ l : LI,(enc l).size <= 4 * l.length
 | [] => vae _
 | r :: l => by
  have h := qfL l
  have : (Utf8.encode r).size <= 4 := by
   unfold Utf8.encode
   dsimp only
   generalize (if Utf8.valid r = true then r.toNat else Utf8.runeError) = c
   by_cases c1 : c < 128
   ·rw [if_pos c1]; show 1 <= 4; omega
   by_cases c2 : c < 2048
   ·rw [if_neg c1,if_pos c2]; show 2 <= 4; omega
   by_cases c3 : c < 65536
   ·rw [if_neg c1,if_neg c2,if_pos c3]; show 3 <= 4; omega
   ·rw [if_neg c1,if_neg c2,if_neg c3]; exact vae _
  rw [enc,qcR,lCo]; omega
theorem qnp : Utf8.encode 46 = vaw #[46] := rfl
theorem qoo (l : LI) (r : Int) : enc (l ++ [r]) = enc l ++ Utf8.encode r := by
 rw [qnq,enc,enc,qh2]
theorem qhf (nm : ByteArray) (hn : nm.size <= 100000) (sp : LI) (hs : sp.length <= 1000) (k : Nat) (hk : 300000 <= k) : qbU.f k nm sp = some (enc (sp.map (zTx (rs nm)))) := by
 unfold qbU.f
 rw [qdD nm (by omega) k (by omega),obs]
 generalize rs nm = l
 have := iter0 (L := fun n i y => qbU.l0 n sp y sp.length i l) (st := fun i => enc ((sp.take i).map (zTx l))) (fun _=>enc (sp.map (zTx l))) (m := sp.length) 0
  (fun n _ => by rw [qbU.l0,ifq,vag])
  (fun i n hi _ ih => by
   have hz := qfL ((sp.take i).map (zTx l))
   have hz2 := qfL [zTx l (sp.getD i 0)]
   rw [enc,enc,qh2,lSi] at hz2
   rw [vak,lTk] at hz
   rw [qdP hi,vaT,vaN,vax,qoo] at ih
   rw [qbU.l0,ifp,ifp,tNc,qam hi (by omega)]
   by_cases c1 : sp.getD i 0 < 0
   ·have e : zTx l (sp.getD i 0) = 46 := if_pos (.inl c1)
    rw [e,qnp] at ih hz2
    rw [if_pos c1,ifp,ih]
   by_cases c2 : (l.length : Int) <= sp.getD i 0
   ·have e : zTx l (sp.getD i 0) = 46 := if_pos (.inr c2)
    rw [e,qnp] at ih hz2
    rw [if_neg c1,if_pos c2,ifp,ih]
   ·have e : zTx l (sp.getD i 0) = l.getD (sp.getD i 0).toNat 0 := ifq
    rw [e] at ih hz2
    rw [if_neg c1,if_neg c2,ifp,ifp,ifp,ih]) k (by omega)
 have e0 : enc ((sp.take 0).map (zTx l)) = vab := by rw [vas,vax,enc]
 rw [e0] at this
 rw [this,obs]
theorem qm5 {m : Int} {pre : LI} {k : Int} {r : LI} (h : okGo m pre (k :: r) = true) : (-1 <= k /\ k < m) /\ (k = -1 \/ k ∉ pre) /\ okGo m (pre ++ [k]) r = true := by
 simp only [okGo,bAt,vaU,decide_eq_true_eq,vbi,decide_eq_false_iff_not] at h
 exact ⟨h.1.1,h.1.2,h.2⟩
theorem qiC {nm : LI} {n : Int} (h : zNR nm n = true) : ∀ (sp y : LI),okGo nm.length y sp = true -> zNl nm (sp.map (zTx nm)) y = some (y ++ sp)
 | [],y,_ => by rw [vax,zNl,vah]
 | k :: r,y,ho => by
  obtain ⟨h1,h2,h3⟩ := qm5 ho
  have ih := qiC h r (y ++ [k]) h3
  rw [vaN,zNl]
  by_cases c : k < 0
  ·have e : zTx nm k = 46 := if_pos (.inl c)
   have : k = -1 := by omega
   subst this
   rw [e,if_neg (by decide),if_pos rfl,ih,aAs]; rfl
  ·have e : zTx nm k = nm.getD k.toNat 0 := ifq
   have hk : k.toNat < nm.length := by omega
   have hm := of_decide_eq_true ((qiD h).2 _ hk).1
   rw [e,ifq,ifq,qpP h hk,show ((k.toNat : Nat) : Int) = k by omega,if_neg (by rintro (h | h); exact c h; exact (h2.resolve_left (by omega)) h),ih,aAs]; rfl
theorem qjt {nm : LI} (hv : ∀ r ∈ nm,Utf8.valid r = true) (k : Int) : Utf8.valid (zTx nm k) = true := by
 unfold zTx
 split
 ·rfl
 ·exact hv _ (qas (by omega) 0)
theorem qjU {nm : LI} {n : Int} (h : zNR nm n = true) (hv : ∀ r ∈ nm,Utf8.valid r = true) {sp : LI} (ho : okGo nm.length [] sp = true) (hl : sp.length <= 16) : (zNote nm (rs (enc (sp.map (zTx nm)))) sp.length).2.1 = 0 := by
 rw [qmQ (fun r hr => by
  obtain ⟨k,_,rfl⟩ := vbd.1 hr
  exact qjt hv k)]
 unfold zNote
 rw [vak,ifq,qiC h sp [] ho,nAp]
 dsimp only
 by_cases c : sp.length = 0
 ·rw [if_pos c]
 ·rw [if_neg c,if_pos rfl]
theorem qin (nm : LI) (rank : Int) : (zNote nm (rs vab) rank).2.1 = 0 := rfl
structure MeshOK (nm : ByteArray) (s : LI) : Prop where
 size : nm.size <= 10
 ms : zMs s (rs nm) = true
 val : ∀ r ∈ rs nm,Utf8.valid r = true
theorem MeshOK.mk' {nm : ByteArray} {s l : LI} (h1 : nm.size <= 10) (h2 : nm = enc l) (h3 : l.all Utf8.valid = true) (h4 : zMs s l = true) : MeshOK nm s := by
 have hv : ∀ r ∈ l,Utf8.valid r = true := var.1 h3
 have e : rs nm = l := by rw [h2,qmQ hv]
 exact ⟨h1,by rw [e]; exact h4,by rw [e]; exact hv⟩
theorem MeshOK.right {nm : ByteArray} {s : LI} (h : MeshOK nm s) : mR s = true /\ zNR (rs nm) s.length = true /\ (rs nm).length = s.length := by
 have := h.ms
 unfold zMs at this
 rw [bAt] at this
 exact ⟨this.1,this.2,by have := (qiD this.2).1.1; omega⟩
theorem qpG : (vaw #[120]) = enc [120] := rfl
theorem qpF : (vaw #[121,195,169]) = enc [121,233] := by decide
theorem qpE : (vaw #[97,98,228,184,150]) = enc [97,98,19990] := by decide
end Go.Pf

namespace Go.Pf
open Go Go.Vm
theorem qmF {L : LI} (T : Tp L) : ∃ nm q s,qcF.f L 0 = some (nm,q,s) /\ 0 <= q /\ q <= 1 /\ MeshOK nm s := by
 obtain ⟨r,q,e,r0,r1,q0,q1⟩ := T.next 10 (by omega) 0 (by omega) (by omega)
 have m0 : MeshOK vab [] := MeshOK.mk' (l := []) (by decide) rfl rfl rfl
 have m1 : ∀ s : LI,zMs s [120] = true -> MeshOK (vaw #[120]) s := fun s h => MeshOK.mk' (by decide) qpG (by decide) h
 have m2 : ∀ s : LI,zMs s [121,233] = true -> MeshOK (vaw #[121,195,169]) s := fun s h => MeshOK.mk' (by decide) qpF (by decide) h
 have m3 : ∀ s : LI,zMs s [97,98,19990] = true -> MeshOK (vaw #[97,98,228,184,150]) s := fun s h => MeshOK.mk' (by decide) qpE (by decide) h
 unfold qcF.f
 rw [e,obs]
 have : r = 0 \/ r = 1 \/ r = 2 \/ r = 3 \/ r = 4 \/ r = 5 \/ r = 6 \/ r = 7 \/ r = 8 \/ r = 9 := by omega
 rcases this with rfl | rfl | rfl | rfl | rfl | rfl | rfl | rfl | rfl | rfl
 ·exact ⟨_,q,[2],rfl,q0,by omega,m1 _ (by decide)⟩
 ·exact ⟨_,q,[3],rfl,q0,by omega,m1 _ (by decide)⟩
 ·exact ⟨_,q,[2,2],rfl,q0,by omega,m2 _ (by decide)⟩
 ·exact ⟨_,q,[4],rfl,q0,by omega,m1 _ (by decide)⟩
 ·exact ⟨_,q,[2,3],rfl,q0,by omega,m2 _ (by decide)⟩
 ·exact ⟨_,q,[],rfl,q0,by omega,m0⟩
 ·exact ⟨_,q,[2,2,2],rfl,q0,by omega,m3 _ (by decide)⟩
 ·exact ⟨_,q,[5],rfl,q0,by omega,m1 _ (by decide)⟩
 ·exact ⟨_,q,[1,3],rfl,q0,by omega,m2 _ (by decide)⟩
 ·exact ⟨_,q,[8],rfl,q0,by omega,m1 _ (by decide)⟩
theorem qk6 {out : List LI} : ∀ {l : LI},(∀ x ∈ l,0 <= x /\ x < (out.length : Int)) -> zIn out l = some (l.map fun x => out.getD x.toNat [])
 | [],_ => rfl
 | x :: l,h => by
  have := h x (vao ..)
  rw [zIn,ifq,qk6 fun y hy => h y (mCm _ hy)]; rfl
theorem qoi (i : LI) (hi : i.length <= 10) (S : List LI) (h : ∀ x ∈ i,0 <= x /\ x < (S.length : Int)) (x6 : Int) (y0 : ByteArray) (L : LI) (p : Int) (y2 : ByteArray) (z1 : Int) (z2 z3 : LI) (z4 z5 : Int) (z6 : ByteArray) (y6 : LI) (y7 : List Nd) (y8 : LI) (n : Nat) (hn : 11 <= n) :
  qaB.l1 n x6 i i.length 0 y0 L p y2 S z1 z2 z3 z4 z5 z6 [] y6 y7 y8 = some (i.map fun x => S.getD x.toNat []) := by
 have := iter0 (L := fun n j y => qaB.l1 n x6 i i.length j y0 L p y2 S z1 z2 z3 z4 z5 z6 y y6 y7 y8) (st := fun j => (i.take j).map fun x => S.getD x.toNat []) (fun _=>i.map fun x => S.getD x.toNat []) (m := i.length) 0
  (fun n _ => by rw [qaB.l1,ifq,vag])
  (fun j n hj _ ih => by
   have hx := h _ (qas hj 0)
   rw [qdP hj,vaT,vaN,vax] at ih
   rw [qaB.l1,ifp,ifp,tNc,if_pos hx,ifp,if_pos (by rw [vak,lTk,lSi]; omega),qam hj (by omega),ih]) n (by omega)
 rw [vas,vax] at this
 exact this
theorem qiF (nm : LI) (x : Nd) : ∀ (N : List Nd) (o : List LI),(zGo nm N o).1 = 0 -> zGo nm (N ++ [x]) o = if (zNd nm (zGo nm N o).2 x).1 = 0 then (0,(zGo nm N o).2 ++ [(zNd nm (zGo nm N o).2 x).2]) else ((zNd nm (zGo nm N o).2 x).1,[])
 | [],o,_ => by
  rw [nAp,zGo,zGo,zGo]
 | y :: N,o,h => by
  rw [zGo] at h
  rw [va5,zGo,zGo]
  by_cases c : (zNd nm o y).1 = 0
  ·rw [if_pos c] at h
   rw [if_pos c,if_pos c]
   exact qiF nm x N _ h
  ·rw [if_neg c] at h
   exact absurd h c
def tiN (x : Nd) : Prop := x.2.1.length <= 300 /\ x.2.2.1.length <= 300 /\ x.2.2.2.1.length <= 300 /\ x.2.2.2.2.2.2.size <= 300
structure GrOK (nm : LI) (S : List LI) (N : List Nd) : Prop where
 go : zGo nm N [] = (0,S)
 ti : ∀ x ∈ N,tiN x
 sm : ∀ s ∈ S,mSR s = true
theorem GrOK.len {nm : LI} {S : List LI} {N : List Nd} (h : GrOK nm S N) : S.length = N.length := by
 have := qkr nm N [] (by rw [h.go])
 rw [h.go] at this
 simpa using this
theorem GrOK.snoc {nm : LI} {S : List LI} {N : List Nd} (h : GrOK nm S N) {x : Nd} {s : LI} (hx : zNd nm S x = (0,s)) (ho : tiN x) (hs : mSR s = true) : GrOK nm (S ++ [s]) (N ++ [x]) where
 go := by
  rw [qiF nm x N [] (by rw [h.go]),h.go]
  dsimp only
  rw [hx,if_pos rfl]
 ti := fun y hy => by
  rcases vaS.1 hy with hy | hy
  ·exact h.ti y hy
  ·rw [vam] at hy; rw [hy]; exact ho
 sm := fun y hy => by
  rcases vaS.1 hy with hy | hy
  ·exact h.sm y hy
  ·rw [vam] at hy; rw [hy]; exact hs
theorem qlD {L : LI} (T : Tp L) {nm : ByteArray} {sz : LI} (hm : MeshOK nm sz) (y0 : ByteArray) (k : Nat) (hk : 300000 <= k) (M : Int) (hM : M <= 17592182000000) : ∀ (e : Nat) (p : Int) (S : List LI) (N : List Nd) (n : Nat),e + 100 < n -> 0 <= p -> p <= M - 300 * e -> S.length + e <= 10 -> GrOK (rs nm) S N ->
  ∃ q S' N',qaB.l0 k n e y0 L p nm S sz N = some (q,S',N') /\ GrOK (rs nm) S' N' /\ 0 <= q /\ q <= M /\ S'.length <= 10
 | 0,p,S,N,n,hn,h0,hp,hS,hG => by
  obtain ⟨n,rfl⟩ := sun (n := n)
  rw [qaB.l0,ifq]
  exact ⟨p,S,N,rfl,hG,h0,by omega,by omega⟩
 | e + 1,p,S,N,n,hn,h0,hp,hS,hG => by
  obtain ⟨n,rfl⟩ := sun (n := n)
  have ih := fun p S N h0 hp hS hG => qlD T hm y0 k hk M hM e p S N n (by omega) h0 hp hS hG
  obtain ⟨hmR,hzR,hln⟩ := hm.right
  have hlen := hG.len
  obtain ⟨op,i,s,v,h,q,a,e1,q0,q1,hi,ha,hs,hx⟩ := qmE T S (by omega) (fun s hs => by have := qar (hG.sm s hs); exact ⟨this.1,this.2.1⟩) p h0 (by omega) k (by omega)
  rw [qaB.l0,ifp,e1,obs]
  dsimp only
  rw [qoi i (by omega) S hx _ _ _ _ _ _ _ _ _ _ _ _ _ _ n (by omega),obs,qd6 _ _ _ _ _ _ _ _ (by rw [vak]; omega) (by omega) k (by omega),obs,show iW.wrap (((e + 1 : Nat) : Int) - 1) = (e : Int) by rw [qaq (by omega) (by omega)]; omega]
  have hzN : ∀ nt : ByteArray,zNd (rs nm) S (op,(i,(s,(a,(v,(h,nt)))))) = if (zSh op s a v h (i.map fun x => S.getD x.toNat [])).1 = 0 then ((zNote (rs nm) (rs nt) (zSh op s a v h (i.map fun x => S.getD x.toNat [])).2.length).2.1,(zSh op s a v h (i.map fun x => S.getD x.toNat [])).2) else ((zSh op s a v h (i.map fun x => S.getD x.toNat [])).1,[]) := fun nt => by
   unfold zNd
   dsimp only
   rw [qk6 hx]
  generalize hz : zSh op s a v h (i.map fun x => S.getD x.toNat []) = z at hzN
  by_cases c : z.1 = 0
  rotate_left
  ·rw [if_neg c]
   exact ih q S N q0 (by omega) (by omega) hG
  have hR : mSR z.2 = true := by rw [<- hz]; exact zSh_R (by rw [hz]; exact c)
  have hb := qar hR
  rw [if_pos c,qc3 _ k (by omega),obs]
  by_cases c2 : 400 < zSz z.2
  ·rw [if_pos c2]
   exact ih q S N q0 (by omega) (by omega) hG
  obtain ⟨w,q2,e2,w0,w1,f0,f1⟩ := T.next 3 (by omega) q q0 (by omega)
  rw [if_neg c2,e2,obs]
  dsimp only
  by_cases c3 : w = 0
  ·obtain ⟨q3,sp,e3,p1,p2,p3,p4⟩ := qmG sz (by have := (qhz hmR).1; omega) L T.len T.wf z.2.length (by omega) (by omega) q2 f0 (by omega) k (by omega)
   rw [if_pos c3,e3,obs]
   dsimp only
   have hsz := hm.size
   rw [qhf nm (by omega) sp (by omega) k (by omega),obs,if_pos (by rw [lSi]; omega),if_pos (by rw [lSi]; omega)]
   have hx := hzN (enc (sp.map (zTx (rs nm))))
   have he := qfL (sp.map (zTx (rs nm)))
   rw [vak] at he
   rw [if_pos c,<- p1,qjU hzR hm.val (by rw [hln]; exact p2) (by omega)] at hx
   exact ih q3 (S ++ [z.2]) _ p3 (by omega) (by rw [lAp,lSi]; omega) (hG.snoc hx ⟨by dsimp only; omega,by dsimp only; omega,by dsimp only; omega,by dsimp only; omega⟩ hR)
  ·rw [if_neg c3,if_pos (by rw [lSi]; omega),if_pos (by rw [lSi]; omega)]
   have hx := hzN vab
   rw [if_pos c,qin] at hx
   exact ih q2 (S ++ [z.2]) _ f0 (by omega) (by rw [lAp,lSi]; omega) (hG.snoc hx ⟨by dsimp only; omega,by dsimp only; omega,by dsimp only; omega,show vab.size <= 300 by decide⟩ hR)
theorem qlC {L : LI} (T : Tp L) (S : List LI) (hS : S.length <= 10) (y0 y2 : ByteArray) (y4 : LI) (y5 : List Nd) (M : Int) (hM : M <= 17592182000000) : ∀ (e : Nat) (p : Int) (O : LI) (n : Nat),e < n -> 0 <= p -> p <= M - 2 * e -> O.length + e <= 10 -> (∀ x ∈ O,0 <= x /\ x < (S.length : Int)) ->
  ∃ O',qaB.l2 n e y0 L p y2 S y4 y5 O = some O' /\ O'.length <= 10 /\ ∀ x ∈ O',0 <= x /\ x < (S.length : Int)
 | 0,p,O,n,hn,h0,hp,hO,hx => by
  obtain ⟨n,rfl⟩ := sun (n := n)
  rw [qaB.l2,ifq]
  exact ⟨O,rfl,by omega,hx⟩
 | e + 1,p,O,n,hn,h0,hp,hO,hx => by
  obtain ⟨n,rfl⟩ := sun (n := n)
  rw [qaB.l2,ifp,show iW.wrap (((e + 1 : Nat) : Int) - 1) = (e : Int) by rw [qaq (by omega) (by omega)]; omega]
  by_cases c : 0 < (S.length : Int)
  rotate_left
  ·rw [if_neg c]
   exact ⟨O,rfl,by omega,hx⟩
  obtain ⟨a,q,e1,a0,a1,q0,q1⟩ := T.next S.length (by omega) p h0 (by omega)
  obtain ⟨b,q2,e2,b0,b1,f0,f1⟩ := T.next 2 (by omega) q q0 (by omega)
  rw [if_pos c,e1,obs]
  dsimp only
  rw [e2,obs,qaq (n := (S.length : Int) - 1) (by omega) (by omega)]
  dsimp only
  rw [if_pos ⟨b0,by simp; omega⟩,if_pos (by simp; omega),if_pos (by rw [lSi]; omega)]
  have hb : 0 <= [(S.length : Int) - 1,a].getD b.toNat 0 /\ [(S.length : Int) - 1,a].getD b.toNat 0 < (S.length : Int) := by
   have : b = 0 \/ b = 1 := by omega
   rcases this with rfl | rfl
   ·show 0 <= (S.length : Int) - 1 /\ (S.length : Int) - 1 < S.length; omega
   ·exact ⟨a0,a1⟩
  exact qlC T S hS y0 y2 y4 y5 M hM e q2 _ n (by omega) f0 (by omega) (by rw [lAp,lSi]; omega) (fun x h => by
   rcases vaS.1 h with h | h
   ·exact hx x h
   ·rw [vam] at h; rw [h]; exact hb)
theorem qfQ {L : LI} (T : Tp L) (k : Nat) (hk : 300000 <= k) : ∃ nm sz N O S,qaB.f k L = some (nm,sz,N,O) /\ MeshOK nm sz /\ GrOK (rs nm) S N /\ N.length <= 10 /\ O.length <= 10 /\ ∀ x ∈ O,0 <= x /\ x < (N.length : Int) := by
 obtain ⟨nm,q,sz,e1,q0,q1,hm⟩ := qmF T
 obtain ⟨r,q2,e2,r0,r1,f0,f1⟩ := T.next 9 (by omega) q q0 (by omega)
 obtain ⟨q3,S,N,e3,hG,g0,g1,hS⟩ := qlD T hm vab k hk 10000 (by omega) (1 + r).toNat q2 [] [] k (by omega) f0 (by omega) (by simp; omega) ⟨rfl,(fun x h => by cases h),(fun x h => by cases h)⟩
 obtain ⟨w,q4,e4,w0,w1,h0,h1⟩ := T.next 3 (by omega) q3 g0 (by omega)
 have hlen := hG.len
 obtain ⟨O,e5,o1,o2⟩ := qlC T S hS vab nm sz N 20000 (by omega) (1 + w).toNat q4 [] k (by omega) h0 (by omega) (by simp; omega) (fun x h => by cases h)
 refine ⟨nm,sz,N,O,S,?_,hm,hG,by omega,o1,by rw [<- hlen]; exact o2⟩
 unfold qaB.f
 rw [e1,obs]
 dsimp only
 rw [e2,obs]
 dsimp only
 rw [qaq (n := 1 + r) (by omega) (by omega),show (1 + r : Int) = (((1 + r).toNat : Nat) : Int) by omega,e3,obs]
 dsimp only
 rw [e4,obs]
 dsimp only
 rw [qaq (n := 1 + w) (by omega) (by omega),show (1 + w : Int) = (((1 + w).toNat : Nat) : Int) by omega,e5,obs]
end Go.Pf

namespace Go.Pf
open Go Go.Vm
def zPar : Nat -> List Nd -> LI
 | _,[] => []
 | i,x :: r => if x.1 = 1 then (i : Int) :: zPar (i + 1) r else zPar (i + 1) r
theorem qib (s : LI) (nm : ByteArray) (N : List Nd) (O : LI) (hN : N.length <= 100000) (k : Nat) (hk : 300000 <= k) : qbk.f k s nm N O = some (zPar 0 N) := by
 have : ∀ (e i n : Nat) (y : LI),N.length = i + e -> e < n -> y.length <= i -> qbk.l0 n N N.length i y = some (y ++ zPar i (N.drop i)) := by
  intro e
  induction e with
  | zero =>
   intro i n y hi hn hy
   obtain ⟨n,rfl⟩ := sun (n := n)
   rw [qbk.l0,ifq,dNl (by omega),zPar,vah]
  | succ e ih =>
   intro i n y hi hn hy
   obtain ⟨n,rfl⟩ := sun (n := n)
   rw [qbk.l0,ifp,ifp,tNc,qam (show i < N.length by omega) (by omega),qaj (show i < N.length by omega) nd0,zPar]
   by_cases c : (N.getD i nd0).1 = 1
   ·rw [if_pos c,if_pos c,if_pos (by rw [lSi]; omega),ih (i + 1) n _ (by omega) (by omega) (by simp; omega),aAs]; rfl
   ·rw [if_neg c,if_neg c,ih (i + 1) n _ (by omega) (by omega) (by omega)]
 unfold qbk.f
 have h := this N.length 0 k [] (by omega) (by omega) (vae _)
 rw [n0,dZr,nAp] at h
 rw [h,obs]
def ndEq (a b : Nd) : Bool := decide (a.1 = b.1 /\ a.2.1 = b.2.1 /\ a.2.2.1 = b.2.2.1 /\ a.2.2.2.1 = b.2.2.2.1 /\ a.2.2.2.2.1 = b.2.2.2.2.1 /\ a.2.2.2.2.2.1 = b.2.2.2.2.2.1) && (a.2.2.2.2.2.2.toList == b.2.2.2.2.2.2.toList)
def ndsEq : List Nd -> List Nd -> Bool
 | [],[] => true
 | a :: l,b :: m => ndEq a b && ndsEq l m
 | _,_ => false
def smN (x : Nd) : Prop := x.2.1.length <= 100000 /\ x.2.2.1.length <= 100000 /\ x.2.2.2.1.length <= 100000
theorem qgL (a b : Nd) (h : smN a) (k : Nat) (hk : 300000 <= k) : qcI.f k a.1 a.2.1 a.2.2.1 a.2.2.2.1 a.2.2.2.2.1 a.2.2.2.2.2.1 a.2.2.2.2.2.2 b.1 b.2.1 b.2.2.1 b.2.2.2.1 b.2.2.2.2.1 b.2.2.2.2.2.1 b.2.2.2.2.2.2 = some (ndEq a b) := by
 obtain ⟨a1,a2,a3,a4,a5,a6,a7⟩ := a
 obtain ⟨b1,b2,b3,b4,b5,b6,b7⟩ := b
 obtain ⟨h1,h2,h3⟩ := h
 dsimp only at h1 h2 h3
 unfold qcI.f ndEq
 dsimp only
 by_cases c1 : a1 = b1
 rotate_left
 ·rw [if_neg c1,decide_eq_false (fun h => c1 h.1)]; rfl
 rw [if_pos c1,qbP _ _ (by omega) k (by omega),obs]
 by_cases c2 : a2 = b2
 rotate_left
 ·rw [decide_eq_false c2,if_neg vad,decide_eq_false (fun h => c2 h.2.1)]; rfl
 rw [decide_eq_true c2,if_pos rfl,qbP _ _ (by omega) k (by omega),obs]
 by_cases c3 : a3 = b3
 rotate_left
 ·rw [decide_eq_false c3,if_neg vad,decide_eq_false (fun h => c3 h.2.2.1)]; rfl
 rw [decide_eq_true c3,if_pos rfl,qbP _ _ (by omega) k (by omega),obs]
 by_cases c4 : a4 = b4
 rotate_left
 ·rw [decide_eq_false c4,if_neg vad,decide_eq_false (fun h => c4 h.2.2.2.1)]; rfl
 rw [decide_eq_true c4,if_pos rfl]
 by_cases c5 : a5 = b5
 rotate_left
 ·rw [if_neg c5,decide_eq_false (fun h => c5 h.2.2.2.2.1)]; rfl
 by_cases c6 : a6 = b6
 rotate_left
 ·rw [if_pos c5,if_neg c6,decide_eq_false (fun h => c6 h.2.2.2.2.2)]; rfl
 rw [if_pos c5,if_pos c6,decide_eq_true ⟨c1,c2,c3,c4,c5,c6⟩,vaj]
theorem qk1 (a b : List Nd) (ha : a.length <= 100000) (hs : ∀ x ∈ a,smN x) (k : Nat) (hk : 300000 <= k) : qad.f k a b = some (ndsEq a b) := by
 have hne : ∀ {a b : List Nd},a.length ≠ b.length -> ndsEq a b = false := by
  intro a
  induction a with
  | nil => intro b h; cases b with
   | nil => exact absurd rfl h
   | cons => rfl
  | cons x a ih => intro b h; cases b with
   | nil => rfl
   | cons y b => rw [ndsEq,ih (by simpa using h),Bool.and_false]
 unfold qad.f
 by_cases hl : a.length = b.length
 rotate_left
 ·rw [ifq,hne hl]
 have := iter0 (L := fun n i (_ : Unit) => qad.l0 k n b a a.length i) (st := fun _=>()) (fun i => if ndsEq (a.drop i) (b.drop i) = true then .inl () else .inr false) (m := a.length) 0
  (fun n _ => by rw [qad.l0,ifq,dNl (vae _),dNl (by omega)]; rfl)
  (fun i n hi _ ih => by
   have hx := hs _ (qas hi nd0)
   rw [qad.l0,ifp,ifp,ifp,tNc,qgL (a.getD i nd0) (b.getD i nd0) hx k hk,obs,qam hi (by omega),ih,qaj hi nd0,qaj (show i < b.length by omega) nd0,ndsEq]
   cases c : ndEq (a.getD i nd0) (b.getD i nd0)
   ·rfl
   ·rfl) k (by omega)
 rw [ifp,this,dZr,dZr,obs]
 cases ndsEq a b <;> rfl
def grEq (s : LI) (nm : ByteArray) (N : List Nd) (O : LI) (s' : LI) (nm' : ByteArray) (N' : List Nd) (O' : LI) : Bool := decide (s = s') && (nm.toList == nm'.toList) && ndsEq N N' && decide (O = O')
theorem qeB (s : LI) (nm : ByteArray) (N : List Nd) (O : LI) (s' : LI) (nm' : ByteArray) (N' : List Nd) (O' : LI) (h1 : s.length <= 100000) (h2 : N.length <= 100000) (h3 : O.length <= 100000) (h4 : ∀ x ∈ N,smN x) (k : Nat) (hk : 300000 <= k) : qcW.f k s nm N O s' nm' N' O' = some (grEq s nm N O s' nm' N' O') := by
 unfold qcW.f grEq
 rw [qbP _ _ (by omega) k (by omega),obs]
 by_cases c1 : s = s'
 rotate_left
 ·rw [decide_eq_false c1]; rfl
 rw [decide_eq_true c1,if_pos rfl,vaj]
 cases c2 : (nm.toList == nm'.toList)
 ·rfl
 rw [if_pos rfl,vaj,qk1 N N' h2 h4 k hk,obs]
 cases c3 : ndsEq N N'
 ·rfl
 rw [if_pos rfl,vaj,qbP _ _ (by omega) k (by omega),obs]
theorem qna (a : Nd) : ndEq a a = true := by simp [ndEq]
theorem qio : ∀ l : List Nd,ndsEq l l = true
 | [] => rfl
 | a :: l => by rw [ndsEq,qna,qio l]; rfl
theorem qj9 (s : LI) (nm : ByteArray) (N : List Nd) (O : LI) : grEq s nm N O s nm N O = true := by simp [grEq,qio]
theorem allN1 {P : Nd -> Prop} {a : Nd} (h : P a) : ∀ x ∈ [a],P x := fun x hx => by rw [vam] at hx; rw [hx]; exact h
theorem allN2 {P : Nd -> Prop} {a b : Nd} (h : P a) (h2 : P b) : ∀ x ∈ [a,b],P x := fun x hx => by
 rcases van.1 hx with hx | hx
 ·rw [hx]; exact h
 ·rw [vam] at hx; rw [hx]; exact h2
set_option maxRecDepth 20000 in
theorem known10 (k : Nat) (hk : 300000 <= k) : qdw.f k = some true := by
 have e : vab.size <= 100000 := by decide
 have n1 : okN (1,([],(([2,3] : LI),([],(0,(0,vab)))))) := ⟨by decide,by decide,by decide⟩
 have n2 : okN (13,(([0] : LI),([],(([1,0] : LI),(0,(0,vab)))))) := ⟨by decide,by decide,by decide⟩
 have n3 : okN (4,(([0] : LI),([],([],(0,(0,vab)))))) := ⟨by decide,by decide,by decide⟩
 have n4 : okN (1,([],(([2] : LI),([],(0,(0,(vaw #[120,46]))))))) := ⟨by decide,by decide,by decide⟩
 have s3 : smN (4,(([0] : LI),([],([],(0,(0,vab)))))) := ⟨by decide,by decide,by decide⟩
 have x1 : (vaw #[120]).size <= 100000 := by decide
 unfold qdw.f
 rw [qcG _ _ _ _ e (allN2 n1 n2) k hk,obs,qef _ _ _ _ e (fun x h => by cases h) k hk,obs,if_pos (by decide),
  qef _ _ _ _ e (allN1 n3) k hk,obs,if_pos (by decide),qef _ _ _ _ x1 (allN1 n4) k hk,obs,if_pos (by decide)]
 have hS : zShs [] vab ([(1,([],(([2,3] : LI),([],(0,(0,vab)))))),(13,(([0] : LI),([],(([1,0] : LI),(0,(0,vab))))))] : List Nd) [] = (0,[[2,3],[3,2]]) := by decide
 rw [hS,if_pos rfl,if_pos (by decide),if_pos ⟨by decide,by decide⟩,if_pos (by decide),qc6 _ _ (by decide) k (by show 2 < k; omega),obs,if_pos (by decide),qib _ _ _ _ (by decide) k hk,obs,
  qc6 _ _ (by decide) k (by show 1 < k; omega),obs,if_pos (by decide),qeB _ _ _ _ _ _ _ _ (by decide) (by decide) (by decide) (allN1 s3) k hk,obs,if_pos (qj9 _ _ _ _),
  qeB _ _ _ _ _ _ _ _ (by decide) (by decide) (by decide) (allN1 s3) k hk,obs]
 rfl
theorem GrOK.shs {nm : ByteArray} {sz : LI} {N : List Nd} {S : List LI} (hm : MeshOK nm sz) (hG : GrOK (rs nm) S N) (hN : N.length <= 48) {O : LI} (hO : O.length <= 48) (hx : ∀ x ∈ O,0 <= x /\ x < (N.length : Int)) : zShs sz nm N O = (0,S) := by
 unfold zShs
 rw [if_pos hm.ms,ifq,ifq,hG.go,if_pos rfl,if_pos (var.2 fun x h => decide_eq_true (hx x h))]
theorem qoN {L : LI} (h : Fit (.sl (.int .i64)) L) : Tp L := by
 obtain ⟨f1,f2⟩ := qpi h
 exact ⟨by omega,f2⟩
end Go.Pf

namespace Go.Pf
open Go Go.Vm
theorem qkq (nm : LI) : ∀ (N : List Nd) (o T : List LI),zGo nm N o = (0,T) -> T.take o.length = o
 | [],o,T,h => by
  rw [zGo] at h
  cases h
  exact vag
 | x :: r,o,T,h => by
  rw [zGo] at h
  by_cases c : (zNd nm o x).1 = 0
  ·rw [if_pos c] at h
   have := qkq nm r _ T h
   have h2 := congrArg (fun l => l.take o.length) this
   rw [vba,lAp,lSi,vaV (by omega),List.take_left] at h2
   exact h2
  ·rw [if_neg c] at h
   exact absurd (congrArg Prod.fst h) c
theorem qk7 (nm : LI) : ∀ (N : List Nd) (o T : List LI),zGo nm N o = (0,T) → ∀ i,i < N.length → zNd nm (T.take (o.length + i)) (N.getD i nd0) = (0,T.getD (o.length + i) [])
  | x :: r,o,T,h,i,hi => by
    have hp := qkq nm (x :: r) o T h
    rw [zGo] at h
    by_cases c : (zNd nm o x).1 = 0
    · rw [if_pos c] at h
      cases i with
      | zero =>
        have h2 := qkq nm r _ T h
        have h3 : T.getD o.length [] = (zNd nm o x).2 := by
          have e := congrArg (fun l => l.getD o.length []) h2
          rw [lAp,lSi,gDg,vaL,ifp,gDg,va8 (vae _),vau] at e
          rw [gDg,e]; rfl
        rw [vaW,hp,h3]
        show zNd nm o x = _
        rw [← c]
      | succ i =>
        have := qk7 nm r _ T h i (by simpa using hi)
        rw [lAp,lSi,va0,va4 1 i] at this
        exact this
    · rw [if_neg c] at h
      exact absurd (congrArg Prod.fst h) c
theorem qnL {nm : LI} {o : List LI} {x : Nd} {s : LI} (h : zNd nm o x = (0,s)) (t : ByteArray) {e : Int} (ht : (zNote nm (rs t) s.length).2.1 = e) : zNd nm o (x.1,x.2.1,x.2.2.1,x.2.2.2.1,x.2.2.2.2.1,x.2.2.2.2.2.1,t) = (e,s) := by
 unfold zNd at h ⊢
 dsimp only
 cases c : zIn o x.2.1 with
 | none => rw [c] at h; cases h
 | some l =>
  rw [c] at h
  dsimp only at h ⊢
  by_cases c2 : (zSh x.1 x.2.2.1 x.2.2.2.1 x.2.2.2.2.1 x.2.2.2.2.2.1 l).1 = 0
  ·rw [if_pos c2] at h ⊢
   have h2 := congrArg Prod.snd h
   dsimp only at h2
   rw [h2,ht]
  ·rw [if_neg c2] at h
   exact absurd (congrArg Prod.fst h) c2
end Go.Pf

namespace Go.Pf
open Go Go.Vm
theorem qho (out : List LI) (l : LI) (hl : l.length <= 100000) (ho : out.length <= 1000) (x31 : List Nd) (x32 x33 : Int) (g1 : LI) (g2 : ByteArray) (g3 : List Nd) (g4 : LI) (x1 : Int) (x2 x3 x4 : LI) (x5 x6 : Int) (x7 : ByteArray) (n : Nat) (hn : 100001 <= n) :
  qax.l1 n out.length x31 x32 x33 l l.length 0 g1 g2 g3 g4 out x1 x2 x3 x4 x5 x6 x7 [] = some (match zIn out l with | some r => .inl r | none => .inr 23) := by
 have : ∀ (e i n : Nat) (y : List LI),l.length = i + e -> e < n -> y.length <= i -> qax.l1 n out.length x31 x32 x33 l l.length i g1 g2 g3 g4 out x1 x2 x3 x4 x5 x6 x7 y = some (match zIn out (l.drop i) with | some r => .inl (y ++ r) | none => .inr 23) := by
  intro e
  induction e with
  | zero =>
   intro i n y hi hn hy
   obtain ⟨n,rfl⟩ := sun (n := n)
   rw [qax.l1,ifq,dNl (by omega),zIn]
   simp
  | succ e ih =>
   intro i n y hi hn hy
   obtain ⟨n,rfl⟩ := sun (n := n)
   rw [qax.l1,ifp,ifp,tNc,qaj (show i < l.length by omega) 0,zIn]
   by_cases c1 : l.getD i 0 < 0
   ·rw [if_pos c1,if_pos (.inl c1)]
   by_cases c2 : (out.length : Int) <= l.getD i 0
   ·rw [if_neg c1,if_pos c2,if_pos (.inr c2)]
   rw [if_neg c1,if_neg c2,if_neg (show ¬ (l.getD i 0 < 0 \/ (out.length : Int) <= l.getD i 0) by omega),ifp,ifp,if_pos (by rw [lSi]; omega),qam (show i < l.length by omega) (by omega),ih (i + 1) n _ (by omega) (by omega) (by simp; omega)]
   cases zIn out (l.drop (i + 1)) with
   | none => rfl
   | some r => simp
 have := this l.length 0 n [] (by omega) (by omega) (vae _)
 rw [n0,dZr] at this
 rw [this]
 cases zIn out l <;> simp
theorem qeu (s : LI) (nm : ByteArray) (N : List Nd) (O : LI) (hn : nm.size <= 100000) (hN : ∀ x ∈ N,okN x) (h48 : N.length <= 48) (k : Nat) (hk : 300000 <= k) : ∀ (e i n : Nat) (out : List LI),N.length = i + e -> e + 100500 < n -> out.length = i ->
  qax.l0 k n N N.length i s nm N O out = some (if (zGo (rs nm) (N.drop i) out).1 = 0 then .inl (zGo (rs nm) (N.drop i) out).2 else .inr (zGo (rs nm) (N.drop i) out).1)
 | 0,i,n,out,hi,hn',ho => by
  obtain ⟨n,rfl⟩ := sun (n := n)
  rw [qax.l0,ifq,dNl (by omega),zGo,if_pos rfl]
 | e + 1,i,n,out,hi,hn',ho => by
  obtain ⟨n,rfl⟩ := sun (n := n)
  obtain ⟨h1,h2,h3⟩ := hN _ (qas (show i < N.length by omega) nd0)
  have hl1 := qho out (N.getD i nd0).2.1 h1 (by omega) N N.length i s nm N O (N.getD i nd0).1 (N.getD i nd0).2.1 (N.getD i nd0).2.2.1 (N.getD i nd0).2.2.2.1 (N.getD i nd0).2.2.2.2.1 (N.getD i nd0).2.2.2.2.2.1 (N.getD i nd0).2.2.2.2.2.2 n (by omega)
  rw [ho] at hl1
  rw [qax.l0,ifp,ifp,tNc,hl1,obs,qaj (show i < N.length by omega) nd0,zGo]
  generalize hx : N.getD i nd0 = x at h1 h2 h3 ⊢
  cases e1 : zIn out x.2.1 with
  | none =>
   have hz : zNd (rs nm) out x = (23,[]) := by unfold zNd; rw [e1]
   rw [hz]; rfl
  | some l =>
   have hl := qiE e1
   dsimp only [vai]
   rw [qd6 _ _ _ _ _ _ _ l (by omega) (by omega) k (by omega),obs]
   by_cases c : (zSh x.1 x.2.2.1 x.2.2.2.1 x.2.2.2.2.1 x.2.2.2.2.2.1 l).1 = 0
   ·have hz : zNd (rs nm) out x = ((zNote (rs nm) (rs x.2.2.2.2.2.2) (zSh x.1 x.2.2.1 x.2.2.2.1 x.2.2.2.2.1 x.2.2.2.2.2.1 l).2.length).2.1,(zSh x.1 x.2.2.1 x.2.2.2.1 x.2.2.2.2.1 x.2.2.2.2.2.1 l).2) := by
     unfold zNd; rw [e1]; dsimp only; rw [if_pos c]
    rw [hz,if_pos c,qhg _ _ _ (by omega) (by omega) k (by omega) (by omega),obs]
    dsimp only
    by_cases c2 : (zNote (rs nm) (rs x.2.2.2.2.2.2) (zSh x.1 x.2.2.1 x.2.2.2.1 x.2.2.2.2.1 x.2.2.2.2.2.1 l).2.length).2.1 = 0
    ·rw [if_pos c2,if_pos c2,if_pos (by rw [lSi]; omega),qam (show i < N.length by omega) (by omega),qeu s nm N O hn hN h48 k hk e (i + 1) n _ (by omega) (by omega) (by simp; omega)]
    ·rw [if_neg c2,if_neg c2,if_neg c2]
   ·have hz : zNd (rs nm) out x = ((zSh x.1 x.2.2.1 x.2.2.2.1 x.2.2.2.2.1 x.2.2.2.2.2.1 l).1,[]) := by
     unfold zNd; rw [e1]; dsimp only; rw [if_neg c]
    rw [hz,if_neg c,if_neg c,if_neg c]
theorem qh4 (s : LI) (nm : ByteArray) (N : List Nd) (O : LI) (hn : nm.size <= 100000) (hN : ∀ x ∈ N,okN x) (k : Nat) (hk : 300000 <= k) : qax.f k s nm N O = some (zShs s nm N O) := by
 unfold qax.f zShs
 rw [qjP s nm N O hn k hk,obs]
 by_cases c1 : zMs s (rs nm) = true
 rotate_left
 ·rw [if_neg c1,if_neg c1]
 rw [if_pos c1,if_pos c1]
 by_cases c2 : 48 < N.length
 ·rw [ifp,if_pos c2]
 by_cases c3 : 48 < O.length
 ·rw [ifq,ifp,if_neg c2,if_pos c3]
 have h0 := qeu s nm N O hn hN (by omega) k hk N.length 0 k [] (by omega) (by omega) rfl
 rw [n0,dZr] at h0
 rw [ifq,ifq,if_neg c2,if_neg c3,h0,obs]
 by_cases c4 : (zGo (rs nm) N []).1 = 0
 ·have l2 : ∀ T,qax.l2 k O O.length 0 s nm N O T = some (if O.all (fun k => decide (0 <= k /\ k < (N.length : Int))) = true then .inl () else .inr 23) := fun T => by
   have := iter0 (L := fun n i (_ : Unit) => qax.l2 n O O.length i s nm N O T) (st := fun _=>()) (fun i => if (O.drop i).all (fun k => decide (0 <= k /\ k < (N.length : Int))) = true then .inl () else .inr 23) (m := O.length) 0
    (fun n _ => by rw [qax.l2,ifq,dNl (vae _)]; rfl)
    (fun i n hi _ ih => by
     rw [qax.l2,ifp,ifp,tNc,qaj hi (0 : Int),vaz]
     by_cases d1 : O.getD i 0 < 0
     ·rw [if_pos d1,decide_eq_false (by omega),vap,if_neg vad]
     by_cases d2 : (N.length : Int) <= O.getD i 0
     ·rw [if_neg d1,if_pos d2,decide_eq_false (by omega),vap,if_neg vad]
     rw [if_neg d1,if_neg d2,qam hi (by omega),ih,decide_eq_true (by omega),vaj]) k (by omega)
   rw [dZr] at this
   exact this
  rw [if_pos c4,if_pos c4,vai,l2,obs]
  by_cases c5 : O.all (fun k => decide (0 <= k /\ k < (N.length : Int))) = true
  ·rw [if_pos c5,if_pos c5,vai,<- c4]
  ·rw [if_neg c5,if_neg c5]; rfl
 ·rw [if_neg c4,if_neg c4]; rfl
theorem qj8 (s : LI) (nm : ByteArray) (N : List Nd) (O : LI) (h1 : s.length <= 100000) (h2 : N.length <= 100000) (h3 : O.length <= 100000) (h4 : ∀ x ∈ N,smN x) (k : Nat) (hk : 300000 <= k) : qb1.f k s nm N O = some (s,N,O) := by
 unfold qb1.f
 rw [qbi _ (by omega),obs,qbi _ (by omega),obs]
 have tk : ∀ i,i < N.length -> N.take (i + 1) = N.take i ++ [N.getD i nd0] := fun i hi => by
  rw [va1,gDg,vaD hi]; rfl
 have := iter0 (L := fun n i y => qb1.l0 n N N.length i vab nm s y O) (st := fun i => N.take i) (fun _=>N) (m := N.length) 0
  (fun n _ => by rw [qb1.l0,ifq,vag])
  (fun i n hi _ ih => by
   obtain ⟨a1,a2,a3⟩ := h4 _ (qas hi nd0)
   have e : qcJ.f (N.getD i nd0).1 (N.getD i nd0).2.1 (N.getD i nd0).2.2.1 (N.getD i nd0).2.2.2.1 (N.getD i nd0).2.2.2.2.1 (N.getD i nd0).2.2.2.2.2.1 (N.getD i nd0).2.2.2.2.2.2 = some ((N.getD i nd0).2.1,(N.getD i nd0).2.2.1,(N.getD i nd0).2.2.2.1) := by
    unfold qcJ.f
    rw [qbi _ (by omega),obs,qbi _ (by omega),obs,qbi _ (by omega),obs]
   rw [tk i hi] at ih
   rw [qb1.l0,ifp,ifp,tNc,e,obs,if_pos (by rw [lTk,lSi]; omega),qam hi (by omega)]
   exact ih) k (by omega)
 rw [vas] at this
 rw [this,obs]
theorem qhp (s : LI) (nm : ByteArray) (N : List Nd) (O : LI) (h1 : s.length <= 100000) (h2 : N.length <= 100000) (h3 : O.length <= 100000) (h4 : ∀ x ∈ N,smN x) (k : Nat) (hk : 300000 <= k) : qbY.f k s nm N O s nm N O = some true := by
 unfold qbY.f
 rw [qcs _ _ (by omega) k (by omega),obs,if_pos (decide_eq_true rfl),if_pos (beq_self_eq_true _),if_pos rfl,qcs _ _ (by omega) k (by omega),obs,if_pos (decide_eq_true rfl)]
 have := iter0 (L := fun n i (_ : Unit) => qbY.l0 k n N.length i s nm N O s nm N O) (st := fun _=>()) (fun _=>.inl ()) (m := N.length) 0
  (fun n _ => by rw [qbY.l0,ifq])
  (fun i n hi _ ih => by
   obtain ⟨a1,a2,a3⟩ := h4 _ (qas hi nd0)
   have e : qdr.f k (N.getD i nd0).1 (N.getD i nd0).2.1 (N.getD i nd0).2.2.1 (N.getD i nd0).2.2.2.1 (N.getD i nd0).2.2.2.2.1 (N.getD i nd0).2.2.2.2.2.1 (N.getD i nd0).2.2.2.2.2.2 (N.getD i nd0).1 (N.getD i nd0).2.1 (N.getD i nd0).2.2.1 (N.getD i nd0).2.2.2.1 (N.getD i nd0).2.2.2.2.1 (N.getD i nd0).2.2.2.2.2.1 (N.getD i nd0).2.2.2.2.2.2 = some true := by
    unfold qdr.f
    rw [if_pos rfl,qcs _ _ (by omega) k (by omega),obs,if_pos (decide_eq_true rfl),qcs _ _ (by omega) k (by omega),obs,if_pos (decide_eq_true rfl),qcs _ _ (by omega) k (by omega),obs,if_pos (decide_eq_true rfl),if_pos rfl,if_pos rfl,beq_self_eq_true]
   rw [qbY.l0,ifp,ifp,ifp,tNc,e,obs,if_pos rfl,qam hi (by omega),ih]) k (by omega)
 rw [this,obs]; rfl
end Go.Pf

namespace Go.Pf
open Go Go.Vm
theorem upTo {R : Type} {L : Nat -> Int -> Option R} {res : R} (lo hi : Int) (N : Nat)
  (hend : ∀ n,N <= n -> L (n + 1) hi = some res)
  (hstep : ∀ i n,lo <= i -> i < hi -> N <= n -> L n (i + 1) = some res -> L (n + 1) i = some res) : ∀ (e : Nat) (i : Int) (n : Nat),i + e = hi -> lo <= i -> e + N < n -> L n i = some res
 | 0,i,n,hi',_,hn => by
  obtain ⟨n,rfl⟩ := sun (n := n)
  obtain rfl : i = hi := by omega
  exact hend n (by omega)
 | e + 1,i,n,hi',hl,hn => by
  obtain ⟨n,rfl⟩ := sun (n := n)
  exact hstep i n hl (by omega) (by omega) (upTo lo hi N hend hstep e (i + 1) n (by omega) (by omega) (by omega))
end Go.Pf
