/- Own texts put together: Mca, M22a, M22b .. -/
import Derived.Test.YtmjhjjdnmgakhaaGreatPl0
import Derived.Test.YtmjhjjdnmgakhaaGreatPl1
open List renaming getElem?_eq_getElem→vaa, length_set→vab, mem_singleton→vae, length_replicate→vag, pairwise_iff_getElem→vah, mem_cons→vai, mem_append→vaj, getElem?_eq_none→vak, getElem?_append→van, replicate→vao, take_length→vap, eq_nil_of_length_eq_zero→vaq, length_nil→var, pairwise_singleton→vas, getElem?_replicate→vat, pairwise_append→vaw, length_pos_iff→vay, getElem_of_mem→vaz, mem_cons_self→vaB, take_add_one→vaC, length_map→vaE
open Nat renaming le_refl→vac, zero_add→vau, sub_self→vav, lt_trichotomy→vaD
open ByteArray renaming empty→vad, mk→vaf
open Sum renaming elim_inl→vam
open Int renaming reduceEq→vax
open Option renaming getD_some→vaA
set_option linter.unusedVariables false
set_option linter.unusedSimpArgs false
set_option linter.unusedSectionVars false
namespace Go.Pf
open Go Go.Vm
theorem iterE {σ ρ : Type} {L : Nat -> Int -> σ -> Option ρ} {m : Nat} (P : Nat -> σ -> Prop) (Q : ρ -> Prop) (he : ∀ n y,P m y -> ∃ r,L (n + 1) m y = some r /\ Q r)
  (B : Nat) (hs : ∀ i n y,i < m -> B <= n -> P i y -> ∃ y',P (i + 1) y' /\ L (n + 1) i y = L n ((i + 1 : Nat) : Int) y') : ∀ (d i : Nat) (y : σ) (n : Nat),m = i + d -> d + B < n -> P i y -> ∃ r,L n i y = some r /\ Q r
 | 0,i,y,n,hi,hn,h => by
  obtain ⟨n,rfl⟩ := sun (n := n)
  obtain rfl : m = i := by omega
  exact he n y h
 | d + 1,i,y,n,hi,hn,h => by
  obtain ⟨n,rfl⟩ := sun (n := n)
  obtain ⟨y',h',e⟩ := hs i n y (by omega) (by omega) h
  rw [e]
  exact iterE P Q he B hs d (i + 1) y' n (by omega) (by omega) h'
theorem qcu {α : Type} (d : α) (y : List α) (x j : Nat) (v : α) : (y.set x v).getD j d = if j = x /\ x < y.length then v else y.getD j d := by
 simp only [gDg,List.getElem?_set]
 grind
def bnd (c : Nat) (y : List Nd) : Prop := y.length = c /\ ∀ j,smN (y.getD j nd0)
theorem bnd.set {c : Nat} {y : List Nd} (h : bnd c y) {x : Nat} {v : Nd} (hv : smN v) : bnd c (y.set x v) := by
 refine ⟨by rw [vab]; exact h.1,fun j => ?_⟩
 rw [qcu]
 split
 ·exact hv
 ·exact h.2 j
theorem qdQ {α : Type} (d : α) (y : List α) {x : Nat} (v : α) (h : x < y.length) : (y.set x v).getD x d = v := by
 rw [qcu,if_pos ⟨rfl,h⟩]
section
variable (y0 y1 y2 : ByteArray) (y3 : LI) (y4 : List Nd) (y5 y6 : LI) (y7 : List Nd) (y8 y9 y11 : LI) (x52 x53 : Int) (c x : Nat) (hx : x < c) (hc : c <= 100000)
include hx hc
theorem qnz (m : Nat) (hm : m <= 100000) (y : List Nd) (h : bnd c y) (hl : (y.getD x nd0).2.1.length = m) (n : Nat) (hn : m < n) :
  ∃ r,qab.l3 n x x52 x53 m 0 y0 y1 y2 y3 y4 y5 y6 y7 y8 y9 y y11 = some r /\ bnd c r := by
 refine iterE (L := fun n i y => qab.l3 n x x52 x53 m i y0 y1 y2 y3 y4 y5 y6 y7 y8 y9 y y11) (m := m) (fun _ y => bnd c y /\ (y.getD x nd0).2.1.length = m) (bnd c) (fun n y h => ⟨y,by rw [qab.l3,ifq],h.1⟩) 0 (fun i n y hi _ ⟨hb,hl⟩ => ?_) m 0 y n (by omega) hn ⟨h,hl⟩
 have hlen := hb.1
 have hl' : (y.getD x ln0).2.1.length = m := hl
 rw [qab.l3,ifp,ifp,ifp,tNc,ifp,ifp,tNc,qam hi (by omega)]
 have hs := hb.2 x
 refine ⟨_,⟨?_,?_⟩,rfl⟩
 ·exact hb.set ⟨by simpa using hs.1,hs.2⟩
 ·rw [qdQ _ _ _ (by omega)]
  show (List.set _ _ _).length = m
  rw [vab]; exact hl
theorem qny (m : Nat) (hm : m <= 100000) (y : List Nd) (h : bnd c y) (hl : (y.getD x nd0).2.2.1.length = m) (n : Nat) (hn : m < n) :
  ∃ r,qab.l4 n x x52 x53 m 0 y0 y1 y2 y3 y4 y5 y6 y7 y8 y9 y y11 = some r /\ bnd c r := by
 refine iterE (L := fun n i y => qab.l4 n x x52 x53 m i y0 y1 y2 y3 y4 y5 y6 y7 y8 y9 y y11) (m := m) (fun _ y => bnd c y /\ (y.getD x nd0).2.2.1.length = m) (bnd c) (fun n y h => ⟨y,by rw [qab.l4,ifq],h.1⟩) 0 (fun i n y hi _ ⟨hb,hl⟩ => ?_) m 0 y n (by omega) hn ⟨h,hl⟩
 have hlen := hb.1
 have hl' : (y.getD x ln0).2.2.1.length = m := hl
 rw [qab.l4,ifp,ifp,ifp,tNc,ifp,ifp,tNc,qam hi (by omega)]
 have hs := hb.2 x
 refine ⟨_,⟨?_,?_⟩,rfl⟩
 ·exact hb.set ⟨hs.1,by simpa using hs.2.1,hs.2.2⟩
 ·rw [qdQ _ _ _ (by omega)]
  show (List.set _ _ _).length = m
  rw [vab]; exact hl
theorem qnx (m : Nat) (hm : m <= 100000) (y : List Nd) (h : bnd c y) (hl : (y.getD x nd0).2.2.2.1.length = m) (n : Nat) (hn : m < n) :
  ∃ r,qab.l5 n x x52 x53 m 0 y0 y1 y2 y3 y4 y5 y6 y7 y8 y9 y y11 = some r /\ bnd c r := by
 refine iterE (L := fun n i y => qab.l5 n x x52 x53 m i y0 y1 y2 y3 y4 y5 y6 y7 y8 y9 y y11) (m := m) (fun _ y => bnd c y /\ (y.getD x nd0).2.2.2.1.length = m) (bnd c) (fun n y h => ⟨y,by rw [qab.l5,ifq],h.1⟩) 0 (fun i n y hi _ ⟨hb,hl⟩ => ?_) m 0 y n (by omega) hn ⟨h,hl⟩
 have hlen := hb.1
 have hl' : (y.getD x ln0).2.2.2.1.length = m := hl
 rw [qab.l5,ifp,ifp,ifp,tNc,ifp,ifp,tNc,qam hi (by omega)]
 have hs := hb.2 x
 refine ⟨_,⟨?_,?_⟩,rfl⟩
 ·exact hb.set ⟨hs.1,hs.2.1,by simpa using hs.2.2⟩
 ·rw [qdQ _ _ _ (by omega)]
  show (List.set _ _ _).length = m
  rw [vab]; exact hl
end
theorem qid (a0 : LI) (w0 : Fit (.sl (.int .i64)) a0) : ∃ k,qab.f k a0 = some true := by
 refine ⟨300000,?_⟩
 obtain ⟨nm,sz,N,O,S,hg,hm,hG,hN,hO,hx⟩ := qfQ (qoN w0) 300000 (vac _)
 have hsm : ∀ x ∈ N,smN x := fun x hx => by
  obtain ⟨h1,h2,h3,_⟩ := hG.ti x hx
  exact ⟨by omega,by omega,by omega⟩
 have hsz : sz.length <= 100000 := by
  have h3 := hm.right.2.1
  unfold zNR at h3
  simp at h3
  omega
 have hsame := qeB sz nm N O sz nm N O hsz (by omega) (by omega) hsm 300000 (vac _)
 rw [qj9] at hsame
 unfold qab.f
 rw [hg,obs,obs,qj8 sz nm N O hsz (by omega) (by omega) hsm 300000 (vac _),obs,hsame,obs,if_pos rfl]
 dsimp only
 obtain ⟨r0,e0,_⟩ := iterE (L := fun n i y => qab.l0 n sz.length i nm nm nm sz N O sz N O y N O) (m := sz.length) (fun _ y => y.length = sz.length) (fun _=>True) (fun n y h => ⟨y,by rw [qab.l0,ifq],trivial⟩) 0 (fun i n y hi _ h => by
  rw [qab.l0,ifp,ifp,ifp,tNc,qam hi (by omega)]
  exact ⟨_,by rw [vab]; exact h,rfl⟩) sz.length 0 sz 300000 (by omega) (by omega) rfl
 have e0 : qab.l0 300000 sz.length 0 nm nm nm sz N O sz N O sz N O = some r0 := e0
 rw [e0,obs]
 obtain ⟨r1,e1,_⟩ := iterE (L := fun n i y => qab.l1 n O.length i nm nm nm sz N O sz N O r0 N y) (m := O.length) (fun _ y => y.length = O.length) (fun _=>True) (fun n y h => ⟨y,by rw [qab.l1,ifq],trivial⟩) 0 (fun i n y hi _ h => by
  rw [qab.l1,ifp,ifp,ifp,tNc,qam hi (by omega)]
  exact ⟨_,by rw [vab]; exact h,rfl⟩) O.length 0 O 300000 (by omega) (by omega) rfl
 have e1 : qab.l1 300000 O.length 0 nm nm nm sz N O sz N O r0 N O = some r1 := e1
 rw [e1,obs]
 obtain ⟨r2,e2,_⟩ := iterE (L := fun n i y => qab.l2 300000 n N.length i nm nm nm sz N O sz N O r0 y r1) (m := N.length) (fun _ y => bnd N.length y) (fun _=>True) (fun n y h => ⟨(),by rw [qab.l2,ifq],trivial⟩) 200000 (fun i n y hi hf h => by
  have hc : N.length <= 100000 := by omega
  have hs := h.2 i
  have hl := h.1
  have hl' : (y.getD i ln0) = y.getD i nd0 := rfl
  rw [qab.l2,ifp,ifp,ifp,tNc]
  obtain ⟨q3,e3,h3⟩ := qnz nm nm nm sz N O sz N O r0 r1 N.length i N.length i hi hc _ hs.1 _ (h.set (x := i) (v := ((y.getD i nd0).1,(y.getD i nd0).2.1,(y.getD i nd0).2.2.1,(y.getD i nd0).2.2.2.1,IntKind.i64.wrap ((y.getD i nd0).2.2.2.2.1 + 1),(y.getD i nd0).2.2.2.2.2.1,(y.getD i nd0).2.2.2.2.2.2)) hs) (by rw [qdQ _ _ _ (by omega)]) n (by have := hs.1; omega)
  have s3 := h3.2 i
  rw [e3,obs,if_pos (by have := h3.1; omega),if_pos (by have := h3.1; omega)]
  obtain ⟨q4,e4,h4⟩ := qny nm nm nm sz N O sz N O r0 r1 N.length i N.length i hi hc _ s3.2.1 _ (h3.set (x := i) (v := ((q3.getD i nd0).1,(q3.getD i nd0).2.1,(q3.getD i nd0).2.2.1,(q3.getD i nd0).2.2.2.1,(q3.getD i nd0).2.2.2.2.1,(q3.getD i nd0).2.2.2.2.2.1,(q3.getD i nd0).2.2.2.2.2.2)) s3) (by rw [qdQ _ _ _ (by have := h3.1; omega)]) n (by have := s3.2.1; omega)
  have s4 := h4.2 i
  rw [e4,obs,if_pos (by have := h4.1; omega),if_pos (by have := h4.1; omega)]
  obtain ⟨q5,e5,h5⟩ := qnx nm nm nm sz N O sz N O r0 r1 N.length i N.length i hi hc _ s4.2.2 _ (h4.set (x := i) (v := ((q4.getD i nd0).1,(q4.getD i nd0).2.1,(q4.getD i nd0).2.2.1,(q4.getD i nd0).2.2.2.1,(q4.getD i nd0).2.2.2.2.1,(q4.getD i nd0).2.2.2.2.2.1,(q4.getD i nd0).2.2.2.2.2.2)) s4) (by rw [qdQ _ _ _ (by have := h4.1; omega)]) n (by have := s4.2.2; omega)
  rw [e5,obs,qam hi (by omega)]
  exact ⟨q5,h5,rfl⟩) N.length 0 N 300000 (by omega) (by omega) ⟨rfl,fun j => by
   by_cases hj : j < N.length
   ·exact hsm _ (qas hj nd0)
   ·rw [gDg,vak (by omega)]; exact ⟨by simp [nd0],by simp [nd0],by simp [nd0]⟩⟩
 have e2 : qab.l2 300000 300000 N.length 0 nm nm nm sz N O sz N O r0 N r1 = some r2 := e2
 rw [e2,obs,obs,if_pos rfl,qhp sz nm N O hsz (by omega) (by omega) hsm 300000 (vac _),obs,if_pos rfl,known10 300000 (vac _),obs]
end Go.Pf

namespace Go.Pf
open Go Go.Vm
def Vd (m : Int) (sp : LI) : Prop := (∀ x ∈ sp,-1 <= x /\ x < m) /\ sp.Pairwise fun x y => 0 <= x -> x ≠ y
theorem qln {m : Int} : ∀ {sp pre : LI},okGo m pre sp = true ↔ (∀ x ∈ sp,-1 <= x /\ x < m /\ (0 <= x -> x ∉ pre)) /\ sp.Pairwise fun x y => 0 <= x -> x ≠ y
 | [],pre => by simp [okGo]
 | k :: r,pre => by
  rw [okGo,List.pairwise_cons]
  simp only [bAt,qln (sp := r),decide_eq_true_eq,Bool.or_eq_true,Bool.not_eq_true',decide_eq_false_iff_not,vaj,vae,vai]
  grind
theorem qm4 {m : Int} {sp : LI} : okGo m [] sp = true ↔ Vd m sp := by
 rw [qln]; unfold Vd; simp
theorem qoC {m : Int} {sp : LI} (h : Vd m sp) {i j : Nat} (hi : i < sp.length) (hj : j < sp.length) (h0 : 0 <= sp.getD i 0) (he : sp.getD i 0 = sp.getD j 0) : i = j := by
 have hp := vah.1 h.2
 rw [gDg,vaa hi] at h0 he
 rw [gDg,vaa hj] at he
 simp only [vaA] at h0 he
 rcases vaD i j with c | c | c
 ·exact absurd he (hp i j hi hj c h0)
 ·exact c
 ·exact absurd he.symm (hp j i hj hi c (by rw [<- he]; exact h0))
theorem qpz {m : Int} {sp : LI} (h1 : ∀ j,j < sp.length -> -1 <= sp.getD j 0 /\ sp.getD j 0 < m) (h2 : ∀ i j,i < sp.length -> j < sp.length -> 0 <= sp.getD i 0 -> sp.getD i 0 = sp.getD j 0 -> i = j) : Vd m sp := by
 refine ⟨fun x hx => ?_,vah.2 fun i j hi hj hij h0 he => ?_⟩
 ·obtain ⟨j,hj,rfl⟩ := vaz hx
  have := h1 j hj
  rwa [gDg,vaa hj] at this
 ·have := h2 i j hi hj (by rw [gDg,vaa hi]; exact h0) (by rw [gDg,vaa hi,gDg,vaa hj]; simpa using he)
  omega
theorem qoB {m : Int} {sp : LI} (h : Vd m sp) {j : Nat} (hj : j < sp.length) : -1 <= sp.getD j 0 /\ sp.getD j 0 < m := h.1 _ (qas hj 0)
theorem qiG {m r : Int} (h0 : 0 <= m) (hr0 : 0 <= r) (hr : r <= 4) : Vd m (mW r) /\ (mW r).length = r.toNat := by
 unfold mW
 rw [if_pos ⟨hr0,hr⟩]
 refine ⟨⟨fun x hx => ?_,?_⟩,vag⟩
 ·rw [List.eq_of_mem_replicate hx]; omega
 ·refine List.pairwise_replicate.2 (.inr (fun h => by omega))
theorem ql6 {a : LI} (h : a.Nodup) {i j : Nat} (hi : i < a.length) (hj : j < a.length) (he : a.getD i 0 = a.getD j 0) : i = j := by
 have hp := vah.1 h
 rw [gDg,vaa hi,gDg,vaa hj] at he
 simp only [vaA] at he
 rcases vaD i j with c | c | c
 ·exact absurd he (hp i j hi hj c)
 ·exact c
 ·exact absurd he.symm (hp j i hj hi c)
theorem qnM {m : Int} {sp a : LI} (h : Vd m sp) (ha : Perm' sp.length a) (hl : sp.length <= 1000) (k : Nat) (hk : 2000 <= k) : ∃ r,qbb.f k sp a = some r /\ Vd m r /\ r.length = a.length := by
 have hla := ha.len
 have hm : ∀ t,t < a.length -> 0 <= a.getD t 0 /\ a.getD t 0 < (sp.length : Int) := fun t ht => ha.mem _ (qas ht 0)
 obtain ⟨r,e,h1,h2⟩ := iterE (L := fun n i y => qbb.l0 n sp a a.length i y) (m := a.length) (fun i y => y.length = i /\ ∀ t,t < i -> y.getD t 0 = sp.getD (a.getD t 0).toNat 0) (fun y => y.length = a.length /\ ∀ t,t < a.length -> y.getD t 0 = sp.getD (a.getD t 0).toNat 0)
  (fun n y h => ⟨y,by rw [qbb.l0,ifq],h⟩) 0 (fun i n y hi _ ⟨hy,hg⟩ => by
   have := hm i hi
   rw [qbb.l0,ifp,ifp,tNc,if_pos this,if_pos (by rw [lSi]; omega),qam hi (by omega)]
   refine ⟨_,⟨by rw [lAp,lSi,hy],fun t ht => ?_⟩,rfl⟩
   rw [gDg,van]
   by_cases c : t < y.length
   ·rw [if_pos c,<- gDg]; exact hg t (by omega)
   ·rw [if_neg c]
    have : t = i := by omega
    subst this
    rw [hy,vav]; rfl) a.length 0 [] k (by omega) (by omega) ⟨rfl,fun t ht => by omega⟩
 have e : qbb.l0 k sp a a.length 0 [] = some r := e
 refine ⟨r,by unfold qbb.f; rw [e,obs],qpz (fun j hj => ?_) (fun i j hi hj h0 he => ?_),h1⟩
 ·have := hm j (by omega)
  rw [h2 j (by omega)]
  exact qoB h (by omega)
 ·have hi' := hm i (by omega)
  have hj' := hm j (by omega)
  rw [h2 i (by omega)] at h0 he
  rw [h2 j (by omega)] at he
  have := qoC h (by omega) (by omega) h0 he
  exact ql6 ha.nd (by omega) (by omega) (by omega)
theorem qoU {m : Int} {sp s a : LI} (h : Vd m sp) (h0 : 0 <= m) (ha : a.length = sp.length) (hm : ∀ x ∈ a,0 <= x /\ x < (s.length : Int)) (hs : s.length <= 4) (hl : sp.length <= 1000) (k : Nat) (hk : 2000 <= k) : ∃ r,qbh.f k sp s a = some r /\ Vd m r /\ r.length = s.length := by
 obtain ⟨w1,w2⟩ := qiG (m := m) (r := s.length) h0 (by omega) (by omega)
 rw [tNc] at w2
 have hm' : ∀ t,t < a.length -> 0 <= a.getD t 0 /\ a.getD t 0 < (s.length : Int) := fun t ht => hm _ (qas ht 0)
 have hw : ∀ j,j < s.length -> (mW s.length).getD j 0 = -1 := fun j hj => by
  unfold mW
  rw [if_pos ⟨by omega,by omega⟩,gDg,vat,ifp]; rfl
 obtain ⟨r,e,h1,h2⟩ := iterE (L := fun n i y => qbh.l0 n sp a a.length i y) (m := a.length) (fun i y => y.length = s.length /\ ∀ j,j < s.length -> y.getD j 0 = -1 \/ ∃ t,t < i /\ (a.getD t 0).toNat = j /\ y.getD j 0 = sp.getD t 0) (fun y => y.length = s.length /\ ∀ j,j < s.length -> y.getD j 0 = -1 \/ ∃ t,t < a.length /\ (a.getD t 0).toNat = j /\ y.getD j 0 = sp.getD t 0)
  (fun n y h => ⟨y,by rw [qbh.l0,ifq],h⟩) 0 (fun i n y hi _ ⟨hy,hg⟩ => by
   have := hm' i hi
   rw [qbh.l0,ifp,ifp,ifp,tNc,ifp,ifp,qam hi (by omega)]
   refine ⟨_,⟨by rw [vab,hy],fun j hj => ?_⟩,rfl⟩
   rw [qcu]
   by_cases c : j = (a.getD i 0).toNat
   ·rw [if_pos ⟨c,by omega⟩]; exact .inr ⟨i,by omega,c.symm,rfl⟩
   ·rw [if_neg (fun hh => c hh.1)]
    rcases hg j hj with g | ⟨t,g1,g2⟩
    ·exact .inl g
    ·exact .inr ⟨t,by omega,g2⟩) a.length 0 (mW s.length) k (by omega) (by omega) ⟨w2,fun j hj => .inl (hw j hj)⟩
 have e : qbh.l0 k sp a a.length 0 (mW s.length) = some r := e
 refine ⟨r,by unfold qbh.f; rw [qgg _ k (by omega),obs,ifp,nAp,e,obs],qpz (fun j hj => ?_) (fun i j hi hj g0 he => ?_),h1⟩
 ·rcases h2 j (by omega) with g | ⟨t,g1,g2,g3⟩
  ·rw [g]; omega
  ·rw [g3]; exact qoB h (by omega)
 ·rcases h2 i (by omega) with g | ⟨t,g1,g2,g3⟩
  ·omega
  rcases h2 j (by omega) with g | ⟨t',g1',g2',g3'⟩
  ·omega
  have := qoC h (i := t) (j := t') (by omega) (by omega) (by omega) (by omega)
  subst this
  omega
theorem qgY (a : LI) : ∀ (j : Nat) (s : LI),(lefI a j s).Sublist s
 | _,[] => List.Sublist.refl _
 | j,x :: r => by
  rw [lefI]
  split
  ·exact (qgY a (j + 1) r).cons _
  ·exact (qgY a (j + 1) r).cons_cons _
theorem qj1 (a : LI) : ∀ (j : Nat) (s t : LI),s.length = t.length -> (lefI a j s).length = (lefI a j t).length
 | _,[],[],_ => rfl
 | j,x :: r,y :: q,h => by
  have := qj1 a (j + 1) r q (by simpa using h)
  rw [lefI,lefI]
  split <;> simp [this]
theorem qpJ {m : Int} {sp a : LI} (h : Vd m sp) (ha : zRi sp.length (-1) a = true) (hl : sp.length ≤ 1000) (hla : a.length ≤ 1000) (k : Nat) (hk : 2000 ≤ k) : ∃ r,qbf.f k sp a = some r ∧ Vd m r ∧ r = lef a sp := by
  obtain ⟨r,e,h1⟩ := iterE (L := fun n i (y : LI × LI) => qbf.l0 n y.1 sp sp.length i y.2) (m := sp.length) (fun i y => (∃ l,zRi sp.length l y.1 = true) ∧ y.1.length ≤ 1000 ∧ (∀ x ∈ y.1,(i : Int) ≤ x) ∧ (∀ j : Nat,i ≤ j → ((j : Int) ∈ a ↔ (j : Int) ∈ y.1)) ∧ y.2.length ≤ i ∧ y.2 ++ lefI a i (sp.drop i) = lef a sp) (fun y => y = lef a sp)
    (fun n y h => ⟨y.2,by rw [qbf.l0,ifq],by
      have := h.2.2.2.2.2
      rwa [dNl (vac _),lefI,List.append_nil] at this⟩) 0 (fun i n y hi _ ⟨⟨l,h1⟩,h2,h3,h4,h5,h6⟩ => by
      obtain ⟨b,y⟩ := y
      dsimp only at h1 h2 h3 h4 h5 h6 ⊢
      rw [qaj hi (0 : Int),lefI] at h6
      rw [qbf.l0,ifp,ifp]
      cases b with
      | nil =>
        rw [if_neg (fun hh => by have := (h4 i (vac _)).1 hh; cases this)] at h6
        rw [if_neg (by simp),if_pos (by rw [lSi]; omega),qam hi (by omega)]
        exact ⟨([],y ++ [sp.getD i 0]),⟨⟨l,h1⟩,h2,(fun x hx => by cases hx),fun j hj => h4 j (by omega),by rw [lAp,lSi]; omega,by rw [aAs]; exact h6⟩,by rw [tNc]⟩
      | cons x b =>
        have hx := h3 x vaB
        have hr := qcm.1 h1
        have hgt := qie hr.2
        rw [if_pos (by simp),if_pos (by simp)]
        by_cases c : x = (i : Int)
        · have c' : (x :: b).getD 0 0 = (i : Int) := c
          rw [if_pos ((h4 i (vac _)).2 (by rw [← c]; exact vaB))] at h6
          rw [if_pos c',if_pos (by simp; omega),qam hi (by omega)]
          refine ⟨(b,y),⟨⟨x,hr.2⟩,(show b.length ≤ 1000 by simp at h2; omega),fun z hz => by have := hgt z hz; omega,fun j hj => (h4 j (by omega)).trans ⟨fun hh => ?_,fun hh => mCm _ hh⟩,(show y.length ≤ i + 1 by omega),h6⟩,by rw [vap]; rfl⟩
          rcases vai.1 hh with hh | hh
          · omega
          · exact hh
        · have c' : ¬ (x :: b).getD 0 0 = (i : Int) := c
          have hni : (i : Int) ∉ x :: b := fun hh => by
            rcases vai.1 hh with hh | hh
            · exact c hh.symm
            · have := hgt _ hh; omega
          rw [if_neg (fun hh => hni ((h4 i (vac _)).1 hh))] at h6
          rw [if_neg c',if_pos (by rw [lSi]; omega),qam hi (by omega)]
          refine ⟨(x :: b,y ++ [sp.getD i 0]),⟨⟨l,h1⟩,h2,fun z hz => ?_,fun j hj => h4 j (by omega),by rw [lAp,lSi]; omega,by rw [aAs]; exact h6⟩,by rw [tNc]⟩
          rcases vai.1 hz with rfl | hz
          · omega
          · have := hgt z hz; omega) sp.length 0 (a,[]) k (by omega) (by omega) ⟨⟨-1,ha⟩,hla,fun x hx => by have := qie ha x hx; omega,fun j _ => Iff.rfl,vac _,rfl⟩
  have e : qbf.l0 k a sp sp.length 0 [] = some r := e
  refine ⟨r,by unfold qbf.f; rw [e,obs],?_,h1⟩
  rw [h1]
  exact ⟨fun x hx => h.1 x ((qgY a 0 sp).subset hx),h.2.sublist (qgY a 0 sp)⟩
end Go.Pf

namespace Go.Pf
open Go Go.Vm
theorem qmu {out : List LI} : ∀ {l : LI} {r : List LI},zIn out l = some r -> ∀ t,t < l.length -> (0 <= l.getD t 0 /\ l.getD t 0 < (out.length : Int)) /\ r.getD t [] = out.getD (l.getD t 0).toNat []
 | [],_,_,t,ht => by cases ht
 | x :: l,r,h,t,ht => by
  rw [zIn] at h
  split at h
  ·cases h
  ·rename_i hc
   obtain ⟨q,hq,rfl⟩ := Option.map_eq_some_iff.1 h
   cases t with
   | zero => exact ⟨⟨by show 0 <= x; omega,by show x < _; omega⟩,rfl⟩
   | succ t => exact qmu hq t (by simpa using ht)
structure NdF (S : List LI) (x : Nd) (i : Nat) : Prop where
 lt : ∀ t,t < x.2.1.length -> 0 <= x.2.1.getD t 0 /\ x.2.1.getD t 0 < (i : Int)
 al : 4 <= x.1 -> x.1 <= 12 -> ∀ t,t < x.2.1.length -> (S.getD (x.2.1.getD t 0).toNat []).length = (S.getD i []).length
 tu : x.1 = 13 -> ∀ t,t < x.2.1.length -> Perm' (S.getD (x.2.1.getD t 0).toNat []).length x.2.2.2.1 /\ x.2.2.2.1.length = (S.getD i []).length
 wi : x.1 = 14 -> ∀ t,t < x.2.1.length -> x.2.2.2.1.length = (S.getD (x.2.1.getD t 0).toNat []).length /\ (∀ k ∈ x.2.2.2.1,0 <= k /\ k < (x.2.2.1.length : Int)) /\ x.2.2.1.length = (S.getD i []).length
 le : x.1 = 18 -> ∀ t,t < x.2.1.length -> zRi (S.getD (x.2.1.getD t 0).toNat []).length (-1) x.2.2.2.1 = true /\ (lef x.2.2.2.1 (S.getD (x.2.1.getD t 0).toNat [])).length = (S.getD i []).length
theorem qmq {o : LI} : ∀ {l : Int} {s a : LI},-1 <= l -> zWi o l s a = true -> ∀ k ∈ a,0 <= k /\ k < (o.length : Int)
 | _,[],[],_,_,k,hk => by cases hk
 | l,x :: s,y :: a,hl,h,k,hk => by
  obtain ⟨h1,h2⟩ := qc8.1 h
  rcases vai.1 hk with rfl | hk
  ·omega
  ·exact qmq (by omega) h2 k hk
theorem NdF.of {nm : LI} {S : List LI} {N : List Nd} (h : zGo nm N [] = (0,S)) (hS : S.length = N.length) {i : Nat} (hi : i < N.length) : NdF S (N.getD i nd0) i := by
 have hz := qk7 nm N [] S h i hi
 simp only [var,vau] at hz
 generalize hx : N.getD i nd0 = x at hz
 unfold zNd at hz
 split at hz
 ·cases hz
 rename_i l hl
 have hg := qmu hl
 have hlen := qiE hl
 have htk : ∀ j,j < i -> (S.take i).getD j [] = S.getD j [] := fun j hj => by
  rw [gDg,List.getElem?_take,if_pos hj,<- gDg]
 have hlt : ∀ t,t < x.2.1.length -> 0 <= x.2.1.getD t 0 /\ x.2.1.getD t 0 < (i : Int) := fun t ht => by
  have := (hg t ht).1
  rw [lTk] at this
  omega
 have hget : ∀ t,t < x.2.1.length -> l.getD t [] = S.getD (x.2.1.getD t 0).toNat [] := fun t ht => by
  have := hlt t ht
  rw [(hg t ht).2,htk _ (by omega)]
 split at hz
 rotate_left
 ·rename_i hne
  exact absurd (congrArg Prod.fst hz) hne
 rename_i h0
 have hs : (zSh x.1 x.2.2.1 x.2.2.2.1 x.2.2.2.2.1 x.2.2.2.2.2.1 l).2 = S.getD i [] := congrArg Prod.snd hz
 unfold zSh at h0 hs
 by_cases hF : zF x.1 x.2.2.1.length x.2.2.2.1.length x.2.2.2.2.1 x.2.2.2.2.2.1 l.length = true
 rotate_left
 ·rw [if_neg hF] at h0; cases h0
 rw [if_pos hF] at h0 hs
 by_cases hA : l.all mSR = true
 rotate_left
 ·rw [if_neg hA] at h0; cases h0
 rw [if_pos hA] at h0 hs
 have h1 : ∀ op,x.1 = op -> (op = 13 \/ op = 14 \/ op = 18) -> ∀ t,t < x.2.1.length -> t = 0 := fun op ho hop t ht => by
  rw [ho] at hF
  rcases hop with rfl | rfl | rfl <;> simp [zF,tq] at hF <;> omega
 refine ⟨hlt,fun c1 c2 t ht => ?_,fun c t ht => ?_,fun c t ht => ?_,fun c t ht => ?_⟩
 ·unfold zShape at h0 hs
  rw [ifq,ifq,ifq,ifq,ifq,ifq,ifq,ifq,ifq,ifq] at h0 hs
  split at h0
  ·rename_i hall
   rw [if_pos hall] at hs
   have := List.all_eq_true.1 hall (l.getD t []) (qas (by omega) [])
   rw [decide_eq_true_eq] at this
   rw [<- hget t ht,this,<- hs]
  ·cases h0
 ·obtain rfl := h1 13 c (.inl rfl) t ht
  rw [c] at h0 hs
  unfold zShape at h0 hs
  simp only [vax,or_self,reduceIte] at h0 hs
  split at h0
  ·rename_i hp
   rw [if_pos hp] at hs
   rw [<- hget 0 ht,<- hs]
   have := qeO.1 hp
   exact ⟨this,by simp [pick]⟩
  ·cases h0
 ·obtain rfl := h1 14 c (.inr (.inl rfl)) t ht
  rw [c] at h0 hs
  unfold zShape at h0 hs
  simp only [vax,or_self,reduceIte] at h0 hs
  split at h0
  ·rename_i hr
   rw [if_pos hr] at hs
   split at h0
   ·rename_i hw
    rw [if_pos hw] at hs
    have hs : x.2.2.1 = S.getD i [] := hs
    rw [<- hget 0 ht,<- hs]
    exact ⟨qg3 hw,qmq (Int.le_refl _) hw,rfl⟩
   ·cases h0
  ·cases h0
 ·obtain rfl := h1 18 c (.inr (.inr rfl)) t ht
  rw [c] at h0 hs
  unfold zShape at h0 hs
  simp only [vax,or_self,reduceIte] at h0 hs
  split at h0
  ·rename_i hh
   rw [if_pos hh] at hs
   split at h0
   ·rename_i hr
    rw [if_pos hr] at hs
    split at h0
    ·rename_i hm
     rw [if_pos hm] at hs
     have hs : lef x.2.2.2.1 (l.getD 0 []) = S.getD i [] := hs
     rw [<- hget 0 ht,<- hs]
     exact ⟨hr,rfl⟩
    ·cases h0
   ·cases h0
  ·cases h0
structure Inv (m : Int) (S : List LI) (c : Nat) (Fl : Prop) (y2 : List LI) (y3 : List Bool) : Prop where
 l2 : y2.length = c
 l3 : y3.length = c
 vd : ∀ j,j < c -> y3.getD j false = true -> Vd m (y2.getD j []) /\ (y2.getD j []).length = (S.getD j []).length
 fl : (∃ j,y3.getD j false = true) -> Fl
section
variable {m : Int} {S : List LI} {c : Nat} (hm0 : 0 <= m) (hc : c <= 1000) (hS : S.length = c) (hr : ∀ j,(S.getD j []).length <= 4) (k : Nat) (hk : 2000 <= k)
include hm0 hc hS hr hk
theorem qjT {Fl : Prop} {y2 : List LI} {y3 : List Bool} (hI : Inv m S c Fl y2 y3) {x : Nd} {i : Nat} (hi : i < c) (hx : NdF S x i) (ha : x.2.2.2.1.length ≤ 1000) (hIn : x.2.1.length ≤ 1000) (g1 : LI) (g2 : ByteArray) (g3 : List Nd) (g4 : LI) (y1 : List LI) :
    ∀ (d t n : Nat),x.2.1.length = t + d → d < n → ∃ r,qaF.l0 k n x.2.1 x.2.1.length t g1 g2 g3 g4 y1 y2 y3 x.1 x.2.1 x.2.2.1 x.2.2.2.1 x.2.2.2.2.1 x.2.2.2.2.2.1 x.2.2.2.2.2.2 = some r ∧ ∀ sp,r = .inr sp → Vd m sp ∧ sp.length = (S.getD i []).length ∧ Fl
  | 0,t,n,ht,hn => by
    obtain ⟨n,rfl⟩ := sun (n := n)
    rw [qaF.l0,ifq]
    exact ⟨_,rfl,fun sp h => by cases h⟩
  | d + 1,t,n,ht,hn => by
    obtain ⟨n,rfl⟩ := sun (n := n)
    have ih := qjT hI hi hx ha hIn g1 g2 g3 g4 y1 d (t + 1) n (by omega) (by omega)
    have htl : t < x.2.1.length := by omega
    have hlt := hx.lt t htl
    have h2 := hI.l2
    have h3 := hI.l3
    rw [qaF.l0,ifp,ifp,tNc,ifp,ifp,qam htl (by omega)]
    by_cases ck : y3.getD (x.2.1.getD t 0).toNat false = true
    · rw [if_pos ck,ifp,ifp]
      obtain ⟨hv,hl⟩ := hI.vd _ (by omega) ck
      have hFl := hI.fl ⟨_,ck⟩
      have hrk := hr (x.2.1.getD t 0).toNat
      unfold qcU.f
      by_cases c4 : 4 ≤ x.1
      · rw [if_pos c4,obs]
        by_cases c12 : x.1 ≤ 12
        · rw [if_pos (decide_eq_true c12),ifp,nAp]
          exact ⟨_,rfl,fun sp h => by cases h; exact ⟨hv,hl.trans (hx.al c4 c12 t htl),hFl⟩⟩
        · rw [if_neg (by simpa using c12)]
          by_cases c13 : x.1 = 13
          · obtain ⟨p1,p2⟩ := hx.tu c13 t htl
            rw [← hl] at p1
            obtain ⟨r,e,v1,v2⟩ := qnM hv p1 (by omega) k hk
            rw [if_pos c13,e,obs]
            exact ⟨_,rfl,fun sp h => by cases h; exact ⟨v1,v2.trans p2,hFl⟩⟩
          by_cases c14 : x.1 = 14
          · obtain ⟨p1,p2,p3⟩ := hx.wi c14 t htl
            have := hr i
            obtain ⟨r,e,v1,v2⟩ := qoU (s := x.2.2.1) hv hm0 (by omega) p2 (by omega) (by omega) k hk
            rw [if_neg c13,if_pos c14,e,obs]
            exact ⟨_,rfl,fun sp h => by cases h; exact ⟨v1,v2.trans p3,hFl⟩⟩
          by_cases c18 : x.1 = 18
          · obtain ⟨p1,p2⟩ := hx.le c18 t htl
            rw [← hl] at p1
            obtain ⟨r,e,v1,v2⟩ := qpJ hv p1 (by omega) ha k hk
            rw [if_neg c13,if_neg c14,if_pos c18,e,obs]
            exact ⟨_,rfl,fun sp h => by cases h; exact ⟨v1,by rw [v2,← p2]; exact qj1 _ 0 _ _ hl,hFl⟩⟩
          · rw [if_neg c13,if_neg c14,if_neg c18]; exact ih
      · rw [if_neg c4,obs,if_neg (by simp),ifq,ifq,ifq]
        exact ih
    · rw [if_neg ck]; exact ih
end
end Go.Pf

namespace Go.Pf
open Go Go.Vm
theorem qki {y : List Bool} {i : Nat} (hi : i < y.length) (h : y.getD i false = false) : (y.set i true).count true = y.count true + 1 := by
 induction y generalizing i with
 | nil => cases hi
 | cons b y ih =>
  cases i with
  | zero =>
   have : b = false := h
   subst this
   simp
  | succ i =>
   have := ih (i := i) (by simpa using hi) h
   simp only [List.set_cons_succ,List.count_cons,this]
   omega
structure Ext (y2 : List LI) (y3 : List Bool) (z2 : List LI) (z3 : List Bool) (w : Bool) : Prop where
 keep : ∀ j,y3.getD j false = true -> z3.getD j false = true /\ z2.getD j [] = y2.getD j []
 cnt : y3.count true <= z3.count true
 up : w = true -> y3.count true < z3.count true
theorem Ext.refl (y2 : List LI) (y3 : List Bool) : Ext y2 y3 y2 y3 false := ⟨fun _ h => ⟨h,rfl⟩,vac _,fun h => by cases h⟩
theorem Ext.trans {y2 z2 u2 : List LI} {y3 z3 u3 : List Bool} {w w' v : Bool} (h : Ext y2 y3 z2 z3 w) (h' : Ext z2 z3 u2 u3 w') (hv : v = true -> w = true \/ w' = true) : Ext y2 y3 u2 u3 v := by
 refine ⟨fun j hj => ?_,Nat.le_trans h.cnt h'.cnt,fun hh => ?_⟩
 ·obtain ⟨a,b⟩ := h.keep j hj
  obtain ⟨a',b'⟩ := h'.keep j a
  exact ⟨a',b'.trans b⟩
 ·have := h.cnt
  have := h'.cnt
  rcases hv hh with e | e
  ·have := h.up e; omega
  ·have := h'.up e; omega
section
variable {m : Int} {S : List LI} {c : Nat} (hm0 : 0 <= m) (hc : c <= 1000) (hS : S.length = c) (hr : ∀ j,(S.getD j []).length <= 4) (k : Nat) (hk : 2000 <= k)
variable {Fl : Prop} {y2 : List LI} {y3 : List Bool} (g1 : LI) (g2 : ByteArray) (g3 : List Nd) (g4 : LI) (y1 : List LI)
theorem qlA (hI : Inv m S c Fl y2 y3) {i : Nat} (hi : i < c) {b : Bool} {sp : LI} (hv : b = false -> Vd m sp /\ sp.length = (S.getD i []).length /\ Fl) :
  ∃ w z2 z3,qbp.f i b sp g1 g2 g3 g4 y1 y2 y3 = some (w,z2,z3) /\ Inv m S c Fl z2 z3 /\ Ext y2 y3 z2 z3 w := by
 have h2 := hI.l2
 have h3 := hI.l3
 unfold qbp.f
 rw [ifp,ifp,tNc]
 by_cases ck : y3.getD i false = true
 ·rw [if_pos ck]; exact ⟨_,_,_,rfl,hI,Ext.refl _ _⟩
 rw [if_neg ck]
 by_cases cb : b = true
 ·rw [if_pos cb]; exact ⟨_,_,_,rfl,hI,Ext.refl _ _⟩
 rw [if_neg cb,ifp,ifp]
 obtain ⟨v1,v2,v3⟩ := hv (by simpa using cb)
 refine ⟨_,_,_,rfl,⟨by rw [vab,h2],by rw [vab,h3],fun j hj hjk => ?_,fun _=>v3⟩,⟨fun j hj => ?_,?_,fun _=>?_⟩⟩
 ·rw [qcu] at hjk ⊢
  by_cases e : j = i
  ·subst e
   rw [if_pos ⟨rfl,by omega⟩]; exact ⟨v1,v2⟩
  ·rw [if_neg (fun h => e h.1)] at hjk ⊢
   exact hI.vd j hj hjk
 ·have e : j ≠ i := fun e => ck (e ▸ hj)
  rw [qcu,qcu,if_neg (fun h => e h.1),if_neg (fun h => e h.1)]
  exact ⟨hj,rfl⟩
 ·rw [qki (by omega) (by simpa using ck)]; omega
 ·rw [qki (by omega) (by simpa using ck)]; omega
include hm0 hc hS hr hk
def NdsF (S : List LI) (N : List Nd) : Prop := ∀ i,i < N.length -> NdF S (N.getD i nd0) i /\ (N.getD i nd0).2.2.2.1.length <= 1000 /\ (N.getD i nd0).2.1.length <= 1000
theorem qm3 (hI : Inv m S c Fl y2 y3) {x : Nd} {i : Nat} (hi : i < c) (hx : NdF S x i) (ha : x.2.2.2.1.length <= 1000) (hIn : x.2.1.length <= 1000) :
  ∃ b sp,qaF.f k x.1 x.2.1 x.2.2.1 x.2.2.2.1 x.2.2.2.2.1 x.2.2.2.2.2.1 x.2.2.2.2.2.2 g1 g2 g3 g4 y1 y2 y3 = some (b,sp) /\ (b = false -> Vd m sp /\ sp.length = (S.getD i []).length /\ Fl) := by
 obtain ⟨r,e,h⟩ := qjT hm0 hc hS hr k hk hI hi hx ha hIn g1 g2 g3 g4 y1 x.2.1.length 0 k (by omega) (by omega)
 have e : qaF.l0 k k x.2.1 x.2.1.length 0 g1 g2 g3 g4 y1 y2 y3 x.1 x.2.1 x.2.2.1 x.2.2.2.1 x.2.2.2.2.1 x.2.2.2.2.2.1 x.2.2.2.2.2.2 = some r := e
 unfold qaF.f
 rw [e,obs]
 cases r with
 | inl u => exact ⟨true,[],rfl,fun h => by cases h⟩
 | inr sp => exact ⟨false,sp,rfl,fun _=>h sp rfl⟩
theorem qn1 {N : List Nd} (hN : N.length = c) (hF : NdsF S N) (hI : Inv m S c Fl y2 y3) (n : Nat) (hn : c < n) :
  ∃ w z2 z3,qag.l0 k n false N N.length 0 g1 g2 g3 g4 y1 y2 y3 = some (w,z2,z3) /\ Inv m S c Fl z2 z3 /\ Ext y2 y3 z2 z3 w := by
 obtain ⟨⟨w,z2,z3⟩,e,h⟩ := iterE (L := fun n i (s : Bool × List LI × List Bool) => qag.l0 k n s.1 N N.length i g1 g2 g3 g4 y1 s.2.1 s.2.2) (m := N.length) (fun _ s => Inv m S c Fl s.2.1 s.2.2 /\ Ext y2 y3 s.2.1 s.2.2 s.1) (fun s => Inv m S c Fl s.2.1 s.2.2 /\ Ext y2 y3 s.2.1 s.2.2 s.1)
  (fun n s h => ⟨s,by rw [qag.l0,ifq],h⟩) 0 (fun i n s hi _ ⟨h1,h2⟩ => by
   obtain ⟨f1,f2,f3⟩ := hF i hi
   obtain ⟨b,sp,e1,hv⟩ := qm3 hm0 hc hS hr k hk g1 g2 g3 g4 y1 h1 (by omega) f1 f2 f3
   obtain ⟨w,z2,z3,e2,j1,j2⟩ := qlA g1 g2 g3 g4 y1 h1 (show i < c by omega) hv
   rw [qag.l0,ifp,ifp,tNc,e1,obs,e2,obs,qam hi (by omega)]
   cases w with
   | true => exact ⟨(true,z2,z3),⟨j1,h2.trans j2 fun _=>.inr rfl⟩,by rw [if_pos rfl]⟩
   | false => exact ⟨(s.1,z2,z3),⟨j1,h2.trans j2 fun h => .inl h⟩,by rw [if_neg (by simp)]⟩) N.length 0 (false,y2,y3) n (by omega) (by omega) ⟨hI,Ext.refl _ _⟩
 exact ⟨w,z2,z3,e,h⟩
theorem qn0 {x : Nd} {i : Nat} (hi : i < c) (hx : NdF S x i) (h4 : 4 <= x.1 /\ x.1 <= 12) (hIn : x.2.1.length <= 1000) (hI : Inv m S c Fl y2 y3) (hki : y3.getD i false = true) (w0 : Bool) (n : Nat) (hn : x.2.1.length < n) :
  ∃ w z2 z3,qag.l2 n w0 i x.2.1 x.2.1.length 0 g1 g2 g3 g4 y1 y2 y3 = some (w,z2,z3) /\ Inv m S c Fl z2 z3 /\ ∃ v,Ext y2 y3 z2 z3 v /\ (w = true -> w0 = true \/ v = true) := by
 obtain ⟨⟨w,z2,z3⟩,e,h⟩ := iterE (L := fun n t (s : Bool × List LI × List Bool) => qag.l2 n s.1 i x.2.1 x.2.1.length t g1 g2 g3 g4 y1 s.2.1 s.2.2) (m := x.2.1.length) (fun _ s => Inv m S c Fl s.2.1 s.2.2 /\ ∃ v,Ext y2 y3 s.2.1 s.2.2 v /\ (s.1 = true -> w0 = true \/ v = true)) (fun s => Inv m S c Fl s.2.1 s.2.2 /\ ∃ v,Ext y2 y3 s.2.1 s.2.2 v /\ (s.1 = true -> w0 = true \/ v = true))
  (fun n s h => ⟨s,by rw [qag.l2,ifq],h⟩) 0 (fun t n s ht _ ⟨h1,v,h2,hw⟩ => by
   have hlt := hx.lt t ht
   have e2 := h1.l2
   obtain ⟨q1,q2⟩ := h2.keep i hki
   obtain ⟨v1,v2⟩ := h1.vd i hi q1
   have hri := hr i
   obtain ⟨j,hj⟩ : ∃ j : Nat,x.2.1.getD t 0 = j := ⟨(x.2.1.getD t 0).toNat,by omega⟩
   have hal := hx.al h4.1 h4.2 t ht
   rw [hj,tNc] at hal
   obtain ⟨w,z2,z3,e3,j1,j2⟩ := qlA (b := false) (sp := s.2.1.getD i []) g1 g2 g3 g4 y1 h1 (show j < c by omega) (fun _=>⟨v1,by rw [v2,hal],h1.fl ⟨i,q1⟩⟩)
   rw [qag.l2,ifp,ifp,ifp,tNc,ifp,ifp,nAp,tNc,hj,e3,obs,qam ht (by omega)]
   cases w with
   | true => exact ⟨(true,z2,z3),⟨j1,true,h2.trans j2 fun _=>.inr rfl,fun _=>.inr rfl⟩,by rw [if_pos rfl]⟩
   | false => exact ⟨(s.1,z2,z3),⟨j1,v,h2.trans j2 fun h => .inl h,hw⟩,by rw [if_neg (by simp)]⟩) x.2.1.length 0 (w0,y2,y3) n (by omega) (by omega) ⟨hI,false,Ext.refl _ _,fun h => .inl h⟩
 exact ⟨w,z2,z3,e,h⟩
theorem qiU {N : List Nd} (hN : N.length = c) (hF : NdsF S N) : ∀ (i n : Nat) {y2 : List LI} {y3 : List Bool} (w0 : Bool),i ≤ c → i + 1001 < n → Inv m S c Fl y2 y3 →
    ∃ w z2 z3,qag.l1 k n w0 ((i : Int) - 1) g1 g2 N g4 y1 y2 y3 = some (w,z2,z3) ∧ Inv m S c Fl z2 z3 ∧ ∃ v,Ext y2 y3 z2 z3 v ∧ (w = true → w0 = true ∨ v = true)
  | 0,n,y2,y3,w0,hi,hn,hI => by
    obtain ⟨n,rfl⟩ := sun (n := n)
    rw [qag.l1,ifq]
    exact ⟨_,_,_,rfl,hI,false,Ext.refl _ _,fun h => .inl h⟩
  | i + 1,n,y2,y3,w0,hi,hn,hI => by
    obtain ⟨n,rfl⟩ := sun (n := n)
    have e0 : (((i + 1 : Nat) : Int) - 1) = (i : Int) := by omega
    have e2 := hI.l2
    have e3 := hI.l3
    have hw : IntKind.i64.wrap ((i : Int) - 1) = (i : Int) - 1 := qaq (by omega) (by omega)
    obtain ⟨f1,f2,f3⟩ := hF i (by omega)
    have ih := qiU hN hF i n w0 (by omega) (by omega) hI
    rw [e0,qag.l1,ifp,ifp,ifp,tNc,ifp,hw]
    by_cases ck : y3.getD i false = true
    · rw [if_pos ck]
      unfold qcU.f
      by_cases c4 : 4 ≤ (N.getD i nd0).1
      · by_cases c12 : (N.getD i nd0).1 ≤ 12
        · obtain ⟨w,z2,z3,e,j1,v,j2,j3⟩ := qn0 hm0 hc hS hr k hk g1 g2 N g4 y1 (show i < c by omega) f1 ⟨c4,c12⟩ f3 hI ck w0 n (by omega)
          obtain ⟨w',u2,u3,e',l1,v',l2,l3⟩ := qiU hN hF i n w (by omega) (by omega) j1
          rw [if_pos c4,obs,if_pos (decide_eq_true c12),e,obs]
          refine ⟨w',u2,u3,e',l1,v || v',j2.trans l2 fun h => by simpa using h,fun h => ?_⟩
          rcases l3 h with h | h
          · rcases j3 h with h | h
            · exact .inl h
            · exact .inr (by simp [h])
          · exact .inr (by simp [h])
        · rw [if_pos c4,obs,if_neg (by simpa using c12)]; exact ih
      · rw [if_neg c4,obs,if_neg (by simp)]; exact ih
    · rw [if_neg ck]; exact ih
theorem qnZ {N : List Nd} (hN : N.length = c) (hF : NdsF S N) (hk2 : 3000 <= k) (hI : Inv m S c Fl y2 y3) :
  ∃ w z2 z3,qag.f k g1 g2 N g4 y1 y2 y3 = some (w,z2,z3) /\ Inv m S c Fl z2 z3 /\ Ext y2 y3 z2 z3 w := by
 obtain ⟨w,z2,z3,e,j1,j2⟩ := qn1 hm0 hc hS hr k hk g1 g2 N g4 y1 hN hF hI k (by omega)
 obtain ⟨w',u2,u3,e',l1,v,l2,l3⟩ := qiU hm0 hc hS hr k hk g1 g2 g4 y1 hN hF c k w (vac _) (by omega) j1
 have hw : IntKind.i64.wrap ((N.length : Int) - 1) = (c : Int) - 1 := by rw [hN]; exact qaq (by omega) (by omega)
 refine ⟨w',u2,u3,?_,l1,j2.trans l2 l3⟩
 unfold qag.f
 rw [e,obs,hw,e',obs]
theorem qnI {N : List Nd} (hN : N.length = c) (hF : NdsF S N) (hk2 : 3000 <= k) : ∀ (d n : Nat) {y2 : List LI} {y3 : List Bool},c <= y3.count true + d -> d < n -> Inv m S c Fl y2 y3 ->
  ∃ z2 z3,qat.l1 k n y2 y1 g1 g2 N g4 y3 = some (z2,z3) /\ Inv m S c Fl z2 z3 /\ ∃ v,Ext y2 y3 z2 z3 v
 | d,n,y2,y3,hd,hn,hI => by
  obtain ⟨n,rfl⟩ := sun (n := n)
  obtain ⟨w,z2,z3,e,j1,j2⟩ := qnZ hm0 hc hS hr k hk g1 g2 g4 y1 hN hF hk2 hI
  rw [qat.l1,e,obs]
  cases w with
  | false => rw [if_neg (by simp)]; exact ⟨z2,z3,rfl,j1,false,j2⟩
  | true =>
   have hup := j2.up rfl
   have hle : z3.count true <= c := by rw [<- j1.l3]; exact List.count_le_length
   cases d with
   | zero => omega
   | succ d =>
    obtain ⟨u2,u3,e',l1,v,l2⟩ := qnI hN hF hk2 d n (by omega) (by omega) j1
    rw [if_pos rfl]
    exact ⟨u2,u3,e',l1,false,j2.trans l2 fun h => by cases h⟩
end
end Go.Pf

namespace Go.Pf
open Go Go.Vm
theorem qk4 {nm : LI} : ∀ {l y z : LI},zNl nm l y = some z -> Vd nm.length y -> Vd nm.length z
 | [],y,z,h,hv => by cases h; exact hv
 | r :: l,y,z,h,hv => by
  rw [zNl] at h
  split at h
  ·exact qk4 h hv
  split at h
  ·refine qk4 h ⟨fun x hx => ?_,vaw.2 ⟨hv.2,vas _ _,fun a ha b hb h0 => ?_⟩⟩
   ·rcases vaj.1 hx with hx | hx
    ·exact hv.1 x hx
    ·rw [vae.1 hx]; omega
   ·rw [vae.1 hb]; omega
  split at h
  ·cases h
  ·rename_i hc
   refine qk4 h ⟨fun x hx => ?_,vaw.2 ⟨hv.2,vas _ _,fun a ha b hb h0 e => hc (.inr ?_)⟩⟩
   ·rcases vaj.1 hx with hx | hx
    ·exact hv.1 x hx
    ·rw [vae.1 hx]
     rcases qgZ nm r with ⟨e,_⟩ | ⟨j,e,hj,_⟩
     ·omega
     ·omega
   ·rw [vae.1 hb] at e; rw [<- e]; exact ha
theorem qnK {nm l : LI} {r : Int} (h : (zNote nm l r).2.1 = 0) : ((zNote nm l r).2.2 = [] /\ (zNote nm l r).1 = false) \/ ((zNote nm l r).1 = true /\ Vd nm.length (zNote nm l r).2.2 /\ ((zNote nm l r).2.2.length : Int) = r /\ 0 < (zNote nm l r).2.2.length) := by
 unfold zNote at h ⊢
 split at h
 ·cases h
 rename_i h16
 rw [if_neg h16]
 split at h
 ·cases h
 ·rename_i y hy
  split at h
  ·rename_i h0; rw [if_pos h0]; exact .inl ⟨rfl,rfl⟩
  ·rename_i h0
   rw [if_neg h0]
   split at h
   ·rename_i hr
    rw [if_pos hr]
    exact .inr ⟨rfl,qk4 hy ⟨fun x hx => (by cases hx),List.Pairwise.nil⟩,hr,(show 0 < y.length by omega)⟩
   ·cases h
structure GH (sz : LI) (nm : ByteArray) (N : List Nd) (O : LI) (S : List LI) : Prop where
 shs : zShs sz nm N O = (0,S)
 go : zGo (rs nm) N [] = (0,S)
 len : S.length = N.length
 n48 : N.length <= 48
 nms : nm.size <= 100000
 mlen : (rs nm).length = sz.length
 mr : mR sz = true
 ti : ∀ x ∈ N,tiN x
 rk : ∀ j,(S.getD j []).length <= 4
theorem GH.ok {sz : LI} {nm : ByteArray} {N : List Nd} {O : LI} {S : List LI} (h : GH sz nm N O S) : ∀ x ∈ N,okN x := fun x hx => by
 obtain ⟨h1,h2,h3,h4⟩ := h.ti x hx
 exact ⟨by omega,by omega,by omega⟩
theorem GH.nds {sz : LI} {nm : ByteArray} {N : List Nd} {O : LI} {S : List LI} (h : GH sz nm N O S) : NdsF S N := fun i hi => by
 obtain ⟨h1,h2,h3,h4⟩ := h.ti _ (qas hi nd0)
 exact ⟨NdF.of h.go h.len hi,by omega,by omega⟩
def fz (nm : ByteArray) (N : List Nd) (S : List LI) (i : Nat) : Bool × Int × LI := zNote (rs nm) (rs (N.getD i nd0).2.2.2.2.2.2) ((S.getD i []).length : Int)
theorem GH.note {sz : LI} {nm : ByteArray} {N : List Nd} {O : LI} {S : List LI} (h : GH sz nm N O S) {i : Nat} (hi : i < N.length) : (fz nm N S i).2.1 = 0 := by
 have hz := qk7 (rs nm) N [] S h.go i hi
 simp only [var,vau] at hz
 unfold zNd at hz
 split at hz
 ·cases hz
 split at hz
 ·have h1 := congrArg Prod.fst hz
  have h2 := congrArg Prod.snd hz
  dsimp only at h1 h2
  rw [h2] at h1
  exact h1
 ·rename_i hne
  exact absurd (congrArg Prod.fst hz) hne
theorem GH.fzv {sz : LI} {nm : ByteArray} {N : List Nd} {O : LI} {S : List LI} (h : GH sz nm N O S) {i : Nat} (hi : i < N.length) : ((fz nm N S i).2.2 = [] /\ (fz nm N S i).1 = false) \/ ((fz nm N S i).1 = true /\ Vd sz.length (fz nm N S i).2.2 /\ (fz nm N S i).2.2.length = (S.getD i []).length /\ 0 < (fz nm N S i).2.2.length) := by
 rcases qnK (h.note hi) with g | ⟨g1,g2,g3,g4⟩
 ·exact .inl g
 ·rw [h.mlen] at g2
  exact .inr ⟨g1,g2,Int.ofNat.inj g3,g4⟩
theorem qg2 {sz : LI} {nm : ByteArray} {N : List Nd} {O : LI} {S : List LI} (h : GH sz nm N O S) (k : Nat) (hk : 300000 <= k) :
  ∃ F,qaV.f k sz nm N O = some (0,F) /\ F.length = N.length /\ ∀ i,i < N.length -> F.getD i [] = (fz nm N S i).2.2 := by
 have h48 := h.n48
 have hl := h.len
 obtain ⟨F,e,h1,h2⟩ := iterE (L := fun n i y => qaV.l0 k n N N.length i sz nm N O S y) (m := N.length) (fun i y => y.length = N.length /\ ∀ j,j < i -> y.getD j [] = (fz nm N S j).2.2) (fun y => y.length = N.length /\ ∀ j,j < N.length -> y.getD j [] = (fz nm N S j).2.2)
  (fun n y h => ⟨y,by rw [qaV.l0,ifq],h⟩) 0 (fun i n y hi _ ⟨hy,hg⟩ => by
   obtain ⟨_,_,_,t4⟩ := h.ti _ (qas hi nd0)
   have hnm := h.nms
   have en : qbs.f k nm (N.getD i nd0).2.2.2.2.2.2 ((S.getD i []).length : Int) = some (fz nm N S i) := qgu nm _ _ (by omega) (by omega) k (by omega) (by omega)
   rw [qaV.l0,ifp,ifp,ifp,tNc,ifp,en,obs,ifp,ifp,qam hi (by omega)]
   refine ⟨_,⟨by rw [vab,hy],fun j hj => ?_⟩,rfl⟩
   rw [qcu]
   by_cases c : j = i
   ·subst c; rw [if_pos ⟨rfl,by omega⟩]
   ·rw [if_neg (fun hh => c hh.1)]; exact hg j (by omega)) N.length 0 (vao N.length []) k (by omega) (by omega) ⟨vag,fun j hj => by omega⟩
 have e : qaV.l0 k k N N.length 0 sz nm N O S (vao N.length []) = some F := e
 refine ⟨F,?_,h1,h2⟩
 unfold qaV.f
 rw [qcG sz nm N O h.nms h.ok k hk,h.shs,obs,if_pos rfl,ifp,tNc,e,obs]
theorem qlR {sz : LI} {nm : ByteArray} {N : List Nd} {O : LI} {S : List LI} (h : GH sz nm N O S) (k : Nat) (hk : 300000 ≤ k) :
    ∃ L,qat.f k sz nm N O = some (0,L) ∧ L.length = N.length ∧ ∀ i,i < N.length → Vd sz.length (L.getD i []) ∧ (L.getD i []).length = (S.getD i []).length ∧ ((fz nm N S i).2.2 ≠ [] → L.getD i [] = (fz nm N S i).2.2) ∧ ((∀ j,j < N.length → (fz nm N S j).2.2 = []) → L.getD i [] = mW (S.getD i []).length) := by
  have h48 := h.n48
  have hl := h.len
  obtain ⟨F,eF,f1,f2⟩ := qg2 h k hk
  -- what is known at first
  obtain ⟨Y,eY,y1,y2⟩ := iterE (L := fun n i y => qat.l0 n F.length i F S sz nm N O y) (m := F.length) (fun i (y : List Bool) => y.length = F.length ∧ ∀ j,j < i → y.getD j false = decide (0 < ((F.getD j []).length : Int))) (fun y => y.length = F.length ∧ ∀ j,j < F.length → y.getD j false = decide (0 < ((F.getD j []).length : Int)))
    (fun n y h => ⟨y,by rw [qat.l0,ifq],h⟩) 0 (fun i n y hi _ ⟨hy,hg⟩ => by
      rw [qat.l0,ifp,ifp,ifp,ifp,tNc,ifp,qam hi (by omega)]
      refine ⟨_,⟨by rw [vab,hy],fun j hj => ?_⟩,rfl⟩
      rw [qcu]
      by_cases c : j = i
      · subst c; rw [if_pos ⟨rfl,by omega⟩]
      · rw [if_neg (fun hh => c hh.1)]; exact hg j (by omega)) F.length 0 (vao F.length false) k (by omega) (by omega) ⟨vag,fun j hj => by omega⟩
  have eY : qat.l0 k F.length 0 F S sz nm N O (vao F.length false) = some Y := eY
  have hYt : ∀ j,j < N.length → Y.getD j false = true → (fz nm N S j).2.2 ≠ [] := fun j hj hy e => by
    rw [y2 j (by omega),f2 j hj,e] at hy
    simp at hy
  have hYo : ∀ j,Y.getD j false = true → j < N.length := fun j hy => Classical.byContradiction fun hj => by
    rw [gDg,vak (by omega)] at hy; cases hy
  have hI : Inv sz.length S N.length (∃ j,j < N.length ∧ (fz nm N S j).2.2 ≠ []) F Y := ⟨f1,by omega,fun j hj hy => by
    have hn := hYt j hj hy
    rcases h.fzv hj with ⟨e,_⟩ | ⟨_,g2,g3,_⟩
    · exact absurd e hn
    · rw [f2 j hj]; exact ⟨g2,g3⟩,fun ⟨j,hy⟩ => ⟨j,hYo j hy,hYt j (hYo j hy) hy⟩⟩
  obtain ⟨z2,z3,eR,iR,v,xR⟩ := qnI (m := sz.length) (by omega) (by omega) hl h.rk k (by omega) sz nm O S rfl h.nds (by omega) N.length k (by omega) (by omega) hI
  have l2 := iR.l2
  have l3 := iR.l3
  obtain ⟨⟨u2,u3⟩,eL,t1,t2⟩ := iterE (L := fun n i (s : List LI × List Bool) => qat.l2 k n z2.length i S sz nm N O s.1 s.2) (m := z2.length) (fun i s => s.2.length = N.length ∧ s.1.length = N.length ∧ (∀ j,i ≤ j → s.1.getD j [] = z2.getD j [] ∧ s.2.getD j false = z3.getD j false) ∧ ∀ j,j < i → s.1.getD j [] = if z3.getD j false = true then z2.getD j [] else mW (S.getD j []).length) (fun s => s.1.length = N.length ∧ ∀ j,j < N.length → s.1.getD j [] = if z3.getD j false = true then z2.getD j [] else mW (S.getD j []).length)
    (fun n s h => ⟨s,by rw [qat.l2,ifq],h.2.1,fun j hj => h.2.2.2 j (by omega)⟩) 0 (fun i n s hi _ ⟨s0,s1,s2,s3⟩ => by
      obtain ⟨q1,q2⟩ := s2 i (vac _)
      have hrk := h.rk i
      have hw := (qiG (m := sz.length) (r := ((S.getD i []).length : Int)) (by omega) (by omega) (by omega)).2
      rw [qat.l2,ifp,ifp,ifp,tNc,qgg _ k (by omega),obs,ifp,nAp,qam hi (by omega)]
      unfold qbp.f
      rw [ifp,ifp,tNc,q2]
      by_cases ck : z3.getD i false = true
      · rw [if_pos ck,obs]
        refine ⟨s,⟨s0,s1,fun j hj => s2 j (by omega),fun j hj => ?_⟩,rfl⟩
        by_cases c : j = i
        · subst c; rw [if_pos ck,q1]
        · exact s3 j (by omega)
      · rw [if_neg ck,if_neg (by simp),ifp,ifp,obs]
        refine ⟨(s.1.set i (mW (S.getD i []).length),s.2.set i true),⟨by rw [vab,s0],by rw [vab,s1],fun j hj => ?_,fun j hj => ?_⟩,rfl⟩
        · rw [qcu,qcu,ifq,ifq]; exact s2 j (by omega)
        · rw [qcu]
          by_cases c : j = i
          · subst c; rw [if_pos ⟨rfl,by omega⟩,if_neg ck]
          · rw [if_neg (fun hh => c hh.1)]; exact s3 j (by omega)) z2.length 0 (z2,z3) k (by omega) (by omega) ⟨l3,l2,fun j _ => ⟨rfl,rfl⟩,fun j hj => by omega⟩
  have eL : qat.l2 k k z2.length 0 S sz nm N O z2 z3 = some (u2,u3) := eL
  refine ⟨u2,?_,t1,fun i hi => ?_⟩
  · unfold qat.f
    rw [eF,obs,if_pos rfl,qcG sz nm N O h.nms h.ok k hk,h.shs,obs,if_pos (show 0 ≤ (F.length : Int) ∧ (F.length : Int) ≤ 281474976710656 ∧ ((1 : Nat) : Int) * (F.length : Int) ≤ 140737488355328 by omega),tNc,eY,obs,eR,obs,eL,obs]
  · have hrk := h.rk i
    have hw := qiG (m := sz.length) (r := ((S.getD i []).length : Int)) (by omega) (by omega) (by omega)
    rw [t2 i hi]
    refine ⟨?_,?_,fun hn => ?_,fun hn => ?_⟩
    · split
      · exact (iR.vd i hi ‹_›).1
      · exact hw.1
    · split
      · exact (iR.vd i hi ‹_›).2
      · rw [hw.2,tNc]
    · have hy : Y.getD i false = true := by
        rw [y2 i (by omega),f2 i hi]
        exact decide_eq_true (by have := vay.2 hn; omega)
      obtain ⟨a,b⟩ := xR.keep i hy
      rw [if_pos a,b,f2 i hi]
    · rw [if_neg fun hk => ?_]
      obtain ⟨j,hj,hne⟩ := iR.fl ⟨i,hk⟩
      exact hne (hn j hj)
end Go.Pf

namespace Go.Pf
open Go Go.Vm
theorem qj3 (x : Int) (k : Nat) (hk : 1000 <= k) : ∃ L,qbZ.f k x = some L /\ Tp L := by
 have : ∀ (e i n : Nat) (y : LI),200 = i + e -> e < n -> y.length = i -> (∀ x ∈ y,-9223372036854775808 <= x /\ x < 9223372036854775808) -> ∃ L,qbZ.l0 n x i y = some L /\ L.length = 200 /\ ∀ x ∈ L,-9223372036854775808 <= x /\ x < 9223372036854775808 := by
  intro e
  induction e with
  | zero =>
   intro i n y hi hn hy hx
   obtain ⟨n,rfl⟩ := sun (n := n)
   rw [qbZ.l0,ifq]
   exact ⟨y,rfl,by omega,hx⟩
  | succ e ih =>
   intro i n y hi hn hy hx
   obtain ⟨n,rfl⟩ := sun (n := n)
   rw [qbZ.l0,ifp,if_pos (by decide),if_pos (by rw [lSi]; omega),qam (show i < 200 by omega) (by omega)]
   refine ih (i + 1) n _ (by omega) (by omega) (by rw [lAp,lSi]; omega) fun v hv => ?_
   rcases vaj.1 hv with hv | hv
   ·exact hx v hv
   ·rw [vae] at hv
    generalize (IntKind.i64.wrap _ : Int) = u at hv
    have t2 := Int.lt_tmod_of_pos u (show (0 : Int) < 211 by omega)
    have t3 := Int.tmod_lt_of_pos u (show (0 : Int) < 211 by omega)
    omega
 obtain ⟨L,e,hl,hx⟩ := this 200 0 k [] (by omega) (by omega) rfl (fun x h => by cases h)
 rw [n0] at e
 unfold qbZ.f
 rw [e,obs]
 exact ⟨L,rfl,by omega,hx⟩
theorem GH.of {sz : LI} {nm : ByteArray} {N : List Nd} {O : LI} {S : List LI} (hm : MeshOK nm sz) (hG : GrOK (rs nm) S N) (hN : N.length <= 10) (hO : O.length <= 10) (hx : ∀ x ∈ O,0 <= x /\ x < (N.length : Int)) : GH sz nm N O S where
 shs := hG.shs hm (by omega) (by omega) hx
 go := hG.go
 len := hG.len
 n48 := by omega
 nms := by have := hm.size; omega
 mlen := hm.right.2.2
 mr := hm.right.1
 ti := hG.ti
 rk := fun j => by
  by_cases hj : j < S.length
  ·exact (qar (hG.sm _ (qas hj []))).1
  ·rw [gDg,vak (by omega)]; simp
theorem qmN {sz : LI} {nm : ByteArray} {N : List Nd} {O : LI} {S L F : List LI} (h : GH sz nm N O S) (hF : F.length = N.length) (f2 : ∀ i,i < N.length → F.getD i [] = (fz nm N S i).2.2) (hL : L.length = N.length)
    (p : ∀ i,i < N.length → Vd sz.length (L.getD i []) ∧ (L.getD i []).length = (S.getD i []).length ∧ ((fz nm N S i).2.2 ≠ [] → L.getD i [] = (fz nm N S i).2.2)) (k : Nat) (hk : 300000 ≤ k) :
    ∃ b,qav.l0 k k false N N.length 0 sz nm N O L F L S = some (.inl b) ∧ (b = false → ∀ j,j < N.length → (fz nm N S j).2.2 = []) := by
  have h48 := h.n48
  have hl := h.len
  obtain ⟨r,e,b,rfl,hb⟩ := iterE (L := fun n i (b : Bool) => qav.l0 k n b N N.length i sz nm N O L F L S) (m := N.length) (fun i b => b = false → ∀ j,j < i → (fz nm N S j).2.2 = []) (fun r => ∃ b,r = .inl b ∧ (b = false → ∀ j,j < N.length → (fz nm N S j).2.2 = []))
    (fun n b h => ⟨.inl b,by rw [qav.l0,ifq],b,rfl,h⟩) 0 (fun i n b hi _ hb => by
      obtain ⟨_,_,_,t4⟩ := h.ti _ (qas hi nd0)
      have hnm := h.nms
      have en : qa6.f k nm (N.getD i nd0).2.2.2.2.2.2 ((S.getD i []).length : Int) = some (fz nm N S i) := qhg nm _ _ (by omega) (by omega) k (by omega) (by omega)
      obtain ⟨p1,p2,p3⟩ := p i hi
      have hrk := h.rk i
      have eS : qaQ.f k sz (L.getD i []) ((S.getD i []).length : Int) = some true := by
        rw [qjN _ _ _ (by omega) k (by omega)]
        unfold mSp
        rw [h.mr,qm4.2 p1,decide_eq_true (by omega)]; rfl
      have eF : qao.f k (F.getD i []) (fz nm N S i).2.2 = some true := by
        have hfl : (F.getD i []).length ≤ 4 := by
          rw [f2 i hi]
          rcases h.fzv hi with ⟨g,_⟩ | ⟨_,_,g,_⟩
          · rw [g]; simp
          · omega
        rw [qc6 _ _ (by omega) k (by omega),f2 i hi,decide_eq_true rfl]
      have eL : qao.f k (L.getD i []) (L.getD i []) = some true := by rw [qc6 _ _ (by omega) k (by omega),decide_eq_true rfl]
      rw [qav.l0,ifp,ifp,ifp,tNc,ifp,en,obs,qam hi (by omega)]
      have key : ∀ c : Bool,(if (0 : Int) ≤ i ∧ (i : Int) < (F.length : Int) then if i < F.length then (qao.f k (F.getD i []) (fz nm N S i).2.2).bind fun t6 => if t6 = true then (if (fz nm N S i).1 = true then (if (0 : Int) ≤ i ∧ (i : Int) < (L.length : Int) then if i < L.length then (qao.f k (L.getD i []) (fz nm N S i).2.2).bind fun t7 => if t7 = true then ((qaQ.f k sz (L.getD i []) ((S.getD i []).length : Int)).bind fun t8 => if t8 = true then (if (0 : Int) ≤ i ∧ (i : Int) < (L.length : Int) then if i < L.length then (qao.f k (L.getD i []) (L.getD i [])).bind fun t9 => if t9 = true then (qav.l0 k n c N N.length ((i + 1 : Nat) : Int) sz nm N O L F L S) else some (.inr false) else none else none) else some (.inr false)) else some (.inr false) else none else none) else if (0 : Int) ≤ i ∧ (i : Int) < (L.length : Int) then if i < L.length then (qaQ.f k sz (L.getD i []) ((S.getD i []).length : Int)).bind fun t10 => if t10 = true then (if (0 : Int) ≤ i ∧ (i : Int) < (L.length : Int) then if i < L.length then (qao.f k (L.getD i []) (L.getD i [])).bind fun t11 => if t11 = true then (qav.l0 k n c N N.length ((i + 1 : Nat) : Int) sz nm N O L F L S) else some (.inr false) else none else none) else some (.inr false) else none else none) else some (.inr false) else none else none) = qav.l0 k n c N N.length ((i + 1 : Nat) : Int) sz nm N O L F L S := by
        intro c
        rw [ifp,ifp,eF,obs,if_pos rfl]
        by_cases ok : (fz nm N S i).1 = true
        · have hne : (fz nm N S i).2.2 ≠ [] := by
            rcases h.fzv hi with ⟨_,g⟩ | ⟨_,_,_,g⟩
            · rw [g] at ok; cases ok
            · exact vay.1 g
          rw [if_pos ok,ifp,ifp,← p3 hne,eL,obs,if_pos rfl,eS,obs,if_pos rfl,ifp,ifp,obs,if_pos rfl]
        · rw [if_neg ok,ifp,ifp,eS,obs,if_pos rfl,ifp,ifp,eL,obs,if_pos rfl]
      by_cases cb : b = true
      · rw [if_pos cb]
        exact ⟨true,fun h => (by cases h),key true⟩
      · rw [if_neg cb]
        refine ⟨(fz nm N S i).1,fun hf j hj => ?_,key _⟩
        by_cases c : j = i
        · subst c
          rcases h.fzv hi with ⟨g,_⟩ | ⟨g,_⟩
          · exact g
          · rw [g] at hf; cases hf
        · exact hb (by simpa using cb) j (by omega)) N.length 0 false k (by omega) (by omega) (fun _ j hj => by omega)
  exact ⟨b,e,hb⟩
theorem qmM {L : List LI} (b : Bool) (hL : L.length ≤ 48) (hl : ∀ i,i < L.length → (L.getD i []).length ≤ 4) (hb : b = false → ∀ i,i < L.length → ∀ j,j < (L.getD i []).length → (L.getD i []).getD j 0 = -1) (k : Nat) (hk : 300000 ≤ k) :
    qav.l1 k k b L.length 0 L = some (.inl ()) := by
  obtain ⟨r,e,rfl⟩ := iterE (L := fun n i (_ : Unit) => qav.l1 k n b L.length i L) (m := L.length) (fun _ _ => True) (fun r => r = .inl ())
    (fun n y _ => ⟨_,by rw [qav.l1,ifq],rfl⟩) 1000 (fun i n y hi hn _ => by
      have hli := hl i hi
      obtain ⟨r2,e2,rfl⟩ := iterE (L := fun n j (_ : Unit) => qav.l2 n b i L.length i (L.getD i []).length j L) (m := (L.getD i []).length) (fun _ _ => True) (fun r => r = .inl ())
        (fun n y _ => ⟨_,by rw [qav.l2,ifq],rfl⟩) 0 (fun j n y hj _ _ => by
          rw [qav.l2,ifp,qam hj (by omega)]
          by_cases cb : b = true
          · rw [if_pos cb]; exact ⟨(),trivial,rfl⟩
          · rw [if_neg cb,ifp,tNc,ifp,ifp,tNc,if_pos (hb (by simpa using cb) i hi j hj)]
            exact ⟨(),trivial,rfl⟩) (L.getD i []).length 0 () n (by omega) (by omega) trivial
      have e2 : qav.l2 n b i L.length i (L.getD i []).length 0 L = some (.inl ()) := e2
      rw [qav.l1,ifp,ifp,tNc,ifp,e2,obs,vam,qam hi (by omega)]
      exact ⟨(),trivial,rfl⟩) L.length 0 () k (by omega) (by omega) trivial
  exact e
theorem qiS {sz : LI} {nm : ByteArray} {N : List Nd} {O : LI} {S : List LI} (h : GH sz nm N O S) (k : Nat) (hk : 300000 <= k) : qav.f k sz nm N O = some true := by
 obtain ⟨L,e1,l1,l2⟩ := qlR h k hk
 obtain ⟨F,e2,f1,f2⟩ := qg2 h k hk
 obtain ⟨b,e3,hb⟩ := qmN h f1 f2 l1 (fun i hi => ⟨(l2 i hi).1,(l2 i hi).2.1,(l2 i hi).2.2.1⟩) k hk
 have h48 := h.n48
 unfold qav.f
 rw [e1,obs,e2,obs,obs,qh4 sz nm N O h.nms h.ok k hk,h.shs,obs,if_pos rfl,if_pos rfl,if_pos rfl]
 dsimp only
 rw [ifp,ifp,if_pos rfl,e3,obs,vam]
 rw [qmM b (by omega) (fun i hi => by have := (l2 i (by omega)).2.1; have := h.rk i; omega) (fun hf i hi j hj => by
  have hw := (l2 i (by omega)).2.2.2 (hb hf)
  have hrk := h.rk i
  rw [hw] at hj ⊢
  unfold mW at hj ⊢
  rw [if_pos ⟨by omega,by omega⟩] at hj ⊢
  rw [vag] at hj
  rw [gDg,vat,if_pos hj]; rfl) k hk,obs,vam]
end Go.Pf

namespace Go.Pf
open Go Go.Vm
theorem qpx {nm : LI} {W : List Nd} {S : List LI} (hl : S.length = W.length) (h : ∀ i,i < W.length -> zNd nm (S.take i) (W.getD i nd0) = (0,S.getD i [])) : zGo nm W [] = (0,S) := by
 have key : ∀ i,i <= W.length -> zGo nm (W.take i) [] = (0,S.take i) := by
  intro i
  induction i with
  | zero => intro _; rfl
  | succ i ih =>
   intro hi
   have hi' : i < W.length := by omega
   have e := ih (by omega)
   have t1 : W.take (i + 1) = W.take i ++ [W.getD i nd0] := by
    rw [vaC,gDg,vaa hi']; rfl
   have t2 : S.take (i + 1) = S.take i ++ [S.getD i []] := by
    rw [vaC,gDg,vaa (by omega)]; rfl
   rw [t1,qiF nm _ _ _ (by rw [e]),e]
   dsimp only
   rw [h i hi',if_pos rfl,t2]
 have := key W.length (vac _)
 rwa [vap,<- hl,vap] at this
def noted (x : Nd) (t : ByteArray) : Nd := (x.1,x.2.1,x.2.2.1,x.2.2.2.1,x.2.2.2.2.1,x.2.2.2.2.2.1,t)
theorem GH.renote {sz : LI} {nm : ByteArray} {N W : List Nd} {O : LI} {S : List LI} (h : GH sz nm N O S) {t : Nat -> ByteArray} (hl : W.length = N.length) (hW : ∀ i,i < N.length -> W.getD i nd0 = noted (N.getD i nd0) (t i)) (ht : ∀ i,i < N.length -> (zNote (rs nm) (rs (t i)) ((S.getD i []).length : Int)).2.1 = 0 /\ (t i).size <= 300) : GH sz nm W O S := by
 have go : zGo (rs nm) W [] = (0,S) := qpx (by rw [hl]; exact h.len) fun i hi => by
  have hz := qk7 (rs nm) N [] S h.go i (by omega)
  simp only [var,vau] at hz
  rw [hW i (by omega)]
  exact qnL hz (t i) (ht i (by omega)).1
 refine ⟨?_,go,by rw [hl]; exact h.len,by rw [hl]; exact h.n48,h.nms,h.mlen,h.mr,fun x hx => ?_,h.rk⟩
 ·have hs := h.shs
  unfold zShs at hs ⊢
  rw [hl,go]
  rw [h.go] at hs
  exact hs
 ·obtain ⟨i,hi,rfl⟩ := vaz hx
  have e : W[i] = W.getD i nd0 := by rw [gDg,vaa hi]; rfl
  obtain ⟨t1,t2,t3,_⟩ := h.ti _ (qas (show i < N.length by omega) nd0)
  rw [e,hW i (by omega)]
  exact ⟨t1,t2,t3,(ht i (by omega)).2⟩
theorem known22 (k : Nat) (hk : 300000 <= k) : qc5.f k = some true := by
 have hG : GH [2] (vaf #[120]) ([(1,([],(([4] : LI),([],(0,(0,(vaf #[120]))))))),(4,(([0] : LI),([],([],(0,(0,vad))))))] : List Nd) [] [[4],[4]] := by
  refine ⟨by decide,by decide,rfl,by decide,by decide,by decide,by decide,allN2 ⟨by decide,by decide,by decide,by decide⟩ ⟨by decide,by decide,by decide,by decide⟩,fun j => ?_⟩
  match j with
  | 0 => decide
  | 1 => decide
  | j + 2 => exact Nat.zero_le _
 obtain ⟨L,e1,l1,l2⟩ := qlR hG k hk
 obtain ⟨F,e2,f1,f2⟩ := qg2 hG k hk
 have e3 : qat.f k [] (vaf #[120]) [] [] = some (15,[]) := by
  unfold qat.f qaV.f
  rw [qcG _ _ _ _ (by decide) (fun x h => by cases h) k hk,show zShs [] (vaf #[120]) [] [] = (15,[]) from by decide]
  rfl
 have z0 : (fz (vaf #[120]) ([(1,([],(([4] : LI),([],(0,(0,(vaf #[120]))))))),(4,(([0] : LI),([],([],(0,(0,vad))))))] : List Nd) [[4],[4]] 0).2.2 = [0] := by decide
 have z1 : (fz (vaf #[120]) ([(1,([],(([4] : LI),([],(0,(0,(vaf #[120]))))))),(4,(([0] : LI),([],([],(0,(0,vad))))))] : List Nd) [[4],[4]] 1).2.2 = [] := by decide
 have L0 : L.getD 0 [] = [0] := ((l2 0 (by decide)).2.2.1 (by rw [z0]; decide)).trans z0
 have L1 : (L.getD 1 []).length = 1 := (l2 1 (by decide)).2.1
 have F0 : F.getD 0 [] = [0] := (f2 0 (by decide)).trans z0
 have F1 : F.getD 1 [] = [] := (f2 1 (by decide)).trans z1
 have l1 : L.length = 2 := l1
 have f1 : F.length = 2 := f1
 have eB : qao.f k [0] [0] = some true := by rw [qc6 _ _ (by decide) k (by show 1 < k; omega)]; rfl
 unfold qc5.f
 rw [e1,obs,e2,obs,e3,obs,if_pos rfl,if_pos rfl]
 dsimp only
 rw [ifp,ifp,ifp,ifp,L0,F0,eB,obs,if_pos rfl,ifp,ifp,obs,if_pos rfl,ifp,ifp,F1,if_pos (by decide),ifp,ifp,ifp]
 rfl
theorem qn7 {nm : LI} {n : Int} (h : zNR nm n = true) (hv : ∀ r ∈ nm,Utf8.valid r = true) {sp : LI} (ho : okGo nm.length [] sp = true) (hl : sp.length <= 16) : (zNote nm (rs (enc (sp.map (zTx nm)))) sp.length).2.2 = sp := by
 rw [qmQ (fun r hr => by
  obtain ⟨k,_,rfl⟩ := List.mem_map.1 hr
  exact qjt hv k)]
 unfold zNote
 rw [if_neg (by rw [vaE]; omega),qiC h sp [] ho,nAp]
 dsimp only
 by_cases c : sp.length = 0
 ·rw [if_pos c,vaq c]
 ·rw [if_neg c,if_pos rfl]
theorem qpV {sz : LI} {nm : ByteArray} {N : List Nd} {O : LI} {S : List LI} (h : GH sz nm N O S) (k : Nat) (hk : 300000 <= k) : ∃ W,qbR.f k sz nm N O = some W /\ GH sz nm W O S := by
 have h48 := h.n48
 obtain ⟨W,e2,w1,w2⟩ := iterE (L := fun n i y => qbR.l0 n N N.length i vad sz nm O y) (m := N.length) (fun i y => y.length = i /\ ∀ j,j < i -> y.getD j nd0 = noted (N.getD j nd0) vad) (fun y => y.length = N.length /\ ∀ j,j < N.length -> y.getD j nd0 = noted (N.getD j nd0) vad)
  (fun n y h => ⟨y,by rw [qbR.l0,ifq],h⟩) 0 (fun i n y hi _ ⟨hy,hg⟩ => by
   rw [qbR.l0,ifp,ifp,tNc,if_pos (by rw [lSi]; omega),qam hi (by omega)]
   refine ⟨_,⟨by rw [lAp,lSi,hy],fun j hj => ?_⟩,rfl⟩
   rw [gDg,van]
   by_cases c : j < y.length
   ·rw [if_pos c,<- gDg]; exact hg j (by omega)
   ·rw [if_neg c]
    have : j = i := by omega
    subst this
    rw [hy,vav]; rfl) N.length 0 [] k (by omega) (by omega) ⟨rfl,fun j hj => by omega⟩
 have e2 : qbR.l0 k N N.length 0 vad sz nm O [] = some W := e2
 refine ⟨W,by unfold qbR.f; rw [e2,obs],h.renote w1 w2 fun i hi => ⟨qin _ _,by decide⟩⟩
theorem qmm : ∃ k,qaG.f k = some true := by
 refine ⟨400000,?_⟩
 generalize hk' : (400000 : Nat) = k
 have hk : 400000 <= k := by omega
 clear hk'
 have l0 : qaG.l0 k k 0 = some (.inl ()) := by
  refine upTo (L := fun n i => qaG.l0 k n i) 0 100 200 (fun n _ => by rw [qaG.l0,ifq]) (fun i n h0 h1' hn' ih => ?_) 100 0 k (by omega) (by omega) (by omega)
  obtain ⟨L,e1,hT⟩ := qj3 i k (by omega)
  obtain ⟨nm,sz,N,O,S,e2,hm,hG,hN,hO,hx⟩ := qfQ hT k (by omega)
  have h := GH.of hm hG hN hO hx
  obtain ⟨W,e3,hW⟩ := qpV h k (by omega)
  rw [qaG.l0,if_pos h1',e1,obs,e2,obs,qiS h k (by omega),obs,if_pos rfl,e3,obs,qiS hW k (by omega),obs,if_pos rfl,qaq (n := i + 1) (by omega) (by omega),ih]
 have hE : GH [] vad [] [] [] := ⟨by decide,rfl,rfl,by decide,by decide,by decide,by decide,fun x hx => (by cases hx),fun j => Nat.zero_le _⟩
 unfold qaG.f
 rw [l0,obs,vam,qiS hE k (by omega),obs,if_pos rfl,known22 k (by omega),obs]
end Go.Pf
