/- Own texts put together: M5f, M5g, M5h .. -/
import Derived.Test.YtjamdeehpblflaaGreatDoorPl0
set_option linter.unusedVariables false
set_option linter.unusedSimpArgs false
namespace Go.Pf
open Go Go.Vm
def zPm (m : Int) : LI → LI → Bool
 | _,[] => true
 | seen,k :: a => decide (0 ≤ k ∧ k < m ∧ k ∉ seen) && zPm m (k :: seen) a
theorem qcX {m k : Int} {seen a : LI} : zPm m seen (k :: a) = true ↔ (0 ≤ k ∧ k < m ∧ k ∉ seen) ∧ zPm m (k :: seen) a = true := by
 simp only [zPm,bAt,decide_eq_true_eq]
theorem qkY {m : Int} : ∀ {a seen : LI},zPm m seen a = true → (∀ k ∈ a,0 ≤ k ∧ k < m ∧ k ∉ seen) ∧ a.Nodup
 | [],_,_ => ⟨fun k hk => (by cases hk),List.nodup_nil⟩
 | b :: a,seen,h => by
  obtain ⟨h1,h2⟩ := qcX.1 h
  obtain ⟨i1,i2⟩ := qkY h2
  refine ⟨fun k hk => ?_,List.nodup_cons.2 ⟨fun hb => (i1 b hb).2.2 (List.mem_cons_self ..),i2⟩⟩
  rcases List.mem_cons.1 hk with e | hk
  ·subst e; exact h1
  ·have := i1 k hk
   exact ⟨this.1,this.2.1,fun hs => this.2.2 (mCm _ hs)⟩
theorem qpr {m : Int} : ∀ {a seen : LI},(∀ k ∈ a,0 ≤ k ∧ k < m ∧ k ∉ seen) → a.Nodup → zPm m seen a = true
 | [],_,_,_ => rfl
 | b :: a,seen,h,hn => by
  obtain ⟨n1,n2⟩ := List.nodup_cons.1 hn
  refine qcX.2 ⟨h b (List.mem_cons_self ..),qpr (fun k hk => ?_) n2⟩
  have := h k (mCm _ hk)
  refine ⟨this.1,this.2.1,fun hs => ?_⟩
  rcases List.mem_cons.1 hs with e | hs
  ·subst e; exact n1 hk
  ·exact this.2.2 hs
theorem php : ∀ (n : Nat) (l : LI),l.Nodup → (∀ x ∈ l,0 ≤ x ∧ x < (n : Int)) → l.length ≤ n
 | 0,l,_,h => by
  cases l with
  | nil => exact Nat.le_refl _
  | cons x l => have := h x (List.mem_cons_self ..); omega
 | n + 1,l,hn,h => by
  by_cases hm : (n : Int) ∈ l
  ·have h1 := php n (l.erase n) (hn.erase _) fun x hx => by
    have h2 := (hn.mem_erase_iff).1 hx
    have := h x h2.2
    have h3 := h2.1
    omega
   rw [List.length_erase_of_mem hm] at h1
   omega
  ·have h1 := php n l hn fun x hx => by
    have := h x hx
    have h3 : x ≠ n := fun e => hm (e ▸ hx)
    omega
   omega
theorem qnZ {n : Nat} {l : LI} (hn : l.Nodup) (h : ∀ x ∈ l,0 ≤ x ∧ x < (n : Int)) (hl : l.length = n) {j : Int} (h0 : 0 ≤ j) (h1 : j < n) : j ∈ l := by
 refine Classical.byContradiction fun hj => ?_
 have := php n (j :: l) (List.nodup_cons.2 ⟨hj,hn⟩) fun x hx => by
  rcases List.mem_cons.1 hx with e | hx
  ·omega
  ·exact h x hx
 rw [lCo] at this; omega
def scat : LI → LI → LI → LI
 | y,k :: a,x :: p => scat (y.set k.toNat x) a p
 | y,_,_ => y
theorem qlX : ∀ (y a p : LI),(scat y a p).length = y.length
 | y,k :: a,x :: p => by rw [scat,qlX]; simp
 | y,[],_ => by rw [scat]; intros; simp_all
 | y,_ :: _,[] => by rw [scat]; intros; simp_all
theorem qlW : ∀ (y a p : LI) (j : Nat),(∀ k ∈ a,0 ≤ k) → (j : Int) ∉ a → (scat y a p).getD j 0 = y.getD j 0
 | y,k :: a,x :: p,j,hk,hj => by
  have h0 := hk k (List.mem_cons_self ..)
  have h1 : k ≠ j := fun e => hj (e ▸ List.mem_cons_self ..)
  rw [scat,qlW _ a p j (fun z hz => hk z (mCm _ hz)) (fun h => hj (mCm _ h)),qez,ifq]
 | y,[],_,j,_,_ => by rw [scat]; intros; simp_all
 | y,_ :: _,[],j,_,_ => by rw [scat]; intros; simp_all
theorem qnL : ∀ (y a p : LI) (i : Nat),(∀ k ∈ a,0 ≤ k ∧ k < (y.length : Int)) → a.Nodup → i < a.length → i < p.length → (scat y a p).getD (a.getD i 0).toNat 0 = p.getD i 0
 | y,k :: a,x :: p,0,hk,hn,_,_ => by
  have h0 := hk k (List.mem_cons_self ..)
  obtain ⟨n1,n2⟩ := List.nodup_cons.1 hn
  show (scat (y.set k.toNat x) a p).getD k.toNat 0 = x
  rw [qlW _ a p _ (fun z hz => (hk z (mCm _ hz)).1) (by rw [show ((k.toNat : Nat) : Int) = k by omega]; exact n1),qez,ifp]
 | y,k :: a,x :: p,i + 1,hk,hn,h1,h2 => by
  obtain ⟨n1,n2⟩ := List.nodup_cons.1 hn
  exact qnL (y.set k.toNat x) a p i (fun z hz => by rw [List.length_set]; exact hk z (mCm _ hz)) n2 (by simpa using h1) (by simpa using h2)
 | _,[],_,_,_,_,h,_ => by simp at h
 | _,_ :: _,[],_,_,_,_,h => by simp at h
structure Perm' (n : Nat) (a : LI) : Prop where
 len : a.length = n
 mem : ∀ k ∈ a,0 ≤ k ∧ k < (n : Int)
 nd : a.Nodup
theorem qlL {n : Nat} {a : LI} (hl : a.length = n) : zPm n [] a = true ↔ Perm' n a :=
 ⟨fun h => ⟨hl,fun k hk => by have := (qkY h).1 k hk; omega,(qkY h).2⟩,fun h => qpr (fun k hk => by have := h.mem k hk; exact ⟨this.1,this.2,by simp⟩) h.nd⟩
theorem Perm'.get {n : Nat} {a : LI} (h : Perm' n a) {j : Nat} (hj : j < n) : ∃ i,i < n ∧ a.getD i 0 = j := by
 have := qnZ h.nd h.mem h.len (j := (j : Int)) (by omega) (by omega)
 obtain ⟨i,hi,he⟩ := List.getElem_of_mem this
 exact ⟨i,by have := h.len; omega,by rw [gDg,List.getElem?_eq_getElem hi,he]; rfl⟩
theorem qo9 {a b : LI} (hl : a.length = b.length) (h : ∀ i,i < a.length → a.getD i 0 = b.getD i 0) : a = b := by
 apply List.ext_getElem hl
 intro i h1 h2
 have := h i h1
 rwa [gDg,gDg,List.getElem?_eq_getElem h1,List.getElem?_eq_getElem h2] at this
theorem qoT {p a : LI} {i : Nat} (h : i < a.length) : (pick p a).getD i 0 = p.getD (a.getD i 0).toNat 0 := by
 unfold pick
 rw [gDg,List.getElem?_map,List.getElem?_eq_getElem h,gDg (l := a),List.getElem?_eq_getElem h]; rfl
theorem qeT : ∀ {s p : LI},mIn s p = true → ∀ j,j < s.length → 0 ≤ p.getD j 0 ∧ p.getD j 0 < s.getD j 0
 | [],[],_,j,hj => by simp at hj
 | x :: s,y :: p,h,0,_ => (qbH.1 h).1
 | x :: s,y :: p,h,j + 1,hj => qeT (qbH.1 h).2 j (by simpa using hj)
 | [],_ :: _,h,_,_ => by simp [mIn] at h
 | _ :: _,[],h,_,_ => by simp [mIn] at h
theorem qky : ∀ {s p : LI},p.length = s.length → (∀ j,j < s.length → 0 ≤ p.getD j 0 ∧ p.getD j 0 < s.getD j 0) → mIn s p = true
 | [],[],_,_ => rfl
 | x :: s,y :: p,hl,h => qbH.2 ⟨h 0 (by simp),qky (by simpa using hl) fun j hj => h (j + 1) (by simpa using hj)⟩
 | [],_ :: _,hl,_ => by simp at hl
 | _ :: _,[],hl,_ => by simp at hl
theorem qpZ {s a p y : LI} (h : Perm' s.length a) (hp : mIn (pick s a) p = true) (hy : y.length = s.length) : mIn s (scat y a p) = true := by
 have hl := qeS hp
 rw [pick,List.length_map,h.len] at hl
 refine qky (by rw [qlX,hy]) fun j hj => ?_
 obtain ⟨i,hi,e⟩ := h.get hj
 have e1 := qnL y a p i (fun k hk => by rw [hy]; exact h.mem k hk) h.nd (by rw [h.len]; exact hi) (by omega)
 have e2 := qeT hp i (by rw [pick,List.length_map,h.len]; exact hi)
 rw [qoT (by rw [h.len]; exact hi)] at e2
 rw [e,tNc] at e1 e2
 rw [e1]; exact e2
end Go.Pf

namespace Go.Pf
open Go Go.Vm
theorem qp5 {a b : LI} (h : a.Perm b) : pr a = pr b := by
 induction h with
 | nil => rfl
 | cons x _ ih => show x * _ = x * _; rw [ih]
 | swap x y l => show y * (x * pr l) = x * (y * pr l); rw [Int.mul_left_comm]
 | trans _ _ h1 h2 => rw [h1,h2]
theorem qmQ {n : Nat} {a : LI} (h : Perm' n a) : a.Perm ((List.range n).map fun (i : Nat) => (i : Int)) := by
 refine (List.perm_ext_iff_of_nodup h.nd ?_).2 fun x => ⟨fun hx => ?_,fun hx => ?_⟩
 ·refine List.Pairwise.map _ (fun i j hij => ?_) List.nodup_range
  exact fun e => hij (by omega)
 ·have := h.mem x hx
  exact List.mem_map.2 ⟨x.toNat,List.mem_range.2 (by omega),by show ((x.toNat : Nat) : Int) = x; omega⟩
 ·obtain ⟨i,hi,rfl⟩ := List.mem_map.1 hx
  rw [List.mem_range] at hi
  exact qnZ h.nd h.mem h.len (by omega) (by omega)
theorem qnT (s : LI) : ((List.range s.length).map fun (i : Nat) => s.getD i 0) = s := by
 apply List.ext_getElem (by simp)
 intro i h1 h2
 rw [List.getElem_map,List.getElem_range,gDg,List.getElem?_eq_getElem h2]; rfl
theorem qnX {s a : LI} (h : Perm' s.length a) : (pick s a).Perm s := by
 have h1 := (qmQ h).map (fun k : Int => s.getD k.toNat 0)
 rw [List.map_map] at h1
 have e : ((List.range s.length).map ((fun k : Int => s.getD k.toNat 0) ∘ fun (i : Nat) => (i : Int))) = s := by
  have := qnT s
  simpa [Function.comp_def] using this
 rw [e] at h1
 exact h1
theorem qnY {s a : LI} (hs : mSR s = true) (h : Perm' s.length a) : mSR (pick s a) = true := by
 obtain ⟨h1,h2,h3⟩ := qam hs
 have hp := qnX h
 unfold mSR
 simp only [bAt,decide_eq_true_eq,List.all_eq_true]
 refine ⟨⟨?_,fun x hx => qdc.2 (h2 x (hp.mem_iff.1 hx))⟩,by rw [qp5 hp]; exact h3⟩
 rw [hp.length_eq]; exact h1
theorem qkt {s a : LI} {i : Nat} (h : i < a.length) : pick s (a.take i) ++ [s.getD (a.getD i 0).toNat 0] = pick s (a.take (i + 1)) := by
 rw [qdn h,pick,pick,List.map_append]; rfl
theorem qfq (s a : LI) (hl : s.length ≤ 4) (ha : a.length = s.length) (y : LI) (hy : y.length = s.length) : ∀ (e i n : Nat) (seen : LI) (b : List Bool),s.length = i + e → e < n → b.length = s.length → (∀ j : Nat,j < s.length → (b.getD j false = true ↔ (j : Int) ∈ seen)) →
  qbN.l0 n s a a.length i (pick s (a.take i) ++ y.drop i) b = some (if zPm s.length seen (a.drop i) = true then .inl (pick s a) else .inr 1)
 | 0,i,n,seen,b,hi,hn,hb,hbs => by
  obtain ⟨n,rfl⟩ := sun (n := n)
  rw [qbN.l0,ifq,dNl (by omega),dNl (by omega),List.take_of_length_le (by omega),List.append_nil]; rfl
 | e + 1,i,n,seen,b,hi,hn,hb,hbs => by
  obtain ⟨n,rfl⟩ := sun (n := n)
  have hps := qkt (s := s) (a := a) (i := i) (by omega)
  have hL : (pick s (a.take i)).length = i := by rw [pick,List.length_map,lTk]; omega
  have hset : (pick s (a.take i) ++ y.drop i).set i (s.getD (a.getD i 0).toNat 0) = pick s (a.take (i + 1)) ++ y.drop (i + 1) := by
   rw [qaj (show i < y.length by omega) (0 : Int)]
   have := setL (pick s (a.take i)) (y.drop (i + 1)) (y.getD i 0) (s.getD (a.getD i 0).toNat 0)
   rw [hL] at this
   rw [this,hps]
  have hlen : (pick s (a.take i) ++ y.drop i).length = s.length := by rw [lAp,hL,List.length_drop]; omega
  rw [qbN.l0,ifp,ifp,tNc,hset,qaj (show i < a.length by omega) (0 : Int),hlen]
  generalize a.getD i 0 = k
  by_cases c1 : k < 0
  ·rw [if_pos c1,if_neg (by rw [qcX]; omega)]
  by_cases c2 : (s.length : Int) ≤ k
  ·rw [if_neg c1,if_pos c2,if_neg (by rw [qcX]; omega)]
  have hk := hbs k.toNat (by omega)
  rw [show ((k.toNat : Nat) : Int) = k by omega] at hk
  rw [if_neg c1,if_neg c2,ifp,ifp]
  by_cases c3 : b.getD k.toNat false = true
  ·rw [if_pos c3,if_neg (fun hh => (qcX.1 hh).1.2.2 (hk.1 c3))]
  have hns : k ∉ seen := fun h => c3 (hk.2 h)
  have ih := qfq s a hl ha y hy e (i + 1) n (k :: seen) (b.set k.toNat true) (by omega) (by omega) (by simp [hb]) fun j hj => by
   rw [qez]
   by_cases ej : k.toNat = j
   ·rw [if_pos ⟨ej,by omega⟩]
    exact ⟨fun _=>by rw [show (j : Int) = k by omega]; exact List.mem_cons_self ..,fun _=>rfl⟩
   ·rw [if_neg (fun hh => ej hh.1),hbs j hj,List.mem_cons]
    exact ⟨fun h => .inr h,fun h => h.resolve_left (by omega)⟩
  rw [if_neg c3,ifp,ifp,ifp,qak (n := (i : Int) + 1) (by omega) (by omega),show (i : Int) + 1 = ((i + 1 : Nat) : Int) by omega,ih]
  by_cases c : zPm s.length (k :: seen) (a.drop (i + 1)) = true
  ·rw [if_pos c,if_pos (qcX.2 ⟨⟨by omega,by omega,hns⟩,c⟩)]
  ·rw [if_neg c,if_neg (fun hh => c (qcX.1 hh).2)]
def isPerm (n : Nat) (a : LI) : Bool := decide (a.length = n) && zPm n [] a
theorem qe7 {n : Nat} {a : LI} : isPerm n a = true ↔ Perm' n a := by
 unfold isPerm
 rw [bAt,decide_eq_true_eq]
 exact ⟨fun h => (qlL h.1).1 h.2,fun h => ⟨h.len,(qlL h.len).2 h⟩⟩
theorem qjR {s : LI} (hl : s.length ≤ 4) (a : LI) (k : Nat) (hk : 10 ≤ k) : qbN.f k s a = some (if isPerm s.length a = true then (0,pick s a) else (1,[])) := by
 unfold qbN.f isPerm
 by_cases ha : a.length = s.length
 ·have l0 := qfq s a hl ha (List.replicate (s.length : Int).toNat 0) (by simp) s.length 0 k [] (List.replicate (s.length : Int).toNat false) (by omega) (by omega) (by simp) (fun j hj => by simp [gDg,List.getElem?_replicate,hj])
  rw [n0,dZr,dZr,List.take_zero] at l0
  rw [ifp,ifp,ifp]
  rw [show pick s [] ++ List.replicate (s.length : Int).toNat (0 : Int) = List.replicate (s.length : Int).toNat (0 : Int) from rfl] at l0
  rw [l0]
  by_cases c : zPm s.length [] a = true
  ·rw [if_pos c]; simp [ha,c]
  ·rw [if_neg c]; simp [c]
 ·rw [ifq]; simp [ha]
def zTurn (s d a : LI) : LI := made (pick s a) fun p => d.getD (ix s (scat (List.replicate s.length 0) a p)).toNat 0
theorem qnK {y a p : LI} {i : Nat} (h1 : i < a.length) (h2 : i < p.length) : scat y (a.drop i) (p.drop i) = scat (y.set (a.getD i 0).toNat (p.getD i 0)) (a.drop (i + 1)) (p.drop (i + 1)) := by
 rw [qaj h1 (0 : Int),qaj h2 (0 : Int)]; rfl
theorem qoP (y p : LI) : scat y [] p = y := by rw [scat]; intros; simp_all
theorem qgO (p a : LI) (hl : a.length ≤ 4) (hp : p.length = a.length) (m : Nat) (hr : ∀ k ∈ a,0 ≤ k ∧ k < (m : Int)) (x10 x83 x84 : Int) (s d y2 y6 y7 : LI) : ∀ (e i : Nat) (y : LI) (n : Nat),y.length = m → a.length = i + e → e < n →
  qaY.l2 n a x10 x83 x84 p.length i s d y2 p y y6 y7 = some (scat y (a.drop i) (p.drop i))
 | 0,i,y,n,hy,hi,hn => by
  obtain ⟨n,rfl⟩ := sun (n := n)
  rw [qaY.l2,ifq,dNl (by omega),qoP]
 | e + 1,i,y,n,hy,hi,hn => by
  obtain ⟨n,rfl⟩ := sun (n := n)
  have hk := hr _ (qal (show i < a.length by omega) 0)
  have ih := qgO p a hl hp m hr x10 x83 x84 s d y2 y6 y7 e (i + 1) (y.set (a.getD i 0).toNat (p.getD i 0)) n (by simp [hy]) (by omega) (by omega)
  rw [qaY.l2,ifp,ifp,ifp,ifp,tNc,ifp,ifp,qak (n := (i : Int) + 1) (by omega) (by omega),show (i : Int) + 1 = ((i + 1 : Nat) : Int) by omega,ih,← qnK (by omega) (by omega)]
def tn (s d a : LI) (i : Nat) : Int := d.getD (ix s (scat (List.replicate s.length 0) a (pl (pick s a) i))).toNat 0
end Go.Pf

namespace Go.Pf
open Go Go.Vm
theorem qgQ (s d a : LI) (hl : s.length ≤ 4) (ha : a.length = s.length) : ∀ (e i n : Nat) (seen : LI) (b : LI),s.length = i + e → e < n → b.length = s.length → (∀ j : Nat,j < s.length → b.getD j 0 = if (j : Int) ∈ seen then 1 else 0) →
    qaY.l0 n a a.length i s d b (pick s (a.take i)) = some (if zPm s.length seen (a.drop i) = true then .inl (pick s a) else .inr 1)
  | 0,i,n,seen,b,hi,hn,hb,hbs => by
    obtain ⟨n,rfl⟩ := sun (n := n)
    rw [qaY.l0,ifq,dNl (by omega),List.take_of_length_le (by omega)]; rfl
  | e + 1,i,n,seen,b,hi,hn,hb,hbs => by
    obtain ⟨n,rfl⟩ := sun (n := n)
    have hps := qkt (s := s) (a := a) (i := i) (by omega)
    have hL : (pick s (a.take i)).length = i := by rw [pick,List.length_map,lTk]; omega
    rw [qaY.l0,ifp,ifp,tNc,hps,qaj (show i < a.length by omega) (0 : Int),hb,hL]
    generalize a.getD i 0 = k
    by_cases c1 : k < 0
    · rw [if_pos c1,if_neg (by rw [qcX]; omega)]
    by_cases c2 : (s.length : Int) ≤ k
    · rw [if_neg c1,if_pos c2,if_neg (by rw [qcX]; omega)]
    have hk := hbs k.toNat (by omega)
    rw [show ((k.toNat : Nat) : Int) = k by omega] at hk
    rw [if_neg c1,if_neg c2,ifp,ifp,hk]
    by_cases c3 : k ∈ seen
    · rw [if_pos (by rw [if_pos c3]; omega),if_neg (fun hh => (qcX.1 hh).1.2.2 c3)]
    rw [if_neg c3] at hk ⊢
    have ih := qgQ s d a hl ha e (i + 1) n (k :: seen) (b.set k.toNat 1) (by omega) (by omega) (by simp [hb]) fun j hj => by
      rw [qez]
      by_cases ej : k.toNat = j
      · rw [if_pos ⟨ej,by omega⟩,if_pos (by rw [show (j : Int) = k by omega]; exact List.mem_cons_self ..)]
      · rw [if_neg (fun hh => ej hh.1),hbs j hj]
        by_cases cj : (j : Int) ∈ seen
        · rw [if_pos cj,if_pos (mCm _ cj)]
        · rw [if_neg cj,if_neg (fun hh => by
            rcases List.mem_cons.1 hh with e | hh
            · omega
            · exact cj hh)]
    rw [ifq,ifp,if_pos (by simp only [lSi]; omega),show IntKind.i64.wrap (0 + 1) = 1 from qak (by omega) (by omega),qak (n := (i : Int) + 1) (by omega) (by omega),show (i : Int) + 1 = ((i + 1 : Nat) : Int) by omega,ih]
    by_cases c : zPm s.length (k :: seen) (a.drop (i + 1)) = true
    · rw [if_pos c,if_pos (qcX.2 ⟨⟨by omega,by omega,c3⟩,c⟩)]
    · rw [if_neg c,if_neg (fun hh => c (qcX.1 hh).2)]
theorem qgP {s d a : LI} (h : zT s d = true) (ha : Perm' s.length a) (k : Nat) (hk : 20 ≤ k) (y4 : LI) : ∀ (e i n : Nat),(pr (pick s a)).toNat = i + e → e + 10 < n →
  qaY.l1 k n a (pr (pick s a)) i s d (pick s a) y4 ((List.range i).map (tn s d a) ++ List.replicate e 0) = some (zTurn s d a)
 | 0,i,n,hi,hn => by
  obtain ⟨n,rfl⟩ := sun (n := n)
  rw [qaY.l1,ifq]
  unfold zTurn made
  rw [hi,List.replicate_zero,List.append_nil]; rfl
 | e + 1,i,n,hi,hn => by
  obtain ⟨n,rfl⟩ := sun (n := n)
  have ho := qnY (qbo h).1 ha
  have hb := (qam ho).2.2
  have h4 := (qam (qbo h).1).1
  have hpl : (pl (pick s a) i).length = a.length := by rw [qc4,pick,List.length_map]
  have hal := ha.len
  have ih := qgP h ha k hk y4 e (i + 1) n (by omega) (by omega)
  have l2 := qgO (pl (pick s a) i) a (by omega) hpl s.length ha.mem i (pr (pick s a)) i s d (pick s a) y4 ((List.range i).map (tn s d a) ++ List.replicate (e + 1) 0) a.length 0 (List.replicate s.length 0) n (by simp) (by omega) (by omega)
  rw [n0,dZr,dZr] at l2
  rw [qaY.l1,ifp,qce ho (by omega) (by omega) k hk,obs,if_pos (by rw [hpl]; omega),show ((pl (pick s a) i).length : Int).toNat = s.length by rw [hpl]; omega,l2,obs,
   qcO h (qpZ ha (qiv (fun b hb => (qdh ho (by omega) b hb).1) i) (by simp)) k hk,obs,
   if_pos (by simp; omega),if_pos (by simp),tNc,show d.getD (ix s (scat (List.replicate s.length 0) a (pl (pick s a) i))).toNat 0 = tn s d a i from rfl,qhr (tn s d a),qak (n := (i : Int) + 1) (by omega) (by omega),show (i : Int) + 1 = ((i + 1 : Nat) : Int) by omega]
  exact ih
theorem qla (s d a : LI) (k : Nat) (hk : 120000 ≤ k) : qaY.f k s d a = some (if zT s d = true then (if isPerm s.length a = true then (0,pick s a,zTurn s d a) else (1,[],[])) else (13,[],[])) := by
 unfold qaY.f
 rw [qbS s d k (by omega),obs]
 by_cases h : zT s d = true
 ·obtain ⟨hr,_⟩ := qbo h
  have h4 := (qam hr).1
  rw [if_pos h,if_pos h,ifp]
  by_cases hl : a.length = s.length
  ·have l0 := qgQ s d a h4 hl s.length 0 k [] (List.replicate (s.length : Int).toNat 0) (by omega) (by omega) (by simp) (fun j hj => by simp [gDg,List.getElem?_replicate,hj])
   rw [n0,dZr,List.take_zero,show pick s [] = [] from rfl] at l0
   rw [if_pos (by simp; omega),l0,obs]
   by_cases hc : zPm s.length [] a = true
   ·have hp : isPerm s.length a = true := by simp [isPerm,hl,hc]
    have ha := qe7.1 hp
    have ho := qnY hr ha
    have hb := qam ho
    have h0 := qcL fun x hx => (hb.2.1 x hx).1
    have this := qgP h ha k (by omega) (pick s a) (pr (pick s a)).toNat 0 k (by omega) (by omega)
    rw [if_pos hc,if_pos hp,Sum.elim_inl,qbz (pick s a) 0 (by omega) k hk,obs,zSz,if_pos ho,List.length_replicate,show (((pr (pick s a)).toNat : Nat) : Int) = pr (pick s a) by omega]
    rw [n0] at this
    rw [show List.replicate (pr (pick s a)).toNat (0 : Int) = (List.range 0).map (tn s d a) ++ List.replicate (pr (pick s a)).toNat 0 from rfl,this]
    rfl
   ·have hp : ¬ isPerm s.length a = true := by simp [isPerm,hc]
    rw [if_neg hc,if_neg hp]; rfl
  ·have hp : ¬ isPerm s.length a = true := by simp [isPerm,hl]
   rw [if_neg (by simp; omega),if_neg hp]
 ·rw [if_neg h,if_neg h]
end Go.Pf

namespace Go.Pf
open Go Go.Vm
def zp : LI → LI → LI → LI
 | a :: s,l :: lo,h :: hi => (l + a + h) :: zp s lo hi
 | _,_,_ => []
def zMay : LI → LI → LI → Bool
 | [],[],[] => true
 | _ :: s,l :: lo,h :: hi => okS l && okS h && zMay s lo hi
 | _,_,_ => false
theorem qca {a l h : Int} {s lo hi : LI} : zMay (a :: s) (l :: lo) (h :: hi) = true ↔ ((0 ≤ l ∧ l ≤ 32) ∧ (0 ≤ h ∧ h ≤ 32)) ∧ zMay s lo hi = true := by
 simp only [zMay,bAt,qdc]
theorem qep : ∀ {s lo hi : LI},zMay s lo hi = true → lo.length = s.length ∧ hi.length = s.length
 | [],[],[],_ => ⟨rfl,rfl⟩
 | _ :: s,_ :: f,_ :: z,h => by
  have := qep (qca.1 h).2
  simp [this.1,this.2]
 | [],_ :: _,_,h => by simp [zMay] at h
 | [],[],_ :: _,h => by simp [zMay] at h
 | _ :: _,[],_,h => by simp [zMay] at h
 | _ :: _,_ :: _,[],h => by simp [zMay] at h
theorem qnl : ∀ {s lo hi : LI},zMay s lo hi = true → ∀ x ∈ lo,0 ≤ x ∧ x ≤ 32
 | [],[],[],_,x,hx => by cases hx
 | _ :: s,_ :: f,_ :: z,h,x,hx => by
  obtain ⟨⟨h1,_⟩,h2⟩ := qca.1 h
  rcases List.mem_cons.1 hx with e | hx
  ·subst e; exact h1
  ·exact qnl h2 x hx
 | [],_ :: _,_,h,_,_ => by simp [zMay] at h
 | [],[],_ :: _,h,_,_ => by simp [zMay] at h
 | _ :: _,[],_,h,_,_ => by simp [zMay] at h
 | _ :: _,_ :: _,[],h,_,_ => by simp [zMay] at h
theorem qnb : ∀ {s lo hi : LI},lo.length = s.length → hi.length = s.length → (zp s lo hi).length = s.length
 | [],[],[],_,_ => rfl
 | _ :: s,_ :: lo,_ :: hi,h1,h2 => by simp [zp,qnb (s := s) (by simpa using h1) (by simpa using h2)]
 | [],_ :: _,_,h,_ => by simp at h
 | [],[],_ :: _,_,h => by simp at h
 | _ :: _,[],_,h,_ => by simp at h
 | _ :: _,_ :: _,[],_,h => by simp at h
theorem qe2 (a : Int) : qcS.f a = some (okS a) := by
 unfold qcS.f okS
 by_cases h : 0 ≤ a
 ·rw [if_pos h]; simp [h]
 ·rw [if_neg h]; simp [h]
theorem qft (s lo hi : LI) (hs : ∀ a ∈ s,0 ≤ a ∧ a ≤ 32) (hl : s.length ≤ 4) (h1 : lo.length = s.length) (h2 : hi.length = s.length) (y : LI) (hy : y.length = s.length) : ∀ (e : Nat) (L : LI) (n : Nat),s.length = L.length + e → e < n →
  qbP.l0 n lo hi s s.length L.length (L ++ y.drop L.length) = some (if zMay (s.drop L.length) (lo.drop L.length) (hi.drop L.length) = true then .inl (L ++ zp (s.drop L.length) (lo.drop L.length) (hi.drop L.length)) else .inr 1)
 | 0,L,n,hi',hn => by
  obtain ⟨n,rfl⟩ := sun (n := n)
  rw [qbP.l0,ifq,dNl (by omega),dNl (by omega),dNl (by omega),dNl (by omega)]; rfl
 | e + 1,L,n,hi',hn => by
  obtain ⟨n,rfl⟩ := sun (n := n)
  have ha := hs _ (qal (show L.length < s.length by omega) 0)
  have ih := qft s lo hi hs hl h1 h2 y hy e (L ++ [lo.getD L.length 0 + s.getD L.length 0 + hi.getD L.length 0]) n (by simp; omega) (by omega)
  have hL : (L ++ y.drop L.length).length = s.length := by rw [lAp,List.length_drop]; omega
  rw [lAp,lSi] at ih
  rw [qbP.l0,ifp,ifp,ifp,tNc,qe2,obs,if_pos (show 0 ≤ (L.length : Int) ∧ (L.length : Int) < (hi.length : Int) by omega),qe2,obs,hL,
   qaj (show L.length < s.length by omega) (0 : Int),qaj (show L.length < lo.length by omega) (0 : Int),qaj (show L.length < hi.length by omega) (0 : Int),qaj (show L.length < y.length by omega) (0 : Int),setL]
  generalize s.getD L.length 0 = a at *
  generalize lo.getD L.length 0 = l at *
  generalize hi.getD L.length 0 = h at *
  by_cases c1 : okS l = true
  ·by_cases c2 : okS h = true
   ·have b1 := qdc.1 c1
    have b2 := qdc.1 c2
    rw [if_pos c1,if_pos c2,ifp,ifp,qak (n := l + a) (by omega) (by omega),qak (n := l + a + h) (by omega) (by omega),qak (n := (L.length : Int) + 1) (by omega) (by omega),show (L.length : Int) + 1 = ((L.length + 1 : Nat) : Int) by omega,ih]
    by_cases c : zMay (s.drop (L.length + 1)) (lo.drop (L.length + 1)) (hi.drop (L.length + 1)) = true
    ·rw [if_pos c,if_pos (qca.2 ⟨⟨b1,b2⟩,c⟩)]; simp [zp]
    ·rw [if_neg c,if_neg (fun hh => c (qca.1 hh).2)]
   ·rw [if_pos c1,if_neg c2,if_neg (fun hh => c2 (qdc.2 (qca.1 hh).1.2))]
  ·rw [if_neg c1,if_neg (fun hh => c1 (qdc.2 (qca.1 hh).1.1))]
theorem qjU {s : LI} (h : mSR s = true) (lo hi : LI) (k : Nat) (hk : 10 ≤ k) : qbP.f k s lo hi = some (if zMay s lo hi = true then (if mSR (zp s lo hi) = true then (0,zp s lo hi) else (13,[])) else (1,[])) := by
 obtain ⟨hl,hs,_⟩ := qam h
 unfold qbP.f
 by_cases h1 : lo.length = s.length
 ·by_cases h2 : hi.length = s.length
  ·have l0 := qft s lo hi hs hl h1 h2 (List.replicate (s.length : Int).toNat 0) (by simp) s.length [] k (by simp) (by omega)
   rw [List.length_nil,n0,dZr,dZr,dZr,dZr,nAp,nAp] at l0
   rw [ifp,ifp,ifp,l0,obs]
   by_cases c : zMay s lo hi = true
   ·rw [if_pos c,if_pos c,Sum.elim_inl,qb1 _ k hk,obs]
    by_cases c2 : mSR (zp s lo hi) = true
    ·rw [if_pos c2,if_pos c2]
    ·rw [if_neg c2,if_neg c2]
   ·rw [if_neg c,if_neg c,Sum.elim_inr]
  ·rw [ifp,ifq,if_neg (fun hh => h2 (qep hh).2)]
 ·rw [ifq,if_neg (fun hh => h1 (qep hh).1)]
def zSub : LI → LI → LI := List.zipWith (· - ·)
def pdF (s d lo : LI) (c : Int) (p : LI) : Int := if mIn s (zSub p lo) = true then d.getD (ix s (zSub p lo)).toNat 0 else c
def zPad (s d lo hi : LI) (c : Int) : LI := made (zp s lo hi) (pdF s d lo c)
end Go.Pf

namespace Go.Pf
open Go Go.Vm
theorem qhO (s d lo hi : LI) (c : Int) (hs : ∀ a ∈ s,0 ≤ a ∧ a ≤ 32) (hl : s.length ≤ 4) (h1 : lo.length = s.length) (h2 : hi.length = s.length) : ∀ (e : Nat) (L : LI) (n : Nat),s.length = L.length + e → e < n →
  qbc.l0 n lo hi c lo.length L.length s d L = some (if zMay (s.drop L.length) (lo.drop L.length) (hi.drop L.length) = true then .inl (L ++ zp (s.drop L.length) (lo.drop L.length) (hi.drop L.length)) else .inr 1)
 | 0,L,n,hi',hn => by
  obtain ⟨n,rfl⟩ := sun (n := n)
  rw [qbc.l0,ifq,dNl (by omega),dNl (by omega),dNl (by omega)]
  simp [zMay,zp]
 | e + 1,L,n,hi',hn => by
  obtain ⟨n,rfl⟩ := sun (n := n)
  have ha := hs _ (qal (show L.length < s.length by omega) 0)
  have ih := qhO s d lo hi c hs hl h1 h2 e (L ++ [lo.getD L.length 0 + s.getD L.length 0 + hi.getD L.length 0]) n (by simp; omega) (by omega)
  rw [lAp,lSi] at ih
  rw [qbc.l0,ifp,ifp,if_pos (show 0 ≤ (L.length : Int) ∧ (L.length : Int) < (hi.length : Int) by omega),if_pos (show 0 ≤ (L.length : Int) ∧ (L.length : Int) < (s.length : Int) by omega),tNc,
   qaj (show L.length < s.length by omega) (0 : Int),qaj (show L.length < lo.length by omega) (0 : Int),qaj (show L.length < hi.length by omega) (0 : Int)]
  generalize s.getD L.length 0 = a at *
  generalize lo.getD L.length 0 = l at *
  generalize hi.getD L.length 0 = h at *
  by_cases c1 : l < 0
  ·rw [if_pos c1,if_neg (by rw [qca]; omega)]
  by_cases c2 : h < 0
  ·rw [if_neg c1,if_pos c2,if_neg (by rw [qca]; omega)]
  by_cases c3 : 32 < l
  ·rw [if_neg c1,if_neg c2,if_pos c3,if_neg (by rw [qca]; omega)]
  by_cases c4 : 32 < h
  ·rw [if_neg c1,if_neg c2,if_neg c3,if_pos c4,if_neg (by rw [qca]; omega)]
  rw [if_neg c1,if_neg c2,if_neg c3,if_neg c4,if_pos (by simp only [lSi]; omega),qak (n := l + a) (by omega) (by omega),qak (n := l + a + h) (by omega) (by omega),qak (n := (L.length : Int) + 1) (by omega) (by omega),show (L.length : Int) + 1 = ((L.length + 1 : Nat) : Int) by omega,ih]
  by_cases c : zMay (s.drop (L.length + 1)) (lo.drop (L.length + 1)) (hi.drop (L.length + 1)) = true
  ·rw [if_pos c,if_pos (qca.2 ⟨by omega,c⟩)]; simp [zp]
  ·rw [if_neg c,if_neg (fun hh => c (qca.1 hh).2)]
theorem qhM (f : LI) (p : LI) (hf : ∀ a ∈ f,0 ≤ a ∧ a ≤ 32) (hp : ∀ a ∈ p,0 ≤ a ∧ a ≤ 32) (hl : f.length ≤ 4) (hlen : p.length = f.length) (x13 x95 x96 : Int) (s d y2 y5 y6 : LI) : ∀ (e : Nat) (L : LI) (n : Nat),f.length = L.length + e → e < n →
  qbc.l2 n f x13 x95 x96 p.length L.length s d y2 (L ++ p.drop L.length) y5 y6 = some (L ++ zAdd (p.drop L.length) (f.drop L.length))
 | 0,L,n,hi,hn => by
  obtain ⟨n,rfl⟩ := sun (n := n)
  rw [qbc.l2,ifq,dNl (by omega)]; rfl
 | e + 1,L,n,hi,hn => by
  obtain ⟨n,rfl⟩ := sun (n := n)
  have ha := hf _ (qal (show L.length < f.length by omega) 0)
  have hb := hp _ (qal (show L.length < p.length by omega) 0)
  have ih := qhM f p hf hp hl hlen x13 x95 x96 s d y2 y5 y6 e (L ++ [p.getD L.length 0 + f.getD L.length 0]) n (by simp; omega) (by omega)
  have hL : (L ++ p.drop L.length).length = f.length := by rw [lAp,List.length_drop]; omega
  rw [qbc.l2,ifp,if_pos (by rw [hL]; omega),if_pos (by rw [hL]; omega),ifp,tNc,qaj (show L.length < p.length by omega) (0 : Int),qaj (show L.length < f.length by omega) (0 : Int),getL,setL,qak (n := p.getD L.length 0 + f.getD L.length 0) (by omega) (by omega),qak (n := (L.length : Int) + 1) (by omega) (by omega)]
  rw [lAp,lSi] at ih
  rw [show (L.length : Int) + 1 = ((L.length + 1 : Nat) : Int) by omega,ih]
  simp [zAdd]
theorem qjZ : ∀ {p f : LI},p.length = f.length → zSub (zAdd p f) f = p
 | [],[],_ => rfl
 | a :: p,b :: f,h => by
  have := qjZ (p := p) (f := f) (by simpa using h)
  show (a + b - b) :: zSub (zAdd p f) f = a :: p
  rw [this,Int.add_sub_cancel]
 | [],_ :: _,h => by simp at h
 | _ :: _,[],h => by simp at h
theorem qj1 : ∀ {p f : LI},p.length = f.length → zAdd (zSub p f) f = p
 | [],[],_ => rfl
 | a :: p,b :: f,h => by
  have := qj1 (p := p) (f := f) (by simpa using h)
  show (a - b + b) :: zAdd (zSub p f) f = a :: p
  rw [this,Int.sub_add_cancel]
 | [],_ :: _,h => by simp at h
 | _ :: _,[],h => by simp at h
theorem qqw : ∀ {s lo hi p : LI},zMay s lo hi = true → mIn s p = true → mIn (zp s lo hi) (zAdd p lo) = true
 | [],[],[],[],_,_ => rfl
 | a :: s,l :: lo,h :: hi,b :: p,hm,hp => by
  obtain ⟨h1,h2⟩ := qca.1 hm
  obtain ⟨h3,h4⟩ := qbH.1 hp
  exact qbH.2 ⟨by show 0 ≤ b + l ∧ b + l < l + a + h; omega,qqw h2 h4⟩
 | [],_ :: _,_,_,h,_ => by simp [zMay] at h
 | [],[],_ :: _,_,h,_ => by simp [zMay] at h
 | _ :: _,[],_,_,h,_ => by simp [zMay] at h
 | _ :: _,_ :: _,[],_,h,_ => by simp [zMay] at h
 | [],[],[],_ :: _,_,h => by simp [mIn] at h
 | _ :: _,_ :: _,_ :: _,[],_,h => by simp [mIn] at h
theorem qoa (m t : Nat) (v : Int) (g g' : Nat → Int) (h : g' t = v) (ho : ∀ j,j ≠ t → j < m → g' j = g j) : ((List.range m).map g).set t v = (List.range m).map g' := by
 apply List.ext_getElem (by simp)
 intro j h1 h2
 have hj : j < m := by simpa using h2
 rw [List.getElem_set,List.getElem_map,List.getElem_map,List.getElem_range]
 by_cases e : t = j
 ·subst e; rw [if_pos rfl,h]
 ·rw [if_neg e,ho j (fun h => e h.symm) hj]
def pdI (s d lo : LI) (c : Int) (i : Nat) (p : LI) : Int := if mIn s (zSub p lo) = true ∧ ix s (zSub p lo) < i then d.getD (ix s (zSub p lo)).toNat 0 else c
theorem qhN {s d lo hi : LI} (h : zT s d = true) (hm : zMay s lo hi = true) (ho : mSR (zp s lo hi) = true) (c : Int) (k : Nat) (hk : 20 ≤ k) (y4 : LI) : ∀ (e i n : Nat),d.length = i + e → e + 10 < n →
  qbc.l1 k n lo d.length i s d (zp s lo hi) y4 ((List.range (pr (zp s lo hi)).toNat).map fun (j : Nat) => pdI s d lo c i (pl (zp s lo hi) j)) = some (zPad s d lo hi c)
 | 0,i,n,hi',hn => by
  obtain ⟨n,rfl⟩ := sun (n := n)
  obtain ⟨_,hd⟩ := qbo h
  rw [qbc.l1,ifq]
  unfold zPad made
  congr 1
  apply List.map_congr_left
  intro j _
  unfold pdI pdF
  by_cases hc : mIn s (zSub (pl (zp s lo hi) j) lo) = true
  ·have := qix hc
   rw [if_pos ⟨hc,by omega⟩,if_pos hc]
  ·rw [if_neg (fun hh => hc hh.1),if_neg hc]
 | e + 1,i,n,hi',hn => by
  obtain ⟨n,rfl⟩ := sun (n := n)
  obtain ⟨hr,hd⟩ := qbo h
  obtain ⟨g1,g2,g3⟩ := qam hr
  obtain ⟨l1,l2⟩ := qep hm
  have hpos := qdh hr (by omega)
  have hpi : mIn s (pl s i) = true := qiv (fun b hb => (hpos b hb).1) i
  have hpo := qqw hm hpi
  have hb := qix hpo
  have hz : zIx (zp s lo hi) (zAdd (pl s i) lo) = ix (zp s lo hi) (zAdd (pl s i) lo) := if_pos ⟨ho,hpo⟩
  have ih := qhN h hm ho c k hk y4 e (i + 1) n (by omega) (by omega)
  have l2 := qhM lo (pl s i) (qnl hm) (qqK hr (by omega) i) (by omega) (by rw [qc4]; omega) i d.length i s d (zp s lo hi) y4 ((List.range (pr (zp s lo hi)).toNat).map fun (j : Nat) => pdI s d lo c i (pl (zp s lo hi) j)) lo.length [] n (by simp) (by omega)
  rw [List.length_nil,n0,dZr,dZr,nAp,nAp] at l2
  have hix : ix s (pl s i) = i := qo5 (fun x hx => (g2 x hx).1) (by omega) (by omega)
  have hset := qoa (pr (zp s lo hi)).toNat (ix (zp s lo hi) (zAdd (pl s i) lo)).toNat (d.getD i 0) (fun (j : Nat) => pdI s d lo c i (pl (zp s lo hi) j)) (fun (j : Nat) => pdI s d lo c (i + 1) (pl (zp s lo hi) j))
   (by
    rw [show (((ix (zp s lo hi) (zAdd (pl s i) lo)).toNat : Nat) : Int) = ix (zp s lo hi) (zAdd (pl s i) lo) by omega,qnW hpo]
    unfold pdI
    rw [qjZ (by rw [qc4]; omega),hix,if_pos ⟨hpi,by omega⟩,tNc])
   (fun j hj hjm => by
    have hpo0 : 0 < pr (zp s lo hi) := by omega
    have hposo := qdh ho hpo0
    unfold pdI
    by_cases hc : mIn s (zSub (pl (zp s lo hi) j) lo) = true
    ·have hne : ix s (zSub (pl (zp s lo hi) j) lo) ≠ i := fun e => by
      have e1 := qnW hc
      rw [e] at e1
      have e2 : zAdd (pl s i) lo = pl (zp s lo hi) j := by rw [e1]; exact qj1 (by rw [qc4,qnb l1 (qep hm).2]; omega)
      have e3 := qo5 (s := zp s lo hi) (fun x hx => ((hposo x hx).1 |> Int.le_of_lt)) (x := (j : Int)) (by omega) (by omega)
      rw [← e2] at e3
      omega
     by_cases ha : ix s (zSub (pl (zp s lo hi) j) lo) < i
     ·rw [if_pos ⟨hc,by omega⟩,if_pos ⟨hc,ha⟩]
     ·rw [if_neg (fun hh => by have := hh.2; omega),if_neg (fun hh => ha hh.2)]
    ·rw [if_neg (fun hh => hc hh.1),if_neg (fun hh => hc hh.1)])
  rw [qbc.l1,ifp,qce hr (by omega) (by omega) k hk,obs,l2,obs,qdY _ _ k hk,obs,hz,
   ifp,if_pos (by rw [List.length_map,List.length_range]; omega),if_pos (by rw [List.length_map,List.length_range]; omega),tNc,hset,qak (n := (i : Int) + 1) (by omega) (by omega),show (i : Int) + 1 = ((i + 1 : Nat) : Int) by omega]
  exact ih
theorem qmM (s d lo hi : LI) (c : Int) (k : Nat) (hk : 120000 ≤ k) : qbc.f k s d lo hi c = some (if zT s d = true then (if zMay s lo hi = true then (if mSR (zp s lo hi) = true then (0,zp s lo hi,zPad s d lo hi c) else (13,[],[])) else (1,[],[])) else (13,[],[])) := by
  unfold qbc.f
  rw [qbS s d k (by omega),obs]
  by_cases h : zT s d = true
  · obtain ⟨hr,hd⟩ := qbo h
    obtain ⟨h4,hs,hpr⟩ := qam hr
    rw [if_pos h,if_pos h]
    by_cases h1 : lo.length = s.length
    · by_cases h2 : hi.length = s.length
      · have l0 := qhO s d lo hi c hs h4 h1 h2 s.length [] k (by simp) (by omega)
        rw [List.length_nil,n0,dZr,dZr,dZr,nAp] at l0
        rw [ifp,ifp,l0,obs]
        by_cases hm : zMay s lo hi = true
        · rw [if_pos hm,if_pos hm,Sum.elim_inl,qbj _ k (by omega),obs]
          by_cases ho : mSR (zp s lo hi) = true
          · have hol := qnb h1 h2
            have hb := qam ho
            have h0 := qcL fun x hx => (hb.2.1 x hx).1
            have this := qhN h hm ho c k (by omega) (zp s lo hi) d.length 0 k (by omega) (by omega)
            rw [if_pos ho,if_pos ho,qbz _ c (by omega) k hk,obs,zSz,if_pos ho]
            rw [n0] at this
            have e : List.replicate (pr (zp s lo hi)).toNat c = (List.range (pr (zp s lo hi)).toNat).map fun (j : Nat) => pdI s d lo c 0 (pl (zp s lo hi) j) := by
              apply List.ext_getElem (by simp)
              intro j _ _
              rw [List.getElem_replicate,List.getElem_map]
              unfold pdI
              rw [if_neg (fun hh => by have := qix hh.1; have := hh.2; omega)]
            rw [e,this]; rfl
          · rw [if_neg ho,if_neg ho]
        · rw [if_neg hm,if_neg hm,Sum.elim_inr]
      · rw [ifp,ifq,if_neg (fun hh => h2 (qep hh).2)]
    · rw [ifq,if_neg (fun hh => h1 (qep hh).1)]
  · rw [if_neg h,if_neg h]
end Go.Pf

namespace Go.Pf
open Go Go.Vm
theorem qaz {l : LI} {i : Nat} {x d : Int} (h : i < l.length) : (l.set i x).getD i d = x := by rw [qez,if_pos ⟨rfl,h⟩]
abbrev Tn := LI × LI
def zMt (ax : Nat) (s out : LI) : Nat → Nat → Bool
 | 0,_ => true
 | d + 1,i => (decide (i = ax) || decide (s.getD i 0 = out.getD i 0)) && zMt ax s out d (i + 1)
theorem qnj {ax : Nat} {s out : LI} : ∀ {d i : Nat},zMt ax s out d i = true → ∀ j,i ≤ j → j < i + d → j ≠ ax → s.getD j 0 = out.getD j 0
 | 0,i,_,j,h1,h2,_ => by omega
 | d + 1,i,h,j,h1,h2,hj => by
  simp only [zMt,bAt,Bool.or_eq_true,decide_eq_true_eq] at h
  by_cases e : i = j
  ·subst e; exact h.1.resolve_left hj
  ·exact qnj h.2 j (by omega) (by omega) hj
theorem qdj {ax : Nat} {s out : LI} {d i : Nat} : zMt ax s out (d + 1) i = true ↔ (i = ax ∨ s.getD i 0 = out.getD i 0) ∧ zMt ax s out d (i + 1) = true := by
 simp only [zMt,bAt,Bool.or_eq_true,decide_eq_true_eq]
def zJo (ax : Nat) : List LI → LI → Option LI
 | [],out => some out
 | s :: r,out => if s.length = out.length ∧ zMt ax s out s.length 0 = true ∧ out.getD ax 0 + s.getD ax 0 ≤ 32 then zJo ax r (out.set ax (out.getD ax 0 + s.getD ax 0)) else none
theorem qfu (ax : Nat) (s out : LI) (hl : s.length ≤ 1000) (he : s.length = out.length) (x33 : List LI) (x34 x35 : Int) (x8 : LI) : ∀ (d i n : Nat),s.length = i + d → d < n →
  qaW.l1 n ax x8 x33 x34 x35 s s.length i out = some (if zMt ax s out d i = true then .inl () else .inr 13)
 | 0,i,n,hi,hn => by
  obtain ⟨n,rfl⟩ := sun (n := n)
  rw [qaW.l1,ifq]; rfl
 | d + 1,i,n,hi,hn => by
  obtain ⟨n,rfl⟩ := sun (n := n)
  have ih := qfu ax s out hl he x33 x34 x35 x8 d (i + 1) n (by omega) (by omega)
  rw [qaW.l1,ifp,ifp,qak (n := (i : Int) + 1) (by omega) (by omega),show (i : Int) + 1 = ((i + 1 : Nat) : Int) by omega,ih,tNc]
  by_cases c1 : (i : Int) = ax
  ·rw [if_pos c1]
   by_cases c : zMt ax s out d (i + 1) = true
   ·rw [if_pos c,if_pos (qdj.2 ⟨.inl (by omega),c⟩)]
   ·rw [if_neg c,if_neg (fun hh => c (qdj.1 hh).2)]
  rw [if_neg c1,ifp,ifp]
  by_cases c2 : s.getD i 0 = out.getD i 0
  ·rw [if_pos c2]
   by_cases c : zMt ax s out d (i + 1) = true
   ·rw [if_pos c,if_pos (qdj.2 ⟨.inr c2,c⟩)]
   ·rw [if_neg c,if_neg (fun hh => c (qdj.1 hh).2)]
  ·rw [if_neg c2,if_neg (fun hh => by
    rcases (qdj.1 hh).1 with e | e
    ·omega
    ·exact c2 e)]
theorem qfv (ax : Nat) (k : Nat) (sh : List LI) (hsh : ∀ s ∈ sh,s.length ≤ 4 ∧ ∀ x ∈ s,0 ≤ x ∧ x ≤ 32) (hl : sh.length ≤ 17592186043904) : ∀ (d i n : Nat) (out : LI),sh.length = i + d → d + 10 < n → ax < out.length → 0 ≤ out.getD ax 0 → out.getD ax 0 ≤ 32 →
    qaW.l0 k n ax sh sh.length i out = some (match zJo ax (sh.drop i) out with | some o => .inl o | none => .inr 13)
  | 0,i,n,out,hi,hn,hax,h0,h1 => by
    obtain ⟨n,rfl⟩ := sun (n := n)
    rw [qaW.l0,ifq,dNl (by omega)]; rfl
  | d + 1,i,n,out,hi,hn,hax,h0,h1 => by
    obtain ⟨n,rfl⟩ := sun (n := n)
    have hs := hsh _ (qal (show i < sh.length by omega) [])
    rw [qaW.l0,ifp,ifp,tNc,qaj (show i < sh.length by omega) ([] : LI)]
    generalize sh.getD i [] = s at hs ⊢
    by_cases c1 : s.length = out.length
    · rw [ifp]
      have l1 := qfu ax s out (by omega) c1 sh sh.length i s s.length 0 n (by omega) (by omega)
      rw [n0] at l1
      rw [l1,obs]
      by_cases c2 : zMt ax s out s.length 0 = true
      · have hx := hs.2 _ (qal (show ax < s.length by omega) 0)
        rw [if_pos c2,Sum.elim_inl,tNc,ifp,ifp,ifp,qak (n := out.getD ax 0 + s.getD ax 0) (by omega) (by omega),if_pos (by rw [List.length_set]; omega),if_pos (by rw [List.length_set]; omega),qaz hax]
        by_cases c3 : 32 < out.getD ax 0 + s.getD ax 0
        · rw [if_pos c3,zJo,ifq]
        · have ih := qfv ax k sh hsh hl d (i + 1) n (out.set ax (out.getD ax 0 + s.getD ax 0)) (by omega) (by omega) (by rw [List.length_set]; exact hax) (by rw [qaz hax]; omega) (by rw [qaz hax]; omega)
          rw [if_neg c3,qak (n := (i : Int) + 1) (by omega) (by omega),show (i : Int) + 1 = ((i + 1 : Nat) : Int) by omega,ih,zJo,if_pos ⟨c1,c2,by omega⟩]
      · rw [if_neg c2,Sum.elim_inr,zJo,if_neg (fun hh => c2 hh.2.1)]
    · rw [ifq,zJo,if_neg (fun hh => c1 hh.1)]
def zJs (ax : Int) (sh : List LI) : Int × LI :=
 if sh = [] ∨ ax < 0 ∨ ((sh.getD 0 []).length : Int) ≤ ax then (1,[]) else
 match zJo ax.toNat sh ((sh.getD 0 []).set ax.toNat 0) with
 | some o => if mSR o = true then (0,o) else (13,[])
 | none => (13,[])
theorem qjV (ax : Int) (sh : List LI) (hsh : ∀ s ∈ sh,s.length ≤ 4 ∧ ∀ x ∈ s,0 ≤ x ∧ x ≤ 32) (hl : sh.length ≤ 17592186043904) (k : Nat) (hk : sh.length + 100 ≤ k) : qaW.f k ax sh = some (zJs ax sh) := by
 unfold qaW.f zJs
 by_cases c1 : sh = []
 ·subst c1; rw [if_pos (show (([] : List LI).length : Int) = 0 from rfl),if_pos (.inl rfl)]
 have hpos : 0 < sh.length := List.length_pos_iff.2 c1
 rw [ifq]
 by_cases c2 : ax < 0
 ·rw [if_pos c2,if_pos (.inr (.inl c2))]
 rw [if_neg c2,ifp]
 by_cases c3 : ((sh.getD 0 []).length : Int) ≤ ax
 ·rw [if_pos c3,if_pos (.inr (.inr c3))]
 have hs := hsh _ (qal hpos [])
 rw [if_neg c3,if_neg (fun hh => hh.elim c1 fun hh => hh.elim c2 c3),qc7 _ (by omega),obs,ifp,ifp]
 have l0 := qfv ax.toNat k sh hsh hl sh.length 0 k ((sh.getD 0 []).set ax.toNat 0) (by omega) (by omega) (by rw [List.length_set]; omega) (by rw [qaz (by omega)]; omega) (by rw [qaz (by omega)]; omega)
 rw [n0,dZr,show ((ax.toNat : Nat) : Int) = ax by omega] at l0
 rw [l0,obs]
 cases zJo ax.toNat sh ((sh.getD 0 []).set ax.toNat 0) with
 | none => rfl
 | some o =>
  dsimp only
  rw [Sum.elim_inl,qb1 o k (by omega),obs]
  by_cases c : mSR o = true
  ·rw [if_pos c,if_pos c]
  ·rw [if_neg c,if_neg c]
def zJ (ax : Nat) : List Tn → LI → Int
 | [],_ => 0
 | t :: r,p => if p.getD ax 0 < t.1.getD ax 0 then (if mIn t.1 p = true then t.2.getD (ix t.1 p).toNat 0 else 0) else zJ ax r (p.set ax (p.getD ax 0 - t.1.getD ax 0))
end Go.Pf

namespace Go.Pf
open Go Go.Vm
theorem qcl {l : LI} {i : Nat} {x : Int} : (l.set i x).length = l.length := List.length_set
theorem qc2 {l : LI} {i j : Nat} {x d : Int} (h : i ≠ j) : (l.set i x).getD j d = l.getD j d := by rw [qez,if_neg (fun hh => h hh.1)]
theorem qlP {ax : Nat} : ∀ {sh : List LI} {o0 o : LI},zJo ax sh o0 = some o → ax < o0.length →
  o.length = o0.length ∧ (∀ s ∈ sh,s.length = o0.length ∧ ∀ j,j < s.length → j ≠ ax → s.getD j 0 = o0.getD j 0) ∧ (∀ j,j ≠ ax → o.getD j 0 = o0.getD j 0) ∧ o.getD ax 0 = o0.getD ax 0 + sm (sh.map fun s => s.getD ax 0)
 | [],o0,o,h,hax => by
  cases h
  exact ⟨rfl,(fun s hs => by cases hs),fun _ _ => rfl,(by simp [sm])⟩
 | s :: r,o0,o,h,hax => by
  unfold zJo at h
  split at h
  rotate_left
  ·cases h
  rename_i hc
  obtain ⟨h1,h2,h3⟩ := hc
  obtain ⟨i1,i2,i3,i4⟩ := qlP h (by rw [qcl]; exact hax)
  rw [qcl] at i1
  rw [qaz hax] at i4
  refine ⟨i1,fun t ht => ?_,fun j hj => by rw [i3 j hj,qc2 (fun e => hj e.symm)],?_⟩
  ·rcases List.mem_cons.1 ht with e | ht
   ·subst e; exact ⟨h1,fun j hj hne => qnj h2 j (by omega) (by omega) hne⟩
   ·obtain ⟨k1,k2⟩ := i2 t ht
    rw [qcl] at k1
    exact ⟨k1,fun j hj hne => by rw [k2 j hj hne,qc2 (fun e => hne e.symm)]⟩
  ·rw [i4,List.map_cons]
   show _ = o0.getD ax 0 + (s.getD ax 0 + sm (r.map fun s => s.getD ax 0))
   omega
def zJoin (ax : Int) (l : List Tn) : Int × LI × LI :=
 if l.all (fun t => zT t.1 t.2) = true then
  (if (zJs ax (l.map (·.1))).1 = 0 then (0,(zJs ax (l.map (·.1))).2,made (zJs ax (l.map (·.1))).2 (zJ ax.toNat l)) else ((zJs ax (l.map (·.1))).1,[],[]))
 else (13,[],[])
theorem qqE {ax : Int} {l : List Tn} (hT : l.all (fun t => zT t.1 t.2) = true) (h : (zJs ax (l.map (·.1))).1 = 0) :
  ∃ o,(zJs ax (l.map (·.1))).2 = o ∧ mSR o = true ∧ 0 < l.length ∧ 0 ≤ ax ∧ ax.toNat < o.length ∧ zJo ax.toNat (l.map (·.1)) ((l.getD 0 ([],[])).1.set ax.toNat 0) = some o ∧
   o.length = (l.getD 0 ([],[])).1.length ∧ (∀ t ∈ l,t.1.length = o.length ∧ ∀ j,j < o.length → j ≠ ax.toNat → t.1.getD j 0 = o.getD j 0) ∧ o.getD ax.toNat 0 = sm (l.map fun t => t.1.getD ax.toNat 0) := by
 unfold zJs at h ⊢
 split at h
 ·simp at h
 rename_i hc
 rw [if_neg hc]
 have hl : 0 < l.length := by
  refine Nat.pos_of_ne_zero fun e => hc (.inl ?_)
  rw [List.length_eq_zero_iff.1 e]; rfl
 have h0 : ((l.map (·.1)).getD 0 []) = (l.getD 0 ([],[])).1 := by
  cases l with
  | nil => simp at hl
  | cons _ _ => rfl
 rw [h0] at h hc ⊢
 have hax : ax.toNat < ((l.getD 0 ([],[])).1.set ax.toNat 0).length := by rw [qcl]; omega
 cases hz : zJo ax.toNat (l.map (·.1)) ((l.getD 0 ([],[])).1.set ax.toNat 0) with
 | none => rw [hz] at h; simp at h
 | some o =>
  rw [hz] at h
  dsimp only at h ⊢
  by_cases ho : mSR o = true
  ·rw [if_pos ho]
   obtain ⟨i1,i2,i3,i4⟩ := qlP hz hax
   rw [qcl] at i1
   rw [qcl] at hax
   refine ⟨o,rfl,ho,hl,by omega,by omega,rfl,i1,fun t ht => ?_,?_⟩
   ·obtain ⟨k1,k2⟩ := i2 t.1 (List.mem_map_of_mem ht)
    rw [qcl] at k1
    exact ⟨by omega,fun j hj hne => by rw [k2 j (by omega) hne,i3 j hne]⟩
   ·rw [i4,qaz hax,Int.zero_add,List.map_map]; rfl
  ·rw [if_neg ho] at h; simp at h
end Go.Pf

namespace Go.Pf
open Go Go.Vm
theorem qgV (k : Nat) (hk : 10 ≤ k) (l : List Tn) (hl : l.length ≤ 100000) (a0 : Int) : ∀ (d i n : Nat),l.length = i + d → d < n →
  qas.l0 k n a0 l l.length i = some (if (l.drop i).all (fun t => zT t.1 t.2) = true then .inl () else .inr 13)
 | 0,i,n,hi,hn => by
  obtain ⟨n,rfl⟩ := sun (n := n)
  rw [qas.l0,ifq,dNl (by omega)]; rfl
 | d + 1,i,n,hi,hn => by
  obtain ⟨n,rfl⟩ := sun (n := n)
  have ih := qgV k hk l hl a0 d (i + 1) n (by omega) (by omega)
  rw [qas.l0,ifp,ifp,tNc,qbS _ _ k hk,obs,qaj (show i < l.length by omega) (([],[]) : Tn),List.all_cons]
  by_cases c : zT (l.getD i ([],[])).1 (l.getD i ([],[])).2 = true
  ·rw [if_pos c,qak (n := (i : Int) + 1) (by omega) (by omega),show (i : Int) + 1 = ((i + 1 : Nat) : Int) by omega,ih,c,Bool.true_and]
  ·rw [if_neg c,if_neg (by rw [bAt]; exact fun hh => c hh.1)]
theorem qgT (ax : Nat) (l : List Tn) (q : Nat) (hq : q < l.length) (out : LI) (hl : out.length ≤ 1000) (he : (l.getD q ([],[])).1.length = out.length) (x55 x56 : Int) : ∀ (d i n : Nat),out.length = i + d → d < n →
  qas.l2 n ax l q x55 x56 out.length i out = some (if zMt ax (l.getD q ([],[])).1 out d i = true then .inl () else .inr 13)
 | 0,i,n,hi,hn => by
  obtain ⟨n,rfl⟩ := sun (n := n)
  rw [qas.l2,ifq]; rfl
 | d + 1,i,n,hi,hn => by
  obtain ⟨n,rfl⟩ := sun (n := n)
  have ih := qgT ax l q hq out hl he x55 x56 d (i + 1) n (by omega) (by omega)
  rw [qas.l2,ifp,qak (n := (i : Int) + 1) (by omega) (by omega),show (i : Int) + 1 = ((i + 1 : Nat) : Int) by omega,ih,tNc,tNc]
  by_cases c1 : (i : Int) = ax
  ·rw [if_pos c1]
   by_cases c : zMt ax (l.getD q ([],[])).1 out d (i + 1) = true
   ·rw [if_pos c,if_pos (qdj.2 ⟨.inl (by omega),c⟩)]
   ·rw [if_neg c,if_neg (fun hh => c (qdj.1 hh).2)]
  rw [if_neg c1,ifp,ifp,ifp,ifp]
  by_cases c2 : (l.getD q ([],[])).1.getD i 0 = out.getD i 0
  ·rw [if_pos c2]
   by_cases c : zMt ax (l.getD q ([],[])).1 out d (i + 1) = true
   ·rw [if_pos c,if_pos (qdj.2 ⟨.inr c2,c⟩)]
   ·rw [if_neg c,if_neg (fun hh => c (qdj.1 hh).2)]
  ·rw [if_neg c2,if_neg (fun hh => by
    rcases (qdj.1 hh).1 with e | e
    ·omega
    ·exact c2 e)]
theorem qgU (ax : Nat) (k : Nat) (l : List Tn) (hsh : ∀ t ∈ l,t.1.length ≤ 4 ∧ ∀ x ∈ t.1,0 ≤ x ∧ x ≤ 32) (hl : l.length ≤ 100000) : ∀ (d i n : Nat) (out : LI),l.length = i + d → d + 10 < n → ax < out.length → 0 ≤ out.getD ax 0 → out.getD ax 0 ≤ 32 →
    qas.l1 k n ax l l.length i out = some (match zJo ax ((l.drop i).map (·.1)) out with | some o => .inl o | none => .inr 13)
  | 0,i,n,out,hi,hn,hax,h0,h1 => by
    obtain ⟨n,rfl⟩ := sun (n := n)
    rw [qas.l1,ifq,dNl (by omega)]; rfl
  | d + 1,i,n,out,hi,hn,hax,h0,h1 => by
    obtain ⟨n,rfl⟩ := sun (n := n)
    have hs := hsh _ (qal (show i < l.length by omega) ([],[]))
    rw [qas.l1,ifp,ifp,qaj (show i < l.length by omega) (([],[]) : Tn),List.map_cons,show ((i : Int)).toNat = i from tNc i]
    by_cases c1 : (l.getD i ([],[])).1.length = out.length
    · rw [ifp]
      have l2 := qgT ax l i (by omega) out (by omega) c1 l.length i out.length 0 n (by omega) (by omega)
      rw [n0] at l2
      rw [l2,obs]
      generalize (l.getD i ([],[])).1 = s at hs c1 ⊢
      by_cases c2 : zMt ax s out out.length 0 = true
      · have hx := hs.2 _ (qal (show ax < s.length by omega) 0)
        rw [if_pos c2,Sum.elim_inl,tNc,ifp,ifp,ifp,qak (n := out.getD ax 0 + s.getD ax 0) (by omega) (by omega),if_pos (by rw [List.length_set]; omega),if_pos (by rw [List.length_set]; omega),qaz hax]
        by_cases c3 : 32 < out.getD ax 0 + s.getD ax 0
        · rw [if_pos c3,zJo,ifq]
        · have ih := qgU ax k l hsh hl d (i + 1) n (out.set ax (out.getD ax 0 + s.getD ax 0)) (by omega) (by omega) (by rw [List.length_set]; exact hax) (by rw [qaz hax]; omega) (by rw [qaz hax]; omega)
          rw [if_neg c3,qak (n := (i : Int) + 1) (by omega) (by omega),show (i : Int) + 1 = ((i + 1 : Nat) : Int) by omega,ih,zJo,if_pos ⟨c1,by rw [c1]; exact c2,by omega⟩]
      · rw [if_neg c2,Sum.elim_inr,zJo,if_neg (fun hh => c2 (by rw [← c1]; exact hh.2.1))]
    · rw [ifq,zJo,if_neg (fun hh => c1 hh.1)]
def jnG (ax : Nat) (l : List Tn) (c : Int) (s : LI) (i : Nat) (p : LI) : Int :=
 if p.getD ax 0 < c ∨ (p.getD ax 0 < c + s.getD ax 0 ∧ ix s (p.set ax (p.getD ax 0 - c)) < i) then zJ ax l p else 0
structure JOK (ax : Nat) (o : LI) (t : Tn) : Prop where
 T : zT t.1 t.2 = true
 len : t.1.length = o.length
 eq : ∀ j,j < o.length → j ≠ ax → t.1.getD j 0 = o.getD j 0
theorem qhn {ax : Nat} {o : LI} {t : Tn} (h : JOK ax o t) (hax : ax < o.length) {p : LI} (hp : mIn o p = true) {c : Int} (h0 : c ≤ p.getD ax 0) (h1 : p.getD ax 0 < c + t.1.getD ax 0) : mIn t.1 (p.set ax (p.getD ax 0 - c)) = true := by
 have hl := qeS hp
 refine qky (by rw [qcl,hl,h.len]) fun j hj => ?_
 by_cases e : j = ax
 ·subst e; rw [qaz (by omega)]; omega
 ·rw [qc2 (fun e' => e e'.symm),h.eq j (by rw [← h.len]; exact hj) e]
  exact qeT hp j (by rw [← h.len]; exact hj)
theorem qqT {ax : Nat} {o : LI} {t : Tn} (h : JOK ax o t) (hax : ax < o.length) {r : LI} (hr : mIn t.1 r = true) {c : Int} (h0 : 0 ≤ c) (h1 : c + t.1.getD ax 0 ≤ o.getD ax 0) : mIn o (r.set ax (r.getD ax 0 + c)) = true := by
 have hl := qeS hr
 refine qky (by rw [qcl,hl,h.len]) fun j hj => ?_
 have hg := qeT hr j (by rw [h.len]; exact hj)
 by_cases e : j = ax
 ·subst e; rw [qaz (by rw [hl,h.len]; exact hax)]; omega
 ·rw [qc2 (fun e' => e e'.symm),← h.eq j hj e]; exact hg
theorem set_set {l : LI} {i : Nat} {x y : Int} : (l.set i x).set i y = l.set i y := by simp
theorem qfT {l : LI} {i : Nat} {x : Int} (h : x = l.getD i 0) : l.set i x = l := by
 subst h
 apply qo9 (by simp)
 intro j hj
 rw [qez]
 split
 ·rename_i hh; rw [hh.1]
 ·rfl
theorem qnp (ax : Nat) {o : LI} (hax : ax < o.length) : ∀ (l r : List Tn) (p : LI),(∀ t ∈ l,0 ≤ t.1.getD ax 0) → ax < p.length → sm (l.map fun t => t.1.getD ax 0) ≤ p.getD ax 0 → zJ ax (l ++ r) p = zJ ax r (p.set ax (p.getD ax 0 - sm (l.map fun t => t.1.getD ax 0)))
 | [],r,p,_,hp,h => by
  show zJ ax r p = zJ ax r (p.set ax (p.getD ax 0 - 0))
  rw [qfT (by omega)]
 | t :: l,r,p,h0,hp,h => by
  have h1 : t.1.getD ax 0 + sm (l.map fun t => t.1.getD ax 0) ≤ p.getD ax 0 := h
  have h2 : 0 ≤ sm (l.map fun t => t.1.getD ax 0) := by
   have : ∀ l : List Tn,(∀ t ∈ l,0 ≤ t.1.getD ax 0) → 0 ≤ sm (l.map fun t => t.1.getD ax 0) := fun l => by
    induction l with
    | nil => intro _; exact Int.le_refl _
    | cons a l ih =>
     intro hh
     have e1 := hh a (List.mem_cons_self ..)
     have e2 := ih fun b hb => hh b (mCm _ hb)
     show 0 ≤ a.1.getD ax 0 + sm (l.map fun t => t.1.getD ax 0)
     omega
   exact this l fun b hb => h0 b (mCm _ hb)
  rw [List.cons_append,zJ,ifq,qnp ax hax l r _ (fun b hb => h0 b (mCm _ hb)) (by rw [qcl]; exact hp) (by rw [qaz hp]; omega),qaz hp,set_set]
  show _ = zJ ax r (p.set ax (p.getD ax 0 - (t.1.getD ax 0 + sm (l.map fun t => t.1.getD ax 0))))
  congr 2; omega
end Go.Pf

namespace Go.Pf
open Go Go.Vm
def jnE (ax : Nat) (l : List Tn) (c : Int) (p : LI) : Int := if p.getD ax 0 < c then zJ ax l p else 0
def puts (o : LI) (f : LI → Int) : LI := (List.range (pr o).toNat).map fun (j : Nat) => f (pl o j)
theorem qe6 {o : LI} (ho : mSR o = true) {f g : LI → Int} (h : ∀ p,mIn o p = true → f p = g p) : puts o f = puts o g := qmU ho h
theorem ql3 {o : LI} (f : LI → Int) : (puts o f).length = (pr o).toNat := by simp [puts]
theorem qgR {ax : Nat} {o : LI} {l : List Tn} {q : Nat} (hq : q < l.length) (hl : l.length ≤ 100000) (ho : mSR o = true) (hax : ax < o.length) (hj : JOK ax o (l.getD q ([],[]))) {c : Int} (c0 : 0 ≤ c) (c1 : c + (l.getD q ([],[])).1.getD ax 0 ≤ o.getD ax 0)
  (hv : ∀ p,mIn o p = true → c ≤ p.getD ax 0 → p.getD ax 0 < c + (l.getD q ([],[])).1.getD ax 0 → zJ ax l p = (l.getD q ([],[])).2.getD (ix (l.getD q ([],[])).1 (p.set ax (p.getD ax 0 - c))).toNat 0)
  (k : Nat) (hk : 20 ≤ k) (x124 x125 : Int) (y3 : LI) : ∀ (e i n : Nat),(l.getD q ([],[])).2.length = i + e → e < n →
  qas.l4 k n ax l c q x124 x125 (l.getD q ([],[])).2.length i o y3 (puts o (jnG ax l c (l.getD q ([],[])).1 i)) = some (puts o (jnE ax l (c + (l.getD q ([],[])).1.getD ax 0)))
 | 0,i,n,hi,hn => by
  obtain ⟨n,rfl⟩ := sun (n := n)
  rw [qas.l4,ifq]
  generalize l.getD q ([],[]) = t at *
  obtain ⟨_,hd⟩ := qbo hj.T
  congr 1
  refine qe6 ho fun p hp => ?_
  unfold jnG jnE
  by_cases h1 : p.getD ax 0 < c
  ·have hs := (qam (qbo hj.T).1).2.1 _ (qal (show ax < t.1.length by rw [hj.len]; exact hax) 0)
   rw [if_pos (.inl h1),ifp]
  ·by_cases h2 : p.getD ax 0 < c + t.1.getD ax 0
   ·have := qix (qhn hj hax hp (c := c) (by omega) h2)
    rw [if_pos (.inr ⟨h2,by omega⟩),if_pos h2]
   ·rw [if_neg (fun hh => hh.elim h1 fun h => h2 h.1),if_neg h2]
 | e + 1,i,n,hi,hn => by
  obtain ⟨n,rfl⟩ := sun (n := n)
  have ih := qgR hq hl ho hax hj c0 c1 hv k hk x124 x125 y3 e (i + 1) n (by omega) (by omega)
  rw [qas.l4,ifp,ifp,tNc]
  generalize l.getD q ([],[]) = t at *
  obtain ⟨hr,hd⟩ := qbo hj.T
  obtain ⟨g1,g2,g3⟩ := qam hr
  obtain ⟨b1,b2,b3⟩ := qam ho
  have hta : ax < t.1.length := by rw [hj.len]; exact hax
  have hpos := qdh hr (by omega)
  have hpi : mIn t.1 (pl t.1 i) = true := qiv (fun b hb => (hpos b hb).1) i
  have hpo := qqT hj hax hpi c0 c1
  have hb := qix hpo
  have hrx := qeT hpi ax hta
  have hox := b2 _ (qal hax 0)
  have hix : ix t.1 (pl t.1 i) = i := qo5 (fun x hx => (g2 x hx).1) (by omega) (by omega)
  have hpl : (pl t.1 i).length = t.1.length := qc4 ..
  rw [qce hr (by omega) (by omega) k hk,obs,ifp,tNc,ifp,qak (n := (pl t.1 i).getD ax 0 + c) (by omega) (by omega),qdY _ _ k hk,obs]
  have hz : zIx o ((pl t.1 i).set ax ((pl t.1 i).getD ax 0 + c)) = ix o ((pl t.1 i).set ax ((pl t.1 i).getD ax 0 + c)) := if_pos ⟨ho,hpo⟩
  rw [hz]
  have hset := qoa (pr o).toNat (ix o ((pl t.1 i).set ax ((pl t.1 i).getD ax 0 + c))).toNat (t.2.getD i 0) (fun (j : Nat) => jnG ax l c t.1 i (pl o j)) (fun (j : Nat) => jnG ax l c t.1 (i + 1) (pl o j))
   (by
    rw [show (((ix o ((pl t.1 i).set ax ((pl t.1 i).getD ax 0 + c))).toNat : Nat) : Int) = ix o ((pl t.1 i).set ax ((pl t.1 i).getD ax 0 + c)) by omega,qnW hpo]
    have hg : ((pl t.1 i).set ax ((pl t.1 i).getD ax 0 + c)).getD ax 0 = (pl t.1 i).getD ax 0 + c := qaz (by omega)
    have hback : (((pl t.1 i).set ax ((pl t.1 i).getD ax 0 + c)).set ax (((pl t.1 i).set ax ((pl t.1 i).getD ax 0 + c)).getD ax 0 - c)) = pl t.1 i := by
     rw [hg,set_set,qfT (by omega)]
    have hval := hv _ hpo (by rw [hg]; omega) (by rw [hg]; omega)
    rw [hback,hix,tNc] at hval
    unfold jnG
    rw [if_pos (.inr ⟨by rw [hg]; omega,by rw [hback,hix]; omega⟩),hval])
   (fun j hjne hjm => by
    have hposo := qdh ho (by omega)
    have hpj : mIn o (pl o j) = true := qiv (fun b hb => (hposo b hb).1) j
    have hjx : ix o (pl o j) = j := qo5 (fun x hx => (b2 x hx).1) (by omega) (by omega)
    unfold jnG
    by_cases h1 : (pl o j).getD ax 0 < c
    ·rw [if_pos (.inl h1),if_pos (.inl h1)]
    ·by_cases h2 : (pl o j).getD ax 0 < c + t.1.getD ax 0
     ·have hdn := qhn hj hax hpj (c := c) (by omega) h2
      have hne : ix t.1 ((pl o j).set ax ((pl o j).getD ax 0 - c)) ≠ i := fun e => by
       have e1 := qnW hdn
       rw [e] at e1
       have e2 : (pl t.1 i).set ax ((pl t.1 i).getD ax 0 + c) = pl o j := by
        rw [e1,qaz (by rw [qc4]; exact hax),set_set,qfT (by omega)]
       rw [e2] at hjne
       omega
      by_cases h3 : ix t.1 ((pl o j).set ax ((pl o j).getD ax 0 - c)) < i
      ·rw [if_pos (.inr ⟨h2,by omega⟩),if_pos (.inr ⟨h2,h3⟩)]
      ·rw [if_neg (fun hh => hh.elim h1 fun h => by have := h.2; omega),if_neg (fun hh => hh.elim h1 fun h => h3 h.2)]
     ·rw [if_neg (fun hh => hh.elim h1 fun h => h2 h.1),if_neg (fun hh => hh.elim h1 fun h => h2 h.1)])
  rw [ifp,if_pos (by rw [ql3]; omega),if_pos (by rw [ql3]; omega),tNc,show puts o (jnG ax l c t.1 i) = (List.range (pr o).toNat).map (fun (j : Nat) => jnG ax l c t.1 i (pl o j)) from rfl,hset,qak (n := (i : Int) + 1) (by omega) (by omega),show (i : Int) + 1 = ((i + 1 : Nat) : Int) by omega]
  exact ih
theorem qgS {ax : Nat} {o : LI} {l : List Tn} (hl : l.length ≤ 100000) (ho : mSR o = true) (hax : ax < o.length) (hj : ∀ t ∈ l,JOK ax o t) (hsum : o.getD ax 0 = sm (l.map fun t => t.1.getD ax 0)) (k : Nat) (hk : 120000 ≤ k) (y3 : LI) : ∀ (e q n : Nat),l.length = q + e → e + 4500 < n →
  qas.l3 k n ax l (sm ((l.take q).map fun t => t.1.getD ax 0)) l.length q o y3 (puts o (jnE ax l (sm ((l.take q).map fun t => t.1.getD ax 0)))) = some (made o (zJ ax l))
 | 0,q,n,hi,hn => by
  obtain ⟨n,rfl⟩ := sun (n := n)
  rw [qas.l3,ifq,List.take_of_length_le (by omega),← hsum]
  congr 1
  refine qe6 ho fun p hp => ?_
  unfold jnE
  rw [if_pos (qeT hp ax hax).2]
 | e + 1,q,n,hi,hn => by
  obtain ⟨n,rfl⟩ := sun (n := n)
  have ih := qgS hl ho hax hj hsum k hk y3 e (q + 1) n (by omega) (by omega)
  have hnn : ∀ t ∈ l,0 ≤ t.1.getD ax 0 := fun t ht => ((qam (qbo (hj t ht).T).1).2.1 _ (qal (show ax < t.1.length by rw [(hj t ht).len]; exact hax) 0)).1
  have sm_nn : ∀ r : List Tn,(∀ t ∈ r,0 ≤ t.1.getD ax 0) → 0 ≤ sm (r.map fun t => t.1.getD ax 0) := fun r => by
   induction r with
   | nil => intro _; exact Int.le_refl _
   | cons a r ih =>
    intro hh
    have e1 := hh a (List.mem_cons_self ..)
    have e2 := ih fun b hb => hh b (mCm _ hb)
    show 0 ≤ a.1.getD ax 0 + sm (r.map fun t => t.1.getD ax 0)
    omega
  have sm_app : ∀ a b : List Tn,sm ((a ++ b).map fun t => t.1.getD ax 0) = sm (a.map fun t => t.1.getD ax 0) + sm (b.map fun t => t.1.getD ax 0) := fun a b => by
   induction a with
   | nil => simp [sm]
   | cons x a ih =>
    show x.1.getD ax 0 + sm ((a ++ b).map fun t => t.1.getD ax 0) = x.1.getD ax 0 + sm (a.map fun t => t.1.getD ax 0) + _
    rw [ih]; omega
  have hmem := qal (show q < l.length by omega) (([],[]) : Tn)
  have hc0 := sm_nn (l.take q) fun t ht => hnn t (List.mem_of_mem_take ht)
  have hsplit : l = l.take q ++ (l.getD q ([],[]) :: l.drop (q + 1)) := by
   rw [← qaj (show q < l.length by omega) (([],[]) : Tn)]
   exact (List.take_append_drop q l).symm
  have hc2 := sm_nn (l.drop (q + 1)) fun t ht => hnn t (List.mem_of_mem_drop ht)
  have htot : o.getD ax 0 = sm ((l.take q).map fun t => t.1.getD ax 0) + ((l.getD q ([],[])).1.getD ax 0 + sm ((l.drop (q + 1)).map fun t => t.1.getD ax 0)) := by
   rw [hsum]
   conv => lhs; rw [hsplit]
   rw [sm_app]; rfl
  have hnext : sm ((l.take (q + 1)).map fun t => t.1.getD ax 0) = sm ((l.take q).map fun t => t.1.getD ax 0) + (l.getD q ([],[])).1.getD ax 0 := by
   have : l.take (q + 1) = l.take q ++ [l.getD q ([],[])] := by
    rw [List.take_add_one,gDg,List.getElem?_eq_getElem (show q < l.length by omega)]; rfl
   rw [this,sm_app]
   show _ + ((l.getD q ([],[])).1.getD ax 0 + 0) = _
   omega
  rw [hnext] at ih
  have hj1 := hj _ hmem
  have hv : ∀ p,mIn o p = true → sm ((l.take q).map fun t => t.1.getD ax 0) ≤ p.getD ax 0 → p.getD ax 0 < sm ((l.take q).map fun t => t.1.getD ax 0) + (l.getD q ([],[])).1.getD ax 0 → zJ ax l p = (l.getD q ([],[])).2.getD (ix (l.getD q ([],[])).1 (p.set ax (p.getD ax 0 - sm ((l.take q).map fun t => t.1.getD ax 0)))).toNat 0 := fun p hp h1 h2 => by
   have hpl := qeS hp
   have hdn := qhn hj1 hax hp h1 h2
   have e1 := qnp ax hax (l.take q) (l.getD q ([],[]) :: l.drop (q + 1)) p (fun t ht => hnn t (List.mem_of_mem_take ht)) (by omega) h1
   rw [← hsplit] at e1
   rw [e1,zJ,if_pos (by rw [qaz (by omega)]; omega),if_pos hdn]
  have hx := (qam (qbo hj1.T).1).2.1 _ (qal (show ax < (l.getD q ([],[])).1.length by rw [hj1.len]; exact hax) 0)
  have hox := (qam ho).2.1 _ (qal hax 0)
  have hdl := (qbo hj1.T).2
  have hpr := (qam (qbo hj1.T).1).2.2
  have l4 := qgR (show q < l.length by omega) hl ho hax hj1 hc0 (by omega) hv k (by omega) l.length q y3 (l.getD q ([],[])).2.length 0 n (by omega) (by omega)
  have e0 : puts o (jnG ax l (sm ((l.take q).map fun t => t.1.getD ax 0)) (l.getD q ([],[])).1 0) = puts o (jnE ax l (sm ((l.take q).map fun t => t.1.getD ax 0))) := qe6 ho fun p hp => by
   unfold jnG jnE
   by_cases h1 : p.getD ax 0 < sm ((l.take q).map fun t => t.1.getD ax 0)
   ·rw [if_pos (.inl h1),if_pos h1]
   ·rw [if_neg (fun hh => hh.elim h1 fun h => by
     have := qix (qhn hj1 hax hp (c := sm ((l.take q).map fun t => t.1.getD ax 0)) (by omega) h.1)
     have := h.2
     omega),if_neg h1]
  rw [e0,n0] at l4
  rw [qas.l3,ifp,ifp,show ((q : Int)).toNat = q from tNc q,l4,obs,if_pos (by rw [hj1.len]; omega),tNc,qak (n := _ + (l.getD q ([],[])).1.getD ax 0) (by omega) (by omega),qak (n := (q : Int) + 1) (by omega) (by omega),show (q : Int) + 1 = ((q + 1 : Nat) : Int) by omega]
  exact ih
theorem qlc (ax : Int) (l : List Tn) (hl : l.length ≤ 100000) (k : Nat) (hk : 120000 ≤ k) : qas.f k ax l = some (zJoin ax l) := by
  unfold qas.f zJoin
  have l0 := qgV k (by omega) l (by omega) ax l.length 0 k (by omega) (by omega)
  rw [n0,dZr] at l0
  rw [l0,obs]
  by_cases hT : l.all (fun t => zT t.1 t.2) = true
  · have hT' : ∀ t ∈ l,zT t.1 t.2 = true := List.all_eq_true.1 hT
    rw [if_pos hT,if_pos hT,Sum.elim_inl]
    by_cases c1 : l = []
    · subst c1; rw [if_pos (show (([] : List Tn).length : Int) = 0 from rfl)]; rfl
    have hpos : 0 < l.length := List.length_pos_iff.2 c1
    have h0 : ((l.map (·.1)).getD 0 []) = (l.getD 0 ([],[])).1 := by
      cases l with
      | nil => simp at hpos
      | cons _ _ => rfl
    have hne : l.map (·.1) ≠ [] := fun e => c1 (List.map_eq_nil_iff.1 e)
    rw [ifq]
    by_cases c2 : ax < 0
    · have e : zJs ax (l.map (·.1)) = (1,[]) := if_pos (.inr (.inl c2))
      rw [if_pos c2,e]; rfl
    rw [if_neg c2,ifp]
    by_cases c3 : ((l.getD 0 ([],[])).1.length : Int) ≤ ax
    · have e : zJs ax (l.map (·.1)) = (1,[]) := if_pos (.inr (.inr (by rw [h0]; exact c3)))
      rw [if_pos c3,e]; rfl
    have hs := qam (qbo (hT' _ (qal hpos ([],[])))).1
    rw [if_neg c3,ifp,if_pos (by rw [nAp]; omega),if_pos (by rw [nAp]; omega),nAp]
    have l1 := qgU ax.toNat k l (fun t ht => by have := qam (qbo (hT' t ht)).1; exact ⟨this.1,this.2.1⟩) (by omega) l.length 0 k ((l.getD 0 ([],[])).1.set ax.toNat 0) (by omega) (by omega) (by rw [qcl]; omega) (by rw [qaz (by omega)]; omega) (by rw [qaz (by omega)]; omega)
    rw [n0,dZr,show ((ax.toNat : Nat) : Int) = ax by omega] at l1
    rw [l1,obs]
    have ejs : zJs ax (l.map (·.1)) = match zJo ax.toNat (l.map (·.1)) ((l.getD 0 ([],[])).1.set ax.toNat 0) with
      | some o => if mSR o = true then (0,o) else (13,[])
      | none => (13,[]) := by
      unfold zJs
      rw [if_neg (fun hh => hh.elim hne fun hh => hh.elim c2 (by rw [h0]; exact c3)),h0]
      all_goals (cases zJo ax.toNat (l.map (·.1)) ((l.getD 0 ([],[])).1.set ax.toNat 0) <;> rfl)
    cases hz : zJo ax.toNat (l.map (·.1)) ((l.getD 0 ([],[])).1.set ax.toNat 0) with
    | none =>
      rw [hz] at ejs
      rw [ejs]; rfl
    | some o =>
      rw [hz] at ejs
      dsimp only at ejs ⊢
      rw [Sum.elim_inl,qbj o k (by omega),obs]
      by_cases ho : mSR o = true
      · rw [if_pos ho] at ejs
        have hc : (zJs ax (l.map (·.1))).1 = 0 := by rw [ejs]
        obtain ⟨o',e,ho',_,hax0,hax,hz',hlen,hall,hsum⟩ := qqE hT hc
        have : o' = o := by rw [← e,ejs]
        subst this
        have hb := qam ho
        have l3 := qgS (ax := ax.toNat) (by omega) ho hax (fun t ht => ⟨hT' t ht,(hall t ht).1,(hall t ht).2⟩) hsum k hk o' l.length 0 k (by omega) (by omega)
        rw [n0,show ((ax.toNat : Nat) : Int) = ax by omega,List.take_zero] at l3
        have ez : List.replicate (pr o').toNat (0 : Int) = puts o' (jnE ax.toNat l (sm (([] : List Tn).map fun t => t.1.getD ax.toNat 0))) := by
          rw [show List.replicate (pr o').toNat (0 : Int) = puts o' (fun _=>0) by
            apply List.ext_getElem (by simp [puts])
            intro j _ _
            simp [puts]]
          refine qe6 ho fun p hp => ?_
          unfold jnE
          rw [if_neg (fun hh => by have := (qeT hp ax.toNat hax).1; have hh : p.getD ax.toNat 0 < 0 := hh; omega)]
        rw [if_pos ho,qbz o' 0 (by omega) k hk,obs,zSz,if_pos ho,ez,ejs]
        dsimp only
        rw [if_pos rfl]
        rw [show sm (([] : List Tn).map fun t => t.1.getD ax.toNat 0) = 0 from rfl] at l3 ⊢
        rw [l3]; rfl
      · rw [if_neg ho] at ejs
        rw [if_neg ho,ejs]; rfl
  · rw [if_neg hT,if_neg hT]; rfl
end Go.Pf

namespace Go.Pf
open Go Go.Vm
theorem qqF {ax : Int} {sh : List LI} (h : (zJs ax sh).1 = 0) : mSR (zJs ax sh).2 = true := by
 unfold zJs at h ⊢
 split at h
 ·simp at h
 rename_i hc
 rw [if_neg hc]
 cases hz : zJo ax.toNat sh ((sh.getD 0 []).set ax.toNat 0) with
 | none => rw [hz] at h; simp at h
 | some o =>
  rw [hz] at h
  dsimp only at h ⊢
  by_cases ho : mSR o = true
  ·rw [if_pos ho]; exact ho
  ·rw [if_neg ho] at h; simp at h
theorem qhz (L : LI) (hL : L.length ≤ 17592186044415) (hw : ∀ x ∈ L,-9223372036854775808 ≤ x ∧ x < 9223372036854775808) (p : Int) (h0 : 0 ≤ p) (hp : p ≤ 17592186000000) :
  ∃ r q,qbf.f L p = some (r,q) ∧ 0 ≤ q ∧ q ≤ p + 2 := by
 unfold qbf.f
 obtain ⟨r,q,e,r0,r1,q0,_,_,q1⟩ := qdm 9 L hL hw p h0 (by omega) (by omega)
 rw [e,obs]
 dsimp only
 by_cases c : r = 0
 ·obtain ⟨r',q',e',r0',r1',q0',_,_,q1'⟩ := qdm 6 L hL hw q q0 (by omega) (by omega)
  rw [if_pos c,e',obs]
  dsimp only
  rw [if_pos ⟨r0',by show r' < 6; omega⟩,if_pos (by show r'.toNat < 6; omega)]
  exact ⟨_,_,rfl,q0',by omega⟩
 ·rw [if_neg c]
  by_cases c1 : r = 1
  ·rw [if_pos c1]; exact ⟨_,_,rfl,q0,by omega⟩
  ·obtain ⟨r',q',e',r0',r1',q0',_,_,q1'⟩ := qdm 19 L hL hw q q0 (by omega) (by omega)
   rw [if_neg c1,e',obs]
   exact ⟨_,_,rfl,q0',by omega⟩
end Go.Pf

namespace Go.Pf
open Go Go.Vm
theorem qoQ (n j : Nat) : (List.replicate n (0 : Int)).getD j 0 = 0 := by
 rw [gDg,List.getElem?_replicate]; split <;> rfl
theorem qpo : ∀ {s f z : LI},f.length = s.length → z.length = s.length → (∀ j,j < s.length → 0 ≤ f.getD j 0 ∧ f.getD j 0 ≤ s.getD j 0 ∧ 0 ≤ z.getD j 0 ∧ z.getD j 0 ≤ s.getD j 0 - f.getD j 0) → zSl s f z = true
 | [],[],[],_,_,_ => rfl
 | a :: s,b :: f,c :: z,h1,h2,h => qb9.2 ⟨h 0 (by simp),qpo (by simpa using h1) (by simpa using h2) fun j hj => h (j + 1) (by simpa using hj)⟩
 | [],_ :: _,_,h,_,_ => by simp at h
 | [],[],_ :: _,_,h,_ => by simp at h
 | _ :: _,[],_,h,_,_ => by simp at h
 | _ :: _,_ :: _,[],_,h,_ => by simp at h
theorem qlo {s : LI} (h : mSR s = true) {j : Nat} (hj : j < s.length) : 0 ≤ s.getD j 0 ∧ s.getD j 0 ≤ 32 := (qam h).2.1 _ (qal hj 0)
theorem qmb {s p : LI} (h : mIn s p = true) {j : Nat} (hj : j < s.length) : 0 ≤ p.getD j 0 ∧ p.getD j 0 < s.getD j 0 := qeT h j hj
end Go.Pf

namespace Go.Pf
open Go Go.Vm
theorem iterX {S R : Type} {L : Nat → Int → S → Option R} {st : Nat → S} (res : Nat → R) {m : Nat} (N : Nat)
  (hend : ∀ n,N ≤ n → L (n + 1) (m : Int) (st m) = some (res m))
  (hstep : ∀ i n,i < m → N ≤ n → L n ((i + 1 : Nat) : Int) (st (i + 1)) = some (res (i + 1)) → L (n + 1) (i : Int) (st i) = some (res i)) :
  ∀ (e i n : Nat),m = i + e → e + N < n → L n (i : Int) (st i) = some (res i)
 | 0,i,n,hi,hn => by
  obtain ⟨n,rfl⟩ := sun (n := n)
  obtain rfl : m = i := by omega
  exact hend n (by omega)
 | e + 1,i,n,hi,hn => by
  obtain ⟨n,rfl⟩ := sun (n := n)
  exact hstep i n (by omega) (by omega) (iterX res N hend hstep e (i + 1) n (by omega) (by omega))
theorem iter0 {S R : Type} {L : Nat → Int → S → Option R} {st : Nat → S} (res : Nat → R) {m : Nat} (N : Nat)
  (hend : ∀ n,N ≤ n → L (n + 1) (m : Int) (st m) = some (res m))
  (hstep : ∀ i n,i < m → N ≤ n → L n ((i + 1 : Nat) : Int) (st (i + 1)) = some (res (i + 1)) → L (n + 1) (i : Int) (st i) = some (res i)) (n : Nat) (hn : m + N < n) : L n 0 (st 0) = some (res 0) :=
 iterX res N hend hstep m 0 n (by omega) hn
theorem qav {i m : Nat} (h : i < m) (hm : m ≤ 1152921504606846976) : IntKind.i64.wrap ((i : Int) + 1) = ((i + 1 : Nat) : Int) := by
 rw [qak (by omega) (by omega)]; omega
theorem qcK (a b : LI) (ha : a.length ≤ 17592186043904) (k : Nat) (hk : a.length < k) : qbs.f k a b = some (decide (a = b)) := by
 unfold qbs.f
 by_cases hl : a.length = b.length
 ·have := iter0 (L := fun n i (_ : Unit) => qbs.l0 n a b i) (st := fun _=>()) (fun i => if a.drop i = b.drop i then .inl () else .inr false) (m := a.length) 0
   (fun n _ => by rw [qbs.l0,ifq,dNl (Nat.le_refl _),dNl (by omega),if_pos rfl])
   (fun i n hi _ ih => by
    rw [qbs.l0,ifp,ifp,ifp,tNc,qav hi (by omega),ih,qaj hi (0 : Int),qaj (show i < b.length by omega) (0 : Int)]
    by_cases c : a.getD i 0 = b.getD i 0
    ·rw [if_pos c,c]
     by_cases c2 : a.drop (i + 1) = b.drop (i + 1)
     ·rw [if_pos c2,c2,if_pos rfl]
     ·rw [if_neg c2,if_neg (fun h => c2 (List.cons.inj h).2)]
    ·rw [if_neg c,if_neg (fun h => c (List.cons.inj h).1)]) k (by omega)
  rw [ifp,this,dZr,dZr]
  by_cases c : a = b
  ·rw [if_pos c,decide_eq_true c]; rfl
  ·rw [if_neg c,decide_eq_false c]; rfl
 ·rw [ifq,decide_eq_false (fun h => hl (by rw [h]))]
theorem qfR (a b : LI) (ha : a.length ≤ 17592186043904) (k : Nat) (hk : a.length < k) : qaX.f k a b = some (decide (a = b)) := by
 unfold qaX.f
 by_cases hl : a.length = b.length
 ·have := iter0 (L := fun n i (_ : Unit) => qaX.l0 n a b a.length i) (st := fun _=>()) (fun i => if a.drop i = b.drop i then .inl () else .inr false) (m := a.length) 0
   (fun n _ => by rw [qaX.l0,ifq,dNl (Nat.le_refl _),dNl (by omega),if_pos rfl])
   (fun i n hi _ ih => by
    rw [qaX.l0,ifp,ifp,ifp,tNc,qav hi (by omega),ih,qaj hi (0 : Int),qaj (show i < b.length by omega) (0 : Int)]
    by_cases c : a.getD i 0 = b.getD i 0
    ·rw [if_pos c,c]
     by_cases c2 : a.drop (i + 1) = b.drop (i + 1)
     ·rw [if_pos c2,c2,if_pos rfl]
     ·rw [if_neg c2,if_neg (fun h => c2 (List.cons.inj h).2)]
    ·rw [if_neg c,if_neg (fun h => c (List.cons.inj h).1)]) k (by omega)
  rw [ifp,this,dZr,dZr]
  by_cases c : a = b
  ·rw [if_pos c,decide_eq_true c]; rfl
  ·rw [if_neg c,decide_eq_false c]; rfl
 ·rw [ifq,decide_eq_false (fun h => hl (by rw [h]))]
def stp (op a b : Int) : Int :=
 if op = 4 then IntKind.i64.wrap (0 - a) else if op = 5 then (if a = 0 then 1 else 0) else if op = 6 then IntKind.i64.wrap (a + b) else if op = 7 then IntKind.i64.wrap (a - b) else if op = 8 then IntKind.i64.wrap (a * b)
 else if op = 9 then (if b < a then b else a) else if op = 10 then (if a < b then b else a) else if op = 11 then (if a < b then 1 else 0) else 0
theorem qhL (op a b : Int) : qed.f op a b = some (stp op a b) := by
 unfold qed.f stp qfZ.f
 repeat' split
 all_goals simp_all
theorem qec (l : List Tn) (hl : l.length ≤ 100000) (hpos : l ≠ []) (k : Nat) (hk : 120000 ≤ k) :
  qbR.f k l = some (if l.all (fun t => zT t.1 t.2 && decide (t.1 = (l.getD 0 ([],[])).1)) = true then 0 else 13) := by
 have hp := List.length_pos_iff.2 hpos
 have := iter0 (L := fun n i (_ : Unit) => qbR.l0 k n l i) (st := fun _=>()) (fun i => if (l.drop i).all (fun t => zT t.1 t.2 && decide (t.1 = (l.getD 0 ([],[])).1)) = true then .inl () else .inr 13) (m := l.length) 0
  (fun n _ => by rw [qbR.l0,ifq,dNl (Nat.le_refl _)]; rfl)
  (fun i n hi _ ih => by
   rw [qbR.l0,ifp,ifp,tNc,qbS _ _ k (by omega),obs,qav hi (by omega),ih,qaj hi (([],[]) : Tn),List.all_cons]
   by_cases c : zT (l.getD i ([],[])).1 (l.getD i ([],[])).2 = true
   ·have hb := qam (qbo c).1
    rw [if_pos c,ifp,qcK _ _ (by omega) k (by omega),obs,c,Bool.true_and]
    by_cases c2 : (l.getD i ([],[])).1 = (l.getD 0 ([],[])).1
    ·rw [decide_eq_true c2,if_pos rfl,Bool.true_and]
    ·rw [decide_eq_false c2,if_neg (by decide),Bool.false_and,if_neg (by decide)]
   ·rw [if_neg c,Bool.eq_false_iff.2 c,Bool.false_and,Bool.false_and,if_neg (by decide)]) k (by omega)
 unfold qbR.f
 rw [this,dZr,obs]
 split <;> rfl
def tab (m : Nat) (g : Nat → Int) : LI := (List.range m).map g
theorem qek (g : Nat → Int) {m i : Nat} (h : i < m) (c : Int) : ((List.range i).map g ++ List.replicate (m - i) c).set i (g i) = (List.range (i + 1)).map g ++ List.replicate (m - (i + 1)) c := by
 have := qhr g i (m - (i + 1)) c
 rwa [show m - (i + 1) + 1 = m - i by omega] at this
def zOne (op : Int) (d : LI) : LI := tab d.length fun i => stp op (d.getD i 0) 0
def zTwo (op : Int) (a b : LI) : LI := tab a.length fun i => stp op (a.getD i 0) (b.getD i 0)
def zPick (c a b : LI) : LI := tab a.length fun i => if c.getD i 0 = 0 then b.getD i 0 else a.getD i 0
theorem qpQ {s d : LI} (h : zT s d = true) : (zSz s).toNat = d.length := by
 obtain ⟨h1,h2⟩ := qbo h
 unfold zSz
 rw [if_pos h1]; omega
theorem qd7 {s d : LI} (h : zT s d = true) : s.length ≤ 4 ∧ d.length ≤ 4096 := by
 obtain ⟨h1,h2⟩ := qbo h
 have := qam h1
 omega
theorem qiH (op : Int) (s d : LI) (k : Nat) (hk : 120000 ≤ k) : qck.f k op s d = some (if op = 4 ∨ op = 5 then (if zT s d = true then (0,s,zOne op d) else (13,[],[])) else (1,[],[])) := by
 have hall : qbR.f k [(s,d)] = some (if zT s d = true then 0 else 13) := by
  rw [qec _ (by simp) (by simp) k hk]
  simp
 have main : zT s d = true → qck.l0 k op ((List.replicate (zSz s).toNat (0 : Int)).length : Int) 0 s d s (List.replicate (zSz s).toNat 0) = some (zOne op d) := fun h => by
  have hz := qpQ h
  have hs := qd7 h
  have := iter0 (L := fun n i y => qck.l0 n op d.length i s d s y) (st := fun i => (List.range i).map (fun i => stp op (d.getD i 0) 0) ++ List.replicate (d.length - i) 0) (fun _=>zOne op d) (m := d.length) 0
   (fun n _ => by rw [qck.l0,ifq,Nat.sub_self,List.replicate_zero,List.append_nil]; rfl)
   (fun i n hi _ ih => by
    rw [qck.l0,ifp,ifp,tNc,qhL,obs,if_pos (by simp; omega),if_pos (by simp; omega),qek (fun i => stp op (d.getD i 0) 0) hi,qav hi (by omega),ih]) k (by omega)
  rw [hz,List.length_replicate,← this,Nat.sub_zero]; rfl
 unfold qck.f
 rw [hall,obs]
 by_cases h : zT s d = true
 ·have hs := qd7 h
  rw [if_pos h,if_pos rfl,qbz s 0 (by omega) k hk,obs,main h,obs,if_pos h]
  by_cases c : op = 4
  ·rw [if_pos c,if_pos (.inl c)]
  ·rw [if_neg c]
   by_cases c2 : op = 5
   ·rw [if_pos c2,if_pos (.inr c2)]
   ·rw [if_neg c2,if_neg (fun hh => hh.elim c c2)]
 ·rw [if_neg h,if_neg h]
  by_cases c : op = 4
  ·rw [if_pos c,if_neg (by decide),if_pos (.inl c)]
  ·rw [if_neg c]
   by_cases c2 : op = 5
   ·rw [if_pos c2,if_neg (by decide),if_pos (.inr c2)]
   ·rw [if_neg c2,if_neg (fun hh => hh.elim c c2)]
theorem qqv {s a b : LI} (ha : zT s a = true) (hb : zT s b = true) : a.length = b.length := by
 have h1 := (qbo ha).2
 have h2 := (qbo hb).2
 omega
theorem qmL (op : Int) (s a s' b : LI) (k : Nat) (hk : 120000 ≤ k) : qcP.f k op s a s' b = some (if 6 ≤ op ∧ op ≤ 11 then (if zT s a = true ∧ zT s' b = true ∧ s' = s then (0,s,zTwo op a b) else (13,[],[])) else (1,[],[])) := by
 unfold qcP.f
 by_cases c1 : op < 6
 ·rw [if_pos c1,ifq]
 by_cases c2 : 11 < op
 ·rw [if_neg c1,if_pos c2,ifq]
 rw [if_neg c1,if_neg c2,if_pos (show 6 ≤ op ∧ op ≤ 11 by omega)]
 by_cases h : zT s a = true ∧ zT s' b = true ∧ s' = s
 ·obtain ⟨h1,h2,rfl⟩ := h
  have hz := qpQ h1
  have hs := qd7 h1
  have hl := qqv h1 h2
  have := iter0 (L := fun n i y => qcP.l0 n op a.length i s' a s' b s' y) (st := fun i => (List.range i).map (fun i => stp op (a.getD i 0) (b.getD i 0)) ++ List.replicate (a.length - i) 0) (fun _=>zTwo op a b) (m := a.length) 0
   (fun n _ => by rw [qcP.l0,ifq,Nat.sub_self,List.replicate_zero,List.append_nil]; rfl)
   (fun i n hi _ ih => by
    rw [qcP.l0,ifp,ifp,ifp,tNc,qhL,obs,if_pos (by simp; omega),if_pos (by simp; omega),qek (fun i => stp op (a.getD i 0) (b.getD i 0)) hi,qav hi (by omega),ih]) k (by omega)
  rw [Nat.sub_zero,List.range_zero,List.map_nil,nAp] at this
  have e : qbR.f k [(s',a),(s',b)] = some 0 := by rw [qec _ (by simp) (by simp) k hk,if_pos (by simp [h1,h2])]
  rw [e,obs,if_pos rfl,qbz s' 0 (by omega) k hk,obs,hz,List.length_replicate,this,obs,if_pos ⟨h1,h2,rfl⟩]
 ·have e : qbR.f k [(s,a),(s',b)] = some 13 := by
   rw [qec _ (by simp) (by simp) k hk,if_neg (by
    intro hh
    simp only [List.all_cons,List.all_nil,Bool.and_true,bAt,decide_eq_true_eq] at hh
    exact h ⟨hh.1.1,hh.2.1,hh.2.2⟩)]
  rw [if_neg h,e,obs,if_neg (by decide)]
theorem qlb (s c s1 a s2 b : LI) (k : Nat) (hk : 120000 ≤ k) : qcd.f k s c s1 a s2 b = some (if zT s c = true ∧ (zT s1 a = true ∧ s1 = s) ∧ zT s2 b = true ∧ s2 = s then (0,s,zPick c a b) else (13,[],[])) := by
 unfold qcd.f
 by_cases h : zT s c = true ∧ (zT s1 a = true ∧ s1 = s) ∧ zT s2 b = true ∧ s2 = s
 ·obtain ⟨h0,⟨h1,rfl⟩,h2,rfl⟩ := h
  have hz := qpQ h1
  have hs := qd7 h1
  have hl := qqv h1 h2
  have hl2 := qqv h1 h0
  have hset : ∀ (i : Nat) (y : LI) (v : Int),i < y.length → (y.set i v).set i (a.getD i 0) = y.set i (a.getD i 0) := fun i y v _ => by simp
  have := iter0 (L := fun n i y => qcd.l0 n a.length i s2 c s2 a s2 b s2 y) (st := fun i => (List.range i).map (fun i => if c.getD i 0 = 0 then b.getD i 0 else a.getD i 0) ++ List.replicate (a.length - i) 0) (fun _=>zPick c a b) (m := a.length) 0
   (fun n _ => by rw [qcd.l0,ifq,Nat.sub_self,List.replicate_zero,List.append_nil]; rfl)
   (fun i n hi _ ih => by
    have hlen : ((List.range i).map (fun i => if c.getD i 0 = 0 then b.getD i 0 else a.getD i 0) ++ List.replicate (a.length - i) (0 : Int)).length = a.length := by simp; omega
    have hf := qek (fun i => if c.getD i 0 = 0 then b.getD i 0 else a.getD i 0) hi 0
    rw [qcd.l0,ifp,ifp,if_pos (by rw [hlen]; omega),tNc,if_pos (by rw [hlen]; omega),ifp]
    by_cases cc : c.getD i 0 = 0
    ·rw [if_pos cc] at hf
     rw [if_pos cc,hf,qav hi (by omega),ih]
    ·rw [if_neg cc] at hf
     rw [if_neg cc,ifp,if_pos (by rw [qcl,hlen]; omega),if_pos (by rw [qcl,hlen]; omega),hset i _ _ (by rw [hlen]; exact hi),hf,qav hi (by omega),ih]) k (by omega)
  rw [Nat.sub_zero,List.range_zero,List.map_nil,nAp] at this
  have e : qbR.f k [(s2,c),(s2,a),(s2,b)] = some 0 := by rw [qec _ (by simp) (by simp) k hk,if_pos (by simp [h0,h1,h2])]
  rw [e,obs,if_pos rfl,qbz s2 0 (by omega) k hk,obs,hz,List.length_replicate,this,obs,if_pos ⟨h0,⟨h1,rfl⟩,h2,rfl⟩]
 ·have e : qbR.f k [(s,c),(s1,a),(s2,b)] = some 13 := by
   rw [qec _ (by simp) (by simp) k hk,if_neg (by
    intro hh
    simp only [List.all_cons,List.all_nil,Bool.and_true,bAt,decide_eq_true_eq] at hh
    exact h ⟨hh.1.1,⟨hh.2.1.1,hh.2.1.2⟩,hh.2.2.1,hh.2.2.2⟩)]
  rw [if_neg h,e,obs,if_neg (by decide)]
end Go.Pf

namespace Go.Pf
open Go Go.Vm
theorem qiF (a : LI) (x : Int) (ha : a.length ≤ 17592186043904) (k : Nat) (hk : a.length < k) : qcG.f k a x = some (decide (x ∈ a)) := by
 have := iter0 (L := fun n i (_ : Unit) => qcG.l0 n a x a.length i) (st := fun _=>()) (fun i => if x ∈ a.drop i then .inr true else .inl ()) (m := a.length) 0
  (fun n _ => by rw [qcG.l0,ifq,dNl (Nat.le_refl _),if_neg (by simp)])
  (fun i n hi _ ih => by
   rw [qcG.l0,ifp,ifp,tNc,qav hi (by omega),ih,qaj hi (0 : Int)]
   by_cases c : a.getD i 0 = x
   ·rw [if_pos c,if_pos (by rw [c]; exact List.mem_cons_self ..)]
   ·rw [if_neg c]
    by_cases c2 : x ∈ a.drop (i + 1)
    ·rw [if_pos c2,if_pos (mCm _ c2)]
    ·rw [if_neg c2,if_neg (fun h => by rcases List.mem_cons.1 h with h | h; exact c h.symm; exact c2 h)]) k (by omega)
 unfold qcG.f
 rw [this,dZr,obs]
 by_cases c : x ∈ a
 ·rw [if_pos c,decide_eq_true c]; rfl
 ·rw [if_neg c,decide_eq_false c]; rfl
def zRs (a : LI) (m : Int) : Nat → Nat → Bool
 | 0,_ => true
 | d + 1,i => decide (0 ≤ a.getD i 0 ∧ a.getD i 0 < m ∧ (0 < i → a.getD (i - 1) 0 < a.getD i 0)) && zRs a m d (i + 1)
theorem qkW {a : LI} {m : Int} : ∀ (d i : Nat) (l : Int),a.length = i + d → (i = 0 → l = -1) → (0 < i → l = a.getD (i - 1) 0 ∧ 0 ≤ l) → zRs a m d i = zRi m l (a.drop i)
 | 0,i,l,hi,_,_ => by rw [dNl (by omega)]; rfl
 | d + 1,i,l,hi,h0,h1 => by
  rw [qaj (show i < a.length by omega) (0 : Int)]
  generalize hx : a.getD i 0 = x
  refine qpi ?_
  rw [zRs,qcF,bAt,decide_eq_true_eq,hx]
  constructor
  ·rintro ⟨⟨k1,k2,k3⟩,k4⟩
   refine ⟨⟨?_,k2⟩,?_⟩
   ·by_cases c : i = 0
    ·have := h0 c; omega
    ·have := h1 (by omega); have := k3 (by omega); omega
   ·rw [← qkW d (i + 1) x (by omega) (by omega) (fun _=>⟨by rw [Nat.add_sub_cancel]; exact hx.symm,k1⟩)]; exact k4
  ·rintro ⟨⟨k1,k2⟩,k4⟩
   have hx0 : 0 ≤ x := by
    by_cases c : i = 0
    ·have := h0 c; omega
    ·have := h1 (by omega); omega
   refine ⟨⟨hx0,k2,fun c => by have := h1 c; omega⟩,?_⟩
   rw [qkW d (i + 1) x (by omega) (by omega) (fun _=>⟨by rw [Nat.add_sub_cancel]; exact hx.symm,hx0⟩)]; exact k4
theorem qjp (a : LI) (m : Int) (ha : a.length ≤ 17592186043904) (k : Nat) (hk : a.length < k) : qbx.f k a m = some (zRi m (-1) a) := by
 have := iter0 (L := fun n i (_ : Unit) => qbx.l0 n a m a.length i) (st := fun _=>()) (fun i => if zRs a m (a.length - i) i = true then .inl () else .inr false) (m := a.length) 0
  (fun n _ => by rw [qbx.l0,ifq,Nat.sub_self]; rfl)
  (fun i n hi _ ih => by
   rw [qbx.l0,ifp,ifp,tNc,qav hi (by omega),ih,show a.length - i = (a.length - (i + 1)) + 1 by omega,zRs]
   by_cases c1 : a.getD i 0 < 0
   ·rw [if_pos c1,decide_eq_false (by omega),Bool.false_and,if_neg (by decide)]
   by_cases c2 : m ≤ a.getD i 0
   ·rw [if_neg c1,if_pos c2,decide_eq_false (by omega),Bool.false_and,if_neg (by decide)]
   rw [if_neg c1,if_neg c2]
   by_cases c3 : (0 : Int) < (i : Int)
   ·rw [if_pos c3,qak (n := (i : Int) - 1) (by omega) (by omega),ifp,show ((i : Int) - 1).toNat = i - 1 by omega]
    by_cases c4 : a.getD i 0 ≤ a.getD (i - 1) 0
    ·rw [if_pos c4,decide_eq_false (fun h => by have := h.2.2 (by omega); omega),Bool.false_and,if_neg (by decide)]
    ·rw [if_neg c4,decide_eq_true ⟨by omega,by omega,fun _=>by omega⟩,Bool.true_and]
   ·rw [if_neg c3,decide_eq_true ⟨by omega,by omega,fun _=>by omega⟩,Bool.true_and]) k (by omega)
 unfold qbx.f
 rw [this,Nat.sub_zero,obs,qkW a.length 0 (-1) (by omega) (fun _=>rfl) (fun h => by omega),dZr]
 cases zRi m (-1) a <;> rfl
def lefI (a : LI) : Nat → LI → LI
 | _,[] => []
 | j,x :: r => if (j : Int) ∈ a then lefI a (j + 1) r else x :: lefI a (j + 1) r
def lef (a s : LI) : LI := lefI a 0 s
theorem qjD (a : LI) : ∀ (j : Nat) (s : LI),(lefI a j s).length ≤ s.length
 | _,[] => Nat.le_refl _
 | j,x :: r => by
  have := qjD a (j + 1) r
  rw [lefI]
  split
  ·simp; omega
  ·simp; omega
theorem qkC (a : LI) (y : Int) : ∀ (s : LI) (j : Nat),lefI a j (s ++ [y]) = lefI a j s ++ (if ((j + s.length : Nat) : Int) ∈ a then [] else [y])
 | [],j => by
  show lefI a j [y] = [] ++ _
  rw [lefI,nAp]; rfl
 | x :: s,j => by
  have ih := qkC a y s (j + 1)
  rw [show j + 1 + s.length = j + (s.length + 1) by omega] at ih
  show lefI a j (x :: (s ++ [y])) = _
  rw [lefI,lefI,ih]
  split <;> simp
theorem qmh (a s : LI) {i : Nat} (h : i < s.length) : lef a (s.take (i + 1)) = lef a (s.take i) ++ (if (i : Int) ∈ a then [] else [s.getD i 0]) := by
 rw [qdn h,lef,qkC,lTk,show 0 + min i s.length = i by omega]; rfl
theorem qlq (a : LI) : ∀ (j : Nat) {s p : LI},mIn s p = true → mIn (lefI a j s) (lefI a j p) = true
 | _,[],[],_ => rfl
 | j,x :: s,y :: p,h => by
  obtain ⟨h1,h2⟩ := qbH.1 h
  rw [lefI,lefI]
  split
  ·exact qlq a (j + 1) h2
  ·exact qbH.2 ⟨h1,qlq a (j + 1) h2⟩
 | _,[],_ :: _,h => by simp [mIn] at h
 | _,_ :: _,[],h => by simp [mIn] at h
def put (how a b : Int) : Int := if how = 1 then IntKind.i64.wrap (a + b) else if how = 2 then IntKind.i64.wrap (a * b) else if how = 3 then (if b < a then b else a) else if how = 4 then (if a < b then b else a) else 0
def zNone (how : Int) : Int := if how = 2 then 1 else if how = 3 then 9223372036854775807 else if how = 4 then -9223372036854775808 else 0
theorem qiG (how a b : Int) : qe4.f how a b = some (put how a b) := by
 unfold qe4.f put
 repeat' split
 all_goals rfl
theorem qhP (how : Int) : qee.f how = some (zNone how) := by
 unfold qee.f zNone
 repeat' split
 all_goals rfl
theorem qiI (how : Int) : qe5.f how = some (decide (1 ≤ how ∧ how ≤ 4)) := by
 unfold qe5.f
 by_cases c : 1 ≤ how
 ·rw [if_pos c]; simp [c]
 ·rw [if_neg c]; simp [c]
def fdA (how : Int) (s d a : LI) (i : Nat) : LI :=
 (List.range i).foldl (fun out (i : Nat) => out.set (ix (lef a s) (lef a (pl s i))).toNat (put how (out.getD (ix (lef a s) (lef a (pl s i))).toNat 0) (d.getD i 0))) (List.replicate (pr (lef a s)).toNat (zNone how))
def zFold (how : Int) (s d a : LI) : LI := fdA how s d a d.length
theorem qms (how : Int) (s d a : LI) (i : Nat) : fdA how s d a (i + 1) = (fdA how s d a i).set (ix (lef a s) (lef a (pl s i))).toNat (put how ((fdA how s d a i).getD (ix (lef a s) (lef a (pl s i))).toNat 0) (d.getD i 0)) := by
 unfold fdA
 rw [List.range_succ,List.foldl_append]; rfl
theorem qok (how : Int) (s d a : LI) : ∀ i,(fdA how s d a i).length = (pr (lef a s)).toNat
 | 0 => by simp [fdA]
 | i + 1 => by rw [qms,qcl,qok how s d a i]
theorem qld (how : Int) (s d a : LI) (ha : a.length ≤ 17592186043904) (k : Nat) (hk : a.length + 120000 ≤ k) :
  qaS.f k how s d a = some (if 1 ≤ how ∧ how ≤ 4 then (if zT s d = true then (if zRi s.length (-1) a = true then (if mSR (lef a s) = true then (0,lef a s,zFold how s d a) else (13,[],[])) else (1,[],[])) else (13,[],[])) else (1,[],[])) := by
 unfold qaS.f
 rw [qiI,obs]
 by_cases c0 : 1 ≤ how ∧ how ≤ 4
 rotate_left
 ·rw [decide_eq_false c0,if_neg (by decide),if_neg c0]
 rw [decide_eq_true c0,if_pos rfl,if_pos c0,qbS s d k (by omega),obs]
 by_cases hT : zT s d = true
 rotate_left
 ·rw [if_neg hT,if_neg hT]
 have hs := qd7 hT
 obtain ⟨hr,hd⟩ := qbo hT
 rw [if_pos hT,if_pos hT,qjp a _ ha k (by omega),obs]
 by_cases hA : zRi s.length (-1) a = true
 rotate_left
 ·rw [if_neg hA,if_neg hA]
 have l0 := iter0 (L := fun n i y => qaS.l0 k n how a s.length i s d y) (st := fun i => lef a (s.take i)) (fun _=>lef a s) (m := s.length) 0
  (fun n _ => by rw [qaS.l0,ifq,List.take_length])
  (fun i n hi _ ih => by
   have hl := qjD a 0 (s.take i)
   rw [lTk] at hl
   rw [qmh a s hi] at ih
   rw [qaS.l0,ifp,qiF a _ ha k (by omega),obs,qav hi (by omega)]
   by_cases c : (i : Int) ∈ a
   ·rw [if_pos c,List.append_nil] at ih
    rw [decide_eq_true c,if_pos rfl,ih]
   ·rw [if_neg c] at ih
    rw [decide_eq_false c,if_neg (by decide),ifp,tNc,if_pos (by rw [lSi]; unfold lef; omega),ih]) k (by omega)
 rw [List.take_zero,show lef a [] = [] from rfl] at l0
 rw [if_pos hA,if_pos hA,l0,obs,qbj _ k (by omega),obs]
 by_cases hR : mSR (lef a s) = true
 rotate_left
 ·rw [if_neg hR,if_neg hR]
 have hll := qam hR
 rw [if_pos hR,if_pos hR,qhP,obs,qbz _ _ (by omega) k (by omega),obs]
 have l1 := iter0 (L := fun n i y => qaS.l1 k n how a d.length i s d (lef a s) (lef a s) y) (st := fun i => fdA how s d a i) (fun _=>zFold how s d a) (m := d.length) 100
  (fun n _ => by rw [qaS.l1,ifq]; rfl)
  (fun i n hi hn ih => by
   have hpi : mIn s (pl s i) = true := qiv (fun x hx => (qdh hr (by omega) x hx).1) i
   have hin : mIn (lef a s) (lef a (pl s i)) = true := qlq a 0 hpi
   have hb := qix hin
   have hbb := (qdh hr (by omega))
   have l2 := iter0 (L := fun n j y => qaS.l2 k n how a i d.length i (pl s i).length j s d (lef a s) y (pl s i) (lef a s) (fdA how s d a i)) (st := fun j => lef a ((pl s i).take j)) (fun _=>lef a (pl s i)) (m := (pl s i).length) 0
    (fun n _ => by rw [qaS.l2,ifq,List.take_length])
    (fun j n hj _ ih => by
     have hl := qjD a 0 ((pl s i).take j)
     rw [lTk,qc4] at hl
     rw [qc4] at hj
     rw [qmh a (pl s i) (by rw [qc4]; exact hj)] at ih
     rw [qaS.l2,if_pos (by rw [qc4]; omega),if_pos (by rw [qc4]; omega),if_pos (by rw [qc4]; omega),qiF a _ ha k (by omega),obs,qav hj (by omega)]
     by_cases c : (j : Int) ∈ a
     ·rw [if_pos c,List.append_nil] at ih
      rw [decide_eq_true c,if_pos rfl,ih]
     ·rw [if_neg c] at ih
      rw [decide_eq_false c,if_neg (by decide),if_pos (by rw [lSi]; unfold lef; omega),tNc,ih]) n (by rw [qc4]; omega)
   rw [List.take_zero,show lef a [] = [] from rfl] at l2
   have hzi : zIx (lef a s) (lef a (pl s i)) = ix (lef a s) (lef a (pl s i)) := by
    unfold zIx
    rw [if_pos ⟨hR,hin⟩]
   have hfl := qok how s d a i
   rw [qaS.l1,ifp,qce hr (by omega) (by omega) k (by omega),obs,l2,obs,qdY _ _ k (by omega),obs,hzi,
    if_pos (by rw [hfl]; omega),if_pos (by rw [hfl]; omega),ifp,tNc,qiG,obs,qav hi (by omega),← qms,ih]) k (by omega)
 have hz : (zSz (lef a s)).toNat = (pr (lef a s)).toNat := by rw [zSz,if_pos hR]
 have e0 : fdA how s d a 0 = List.replicate (zSz (lef a s)).toNat (zNone how) := by rw [hz]; rfl
 rw [e0] at l1
 rw [l1,obs]
end Go.Pf

namespace Go.Pf
open Go Go.Vm
theorem qmB (g : Nat → Int) {i M : Nat} (h : i < M) (c : Int) : ((List.range i).map g ++ List.replicate (M - i) c).getD i 0 = c := by
 rw [gDg,List.getElem?_append_right (by simp),List.length_map,List.length_range,Nat.sub_self,List.getElem?_replicate,ifp]; rfl
theorem qlp : ∀ {s p s' p' : LI},mIn s p = true → mIn s' p' = true → mIn (s ++ s') (p ++ p') = true
 | [],[],_,_,_,h => h
 | _ :: _,_ :: _,_,_,h,h' => qbH.2 ⟨(qbH.1 h).1,qlp (qbH.1 h).2 h'⟩
 | [],_ :: _,_,_,h,_ => by simp [mIn] at h
 | _ :: _,[],_,_,h,_ => by simp [mIn] at h
theorem qh3 : ∀ {s s' p : LI},mIn (s ++ s') p = true → mIn s (p.take s.length) = true ∧ mIn s' (p.drop s.length) = true
 | [],s',p,h => ⟨by rw [List.length_nil,List.take_zero]; rfl,h⟩
 | x :: s,s',y :: p,h => by
  obtain ⟨h1,h2⟩ := qbH.1 h
  obtain ⟨i1,i2⟩ := qh3 h2
  exact ⟨qbH.2 ⟨h1,i1⟩,i2⟩
 | _ :: _,_,[],h => by simp [mIn] at h
theorem qoY {s p : LI} (h : mIn s p = true) (n : Nat) : mIn (s.take n) (p.take n) = true := by
 have hl := qeS h
 have := qh3 (s := s.take n) (s' := s.drop n) (p := p) (by rw [List.take_append_drop]; exact h)
 rw [lTk] at this
 by_cases c : n ≤ s.length
 ·rw [Nat.min_eq_left c] at this; exact this.1
 ·rw [List.take_of_length_le (show s.length ≤ n by omega),List.take_of_length_le (show p.length ≤ n by omega)]; exact h
def dsh (a b : LI) (n : Nat) : LI := a.take (a.length - 1) ++ b.drop (n + 1)
def zDS (a b : LI) (n : Int) : Int × LI :=
 if n < 0 ∨ (a.length : Int) ≤ n ∨ (b.length : Int) ≤ n then (1,[]) else
 if mSR a = true ∧ mSR b = true ∧ a.take n.toNat = b.take n.toNat ∧ a.getD (a.length - 1) 0 = b.getD n.toNat 0 then
  (if mSR (dsh a b n.toNat) = true then (0,dsh a b n.toNat) else (13,[]))
 else (13,[])
theorem qhQ (a b : LI) (n : Int) (k : Nat) (hk : 120000 ≤ k) : qc9.f k a b n = some (zDS a b n) := by
 unfold qc9.f zDS
 by_cases c1 : n < 0
 ·rw [if_pos c1,if_pos (.inl c1)]
 by_cases c2 : (a.length : Int) ≤ n
 ·rw [if_neg c1,if_pos c2,if_pos (.inr (.inl c2))]
 by_cases c3 : (b.length : Int) ≤ n
 ·rw [if_neg c1,if_neg c2,if_pos c3,if_pos (.inr (.inr c3))]
 rw [if_neg c1,if_neg c2,if_neg c3,if_neg (show ¬ (n < 0 ∨ (a.length : Int) ≤ n ∨ (b.length : Int) ≤ n) by omega),qbj a k (by omega),obs]
 by_cases ra : mSR a = true
 rotate_left
 ·rw [if_neg ra,if_neg (fun h => ra h.1)]
 rw [if_pos ra,qbj b k (by omega),obs]
 by_cases rb : mSR b = true
 rotate_left
 ·rw [if_neg rb,if_neg (fun h => rb h.2.1)]
 have ha := qam ra
 have hb := qam rb
 rw [if_pos rb,ifp,ifp,dZr,dZr,qcK _ _ (by rw [lTk]; omega) k (by rw [lTk]; omega),obs]
 by_cases c4 : a.take n.toNat = b.take n.toNat
 rotate_left
 ·rw [decide_eq_false c4,if_neg (by decide),if_neg (fun h => c4 h.2.2.1)]
 rw [decide_eq_true c4,if_pos rfl,qak (n := (a.length : Int) - 1) (by omega) (by omega),ifp,ifp,show ((a.length : Int) - 1).toNat = a.length - 1 by omega]
 by_cases c5 : a.getD (a.length - 1) 0 = b.getD n.toNat 0
 rotate_left
 ·rw [if_neg c5,if_neg (fun h => c5 h.2.2.2)]
 rw [if_pos c5,ifp,dZr,if_pos (by rw [lTk]; omega),qak (n := n + 1) (by omega) (by omega),ifp,nAp,List.take_length,show (n + 1).toNat = n.toNat + 1 by omega,if_pos (by rw [lTk,List.length_drop]; omega),if_pos ⟨ra,rb,c4,c5⟩]
 show (qaF.f k (dsh a b n.toNat)).bind _ = _
 rw [qbj _ k (by omega),obs]
 by_cases c6 : mSR (dsh a b n.toNat) = true
 ·rw [if_pos c6,if_pos c6]; rfl
 ·rw [if_neg c6,if_neg c6]
theorem qnr {a b : LI} {n : Int} (h : (zDS a b n).1 = 0) : (zDS a b n).2 = dsh a b n.toNat ∧ mSR (dsh a b n.toNat) = true ∧ 0 ≤ n ∧ n.toNat < a.length ∧ n.toNat < b.length ∧ a.take n.toNat = b.take n.toNat ∧ a.getD (a.length - 1) 0 = b.getD n.toNat 0 := by
 unfold zDS at h ⊢
 split at h
 ·simp at h
 rename_i c
 rw [if_neg c]
 split at h
 ·rename_i c2
  rw [if_pos c2]
  split at h
  ·rename_i c3
   rw [if_pos c3]
   exact ⟨rfl,c3,by omega,by omega,by omega,c2.2.2.1,c2.2.2.2⟩
  ·simp at h
 ·simp at h
def dotS (a A b B : LI) (n : Nat) (p : LI) (m : Nat) : Int :=
 (List.range m).foldl (fun acc (j : Nat) => IntKind.i64.wrap (acc + IntKind.i64.wrap (A.getD (ix a (p.take (a.length - 1) ++ [(j : Int)])).toNat 0 * B.getD (ix b (p.take n ++ (j : Int) :: p.drop (a.length - 1))).toNat 0))) 0
theorem qoq (a A b B : LI) (n : Nat) (p : LI) (m : Nat) : dotS a A b B n p (m + 1) = IntKind.i64.wrap (dotS a A b B n p m + IntKind.i64.wrap (A.getD (ix a (p.take (a.length - 1) ++ [(m : Int)])).toNat 0 * B.getD (ix b (p.take n ++ (m : Int) :: p.drop (a.length - 1))).toNat 0)) := by
 unfold dotS
 rw [List.range_succ,List.foldl_append]; rfl
def zDot (a A b B : LI) (n : Nat) : LI := made (dsh a b n) fun p => dotS a A b B n p (b.getD n 0).toNat
theorem qq2 {a b p : LI} {n : Nat} {j : Int} (ha : n < a.length) (hb : n < b.length) (he : a.take n = b.take n) (hl : a.getD (a.length - 1) 0 = b.getD n 0) (hp : mIn (dsh a b n) p = true) (h0 : 0 ≤ j) (h1 : j < b.getD n 0) :
  mIn a (p.take (a.length - 1) ++ [j]) = true ∧ mIn b (p.take n ++ j :: p.drop (a.length - 1)) = true := by
 obtain ⟨i1,i2⟩ := qh3 hp
 rw [lTk,Nat.min_eq_left (by omega)] at i1 i2
 constructor
 ·have e : a = a.take (a.length - 1) ++ [a.getD (a.length - 1) 0] := by
   rw [← qdn (by omega),Nat.sub_add_cancel (by omega),List.take_length]
  have := qlp i1 (s' := [a.getD (a.length - 1) 0]) (p' := [j]) (qbH.2 ⟨by omega,rfl⟩)
  rwa [← e] at this
 ·have e : b = b.take n ++ b.getD n 0 :: b.drop (n + 1) := by rw [← qaj hb]; exact (List.take_append_drop n b).symm
  have i3 := qoY i1 n
  rw [List.take_take,List.take_take,Nat.min_eq_left (by omega),he] at i3
  have := qlp i3 (s' := b.getD n 0 :: b.drop (n + 1)) (p' := j :: p.drop (a.length - 1)) (qbH.2 ⟨by omega,i2⟩)
  rwa [← e] at this
theorem pl_Z {s : LI} (hr : mSR s = true) {i : Nat} (h : (i : Int) < pr s) : mIn s (pl s i) = true := qiv (fun x hx => (qdh hr (by omega) x hx).1) i
theorem qmN (a A b B : LI) (n : Int) (k : Nat) (hk : 120000 ≤ k) :
    qbG.f k a A b B n = some (if zT a A = true ∧ zT b B = true then (if (zDS a b n).1 = 0 then (0,(zDS a b n).2,zDot a A b B n.toNat) else ((zDS a b n).1,[],[])) else (13,[],[])) := by
  unfold qbG.f
  rw [qbS a A k (by omega),obs]
  by_cases hA : zT a A = true
  rotate_left
  · rw [if_neg hA,if_neg (fun h => hA h.1)]
  rw [if_pos hA,qbS b B k (by omega),obs]
  by_cases hB : zT b B = true
  rotate_left
  · rw [if_neg hB,if_neg (fun h => hB h.2)]
  rw [if_pos hB,if_pos ⟨hA,hB⟩,qhQ a b n k (by omega),obs]
  by_cases hc : (zDS a b n).1 = 0
  rotate_left
  · rw [if_neg hc,if_neg hc]
  obtain ⟨e,hR,h0,h1,h2,h3,h4⟩ := qnr hc
  obtain ⟨N,rfl⟩ : ∃ N : Nat,n = N := ⟨n.toNat,by omega⟩
  rw [tNc] at *
  have ha := qd7 hA
  have hb := qd7 hB
  have hs := qam hR
  have hp0 := qcL fun x hx => (hs.2.1 x hx).1
  have hbN := qlo (qbo hB).1 h2
  rw [if_pos hc,if_pos hc,e,qbz _ _ (by omega) k (by omega),obs,zSz,if_pos hR,List.length_replicate,qak (n := (a.length : Int) - 1) (by omega) (by omega),show (((pr (dsh a b N)).toNat : Nat) : Int) = ((pr (dsh a b N)).toNat : Nat) from rfl]
  have key : ∀ (M : Nat),M = (pr (dsh a b N)).toNat → qbG.l0 k k (N : Int) ((a.length : Int) - 1) (M : Int) 0 a A b B (dsh a b N) (dsh a b N) (List.replicate M 0) = some (zDot a A b B N) := fun M hM => by
    have := iter0 (L := fun n i y => qbG.l0 k n (N : Int) ((a.length : Int) - 1) (M : Int) i a A b B (dsh a b N) (dsh a b N) y) (st := fun (i : Nat) => (List.range i).map (fun (i : Nat) => dotS a A b B N (pl (dsh a b N) i) (b.getD N 0).toNat) ++ List.replicate (M - i) 0) (fun _=>zDot a A b B N) (m := M) 100
      (fun n _ => by rw [qbG.l0,ifq,Nat.sub_self,List.replicate_zero,List.append_nil,hM]; rfl)
      (fun i n hi hn ih => by
        have hpi := pl_Z hR (i := i) (by omega)
        have hpl := qc4 (dsh a b N) i
        have hdl : (dsh a b N).length = (a.length - 1) + (b.length - (N + 1)) := by unfold dsh; rw [lAp,lTk,List.length_drop]; omega
        generalize hp : pl (dsh a b N) (i : Int) = p at *
        have hbase : ((List.range i).map (fun (i : Nat) => dotS a A b B N (pl (dsh a b N) i) (b.getD N 0).toNat) ++ List.replicate (M - i) (0 : Int)).length = M := by simp; omega
        have hget : ((List.range i).map (fun (i : Nat) => dotS a A b B N (pl (dsh a b N) i) (b.getD N 0).toNat) ++ List.replicate (M - i) (0 : Int)).getD i 0 = 0 := qmB _ hi 0
        have hfill := qek (fun (i : Nat) => dotS a A b B N (pl (dsh a b N) i) (b.getD N 0).toNat) hi 0
        rw [hp] at hfill
        generalize (List.range i).map (fun (i : Nat) => dotS a A b B N (pl (dsh a b N) i) (b.getD N 0).toNat) ++ List.replicate (M - i) (0 : Int) = base at *
        have l1 := iter0 (L := fun n j y => qbG.l1 k n (N : Int) ((a.length : Int) - 1) (i : Int) j (M : Int) (i : Int) a A b B (dsh a b N) p (dsh a b N) y) (st := fun j => base.set i (dotS a A b B N p j)) (fun _=>base.set i (dotS a A b B N p (b.getD N 0).toNat)) (m := (b.getD N 0).toNat) 0
          (fun n _ => by rw [qbG.l1,ifp,if_neg (by rw [tNc]; omega)])
          (fun j n hj _ ih => by
            obtain ⟨k1,k2⟩ := qq2 (j := (j : Int)) h1 h2 h3 h4 hpi (by omega) (by omega)
            have hpt : (p.take (a.length - 1)).length = a.length - 1 := by rw [lTk]; omega
            have hpn : (p.take N).length = N := by rw [lTk]; omega
            have hset : ∀ v,(base.set i (dotS a A b B N p j)).set i v = base.set i v := fun v => by simp
            rw [qbG.l1,ifp,tNc,ifp,show ((a.length : Int) - 1).toNat = a.length - 1 by omega,dZr,dZr,nAp,nAp,List.take_length,ifp,if_pos (by rw [hpt]; omega),if_pos (by rw [hpt,lSi]; omega),ifp,if_pos (by rw [hpn]; omega),if_pos (by rw [hpn,lSi]; omega),ifp,
              if_pos (by rw [lAp,hpn,lSi,List.length_drop]; omega),if_pos (by rw [qcl,hbase]; omega),tNc,if_pos (by rw [qcl,hbase]; exact hi),qcO hA k1 k (by omega),obs,aAs,List.singleton_append,qcO hB k2 k (by omega),obs,hset,qaz (by rw [hbase]; exact hi),qav hj (by omega),← qoq,ih]) n (by omega)
        rw [show dotS a A b B N p 0 = 0 from rfl,qfT hget.symm] at l1
        rw [hfill] at l1
        rw [qbG.l0,ifp,qce hR (by omega) (by omega) k (by omega),obs,hp,l1,obs,qav hi (by omega),ih]) k (by omega)
    rw [Nat.sub_zero,List.range_zero,List.map_nil,nAp] at this
    exact this
  rw [key _ rfl,obs]
def zWn (n w ap : Int) : Int := if n < 0 ∨ w < 1 ∨ ap < 1 ∨ n < w then 0 else (n - w) / ap + 1
theorem qit {n w ap : Int} (hn : n ≤ 1000) (hn0 : 0 ≤ n) (hw : w ≤ 1000) (hw0 : 0 ≤ w) : qdo.f n w ap = some (zWn n w ap) := by
 unfold qdo.f zWn
 by_cases c1 : n < 0
 ·omega
 by_cases c2 : w < 1
 ·rw [if_neg c1,if_pos c2,if_pos (.inr (.inl c2))]
 by_cases c3 : ap < 1
 ·rw [if_neg c1,if_neg c2,if_pos c3,if_pos (.inr (.inr (.inl c3)))]
 by_cases c4 : n < w
 ·rw [if_neg c1,if_neg c2,if_neg c3,if_pos c4,if_pos (.inr (.inr (.inr c4)))]
 have h1 : 0 ≤ (n - w) / ap := Int.ediv_nonneg (by omega) (by omega)
 have h2 : (n - w) / ap ≤ n - w := Int.ediv_le_self _ (by omega)
 rw [if_neg c1,if_neg c2,if_neg c3,if_neg c4,ifp,ifq,qak (n := n - w) (by omega) (by omega),Int.tdiv_eq_ediv_of_nonneg (by omega),qak (n := (n - w) / ap) (by omega) (by omega),qak (n := (n - w) / ap + 1) (by omega) (by omega)]
theorem qqy {n w ap : Int} (h0 : 0 ≤ n) : 0 ≤ zWn n w ap ∧ zWn n w ap ≤ n := by
 unfold zWn
 split
 ·omega
 ·rename_i c
  have h1 : 0 ≤ (n - w) / ap := Int.ediv_nonneg (by omega) (by omega)
  have h2 : (n - w) / ap ≤ n - w := Int.ediv_le_self _ (by omega)
  omega
theorem qqx {n w ap i j : Int} (hi0 : 0 ≤ i) (hi : i < zWn n w ap) (hj0 : 0 ≤ j) (hj : j < w) : 0 ≤ i * ap + j ∧ i * ap + j < n ∧ 1 ≤ ap := by
 unfold zWn at hi
 split at hi
 ·omega
 ·rename_i c
  have h3 : i * ap ≤ (n - w) / ap * ap := Int.mul_le_mul_of_nonneg_right (by omega) (by omega)
  have h4 : (n - w) / ap * ap ≤ n - w := Int.ediv_mul_le _ (by omega)
  have h5 : 0 ≤ i * ap := Int.mul_nonneg hi0 (by omega)
  omega
def winS (how : Int) (s d : LI) (ax : Nat) (ap : Int) (p : LI) (m : Nat) : Int :=
 (List.range m).foldl (fun acc (j : Nat) => put how acc (d.getD (ix s (p.set ax (p.getD ax 0 * ap + (j : Int)))).toNat 0)) (zNone how)
theorem qnt (how : Int) (s d : LI) (ax : Nat) (ap : Int) (p : LI) (m : Nat) : winS how s d ax ap p (m + 1) = put how (winS how s d ax ap p m) (d.getD (ix s (p.set ax (p.getD ax 0 * ap + (m : Int)))).toNat 0) := by
 unfold winS
 rw [List.range_succ,List.foldl_append]; rfl
def wsh (s : LI) (ax : Nat) (w ap : Int) : LI := s.set ax (zWn (s.getD ax 0) w ap)
def zWin (how : Int) (s d : LI) (ax : Nat) (w ap : Int) : LI := made (wsh s ax w ap) fun p => winS how s d ax ap p w.toNat
theorem qqG {s : LI} (h : mSR s = true) {ax : Nat} (hax : ax < s.length) (w ap : Int) : mSR (wsh s ax w ap) = true := by
 refine qoC h (f := List.replicate s.length 0) (qpo (by simp) (by simp [wsh]) fun j hj => ?_)
 have hb := qlo h hj
 rw [qoQ,wsh]
 by_cases e : j = ax
 ·subst e; rw [qaz hj]
  have := qqy (w := w) (ap := ap) hb.1
  omega
 ·rw [qc2 (fun hh => e hh.symm)]; omega
theorem qps {s p : LI} {ax : Nat} {w ap : Int} (hax : ax < s.length) (hp : mIn (wsh s ax w ap) p = true) {j : Int} (h0 : 0 ≤ j) (h1 : j < w) : mIn s (p.set ax (p.getD ax 0 * ap + j)) = true ∧ 0 ≤ p.getD ax 0 * ap ∧ p.getD ax 0 * ap + j < s.getD ax 0 := by
 have hl := qeS hp
 have hl' : (wsh s ax w ap).length = s.length := by simp [wsh]
 have hg := qmb hp (j := ax) (by rw [hl']; exact hax)
 rw [wsh,qaz hax] at hg
 have hw := qqx hg.1 hg.2 h0 h1
 have hw0 : 0 ≤ p.getD ax 0 * ap := Int.mul_nonneg hg.1 (by omega)
 refine ⟨qky (by rw [qcl,hl,hl']) fun q hq => ?_,hw0,hw.2.1⟩
 by_cases e : q = ax
 ·subst e; rw [qaz (by omega)]; omega
 ·have := qmb hp (j := q) (by rw [hl']; exact hq)
  rw [wsh,qc2 (fun hh => e hh.symm)] at this
  rw [qc2 (fun hh => e hh.symm)]; exact this
theorem qjq (how : Int) (s d : LI) (ax w ap : Int) (k : Nat) (hk : 120000 ≤ k) :
    qaV.f k how s d ax w ap = some (if (1 ≤ how ∧ how ≤ 4) ∧ (1 ≤ w ∧ w ≤ 32) ∧ 1 ≤ ap ∧ ap ≤ 32 then (if zT s d = true then (if 0 ≤ ax ∧ ax < (s.length : Int) then (0,wsh s ax.toNat w ap,zWin how s d ax.toNat w ap) else (1,[],[])) else (13,[],[])) else (1,[],[])) := by
  unfold qaV.f
  rw [qiI,obs]
  by_cases c0 : 1 ≤ how ∧ how ≤ 4
  rotate_left
  · rw [decide_eq_false c0,if_neg (by decide),if_neg (fun h => c0 h.1)]
  rw [decide_eq_true c0,if_pos rfl]
  by_cases c1 : w < 1
  · rw [if_pos c1,ifq]
  by_cases c2 : 32 < w
  · rw [if_neg c1,if_pos c2,ifq]
  by_cases c3 : ap < 1
  · rw [if_neg c1,if_neg c2,if_pos c3,ifq]
  by_cases c4 : 32 < ap
  · rw [if_neg c1,if_neg c2,if_neg c3,if_pos c4,ifq]
  rw [if_neg c1,if_neg c2,if_neg c3,if_neg c4,if_pos (show (1 ≤ how ∧ how ≤ 4) ∧ (1 ≤ w ∧ w ≤ 32) ∧ 1 ≤ ap ∧ ap ≤ 32 by omega),qbS s d k (by omega),obs]
  by_cases hT : zT s d = true
  rotate_left
  · rw [if_neg hT,if_neg hT]
  have hs := qd7 hT
  rw [if_pos hT,if_pos hT]
  by_cases c5 : ax < 0
  · rw [if_pos c5,ifq]
  by_cases c6 : (s.length : Int) ≤ ax
  · rw [if_neg c5,if_pos c6,ifq]
  obtain ⟨X,rfl⟩ : ∃ X : Nat,ax = X := ⟨ax.toNat,by omega⟩
  obtain ⟨hr,hd⟩ := qbo hT
  have hX : X < s.length := by omega
  have hsX := qlo hr hX
  have hR := qqG hr hX w ap
  have hRs := qam hR
  have hp0 := qcL fun x hx => (hRs.2.1 x hx).1
  rw [if_neg c5,if_neg c6,if_pos (show (0 : Int) ≤ X ∧ (X : Int) < s.length by omega),ifp,nAp,ifp,tNc,if_pos hX,qit (by omega) hsX.1 (by omega) (by omega),obs,qhP,obs]
  rw [show s.set X (zWn (s.getD X 0) w ap) = wsh s X w ap from rfl,qbz _ _ (by omega) k (by omega),obs,zSz,if_pos hR,List.length_replicate]
  have key : ∀ (M : Nat),M = (pr (wsh s X w ap)).toNat → qaV.l0 k k how (X : Int) w ap (M : Int) 0 s d (wsh s X w ap) (wsh s X w ap) (List.replicate M (zNone how)) = some (zWin how s d X w ap) := fun M hM => by
    have := iter0 (L := fun n i y => qaV.l0 k n how (X : Int) w ap (M : Int) i s d (wsh s X w ap) (wsh s X w ap) y) (st := fun (i : Nat) => (List.range i).map (fun (i : Nat) => winS how s d X ap (pl (wsh s X w ap) i) w.toNat) ++ List.replicate (M - i) (zNone how)) (fun _=>zWin how s d X w ap) (m := M) 100
      (fun n _ => by rw [qaV.l0,ifq,Nat.sub_self,List.replicate_zero,List.append_nil,hM]; rfl)
      (fun i n hi hn ih => by
        have hpi := pl_Z hR (i := i) (by omega)
        have hpl := qc4 (wsh s X w ap) i
        have hwl : (wsh s X w ap).length = s.length := by simp [wsh]
        generalize hp : pl (wsh s X w ap) (i : Int) = p at *
        have hbase : ((List.range i).map (fun (i : Nat) => winS how s d X ap (pl (wsh s X w ap) i) w.toNat) ++ List.replicate (M - i) (zNone how)).length = M := by simp; omega
        have hget : ((List.range i).map (fun (i : Nat) => winS how s d X ap (pl (wsh s X w ap) i) w.toNat) ++ List.replicate (M - i) (zNone how)).getD i 0 = zNone how := qmB _ hi _
        have hfill := qek (fun (i : Nat) => winS how s d X ap (pl (wsh s X w ap) i) w.toNat) hi (zNone how)
        rw [hp] at hfill
        generalize (List.range i).map (fun (i : Nat) => winS how s d X ap (pl (wsh s X w ap) i) w.toNat) ++ List.replicate (M - i) (zNone how) = base at *
        have hg := qps hX hpi (j := 0) (by omega) (by omega)
        have l1 := iter0 (L := fun n j (y : LI × LI) => qaV.l1 k n how (X : Int) w ap (i : Int) (p.getD X 0 * ap) j (M : Int) (i : Int) s d (wsh s X w ap) y.1 (wsh s X w ap) y.2) (st := fun j => (if j = 0 then p else p.set X (p.getD X 0 * ap + ((j - 1 : Nat) : Int)),base.set i (winS how s d X ap p j))) (fun _=>base.set i (winS how s d X ap p w.toNat)) (m := w.toNat) 0
          (fun n _ => by rw [qaV.l1,ifq])
          (fun j n hj _ ih => by
            have hin := qps hX hpi (j := (j : Int)) (by omega) (by omega)
            have hset : ∀ v,(base.set i (winS how s d X ap p j)).set i v = base.set i v := fun v => by simp
            have hcl : (if j = 0 then p else p.set X (p.getD X 0 * ap + ((j - 1 : Nat) : Int))).length = p.length := by split <;> simp
            have hps : ∀ v,(if j = 0 then p else p.set X (p.getD X 0 * ap + ((j - 1 : Nat) : Int))).set X v = p.set X v := fun v => by split <;> simp
            rw [if_neg (Nat.succ_ne_zero j),Nat.add_sub_cancel] at ih
            rw [qaV.l1,ifp,if_pos (by rw [hcl]; omega),tNc,if_pos (by rw [hcl]; omega),if_pos (by rw [qcl,hbase]; omega),tNc,if_pos (by rw [qcl,hbase]; exact hi),hps,qak (n := p.getD X 0 * ap + (j : Int)) (by omega) (by omega),qcO hT hin.1 k (by omega),obs,qiG,obs,hset,qaz (by rw [hbase]; exact hi),qav hj (by omega),← qnt,ih]) n (by omega)
        rw [if_pos rfl,show winS how s d X ap p 0 = zNone how from rfl,qfT hget.symm,hfill] at l1
        rw [qaV.l0,ifp,qce hR (by omega) (by omega) k (by omega),obs,hp,ifp,tNc,ifp,qak (n := p.getD X 0 * ap) (by omega) (by omega),l1,obs,qav hi (by omega),ih]) k (by omega)
    rw [Nat.sub_zero,List.range_zero,List.map_nil,nAp] at this
    exact this
  dsimp only
  rw [key _ rfl,obs]
end Go.Pf

namespace Go.Pf
open Go Go.Vm
def tq (op : Int) : Option (Int × Bool × Bool × Bool × Bool × Bool) :=
 if op = 1 then some (0,false,true,false,false,false) else if op = 2 then some (0,false,true,false,true,false) else if op = 3 then some (0,false,true,true,false,false)
 else if op = 4 ∨ op = 5 then some (1,false,false,false,false,false) else if 6 ≤ op ∧ op ≤ 11 then some (2,false,false,false,false,false) else if op = 12 then some (3,false,false,false,false,false)
 else if op = 13 ∨ op = 15 then some (1,false,false,true,false,false) else if op = 14 then some (1,false,true,true,false,false) else if op = 16 then some (1,false,false,true,true,false)
 else if op = 17 then some (2,true,false,true,false,false) else if op = 18 ∨ op = 20 then some (1,false,false,true,false,true) else if op = 19 then some (2,false,false,true,false,false) else none
def zF (op : Int) (ls la : Nat) (n h m : Int) : Bool :=
 match tq op with
 | none => false
 | some (lo,more,s,a,v,w) => decide (lo ≤ m) && (more || decide (m ≤ lo)) && (s || decide (ls = 0)) && (a || decide (la = 0)) && (v || decide (n = 0)) && (w || decide (h = 0))
theorem qdZ (op : Int) : op = 1 ∨ op = 2 ∨ op = 3 ∨ op = 4 ∨ op = 5 ∨ op = 6 ∨ op = 7 ∨ op = 8 ∨ op = 9 ∨ op = 10 ∨ op = 11 ∨ op = 12 ∨ op = 13 ∨ op = 14 ∨ op = 15 ∨ op = 16 ∨ op = 17 ∨ op = 18 ∨ op = 19 ∨ op = 20 ∨ (op < 1 ∨ 20 < op) := by omega
theorem qj9 {op : Int} (h : op < 1 ∨ 20 < op) : tq op = none := by
 unfold tq
 rw [ifq,ifq,ifq,ifq,ifq,ifq,ifq,ifq,ifq,ifq,ifq,ifq]
theorem qkI (op : Int) : qej.f op = some (match tq op with | none => (0,false,false,false,false,false,false) | some (lo,more,s,a,v,w) => (lo,more,s,a,v,w,true)) := by
 rcases qdZ op with rfl | rfl | rfl | rfl | rfl | rfl | rfl | rfl | rfl | rfl | rfl | rfl | rfl | rfl | rfl | rfl | rfl | rfl | rfl | rfl | hout
 iterate 20 exact rfl
 rw [qj9 hout]
 unfold qej.f
 rw [ifq,ifq,ifq,ifq,ifq,ifq,ifq,ifq,ifq,ifq,ifq,ifq,ifq,ifq,ifq,ifq,ifq,ifq,ifq,ifq]
theorem qjv (op : Int) : qdJ.f op = some (match tq op with | none => (-2,false,false,false,false) | some (lo,more,s,a,v,w) => (if more = true then -1 else lo,s,a,v,w)) := by
 rcases qdZ op with rfl | rfl | rfl | rfl | rfl | rfl | rfl | rfl | rfl | rfl | rfl | rfl | rfl | rfl | rfl | rfl | rfl | rfl | rfl | rfl | hout
 iterate 20 exact rfl
 rw [qj9 hout]
 unfold qdJ.f
 rw [ifq,ifq,ifq,ifq,ifq]
 by_cases c : 6 ≤ op
 ·rw [if_pos c,ifq,ifq,ifq,ifq,ifq,ifq,ifq,ifq,ifq,ifq]
 ·rw [if_neg c,ifq,ifq,ifq,ifq,ifq,ifq,ifq,ifq,ifq]
theorem tq_lo {op lo : Int} {more s a v w : Bool} (h : tq op = some (lo,more,s,a,v,w)) : 0 ≤ lo ∧ lo ≤ 3 ∧ (more = true → lo = 2) := by
 rcases qdZ op with rfl | rfl | rfl | rfl | rfl | rfl | rfl | rfl | rfl | rfl | rfl | rfl | rfl | rfl | rfl | rfl | rfl | rfl | rfl | rfl | hout
 iterate 20
  simp [tq] at h
  obtain ⟨rfl,rfl,_⟩ := h
  simp
 rw [qj9 hout] at h; cases h
theorem qjI (op : Int) (i s a : LI) (n h : Int) (nt : ByteArray) (m : Int) : qdP.f op i s a n h nt m = some (zF op s.length a.length n h m) := by
 unfold qdP.f zF
 rw [qkI,obs]
 cases tq op with
 | none => rfl
 | some q =>
  obtain ⟨lo,more,qs,qa,qv,qw⟩ := q
  dsimp only
  rw [if_pos rfl]
  by_cases c1 : m < lo
  ·rw [if_pos c1,decide_eq_false (show ¬ lo ≤ m by omega)]; simp
  ·rw [if_neg c1,decide_eq_true (show lo ≤ m by omega),Bool.true_and]
   have e1 : decide ((s.length : Int) = 0) = decide (s.length = 0) := decide_eq_decide.2 (by omega)
   have e2 : decide ((a.length : Int) = 0) = decide (a.length = 0) := decide_eq_decide.2 (by omega)
   by_cases c2 : lo < m
   ·rw [if_pos c2,decide_eq_false (show ¬ m ≤ lo by omega)]
    cases more <;> cases qs <;> cases qa <;> cases qv <;> cases qw <;> simp <;> (repeat' split) <;> simp_all
   ·rw [if_neg c2,decide_eq_true (show m ≤ lo by omega)]
    cases more <;> cases qs <;> cases qa <;> cases qv <;> cases qw <;> simp <;> (repeat' split) <;> simp_all
theorem qkr (op : Int) (i s a : LI) (n h : Int) (nt : ByteArray) (m : Int) : qeg.f op i s a n h nt m = some (zF op s.length a.length n h m) := by
 unfold qeg.f zF
 rw [qjv,obs]
 cases hq : tq op with
 | none => rfl
 | some q =>
  obtain ⟨lo,more,qs,qa,qv,qw⟩ := q
  obtain ⟨h1,h2,h3⟩ := tq_lo hq
  dsimp only
  cases more with
  | true =>
   obtain rfl : lo = 2 := h3 rfl
   simp only [reduceIte,show ¬ ((-1 : Int) = -2) by decide,show ¬ ((0 : Int) ≤ -1) by decide]
   by_cases c1 : m < 2
   ·rw [if_pos c1,decide_eq_false (show ¬ (2 : Int) ≤ m by omega)]; simp
   ·rw [if_neg c1,decide_eq_true (show (2 : Int) ≤ m by omega)]
    cases qs <;> cases qa <;> cases qv <;> cases qw <;> simp <;> (repeat' split) <;> simp_all
  | false =>
   simp only [Bool.false_eq_true,reduceIte,show ¬ (lo = -2) by omega,h1]
   by_cases c1 : m = lo
   ·subst c1
    rw [if_pos rfl,ifq,decide_eq_true (Int.le_refl m)]
    cases qs <;> cases qa <;> cases qv <;> cases qw <;> simp <;> (repeat' split) <;> simp_all
   ·have : (decide (lo ≤ m) && (false || decide (m ≤ lo))) = false := by
     rw [Bool.false_or,← Bool.decide_and]; exact decide_eq_false (by omega)
    rw [if_neg c1,this]; simp
end Go.Pf

namespace Go.Pf
open Go Go.Vm
def zShape (op : Int) (s a : LI) (h : Int) (l : List LI) : Int × LI :=
 if op = 1 ∨ op = 2 then (if mSR s = true then (0,s) else (13,[])) else
 if op = 3 then (if mSR s = true then (if a.length = 1 ∧ 0 ≤ a.getD 0 0 ∧ a.getD 0 0 < (s.length : Int) then (0,s) else (1,[])) else (13,[])) else
 if op = 13 then (if isPerm (l.getD 0 []).length a = true then (0,pick (l.getD 0 []) a) else (1,[])) else
 if op = 14 then (if mSR s = true then (if zWi s (-1) (l.getD 0 []) a = true then (0,s) else (1,[])) else (13,[])) else
 if op = 15 then (if a.length = 2 * (l.getD 0 []).length ∧ zSl (l.getD 0 []) (a.take (l.getD 0 []).length) (a.drop (l.getD 0 []).length) = true then (0,a.drop (l.getD 0 []).length) else (1,[])) else
 if op = 16 then (if a.length = 2 * (l.getD 0 []).length ∧ zMay (l.getD 0 []) (a.take (l.getD 0 []).length) (a.drop (l.getD 0 []).length) = true then
  (if mSR (zp (l.getD 0 []) (a.take (l.getD 0 []).length) (a.drop (l.getD 0 []).length)) = true then (0,zp (l.getD 0 []) (a.take (l.getD 0 []).length) (a.drop (l.getD 0 []).length)) else (13,[])) else (1,[])) else
 if op = 17 then (if a.length = 1 then zJs (a.getD 0 0) l else (1,[])) else
 if op = 18 then (if 1 ≤ h ∧ h ≤ 4 then (if zRi (l.getD 0 []).length (-1) a = true then (if mSR (lef a (l.getD 0 [])) = true then (0,lef a (l.getD 0 [])) else (13,[])) else (1,[])) else (1,[])) else
 if op = 19 then (if a.length = 1 then zDS (l.getD 0 []) (l.getD 1 []) (a.getD 0 0) else (1,[])) else
 if op = 20 then (if a.length = 3 ∧ ((1 ≤ h ∧ h ≤ 4) ∧ (1 ≤ a.getD 1 0 ∧ a.getD 1 0 ≤ 32) ∧ 1 ≤ a.getD 2 0 ∧ a.getD 2 0 ≤ 32) ∧ 0 ≤ a.getD 0 0 ∧ a.getD 0 0 < ((l.getD 0 []).length : Int) then (0,wsh (l.getD 0 []) (a.getD 0 0).toNat (a.getD 1 0) (a.getD 2 0)) else (1,[])) else
 if l.all (fun t => decide (t = l.getD 0 [])) = true then (0,l.getD 0 []) else (13,[])
def nou (s : LI) : Tn := (s,List.replicate (zSz s).toNat 0)
theorem nou_T {s : LI} (h : mSR s = true) : zT s (List.replicate (zSz s).toNat 0) = true := by
 have := qcL fun x hx => ((qam h).2.1 x hx).1
 unfold zT
 rw [List.length_replicate,zSz,if_pos h]
 simp [h]; omega
theorem qiu (k : Nat) (hk : 120000 ≤ k) (l : List LI) (hl : l.length ≤ 100000) (op : Int) (i s a : LI) (n h : Int) (nt : ByteArray) :
  qbh.l0 k k l (l.length : Int) 0 op i s a n h nt [] = some (if l.all mSR = true then .inl (l.map nou) else .inr 13) := by
 have := iter0 (L := fun m j y => qbh.l0 k m l (l.length : Int) j op i s a n h nt y) (st := fun j => (l.take j).map nou) (fun j => if (l.drop j).all mSR = true then .inl (l.map nou) else .inr 13) (m := l.length) 0
  (fun m _ => by rw [qbh.l0,ifq,dNl (Nat.le_refl _),List.take_length]; rfl)
  (fun j m hj _ ih => by
   have ht : (l.take (j + 1)).map nou = (l.take j).map nou ++ [nou (l.getD j [])] := by
    rw [List.take_add_one,List.map_append,gDg,List.getElem?_eq_getElem hj]; rfl
   rw [ht] at ih
   rw [qbh.l0,ifp,ifp,tNc,qbj _ k (by omega),obs,qaj hj ([] : LI),List.all_cons]
   by_cases c : mSR (l.getD j []) = true
   ·have hb := qam c
    rw [if_pos c,qbz _ _ (by omega) k (by omega),obs,if_pos (by rw [List.length_map,lTk,lSi]; omega),qav hj (by omega),c,Bool.true_and]
    exact ih
   ·rw [if_neg c,if_neg (by rw [bAt]; exact fun hh => c hh.1)]) k (by omega)
 rw [List.take_zero,List.map_nil,dZr] at this
 exact this
theorem qqd {l : List LI} (h : l.all mSR = true) : (l.map nou).all (fun t => zT t.1 t.2) = true := by
 rw [List.all_map,List.all_eq_true]
 intro s hs
 exact nou_T (List.all_eq_true.1 h s hs)
theorem qqc (l : List LI) : (l.map nou).map (·.1) = l := by
 rw [List.map_map]
 conv => rhs; rw [← List.map_id l]
 rfl
def shp (x : Int × LI × LI) : Int × LI := if x.1 = 0 then (0,x.2.1) else (x.1,[])
theorem qle {s : LI} (hs : mSR s = true) (ax : Nat) (hax : ax < s.length) (k : Nat) (hk : 120000 ≤ k) : qcf.f k s ax = some (s,made s fun p => p.getD ax 0) := by
 have hb := qam hs
 have h0 := qcL fun x hx => (hb.2.1 x hx).1
 unfold qcf.f
 rw [qbz _ _ (by omega) k (by omega),obs,zSz,if_pos hs]
 have key : ∀ M : Nat,M = (pr s).toNat → qcf.l0 k k s ax 0 s (List.replicate M 0) = some (made s fun p => p.getD ax 0) := fun M hM => by
  have := iter0 (L := fun n i y => qcf.l0 k n s ax i s y) (st := fun (i : Nat) => (List.range i).map (fun (i : Nat) => (pl s i).getD ax 0) ++ List.replicate (M - i) 0) (fun _=>made s fun p => p.getD ax 0) (m := M) 0
   (fun n _ => by rw [qcf.l0,if_neg (by simp),Nat.sub_self,List.replicate_zero,List.append_nil,hM]; rfl)
   (fun i n hi _ ih => by
    have hpl := qc4 s i
    have hlen : ((List.range i).map (fun (i : Nat) => (pl s i).getD ax 0) ++ List.replicate (M - i) (0 : Int)).length = M := by simp; omega
    rw [qcf.l0,if_pos (by rw [hlen]; omega),qce hs (by omega) (by omega) k (by omega),obs,ifp,tNc,ifp,if_pos (by rw [hlen]; omega),tNc,if_pos (by rw [hlen]; exact hi),qek (fun (i : Nat) => (pl s i).getD ax 0) hi,qav hi (by omega),ih]) k (by omega)
  rw [Nat.sub_zero,List.range_zero,List.map_nil,nAp] at this
  exact this
 dsimp only
 rw [key _ rfl,obs]
theorem qcQ (op : Int) (i s a : LI) (n h : Int) (nt : ByteArray) (m : Int) : qcr.f op i s a n h nt m = some (decide ((a.length : Int) = m)) := rfl
end Go.Pf

namespace Go.Pf
open Go Go.Vm
def zWork (op : Int) (s a : LI) (n h : Int) (l : List Tn) : Int × LI × LI :=
 if op = 2 then (if mSR s = true then (0,s,List.replicate (zSz s).toNat n) else (13,[],[])) else
 if op = 3 then (if mSR s = true then (if a.length = 1 ∧ 0 ≤ a.getD 0 0 ∧ a.getD 0 0 < (s.length : Int) then (0,s,made s fun p => p.getD (a.getD 0 0).toNat 0) else (1,[],[])) else (13,[],[])) else
 if op = 4 ∨ op = 5 then (0,(l.getD 0 ([],[])).1,zOne op (l.getD 0 ([],[])).2) else
 if op = 12 then (if (l.getD 1 ([],[])).1 = (l.getD 0 ([],[])).1 ∧ (l.getD 2 ([],[])).1 = (l.getD 0 ([],[])).1 then (0,(l.getD 0 ([],[])).1,zPick (l.getD 0 ([],[])).2 (l.getD 1 ([],[])).2 (l.getD 2 ([],[])).2) else (13,[],[])) else
 if op = 13 then (if isPerm (l.getD 0 ([],[])).1.length a = true then (0,pick (l.getD 0 ([],[])).1 a,zTurn (l.getD 0 ([],[])).1 (l.getD 0 ([],[])).2 a) else (1,[],[])) else
 if op = 14 then (if mSR s = true then (if zWi s (-1) (l.getD 0 ([],[])).1 a = true then (0,s,zSpr (l.getD 0 ([],[])).1 (l.getD 0 ([],[])).2 s a) else (1,[],[])) else (13,[],[])) else
 if op = 15 then (if a.length = 2 * (l.getD 0 ([],[])).1.length ∧ zSl (l.getD 0 ([],[])).1 (a.take (l.getD 0 ([],[])).1.length) (a.drop (l.getD 0 ([],[])).1.length) = true then
  (0,a.drop (l.getD 0 ([],[])).1.length,zCut (l.getD 0 ([],[])).1 (l.getD 0 ([],[])).2 (a.take (l.getD 0 ([],[])).1.length) (a.drop (l.getD 0 ([],[])).1.length)) else (1,[],[])) else
 if op = 16 then (if a.length = 2 * (l.getD 0 ([],[])).1.length ∧ zMay (l.getD 0 ([],[])).1 (a.take (l.getD 0 ([],[])).1.length) (a.drop (l.getD 0 ([],[])).1.length) = true then
  (if mSR (zp (l.getD 0 ([],[])).1 (a.take (l.getD 0 ([],[])).1.length) (a.drop (l.getD 0 ([],[])).1.length)) = true then
   (0,zp (l.getD 0 ([],[])).1 (a.take (l.getD 0 ([],[])).1.length) (a.drop (l.getD 0 ([],[])).1.length),zPad (l.getD 0 ([],[])).1 (l.getD 0 ([],[])).2 (a.take (l.getD 0 ([],[])).1.length) (a.drop (l.getD 0 ([],[])).1.length) n) else (13,[],[])) else (1,[],[])) else
 if op = 17 then (if a.length = 1 then zJoin (a.getD 0 0) l else (1,[],[])) else
 if op = 18 then (if 1 ≤ h ∧ h ≤ 4 then (if zRi (l.getD 0 ([],[])).1.length (-1) a = true then (if mSR (lef a (l.getD 0 ([],[])).1) = true then (0,lef a (l.getD 0 ([],[])).1,zFold h (l.getD 0 ([],[])).1 (l.getD 0 ([],[])).2 a) else (13,[],[])) else (1,[],[])) else (1,[],[])) else
 if op = 19 then (if a.length = 1 then (if (zDS (l.getD 0 ([],[])).1 (l.getD 1 ([],[])).1 (a.getD 0 0)).1 = 0 then
   (0,(zDS (l.getD 0 ([],[])).1 (l.getD 1 ([],[])).1 (a.getD 0 0)).2,zDot (l.getD 0 ([],[])).1 (l.getD 0 ([],[])).2 (l.getD 1 ([],[])).1 (l.getD 1 ([],[])).2 (a.getD 0 0).toNat) else ((zDS (l.getD 0 ([],[])).1 (l.getD 1 ([],[])).1 (a.getD 0 0)).1,[],[])) else (1,[],[])) else
 if op = 20 then (if a.length = 3 ∧ ((1 ≤ h ∧ h ≤ 4) ∧ (1 ≤ a.getD 1 0 ∧ a.getD 1 0 ≤ 32) ∧ 1 ≤ a.getD 2 0 ∧ a.getD 2 0 ≤ 32) ∧ 0 ≤ a.getD 0 0 ∧ a.getD 0 0 < ((l.getD 0 ([],[])).1.length : Int) then
  (0,wsh (l.getD 0 ([],[])).1 (a.getD 0 0).toNat (a.getD 1 0) (a.getD 2 0),zWin h (l.getD 0 ([],[])).1 (l.getD 0 ([],[])).2 (a.getD 0 0).toNat (a.getD 1 0) (a.getD 2 0)) else (1,[],[])) else
 if (l.getD 1 ([],[])).1 = (l.getD 0 ([],[])).1 then (0,(l.getD 0 ([],[])).1,zTwo op (l.getD 0 ([],[])).2 (l.getD 1 ([],[])).2) else (13,[],[])
set_option maxHeartbeats 2000000 in
theorem qlS {op : Int} {ls la : Nat} {n h m : Int} (hF : zF op ls la n h m = true) : (op = 1 ∧ m = 0) ∨ (op = 2 ∧ m = 0) ∨ (op = 3 ∧ m = 0) ∨ ((op = 4 ∨ op = 5) ∧ m = 1) ∨ ((6 ≤ op ∧ op ≤ 11) ∧ m = 2) ∨ (op = 12 ∧ m = 3) ∨ (op = 13 ∧ m = 1) ∨ (op = 14 ∧ m = 1) ∨ (op = 15 ∧ m = 1) ∨ (op = 16 ∧ m = 1) ∨ (op = 17 ∧ 2 ≤ m) ∨ (op = 18 ∧ m = 1) ∨ (op = 19 ∧ m = 2) ∨ (op = 20 ∧ m = 1) := by
 unfold zF at hF
 cases hq : tq op with
 | none => rw [hq] at hF; cases hF
 | some q =>
  obtain ⟨lo,more,qs,qa,qv,qw⟩ := q
  rw [hq] at hF
  simp only [bAt,decide_eq_true_eq,Bool.or_eq_true] at hF
  obtain ⟨⟨⟨⟨⟨h1,h2⟩,_⟩,_⟩,_⟩,_⟩ := hF
  rcases qdZ op with rfl | rfl | rfl | rfl | rfl | rfl | rfl | rfl | rfl | rfl | rfl | rfl | rfl | rfl | rfl | rfl | rfl | rfl | rfl | rfl | hout
  ·simp [tq] at hq
   obtain ⟨rfl,rfl,_⟩ := hq
   simp at h2
   exact .inl ⟨rfl,by omega⟩
  ·simp [tq] at hq
   obtain ⟨rfl,rfl,_⟩ := hq
   simp at h2
   exact .inr (.inl ⟨rfl,by omega⟩)
  ·simp [tq] at hq
   obtain ⟨rfl,rfl,_⟩ := hq
   simp at h2
   exact .inr (.inr (.inl ⟨rfl,by omega⟩))
  ·simp [tq] at hq
   obtain ⟨rfl,rfl,_⟩ := hq
   simp at h2
   exact .inr (.inr (.inr (.inl ⟨.inl rfl,by omega⟩)))
  ·simp [tq] at hq
   obtain ⟨rfl,rfl,_⟩ := hq
   simp at h2
   exact .inr (.inr (.inr (.inl ⟨.inr rfl,by omega⟩)))
  ·simp [tq] at hq
   obtain ⟨rfl,rfl,_⟩ := hq
   simp at h2
   exact .inr (.inr (.inr (.inr (.inl ⟨by omega,by omega⟩))))
  ·simp [tq] at hq
   obtain ⟨rfl,rfl,_⟩ := hq
   simp at h2
   exact .inr (.inr (.inr (.inr (.inl ⟨by omega,by omega⟩))))
  ·simp [tq] at hq
   obtain ⟨rfl,rfl,_⟩ := hq
   simp at h2
   exact .inr (.inr (.inr (.inr (.inl ⟨by omega,by omega⟩))))
  ·simp [tq] at hq
   obtain ⟨rfl,rfl,_⟩ := hq
   simp at h2
   exact .inr (.inr (.inr (.inr (.inl ⟨by omega,by omega⟩))))
  ·simp [tq] at hq
   obtain ⟨rfl,rfl,_⟩ := hq
   simp at h2
   exact .inr (.inr (.inr (.inr (.inl ⟨by omega,by omega⟩))))
  ·simp [tq] at hq
   obtain ⟨rfl,rfl,_⟩ := hq
   simp at h2
   exact .inr (.inr (.inr (.inr (.inl ⟨by omega,by omega⟩))))
  ·simp [tq] at hq
   obtain ⟨rfl,rfl,_⟩ := hq
   simp at h2
   exact .inr (.inr (.inr (.inr (.inr (.inl ⟨rfl,by omega⟩)))))
  ·simp [tq] at hq
   obtain ⟨rfl,rfl,_⟩ := hq
   simp at h2
   exact .inr (.inr (.inr (.inr (.inr (.inr (.inl ⟨rfl,by omega⟩))))))
  ·simp [tq] at hq
   obtain ⟨rfl,rfl,_⟩ := hq
   simp at h2
   exact .inr (.inr (.inr (.inr (.inr (.inr (.inr (.inl ⟨rfl,by omega⟩)))))))
  ·simp [tq] at hq
   obtain ⟨rfl,rfl,_⟩ := hq
   simp at h2
   exact .inr (.inr (.inr (.inr (.inr (.inr (.inr (.inr (.inl ⟨rfl,by omega⟩))))))))
  ·simp [tq] at hq
   obtain ⟨rfl,rfl,_⟩ := hq
   simp at h2
   exact .inr (.inr (.inr (.inr (.inr (.inr (.inr (.inr (.inr (.inl ⟨rfl,by omega⟩)))))))))
  ·simp [tq] at hq
   obtain ⟨rfl,rfl,_⟩ := hq
   simp at h2
   exact .inr (.inr (.inr (.inr (.inr (.inr (.inr (.inr (.inr (.inr (.inl ⟨rfl,by omega⟩))))))))))
  ·simp [tq] at hq
   obtain ⟨rfl,rfl,_⟩ := hq
   simp at h2
   exact .inr (.inr (.inr (.inr (.inr (.inr (.inr (.inr (.inr (.inr (.inr (.inl ⟨rfl,by omega⟩)))))))))))
  ·simp [tq] at hq
   obtain ⟨rfl,rfl,_⟩ := hq
   simp at h2
   exact .inr (.inr (.inr (.inr (.inr (.inr (.inr (.inr (.inr (.inr (.inr (.inr (.inl ⟨rfl,by omega⟩))))))))))))
  ·simp [tq] at hq
   obtain ⟨rfl,rfl,_⟩ := hq
   simp at h2
   exact .inr (.inr (.inr (.inr (.inr (.inr (.inr (.inr (.inr (.inr (.inr (.inr (.inr (⟨rfl,by omega⟩)))))))))))))
  rw [qj9 hout] at hq; cases hq
set_option maxHeartbeats 2000000 in
theorem qkp (op : Int) (i s a : LI) (n h : Int) (nt : ByteArray) (l : List Tn) (hT : ∀ t ∈ l,zT t.1 t.2 = true) (hl : l.length ≤ 100000) (h1 : op ≠ 1) (hF : zF op s.length a.length n h l.length = true) (ha : a.length ≤ 17592186043904) (k : Nat) (hk : a.length + 120000 ≤ k) :
  qbm.f k op i s a n h nt l = some (zWork op s a n h l) := by
 have g : ∀ j,j < l.length → zT (l.getD j ([],[])).1 (l.getD j ([],[])).2 = true := fun j hj => hT _ (qal hj _)
 have e3 : ∀ x : Int × LI × LI,(x.1,x.2.1,x.2.2) = x := fun _=>rfl
 rcases qlS hF with ⟨rfl,m⟩ | ⟨rfl,m⟩ | ⟨rfl,m⟩ | ⟨rfl | rfl,m⟩ | ⟨c,m⟩ | ⟨rfl,m⟩ | ⟨rfl,m⟩ | ⟨rfl,m⟩ | ⟨rfl,m⟩ | ⟨rfl,m⟩ | ⟨rfl,m⟩ | ⟨rfl,m⟩ | ⟨rfl,m⟩ | ⟨rfl,m⟩
 ·exact absurd rfl h1
 ·simp only [qbm.f,zWork,Int.reduceEq,reduceIte]
  rw [qbj _ k (by omega),obs]
  by_cases hs : mSR s = true
  ·have hb := qam hs
   rw [if_pos hs,if_pos hs,qbz _ _ (by omega) k (by omega),obs]
  ·rw [if_neg hs,if_neg hs]
 ·simp only [qbm.f,zWork,Int.reduceEq,reduceIte]
  rw [qbj _ k (by omega),obs]
  by_cases hs : mSR s = true
  ·rw [if_pos hs,if_pos hs,qcQ,obs]
   by_cases c1 : a.length = 1
   ·rw [decide_eq_true (show (a.length : Int) = 1 by omega),if_pos rfl,ifp]
    by_cases c2 : a.getD 0 0 < 0
    ·rw [if_pos c2,ifq]
    by_cases c3 : (s.length : Int) ≤ a.getD 0 0
    ·rw [if_neg c2,if_pos c3,ifq]
    have := qle hs (a.getD 0 0).toNat (by omega) k (by omega)
    rw [show (((a.getD 0 0).toNat : Nat) : Int) = a.getD 0 0 by omega] at this
    rw [if_neg c2,if_neg c3,this,obs,ifp]
   ·rw [decide_eq_false (show ¬ (a.length : Int) = 1 by omega),if_neg (by decide),ifq]
  ·rw [if_neg hs,if_neg hs]
 ·simp only [qbm.f,zWork,Int.reduceEq,reduceIte,true_or]
  rw [ifp,qiH _ _ _ k (by omega),if_pos (.inl rfl),if_pos (g 0 (by omega)),obs]
 ·simp only [qbm.f,zWork,Int.reduceEq,reduceIte,or_true]
  rw [ifp,qiH _ _ _ k (by omega),if_pos (.inr rfl),if_pos (g 0 (by omega)),obs]
 ·unfold qbm.f zWork
  rw [ifq,ifq,ifq,ifq,ifq,ifq,ifq,ifq,ifq,ifq,ifq,ifq,ifq,ifp,ifp,
   ifq,ifq,ifq,ifq,ifq,ifq,ifq,ifq,ifq,ifq,ifq,ifq,qmL _ _ _ _ _ k (by omega),if_pos c,obs]
  by_cases e : (l.getD 1 ([],[])).1 = (l.getD 0 ([],[])).1
  ·rw [if_pos e,if_pos ⟨g 0 (by omega),g 1 (by omega),e⟩]
  ·rw [if_neg e,if_neg (fun hh => e hh.2.2)]
 ·simp only [qbm.f,zWork,Int.reduceEq,reduceIte,or_self]
  rw [ifp,ifp,ifp,qlb _ _ _ _ _ _ k (by omega),obs]
  by_cases e : (l.getD 1 ([],[])).1 = (l.getD 0 ([],[])).1 ∧ (l.getD 2 ([],[])).1 = (l.getD 0 ([],[])).1
  ·rw [if_pos e,if_pos ⟨g 0 (by omega),⟨g 1 (by omega),e.1⟩,g 2 (by omega),e.2⟩]
  ·rw [if_neg e,if_neg (fun hh => e ⟨hh.2.1.2,hh.2.2.2⟩)]
 ·simp only [qbm.f,zWork,Int.reduceEq,reduceIte,or_self]
  rw [ifp,qla _ _ _ k (by omega),if_pos (g 0 (by omega)),obs]
 ·simp only [qbm.f,zWork,Int.reduceEq,reduceIte,or_self]
  rw [ifp,qjr _ _ _ _ k (by omega),if_pos (g 0 (by omega)),obs]
 ·simp only [qbm.f,zWork,Int.reduceEq,reduceIte,or_self]
  have hb := qd7 (g 0 (by omega))
  rw [ifp,qak (n := 2 * ((l.getD 0 ([],[])).1.length : Int)) (by omega) (by omega),qcQ,obs]
  by_cases c : a.length = 2 * (l.getD 0 ([],[])).1.length
  ·rw [decide_eq_true (show (a.length : Int) = 2 * ((l.getD 0 ([],[])).1.length : Int) by omega),if_pos rfl,ifp,ifp,tNc,dZr,List.take_length,qkm _ _ _ _ k (by omega),if_pos (g 0 (by omega)),obs]
   by_cases c2 : zSl (l.getD 0 ([],[])).1 (a.take (l.getD 0 ([],[])).1.length) (a.drop (l.getD 0 ([],[])).1.length) = true
   ·rw [if_pos c2,if_pos ⟨c,c2⟩]
   ·rw [if_neg c2,if_neg (fun hh => c2 hh.2)]
  ·rw [decide_eq_false (show ¬ (a.length : Int) = 2 * ((l.getD 0 ([],[])).1.length : Int) by omega),if_neg (by decide),if_neg (fun hh => c hh.1)]
 ·simp only [qbm.f,zWork,Int.reduceEq,reduceIte,or_self]
  have hb := qd7 (g 0 (by omega))
  rw [ifp,qak (n := 2 * ((l.getD 0 ([],[])).1.length : Int)) (by omega) (by omega),qcQ,obs]
  by_cases c : a.length = 2 * (l.getD 0 ([],[])).1.length
  ·rw [decide_eq_true (show (a.length : Int) = 2 * ((l.getD 0 ([],[])).1.length : Int) by omega),if_pos rfl,ifp,ifp,tNc,dZr,List.take_length,qmM _ _ _ _ _ k (by omega),if_pos (g 0 (by omega)),obs]
   by_cases c2 : zMay (l.getD 0 ([],[])).1 (a.take (l.getD 0 ([],[])).1.length) (a.drop (l.getD 0 ([],[])).1.length) = true
   ·have cc := And.intro c c2
    rw [if_pos c2,if_pos cc]
   ·rw [if_neg c2,if_neg (fun hh => c2 hh.2)]
  ·rw [decide_eq_false (show ¬ (a.length : Int) = 2 * ((l.getD 0 ([],[])).1.length : Int) by omega),if_neg (by decide),if_neg (fun hh => c hh.1)]
 ·simp only [qbm.f,zWork,Int.reduceEq,reduceIte,or_self]
  rw [qcQ,obs]
  by_cases c : a.length = 1
  ·rw [decide_eq_true (show (a.length : Int) = 1 by omega),if_pos rfl,ifp,qlc _ _ hl k (by omega),obs,if_pos c]
  ·rw [decide_eq_false (show ¬ (a.length : Int) = 1 by omega),if_neg (by decide),if_neg c]
 ·simp only [qbm.f,zWork,Int.reduceEq,reduceIte,or_self]
  rw [ifp,qld _ _ _ _ ha k (by omega),if_pos (g 0 (by omega)),obs]
 ·simp only [qbm.f,zWork,Int.reduceEq,reduceIte,or_self]
  rw [qcQ,obs]
  by_cases c : a.length = 1
  ·rw [decide_eq_true (show (a.length : Int) = 1 by omega),if_pos rfl,ifp,ifp,ifp,qmN _ _ _ _ _ k (by omega),if_pos ⟨g 0 (by omega),g 1 (by omega)⟩,obs,if_pos c]
  ·rw [decide_eq_false (show ¬ (a.length : Int) = 1 by omega),if_neg (by decide),if_neg c]
 ·simp only [qbm.f,zWork,Int.reduceEq,reduceIte,or_self]
  rw [qcQ,obs]
  by_cases c : a.length = 3
  ·rw [decide_eq_true (show (a.length : Int) = 3 by omega),if_pos rfl,ifp,ifp,ifp,ifp,qjq _ _ _ _ _ _ k (by omega),if_pos (g 0 (by omega)),obs]
   by_cases c2 : (1 ≤ h ∧ h ≤ 4) ∧ (1 ≤ a.getD 1 0 ∧ a.getD 1 0 ≤ 32) ∧ 1 ≤ a.getD 2 0 ∧ a.getD 2 0 ≤ 32
   ·by_cases c3 : 0 ≤ a.getD 0 0 ∧ a.getD 0 0 < ((l.getD 0 ([],[])).1.length : Int)
    ·rw [if_pos c2,if_pos c3,if_pos ⟨c,c2,c3⟩]
    ·rw [if_pos c2,if_neg c3,if_neg (fun hh => c3 hh.2.2)]
   ·rw [if_neg c2,if_neg (fun hh => c2 hh.2.1)]
  ·rw [decide_eq_false (show ¬ (a.length : Int) = 3 by omega),if_neg (by decide),if_neg (fun hh => c hh.1)]
theorem qnd {op : Int} {s a : LI} {n h : Int} {l : List Tn} (hT : ∀ t ∈ l,zT t.1 t.2 = true) (h1 : op ≠ 1) (hF : zF op s.length a.length n h l.length = true) : shp (zWork op s a n h l) = zShape op s a h (l.map (·.1)) := by
  have g0 : 0 < l.length → (l.map (·.1)).getD 0 [] = (l.getD 0 ([],[])).1 := fun hl => by
    cases l with
    | nil => simp at hl
    | cons _ _ => rfl
  have g1 : 1 < l.length → (l.map (·.1)).getD 1 [] = (l.getD 1 ([],[])).1 := fun hl => by
    rcases l with _ | ⟨_,_ | ⟨_,_⟩⟩
    · simp at hl
    · simp at hl
    · rfl
  have ite3 : ∀ (p : Prop) [Decidable p] (x y : Int × LI × LI),shp (if p then x else y) = if p then shp x else shp y := fun p _ x y => by split <;> rfl
  rcases qlS hF with ⟨rfl,m⟩ | ⟨rfl,m⟩ | ⟨rfl,m⟩ | ⟨rfl | rfl,m⟩ | ⟨c,m⟩ | ⟨rfl,m⟩ | ⟨rfl,m⟩ | ⟨rfl,m⟩ | ⟨rfl,m⟩ | ⟨rfl,m⟩ | ⟨rfl,m⟩ | ⟨rfl,m⟩ | ⟨rfl,m⟩ | ⟨rfl,m⟩
  · exact absurd rfl h1
  · simp only [zWork,zShape,Int.reduceEq,reduceIte,or_true,or_false,false_or,ite3]; rfl
  · simp only [zWork,zShape,Int.reduceEq,reduceIte,or_self,ite3]; rfl
  · obtain ⟨t,rfl⟩ : ∃ t,l = [t] := List.length_eq_one_iff.1 (by omega)
    simp only [zWork,zShape,Int.reduceEq,reduceIte,or_self,or_true,true_or]
    simp [shp]
  · obtain ⟨t,rfl⟩ : ∃ t,l = [t] := List.length_eq_one_iff.1 (by omega)
    simp only [zWork,zShape,Int.reduceEq,reduceIte,or_self,or_true,true_or]
    simp [shp]
  · obtain ⟨t,u,rfl⟩ : ∃ t u,l = [t,u] := by
      rcases l with _ | ⟨t,_ | ⟨u,_ | ⟨_,_⟩⟩⟩
      · simp at m
      · simp at m
      · exact ⟨t,u,rfl⟩
      · simp at m; omega
    have e1 : zWork op s a n h [t,u] = if ([t,u].getD 1 ([],[])).1 = ([t,u].getD 0 ([],[])).1 then (0,([t,u].getD 0 ([],[])).1,zTwo op ([t,u].getD 0 ([],[])).2 ([t,u].getD 1 ([],[])).2) else (13,[],[]) := by
      unfold zWork
      rw [ifq,ifq,ifq,ifq,ifq,ifq,ifq,ifq,ifq,ifq,ifq,ifq]
    have e2 : ∀ l,zShape op s a h l = if l.all (fun t => decide (t = l.getD 0 [])) = true then (0,l.getD 0 []) else (13,[]) := fun l => by
      unfold zShape
      rw [ifq,ifq,ifq,ifq,ifq,ifq,ifq,ifq,ifq,ifq]
    rw [e1,e2,ite3]
    simp [shp]
  · obtain ⟨t,u,v,rfl⟩ : ∃ t u v,l = [t,u,v] := by
      rcases l with _ | ⟨t,_ | ⟨u,_ | ⟨v,_ | ⟨_,_⟩⟩⟩⟩
      · simp at m
      · simp at m
      · simp at m
      · exact ⟨t,u,v,rfl⟩
      · simp at m; omega
    simp only [zWork,zShape,Int.reduceEq,reduceIte,or_self,ite3]
    simp [shp]
  · simp only [zWork,zShape,Int.reduceEq,reduceIte,or_self,ite3,g0 (by omega)]; rfl
  · simp only [zWork,zShape,Int.reduceEq,reduceIte,or_self,ite3,g0 (by omega)]; rfl
  · simp only [zWork,zShape,Int.reduceEq,reduceIte,or_self,ite3,g0 (by omega)]; rfl
  · simp only [zWork,zShape,Int.reduceEq,reduceIte,or_self,ite3,g0 (by omega)]; rfl
  · simp only [zWork,zShape,Int.reduceEq,reduceIte,or_self,ite3]
    have : shp (zJoin (a.getD 0 0) l) = zJs (a.getD 0 0) (l.map (·.1)) := by
      unfold zJoin
      rw [if_pos (List.all_eq_true.2 hT)]
      by_cases c : (zJs (a.getD 0 0) (l.map (·.1))).1 = 0
      · rw [if_pos c]
        exact Prod.ext c.symm rfl
      · rw [if_neg c]
        show (if (zJs (a.getD 0 0) (l.map (·.1))).1 = 0 then _ else _) = _
        rw [if_neg c]
        unfold zJs at c ⊢
        split
        · rfl
        · rename_i c2
          rw [if_neg c2] at c
          split
          · rename_i o ho
            rw [ho] at c
            split
            · rename_i c3
              dsimp only at c
              rw [if_pos c3] at c; exact absurd rfl c
            · rfl
          · rfl
    rw [this]; rfl
  · simp only [zWork,zShape,Int.reduceEq,reduceIte,or_self,ite3,g0 (by omega)]; rfl
  · simp only [zWork,zShape,Int.reduceEq,reduceIte,or_self,ite3,g0 (by omega),g1 (by omega)]
    have : ∀ x : Int × LI,(x.1 ≠ 0 → x.2 = []) → ∀ d : LI,(if x.1 = 0 then shp (0,x.2,d) else shp (x.1,[],[])) = x := fun x hx d => by
      by_cases c : x.1 = 0
      · rw [if_pos c]; show (0,x.2) = x; rw [← c]
      · rw [if_neg c]
        show (if x.1 = 0 then _ else _) = x
        rw [if_neg c,← hx c]
    rw [this _ (fun c => by
      unfold zDS at c ⊢
      split
      · rfl
      · rename_i c1
        rw [if_neg c1] at c
        split
        · rename_i c2
          rw [if_pos c2] at c
          split
          · rename_i c3; rw [if_pos c3] at c; exact absurd rfl c
          · rfl
        · rfl)]; rfl
  · simp only [zWork,zShape,Int.reduceEq,reduceIte,or_self,ite3,g0 (by omega)]; rfl
def zSh (op : Int) (s a : LI) (n h : Int) (l : List LI) : Int × LI :=
 if zF op s.length a.length n h l.length = true then (if l.all mSR = true then zShape op s a h l else (13,[])) else (1,[])
theorem qet (op : Int) (i s a : LI) (n h : Int) (nt : ByteArray) (l : List LI) (hl : l.length ≤ 100000) (ha : a.length ≤ 17592186043904) (k : Nat) (hk : a.length + 120000 ≤ k) :
  qbh.f k op i s a n h nt l = some (zSh op s a n h l) := by
 unfold qbh.f zSh
 rw [qkr,obs]
 by_cases hF : zF op s.length a.length n h l.length = true
 rotate_left
 ·rw [if_neg hF,if_neg hF]
 rw [if_pos hF,if_pos hF,qiu k (by omega) l (by omega),obs]
 by_cases hA : l.all mSR = true
 rotate_left
 ·rw [if_neg hA,if_neg hA]; rfl
 rw [if_pos hA,if_pos hA,Sum.elim_inl]
 by_cases h1 : op = 1
 ·subst h1
  rw [if_pos rfl,qbj _ k (by omega),obs]
  simp only [zShape,Int.reduceEq,reduceIte,true_or]
  by_cases c : mSR s = true
  ·have hb := qam c
   rw [if_pos c,if_pos c,ifp,nAp]
  ·rw [if_neg c,if_neg c]
 ·have hT : ∀ t ∈ l.map nou,zT t.1 t.2 = true := List.all_eq_true.1 (qqd hA)
  have hF' : zF op s.length a.length n h ((l.map nou).length) = true := by rw [List.length_map]; exact hF
  have hs := qnd (n := n) hT h1 hF'
  rw [qqc] at hs
  rw [if_neg h1,qkp op i s a n h nt (l.map nou) hT (by rw [List.length_map]; exact hl) h1 hF' ha k hk,obs,← hs]
  unfold shp
  by_cases c : (zWork op s a n h (l.map nou)).1 = 0
  ·rw [if_pos c,if_pos c]
  ·rw [if_neg c,if_neg c]
end Go.Pf

namespace Go.Pf
open Go Go.Vm
theorem qjT (a : LI) (m : Int) (ha : a.length ≤ 17592186043904) (k : Nat) (hk : a.length < k) : qa5.f k a m = some (zRi m (-1) a) := by
 have := iter0 (L := fun n i l => qa5.l0 n m l a a.length i) (st := fun i => if i = 0 then -1 else a.getD (i - 1) 0) (fun i => if zRi m (if i = 0 then -1 else a.getD (i - 1) 0) (a.drop i) = true then .inl () else .inr false) (m := a.length) 0
  (fun n _ => by rw [qa5.l0,ifq,dNl (Nat.le_refl _)]; rfl)
  (fun i n hi _ ih => by
   rw [if_neg (show ¬ i + 1 = 0 by omega),Nat.add_sub_cancel] at ih
   generalize (if i = 0 then (-1 : Int) else a.getD (i - 1) 0) = l
   rw [qa5.l0,ifp,ifp,tNc,qaj hi (0 : Int)]
   generalize a.getD i 0 = b at ih ⊢
   by_cases c1 : b ≤ l
   ·rw [if_pos c1,if_neg (by rw [qcF]; omega)]
   by_cases c2 : m ≤ b
   ·rw [if_neg c1,if_pos c2,if_neg (by rw [qcF]; omega)]
   rw [if_neg c1,if_neg c2,qav hi (by omega),ih]
   by_cases c : zRi m b (a.drop (i + 1)) = true
   ·rw [if_pos c,if_pos (qcF.2 ⟨by omega,c⟩)]
   ·rw [if_neg c,if_neg (fun hh => c (qcF.1 hh).2)]) k (by omega)
 unfold qa5.f
 have this : qa5.l0 k m (-1) a a.length 0 = some (if zRi m (-1) (a.drop 0) = true then .inl () else .inr false) := this
 rw [this,dZr,obs]
 cases zRi m (-1) a <;> rfl
theorem qgM (a b : LI) (ha : a.length ≤ 17592186043904) (k : Nat) (hk : a.length < k) : qdB.f k a b = some (decide (a = b)) := by
 unfold qdB.f
 rw [qfR a b ha k hk,obs]
theorem qq9 {n : Int} (h0 : 0 ≤ n) (h : n ≤ 1000000) : qcI.f n = some [] := by
 unfold qcI.f
 rw [ifq,show (IntKind.i64.wrap (0 - 0) : Int) = 0 by decide,Int.sub_zero,qak (by omega) (by omega)]
 by_cases c : 0 < n
 ·rw [if_pos c,if_pos (by decide),ifp,ifp,List.take_zero]
 ·rw [if_neg c]
theorem qpl {a b : LI} (ha : a.length ≤ 1000) (hb : b.length ≤ 1000) (k : Nat) (hk : 10 ≤ k) : qan.f k [a,b] = some (a ++ b) := by
 obtain ⟨n,rfl⟩ : ∃ m,k = m + 3 := ⟨k - 3,by omega⟩
 have l0 : qan.l0 (n + 3) [a,b] 0 [a,b] 2 0 = some ((a.length : Int) + (b.length : Int)) := by
  rw [qan.l0,if_pos (by decide),if_pos ⟨by decide,by show (0 : Int) < 2; decide⟩,show ([a,b].getD (0 : Int).toNat []) = a from rfl,Int.zero_add,qak (n := (a.length : Int)) (by omega) (by omega),ifq,
   show (IntKind.i64.wrap (0 + 1) : Int) = 1 by decide,qan.l0,if_pos (by decide),if_pos ⟨by decide,by show (1 : Int) < 2; decide⟩,show ([a,b].getD (1 : Int).toNat []) = b from rfl,qak (n := (a.length : Int) + (b.length : Int)) (by omega) (by omega),ifq,
   show (IntKind.i64.wrap (1 + 1) : Int) = 2 by decide,qan.l0,if_neg (by decide)]
 have l1 : qan.l1 (n + 3) [a,b] 2 0 [] = some (a ++ b) := by
  rw [qan.l1,if_pos (by decide),if_pos ⟨by decide,by show (0 : Int) < 2; decide⟩,show ([a,b].getD (0 : Int).toNat []) = a from rfl,if_pos (by rw [List.length_nil]; omega),
   show (IntKind.i64.wrap (0 + 1) : Int) = 1 by decide,qan.l1,if_pos (by decide),if_pos ⟨by decide,by show (1 : Int) < 2; decide⟩,show ([a,b].getD (1 : Int).toNat []) = b from rfl,nAp,ifp,
   show (IntKind.i64.wrap (1 + 1) : Int) = 2 by decide,qan.l1,if_neg (by decide)]
 unfold qan.f
 rw [show (([a,b] : List LI).length : Int) = 2 from rfl,l0,obs,qq9 (by omega) (by omega),obs,l1,obs]
theorem qlA (a b : LI) (n : Int) (k : Nat) (hk : 120000 ≤ k) : qeZ.f k a b n = some (zDS a b n) := by
 unfold qeZ.f zDS
 by_cases c1 : n < 0
 ·rw [if_pos c1,if_pos (.inl c1)]
 by_cases c2 : (a.length : Int) ≤ n
 ·rw [if_neg c1,if_pos c2,if_pos (.inr (.inl c2))]
 by_cases c3 : (b.length : Int) ≤ n
 ·rw [if_neg c1,if_neg c2,if_pos c3,if_pos (.inr (.inr c3))]
 rw [if_neg c1,if_neg c2,if_neg c3,if_neg (show ¬ (n < 0 ∨ (a.length : Int) ≤ n ∨ (b.length : Int) ≤ n) by omega),qb1 a k (by omega),obs]
 by_cases ra : mSR a = true
 rotate_left
 ·rw [if_neg ra,if_neg (fun h => ra h.1)]
 rw [if_pos ra,qb1 b k (by omega),obs]
 by_cases rb : mSR b = true
 rotate_left
 ·rw [if_neg rb,if_neg (fun h => rb h.2.1)]
 have ha := qam ra
 have hb := qam rb
 rw [if_pos rb,ifp,ifp,dZr,dZr,qgM _ _ (by rw [lTk]; omega) k (by rw [lTk]; omega),obs]
 by_cases c4 : a.take n.toNat = b.take n.toNat
 rotate_left
 ·rw [decide_eq_false c4,if_neg (by decide),if_neg (fun h => c4 h.2.2.1)]
 rw [decide_eq_true c4,if_pos rfl,qak (n := (a.length : Int) - 1) (by omega) (by omega),ifp,ifp,show ((a.length : Int) - 1).toNat = a.length - 1 by omega]
 by_cases c5 : a.getD (a.length - 1) 0 = b.getD n.toNat 0
 rotate_left
 ·rw [if_neg c5,if_neg (fun h => c5 h.2.2.2)]
 rw [if_pos c5,ifp,dZr,qak (n := n + 1) (by omega) (by omega),ifp,List.take_length,show (n + 1).toNat = n.toNat + 1 by omega,qpl (by rw [lTk]; omega) (by rw [List.length_drop]; omega) k (by omega),obs,if_pos ⟨ra,rb,c4,c5⟩]
 show (qaU.f k (dsh a b n.toNat)).bind _ = _
 rw [qb1 _ k (by omega),obs]
 by_cases c6 : mSR (dsh a b n.toNat) = true
 ·rw [if_pos c6,if_pos c6]; rfl
 ·rw [if_neg c6,if_neg c6]
theorem qlK {m : Int} : ∀ {l : Int} {a : LI},zRi m l a = true → ∀ k ∈ a,l < k
 | _,[],_,_,h => by cases h
 | l,b :: a,h,k,hk => by
  obtain ⟨h1,h2⟩ := qcF.1 h
  rcases List.mem_cons.1 hk with e | hk
  ·omega
  ·have := qlK h2 k hk; omega
theorem qeX (s : LI) (hs : s.length ≤ 1000) (a0 : LI) : ∀ (e i : Nat) (a y : LI) (l : Int) (n : Nat),s.length = i + e → e < n → y.length ≤ i → zRi s.length l a = true → l < i → (∀ x ∈ a,(i : Int) ≤ x) → (∀ j : Nat,i ≤ j → ((j : Int) ∈ a0 ↔ (j : Int) ∈ a)) →
    qbV.l0 n a s s.length i y = some (y ++ lefI a0 i (s.drop i))
  | 0,i,a,y,l,n,hi,hn,_,_,_,_,_ => by
    obtain ⟨n,rfl⟩ := sun (n := n)
    rw [qbV.l0,ifq,dNl (by omega),lefI,List.append_nil]
  | e + 1,i,a,y,l,n,hi,hn,hy,hr,hl,hm,ha => by
    obtain ⟨n,rfl⟩ := sun (n := n)
    rw [qbV.l0,ifp,ifp,tNc,qav (show i < s.length by omega) (by omega),qaj (show i < s.length by omega) (0 : Int),lefI]
    have keep : ((i : Int) ∉ a) → qbV.l0 n a s s.length ((i + 1 : Nat) : Int) (y ++ [s.getD i 0]) = some (y ++ (if (i : Int) ∈ a0 then lefI a0 (i + 1) (s.drop (i + 1)) else s.getD i 0 :: lefI a0 (i + 1) (s.drop (i + 1)))) := fun hna => by
      rw [qeX s hs a0 e (i + 1) a (y ++ [s.getD i 0]) l n (by omega) (by omega) (by simp; omega) hr (by omega) (fun x hx => by
        have := hm x hx
        have : x ≠ (i : Int) := fun h => hna (h ▸ hx)
        omega) (fun j hj => ha j (by omega)),if_neg (fun h => hna ((ha i (Nat.le_refl _)).1 h)),aAs]; rfl
    have hb : y.length + [s.getD i 0].length ≤ 281474976710656 ∧ (y.length + [s.getD i 0].length) * 8 ≤ 140737488355328 := by rw [lSi]; omega
    cases a with
    | nil =>
      rw [if_neg (by simp),if_pos hb]
      exact keep (by simp)
    | cons b r =>
      rw [if_pos (by simp),if_pos ⟨by decide,by simp⟩]
      show (if b = (i : Int) then _ else _) = _
      obtain ⟨h1,h2⟩ := qcF.1 hr
      have hbi := hm b (List.mem_cons_self ..)
      by_cases c : b = (i : Int)
      · rw [if_pos c,if_pos ⟨by decide,by simp; omega,by omega⟩,List.take_length,List.drop_one]
        show qbV.l0 n r s s.length ((i + 1 : Nat) : Int) y = _
        rw [qeX s hs a0 e (i + 1) r y b n (by omega) (by omega) (by omega) h2 (by omega) (fun x hx => by
          have := qlK h2 x hx
          omega) (fun j hj => by
            rw [ha j (by omega),List.mem_cons]
            constructor
            · rintro (h | h)
              · omega
              · exact h
            · exact .inr),if_pos ((ha i (Nat.le_refl _)).2 (by rw [c]; exact List.mem_cons_self ..))]
      · rw [if_neg c,if_pos hb]
        exact keep (fun h => by
          rcases List.mem_cons.1 h with h | h
          · exact c h.symm
          · have := qlK h2 _ h; omega)
theorem qlw (s a : LI) (hs : s.length ≤ 1000) (ha : a.length ≤ 17592186043904) (k : Nat) (hk : a.length + 1001 ≤ k) : qbV.f k s a = some (if zRi s.length (-1) a = true then (0,lef a s) else (1,[])) := by
 unfold qbV.f
 rw [qjT a _ ha k (by omega),obs]
 by_cases c : zRi s.length (-1) a = true
 ·have := qeX s hs a s.length 0 a [] (-1) k (by omega) (by omega) (by simp) c (by omega) (fun x hx => by have := qlK c x hx; omega) (fun _ _ => Iff.rfl)
  rw [n0,dZr,nAp] at this
  rw [if_pos c,if_pos c,this,obs]; rfl
 ·rw [if_neg c,if_neg c]
theorem qg1 (h : Int) : qdF.f h = some (decide (1 ≤ h ∧ h ≤ 4)) := by
 unfold qdF.f
 by_cases c : 1 ≤ h
 ·rw [if_pos c]; simp [c]
 ·rw [if_neg c]; simp [c]
theorem qj6 (h w a : Int) : qea.f h w a = some (decide ((1 ≤ h ∧ h ≤ 4) ∧ (1 ≤ w ∧ w ≤ 32) ∧ 1 ≤ a ∧ a ≤ 32)) := by
 have m : ∀ x,qc3.f x = some (decide (1 ≤ x ∧ x ≤ 32)) := fun x => by
  unfold qc3.f
  by_cases c : 1 ≤ x
  ·rw [if_pos c]; simp [c]
  ·rw [if_neg c]; simp [c]
 unfold qea.f
 rw [qg1,obs,m,m]
 by_cases c1 : 1 ≤ h ∧ h ≤ 4
 rotate_left
 ·rw [decide_eq_false c1,if_neg (by decide),decide_eq_false (fun h => c1 h.1)]
 rw [decide_eq_true c1,if_pos rfl,obs]
 by_cases c2 : 1 ≤ w ∧ w ≤ 32
 rotate_left
 ·rw [decide_eq_false c2,if_neg (by decide),decide_eq_false (fun h => c2 h.2.1)]
 rw [decide_eq_true c2,if_pos rfl,obs]
 simp [c1,c2]
theorem qj5 {n w ap : Int} (hn : n ≤ 1000) (hn0 : 0 ≤ n) (hw : w ≤ 1000) (hw0 : 0 ≤ w) : qd9.f n w ap = some (zWn n w ap) := by
 unfold qd9.f zWn
 by_cases c1 : n < 0
 ·omega
 by_cases c2 : w < 1
 ·rw [if_neg c1,if_pos c2,if_pos (.inr (.inl c2))]
 by_cases c3 : ap < 1
 ·rw [if_neg c1,if_neg c2,if_pos c3,if_pos (.inr (.inr (.inl c3)))]
 by_cases c4 : n < w
 ·rw [if_neg c1,if_neg c2,if_neg c3,if_pos c4,if_pos (.inr (.inr (.inr c4)))]
 have h1 : 0 ≤ (n - w) / ap := Int.ediv_nonneg (by omega) (by omega)
 have h2 : (n - w) / ap ≤ n - w := Int.ediv_le_self _ (by omega)
 rw [if_neg c1,if_neg c2,if_neg c3,if_neg c4,ifp,ifq,qak (n := n - w) (by omega) (by omega),Int.tdiv_eq_ediv_of_nonneg (by omega),qak (n := (n - w) / ap) (by omega) (by omega),qak (n := (n - w) / ap + 1) (by omega) (by omega)]
theorem qjJ (k : Nat) (l : List LI) (h0 : 0 < l.length) (hl : l.length ≤ 100000) (hb : ∀ s ∈ l,s.length ≤ 1000) (hk : 120000 ≤ k) :
  qdQ.f k l = some (if l.all (fun t => decide (t = l.getD 0 [])) = true then (l.getD 0 [],0) else ([],13)) := by
 have := iter0 (L := fun n i (_ : Unit) => qaf.l0 k n l l.length i l) (st := fun _=>()) (fun i => if (l.drop i).all (fun t => decide (t = l.getD 0 [])) = true then .inl () else .inr ((i + ((l.drop i).takeWhile (fun t => decide (t = l.getD 0 []))).length : Nat) : Int)) (m := l.length) 0
  (fun n _ => by rw [qaf.l0,ifq,dNl (Nat.le_refl _)]; rfl)
  (fun i n hi _ ih => by
   have hm := hb _ (qal hi ([] : LI))
   rw [qaf.l0,ifp,ifp,tNc,qdz.f,ifp,qgM _ _ (by omega) k (by omega),obs,obs,qaj hi ([] : LI),List.all_cons,List.takeWhile_cons]
   by_cases c : l.getD i [] = l.getD 0 []
   ·rw [decide_eq_true c,if_neg (show ¬ (!true) = true from Bool.false_ne_true),qav hi (by omega),ih,Bool.true_and,if_pos rfl,lCo,Nat.add_assoc i 1,Nat.add_comm 1]
   ·rw [decide_eq_false c,if_pos (show (!false) = true from rfl),Bool.false_and,if_neg Bool.false_ne_true,if_neg Bool.false_ne_true]; rfl) k (by omega)
 rw [dZr] at this
 unfold qdQ.f qaQ.f qaf.f
 rw [this,obs]
 by_cases c : l.all (fun t => decide (t = l.getD 0 [])) = true
 ·rw [if_pos c,if_pos c,Sum.elim_inl,obs,obs,if_neg (by decide),ifp]
 ·rw [if_neg c,if_neg c,Sum.elim_inr,obs,obs,if_pos (by rw [decide_eq_true_eq]; omega)]
theorem qha (k : Nat) (l : List LI) (hl : l.length ≤ 100000) (hk : 120000 ≤ k) : qaC.f k l = some (!l.all mSR) := by
 have := iter0 (L := fun n i (_ : Unit) => qag.l0 k n l l.length i) (st := fun _=>()) (fun i => if (l.drop i).all mSR = true then .inl () else .inr ((i + ((l.drop i).takeWhile mSR).length : Nat) : Int)) (m := l.length) 0
  (fun n _ => by rw [qag.l0,ifq,dNl (Nat.le_refl _)]; rfl)
  (fun i n hi _ ih => by
   rw [qag.l0,ifp,ifp,tNc,qdA.f,qb1 _ k (by omega),obs,obs,qaj hi ([] : LI),List.all_cons,List.takeWhile_cons]
   cases c : mSR (l.getD i [])
   ·rw [if_pos (show (!false) = true from rfl),Bool.false_and,if_neg Bool.false_ne_true,if_neg Bool.false_ne_true]; rfl
   ·rw [if_neg (show ¬ (!true) = true from Bool.false_ne_true),qav hi (by omega),ih,Bool.true_and,if_pos rfl,lCo,Nat.add_assoc i 1,Nat.add_comm 1]) k (by omega)
 rw [dZr] at this
 unfold qaC.f qag.f
 rw [this,obs]
 cases c : l.all mSR
 ·rw [if_neg (by decide),Sum.elim_inr,obs,decide_eq_true (by omega)]; rfl
 ·rw [if_pos rfl,Sum.elim_inl,obs]; rfl
end Go.Pf

namespace Go.Pf
open Go Go.Vm
theorem qhC {l : List LI} (h : l.all mSR = true) : ∀ s ∈ l,s.length ≤ 4 ∧ ∀ x ∈ s,0 ≤ x ∧ x ≤ 32 := fun s hs => by
 have := qam (List.all_eq_true.1 h s hs)
 exact ⟨this.1,this.2.1⟩
set_option maxHeartbeats 1000000 in
theorem qh9 (op : Int) (i s a : LI) (n h : Int) (nt : ByteArray) (l : List LI) (hl : l.length ≤ 100000) (hA : l.all mSR = true) (hF : zF op s.length a.length n h l.length = true) (ha : a.length ≤ 17592186043904) (k : Nat) (hk : a.length + 120000 ≤ k) :
    ∃ x,qaZ.f k op i s a n h nt l = some (x,(zShape op s a h l).1) ∧ ((zShape op s a h l).1 = 0 → x = (zShape op s a h l).2 ∧ x.length ≤ 1000) := by
  have hR : ∀ j,j < l.length → mSR (l.getD j []) = true := fun j hj => List.all_eq_true.1 hA _ (qal hj _)
  have fin : ∀ {o : Option (LI × Int)} {z : Int × LI},o = some (z.2,z.1) → (z.1 = 0 → z.2.length ≤ 1000) → ∃ x,o = some (x,z.1) ∧ (z.1 = 0 → x = z.2 ∧ x.length ≤ 1000) := fun {o z} e hz => ⟨z.2,e,fun h => ⟨rfl,hz h⟩⟩
  have len4 : ∀ {x : LI},mSR x = true → x.length ≤ 1000 := fun h => by have := (qam h).1; omega
  have given : ∀ op,op = 1 ∨ op = 2 ∨ op = 3 → qc1.f k op i s a n h nt = some ((zShape op s a h l).2,(zShape op s a h l).1) ∧ ((zShape op s a h l).1 = 0 → (zShape op s a h l).2.length ≤ 1000) := fun op ho => by
    unfold qc1.f
    rw [qb1 _ k (by omega),obs]
    by_cases c : mSR s = true
    · have h4 := (qam c).1
      rw [if_pos c]
      by_cases c3 : op = 3
      · subst c3
        simp only [zShape,Int.reduceEq,reduceIte,or_self,if_pos c]
        by_cases c1 : a.length = 1
        · rw [ifp,ifp]
          by_cases c2 : a.getD 0 0 < 0
          · rw [if_pos c2,ifq]; exact ⟨rfl,fun h => by simp at h⟩
          by_cases c3 : (s.length : Int) ≤ a.getD 0 0
          · rw [if_neg c2,if_pos c3,ifq]; exact ⟨rfl,fun h => by simp at h⟩
          rw [if_neg c2,if_neg c3,ifp]; exact ⟨rfl,fun _=>by show s.length ≤ 1000; omega⟩
        · rw [ifq,ifq]; exact ⟨rfl,fun h => by simp at h⟩
      · have e : zShape op s a h l = (0,s) := by
          unfold zShape
          rw [ifp,if_pos c]
        rw [if_neg c3,e]; exact ⟨rfl,fun _=>by show s.length ≤ 1000; omega⟩
    · have e : zShape op s a h l = (13,[]) := by
        unfold zShape
        by_cases c3 : op = 3
        · rw [ifq,if_pos c3,if_neg c]
        · rw [ifp,if_neg c]
      rw [if_neg c,e]; exact ⟨rfl,fun h => by simp at h⟩
  have alike : ∀ op,4 ≤ op ∧ op ≤ 12 → 0 < l.length → ∃ x,qaZ.f k op i s a n h nt l = some (x,(zShape op s a h l).1) ∧ ((zShape op s a h l).1 = 0 → x = (zShape op s a h l).2 ∧ x.length ≤ 1000) := fun op ho h0 => by
    have h4 := (qam (hR 0 h0)).1
    have e2 : zShape op s a h l = if l.all (fun t => decide (t = l.getD 0 [])) = true then (0,l.getD 0 []) else (13,[]) := by
      unfold zShape
      rw [ifq,ifq,ifq,ifq,ifq,ifq,ifq,ifq,ifq,ifq]
    rw [e2]
    unfold qaZ.f
    rw [ifq,ifq,ifq,ifq,ifq,ifq,ifq,ifq,ifq,ifq,ifq,
      qjJ k l h0 (by omega) (fun s hs => by have := (qhC hA s hs).1; omega) (by omega),obs]
    split
    · exact ⟨l.getD 0 [],rfl,fun _=>⟨rfl,by omega⟩⟩
    · exact ⟨_,rfl,fun h => by simp at h⟩
  rcases qlS hF with ⟨rfl,m⟩ | ⟨rfl,m⟩ | ⟨rfl,m⟩ | ⟨rfl | rfl,m⟩ | ⟨c,m⟩ | ⟨rfl,m⟩ | ⟨rfl,m⟩ | ⟨rfl,m⟩ | ⟨rfl,m⟩ | ⟨rfl,m⟩ | ⟨rfl,m⟩ | ⟨rfl,m⟩ | ⟨rfl,m⟩ | ⟨rfl,m⟩
  · obtain ⟨g1,g2⟩ := given 1 (by omega)
    refine fin ?_ g2
    unfold qaZ.f
    rw [if_pos rfl,g1,obs]
  · obtain ⟨g1,g2⟩ := given 2 (by omega)
    refine fin ?_ g2
    unfold qaZ.f
    rw [if_neg (by decide),if_pos rfl,g1,obs]
  · obtain ⟨g1,g2⟩ := given 3 (by omega)
    refine fin ?_ g2
    unfold qaZ.f
    rw [if_neg (by decide),if_neg (by decide),if_pos rfl,g1,obs]
  · exact alike 4 (by omega) (by omega)
  · exact alike 5 (by omega) (by omega)
  · exact alike op (by omega) (by omega)
  · exact alike 12 (by omega) (by omega)
  · -- turn
    have hr := hR 0 (by omega)
    have h4 := (qam hr).1
    simp only [qaZ.f,zShape,Int.reduceEq,reduceIte,or_self]
    rw [ifp,qjR h4 a k (by omega),obs]
    refine fin rfl fun _=>?_
    split
    · rename_i hp
      show (List.map _ a).length ≤ 1000
      have := (qe7.1 hp).len
      rw [List.length_map]; omega
    · rename_i hp
      exact Nat.zero_le _
  · -- spread
    have hr := hR 0 (by omega)
    have h4 := (qam hr).1
    simp only [qaZ.f,zShape,Int.reduceEq,reduceIte,or_self]
    rw [ifp,qkT h4 s a k (by omega),obs]
    by_cases c : mSR s = true
    · rw [if_pos c,if_pos c]
      by_cases c2 : zWi s (-1) (l.getD 0 []) a = true
      · rw [if_pos c2,if_pos c2]; exact ⟨s,rfl,fun _=>⟨rfl,len4 c⟩⟩
      · rw [if_neg c2,if_neg c2]; exact ⟨s,rfl,fun h => by simp at h⟩
    · rw [if_neg c,if_neg c]; exact ⟨s,rfl,fun h => by simp at h⟩
  · -- slice
    have hr := hR 0 (by omega)
    have h4 := (qam hr).1
    simp only [qaZ.f,qei.f,zShape,Int.reduceEq,reduceIte,or_self]
    rw [ifp,qak (n := 2 * ((l.getD 0 []).length : Int)) (by omega) (by omega)]
    by_cases c : a.length = 2 * (l.getD 0 []).length
    · rw [ifp,ifp,ifp,tNc,dZr,List.take_length,qjS hr _ _ k (by omega),obs,obs]
      refine ⟨a.drop (l.getD 0 []).length,?_,fun hz => ?_⟩
      · by_cases c2 : zSl (l.getD 0 []) (a.take (l.getD 0 []).length) (a.drop (l.getD 0 []).length) = true
        · rw [if_pos c2,if_pos ⟨c,c2⟩]
        · rw [if_neg c2,if_neg (fun hh => c2 hh.2)]
      · by_cases c2 : zSl (l.getD 0 []) (a.take (l.getD 0 []).length) (a.drop (l.getD 0 []).length) = true
        · rw [if_pos ⟨c,c2⟩]; exact ⟨rfl,by rw [List.length_drop]; omega⟩
        · rw [if_neg (fun hh => c2 hh.2)] at hz; simp at hz
    · rw [ifq,if_neg (fun hh => c hh.1)]
      exact ⟨[],rfl,fun h => by simp at h⟩
  · -- pad
    have hr := hR 0 (by omega)
    have h4 := (qam hr).1
    simp only [qaZ.f,qei.f,zShape,Int.reduceEq,reduceIte,or_self]
    rw [ifp,qak (n := 2 * ((l.getD 0 []).length : Int)) (by omega) (by omega)]
    by_cases c : a.length = 2 * (l.getD 0 []).length
    · rw [ifp,ifp,ifp,tNc,dZr,List.take_length,qjU hr _ _ k (by omega),obs,obs]
      by_cases c2 : zMay (l.getD 0 []) (a.take (l.getD 0 []).length) (a.drop (l.getD 0 []).length) = true
      · have cc := And.intro c c2
        rw [if_pos c2,if_pos cc]
        refine fin rfl fun hz => ?_
        split at hz
        · rename_i c3
          rw [if_pos c3]; exact len4 c3
        · simp at hz
      · rw [if_neg c2,if_neg (fun hh => c2 hh.2)]
        exact ⟨[],rfl,fun h => by simp at h⟩
    · rw [ifq,if_neg (fun hh => c hh.1)]
      exact ⟨[],rfl,fun h => by simp at h⟩
  · -- join
    simp only [qaZ.f,zShape,Int.reduceEq,reduceIte,or_self]
    by_cases c : a.length = 1
    · rw [ifp,ifp,qjV _ l (qhC hA) (by omega) k (by omega),obs,if_pos c]
      exact fin rfl fun hz => len4 (qqF hz)
    · rw [ifq,if_neg c]
      exact ⟨[],rfl,fun h => by simp at h⟩
  · -- fold
    have hr := hR 0 (by omega)
    have h4 := (qam hr).1
    simp only [qaZ.f,qd2.f,zShape,Int.reduceEq,reduceIte,or_self]
    rw [ifp,qg1,obs]
    by_cases c : 1 ≤ h ∧ h ≤ 4
    · rw [decide_eq_true c,if_pos rfl,if_pos c,qlw _ _ (by omega) ha k (by omega),obs]
      by_cases c2 : zRi (l.getD 0 []).length (-1) a = true
      · rw [if_pos c2,if_pos c2,if_pos rfl,qb1 _ k (by omega),obs]
        by_cases c3 : mSR (lef a (l.getD 0 [])) = true
        · rw [if_pos c3,if_pos c3,obs]; exact fin rfl fun _=>len4 c3
        · rw [if_neg c3,if_neg c3,obs]; exact ⟨_,rfl,fun h => by simp at h⟩
      · rw [if_neg c2,if_neg c2,if_neg (by decide),obs]; exact ⟨_,rfl,fun h => by simp at h⟩
    · rw [decide_eq_false c,if_neg (by decide),if_neg c,obs]; exact ⟨_,rfl,fun h => by simp at h⟩
  · -- dot
    simp only [qaZ.f,zShape,Int.reduceEq,reduceIte,or_self]
    by_cases c : a.length = 1
    · rw [ifp,ifp,ifp,ifp,qlA _ _ _ k (by omega),obs,if_pos c]
      exact fin rfl fun hz => by
        have := qnr hz
        rw [this.1]; exact len4 this.2.1
    · rw [ifq,if_neg c]
      exact ⟨[],rfl,fun h => by simp at h⟩
  · -- window
    have hr := hR 0 (by omega)
    have h4 := qam hr
    simp only [qaZ.f,qey.f,zShape,Int.reduceEq,reduceIte,or_self]
    rw [ifp]
    by_cases c : a.length = 3
    · rw [ifp,ifp,ifp,qj6,obs]
      by_cases c2 : (1 ≤ h ∧ h ≤ 4) ∧ (1 ≤ a.getD 1 0 ∧ a.getD 1 0 ≤ 32) ∧ 1 ≤ a.getD 2 0 ∧ a.getD 2 0 ≤ 32
      · rw [decide_eq_true c2,if_pos rfl,ifp]
        by_cases c3 : a.getD 0 0 < 0
        · rw [if_pos c3,obs,ifq]; exact ⟨_,rfl,fun h => by simp at h⟩
        by_cases c4 : ((l.getD 0 []).length : Int) ≤ a.getD 0 0
        · rw [if_neg c3,if_pos c4,obs,ifq]; exact ⟨_,rfl,fun h => by simp at h⟩
        have hj : (a.getD 0 0).toNat < (l.getD 0 []).length := by omega
        have hbd := h4.2.1 _ (qal hj (0 : Int))
        rw [if_neg c3,if_neg c4,qc7 _ (by omega),obs,ifp,qj5 (by omega) (by omega) (by omega) (by omega),obs,ifp,if_pos hj,obs,if_pos ⟨c,c2,by omega⟩]
        exact fin rfl fun _=>by
          show (List.set _ _ _).length ≤ 1000
          rw [qcl]; omega
      · rw [decide_eq_false c2,if_neg (by decide),obs,if_neg (fun hh => c2 hh.2.1)]; exact ⟨_,rfl,fun h => by simp at h⟩
    · rw [ifq,obs,if_neg (fun hh => c hh.1)]; exact ⟨_,rfl,fun h => by simp at h⟩
theorem qpR {ax : Int} {l : List LI} (h : (zJs ax l).1 ≠ 0) : (zJs ax l).2 = [] := by
 unfold zJs at h ⊢
 split
 ·rfl
 rename_i c
 rw [if_neg c] at h
 split
 ·rename_i o ho
  rw [ho] at h
  dsimp only at h
  split
  ·rename_i c2
   rw [if_pos c2] at h; exact absurd rfl h
  ·rfl
 ·rfl
theorem qpT {a b : LI} {n : Int} (h : (zDS a b n).1 ≠ 0) : (zDS a b n).2 = [] := by
 unfold zDS at h ⊢
 split
 ·rfl
 rename_i c
 rw [if_neg c] at h
 split
 ·rename_i c2
  rw [if_pos c2] at h
  split
  ·rename_i c3
   rw [if_pos c3] at h; exact absurd rfl h
  ·rfl
 ·rfl
theorem qmE {op : Int} {s a : LI} {h : Int} {l : List LI} (e : (zShape op s a h l).1 ≠ 0) : (zShape op s a h l).2 = [] := by
 have t : ∀ {p : Prop} [Decidable p] {x y : Int × LI},(x.1 ≠ 0 → x.2 = []) → (y.1 ≠ 0 → y.2 = []) → (if p then x else y).1 ≠ 0 → (if p then x else y).2 = [] := fun hx hy => by
  split
  ·exact hx
  ·exact hy
 have z : ∀ {x : LI},((0,x) : Int × LI).1 ≠ 0 → ((0,x) : Int × LI).2 = [] := fun h => absurd rfl h
 have w : ∀ {x : Int},((x,[]) : Int × LI).1 ≠ 0 → ((x,[]) : Int × LI).2 = [] := fun _=>rfl
 revert e
 unfold zShape
 exact t (t z w) (t (t (t z w) w) (t (t z w) (t (t (t z w) w) (t (t z w) (t (t (t z w) w) (t (t qpR w) (t (t (t (t z w) w) w) (t (t qpT w) (t (t z w) (t z w))))))))))
theorem qjK (op : Int) (i s a : LI) (n h : Int) (nt : ByteArray) (l : List LI) (hl : l.length ≤ 100000) (ha : a.length ≤ 17592186043904) (k : Nat) (hk : a.length + 120000 ≤ k) :
  qdR.f k op i s a n h nt l = some (zSh op s a n h l) := by
 unfold qdR.f zSh
 rw [qjI,obs]
 by_cases hF : zF op s.length a.length n h l.length = true
 rotate_left
 ·rw [if_neg hF,if_neg hF]
 rw [if_pos hF,if_pos hF,qha k l (by omega) (by omega),obs]
 by_cases hA : l.all mSR = true
 rotate_left
 ·rw [if_neg hA,Bool.eq_false_iff.2 hA,if_pos (show (!false) = true from rfl)]
 rw [hA,if_neg (show ¬ (!true) = true from Bool.false_ne_true),if_pos rfl]
 obtain ⟨x,e,hx⟩ := qh9 op i s a n h nt l hl hA hF ha k hk
 rw [e,obs]
 by_cases c : (zShape op s a h l).1 = 0
 ·obtain ⟨rfl,hx2⟩ := hx c
  rw [if_pos c,qc7 _ (by dsimp only; omega),obs,← c]
 ·rw [if_neg c,← qmE c]
end Go.Pf

namespace Go.Pf
open Go Go.Vm
theorem qhe (s t : ByteArray) (i k : Nat) (h : s.size ≤ i) : (s ++ t).get! (i + k) = t.get! (i - s.size + k) := by
 have e : (s ++ t).data = s.data ++ t.data := by simp
 have hs : s.size = s.data.size := rfl
 show (s ++ t).data[i + k]! = t.data[i - s.size + k]!
 rw [e,Array.getElem!_eq_getD,Array.getElem!_eq_getD,Array.getD_eq_getD_getElem?,Array.getD_eq_getD_getElem?,Array.getElem?_append_right (by omega),show i + k - s.data.size = i - s.size + k by omega]
theorem qis (s t : ByteArray) (i : Nat) (h : i < s.size) : (s ++ t).get! i = s.get! i := by
 have e : (s ++ t).data = s.data ++ t.data := by simp
 have hs : s.size = s.data.size := rfl
 show (s ++ t).data[i]! = s.data[i]!
 rw [e,Array.getElem!_eq_getD,Array.getElem!_eq_getD,Array.getD_eq_getD_getElem?,Array.getD_eq_getD_getElem?,Array.getElem?_append_left (by omega)]
theorem qaL (s t : ByteArray) : (s ++ t).size = s.size + t.size := ByteArray.size_append
theorem qhs (s t u : ByteArray) : s ++ t ++ u = s ++ (t ++ u) := ByteArray.append_assoc
theorem qjX (s : ByteArray) : ByteArray.empty ++ s = s := ByteArray.empty_append
theorem qe3 (s : ByteArray) : s ++ ByteArray.empty = s := ByteArray.append_empty
theorem qm3 (s t : ByteArray) : Utf8.decode (s ++ t) s.size = Utf8.decode t 0 := by
 have g : ∀ k,(s ++ t).get! (s.size + k) = t.get! (0 + k) := fun k => by rw [qhe s t s.size k (Nat.le_refl _),Nat.sub_self]
 have z : ∀ k,(decide (s.size + k < (s ++ t).size)) = decide (0 + k < t.size) := fun k => by rw [qaL]; congr 1; simp
 unfold Utf8.decode
 simp only [g,z]
theorem qcj {n : Nat} (h : n < 256) : (UInt8.ofNat n).toNat = n := by simp [UInt8.toNat_ofNat']; omega
theorem qfl (l : List UInt8) (k : Nat) (h : k < l.length) (t : ByteArray) : ((ByteArray.mk ⟨l⟩) ++ t).get! k = l[k] := by
 rw [qis _ _ _ h]
 show (Array.mk l)[k]! = l[k]
 simp [h]
theorem qln (l : List UInt8) (t : ByteArray) : ((ByteArray.mk ⟨l⟩) ++ t).size = l.length + t.size := by rw [qaL]; rfl
theorem qjO {r : Nat} (h : Utf8.valid r = true) (t : ByteArray) : Utf8.decode (Utf8.encode r ++ t) 0 = (r,(Utf8.encode r).size) := by
 have hv : r < 0xD800 ∨ (0xE000 ≤ r ∧ r ≤ 0x10FFFF) := by
  unfold Utf8.valid at h
  simp at h; omega
 unfold Utf8.encode
 rw [h]
 simp only [reduceIte,tNc]
 by_cases c1 : r < 128
 ·rw [if_pos c1]
  unfold Utf8.decode
  simp only [Nat.zero_add,Nat.add_zero,qfl [UInt8.ofNat r] 0 (by simp) t,List.getElem_cons_zero,qcj (show r < 256 by omega)]
  rw [if_pos c1]; rfl
 by_cases c2 : r < 2048
 ·rw [if_neg c1,if_pos c2]
  unfold Utf8.decode
  simp only [Nat.zero_add,Nat.add_zero,qfl [UInt8.ofNat (0xC0 + r / 64),UInt8.ofNat (0x80 + r % 64)] 0 (by simp) t,qfl [UInt8.ofNat (0xC0 + r / 64),UInt8.ofNat (0x80 + r % 64)] 1 (by simp) t,qln,List.getElem_cons_zero,List.getElem_cons_succ,qcj (show 0xC0 + r / 64 < 256 by omega),qcj (show 0x80 + r % 64 < 256 by omega)]
  rw [ifq,if_pos (by simp; omega),ifp]
  exact Prod.ext (by show _ = r; dsimp only; omega) rfl
 by_cases c3 : r < 65536
 ·rw [if_neg c1,if_neg c2,if_pos c3]
  unfold Utf8.decode
  have g0 := qfl [UInt8.ofNat (0xE0 + r / 4096),UInt8.ofNat (0x80 + r / 64 % 64),UInt8.ofNat (0x80 + r % 64)] 0 (by simp) t
  have g1 := qfl [UInt8.ofNat (0xE0 + r / 4096),UInt8.ofNat (0x80 + r / 64 % 64),UInt8.ofNat (0x80 + r % 64)] 1 (by simp) t
  have g2 := qfl [UInt8.ofNat (0xE0 + r / 4096),UInt8.ofNat (0x80 + r / 64 % 64),UInt8.ofNat (0x80 + r % 64)] 2 (by simp) t
  simp only [Nat.zero_add,Nat.add_zero,g0,g1,g2,qln,List.getElem_cons_zero,List.getElem_cons_succ,qcj (show 0xE0 + r / 4096 < 256 by omega),qcj (show 0x80 + r / 64 % 64 < 256 by omega),qcj (show 0x80 + r % 64 < 256 by omega)]
  have e : (224 + r / 4096) % 16 * 4096 + (128 + r / 64 % 64) % 64 * 64 + (128 + r % 64) % 64 = r := by omega
  rw [e,ifq,if_neg (by simp; omega),if_pos (by simp; omega),if_pos (by simp [h]; omega)]; rfl
 ·rw [if_neg c1,if_neg c2,if_neg c3]
  unfold Utf8.decode
  have g0 := qfl [UInt8.ofNat (0xF0 + r / 262144),UInt8.ofNat (0x80 + r / 4096 % 64),UInt8.ofNat (0x80 + r / 64 % 64),UInt8.ofNat (0x80 + r % 64)] 0 (by simp) t
  have g1 := qfl [UInt8.ofNat (0xF0 + r / 262144),UInt8.ofNat (0x80 + r / 4096 % 64),UInt8.ofNat (0x80 + r / 64 % 64),UInt8.ofNat (0x80 + r % 64)] 1 (by simp) t
  have g2 := qfl [UInt8.ofNat (0xF0 + r / 262144),UInt8.ofNat (0x80 + r / 4096 % 64),UInt8.ofNat (0x80 + r / 64 % 64),UInt8.ofNat (0x80 + r % 64)] 2 (by simp) t
  have g3 := qfl [UInt8.ofNat (0xF0 + r / 262144),UInt8.ofNat (0x80 + r / 4096 % 64),UInt8.ofNat (0x80 + r / 64 % 64),UInt8.ofNat (0x80 + r % 64)] 3 (by simp) t
  simp only [Nat.zero_add,Nat.add_zero,g0,g1,g2,g3,qln,List.getElem_cons_zero,List.getElem_cons_succ,qcj (show 0xF0 + r / 262144 < 256 by omega),qcj (show 0x80 + r / 4096 % 64 < 256 by omega),qcj (show 0x80 + r / 64 % 64 < 256 by omega),qcj (show 0x80 + r % 64 < 256 by omega)]
  have e : (240 + r / 262144) % 8 * 262144 + (128 + r / 4096 % 64) % 64 * 4096 + (128 + r / 64 % 64) % 64 * 64 + (128 + r % 64) % 64 = r := by omega
  rw [e,ifq,if_neg (by simp; omega),if_neg (by simp; omega),if_pos (by simp; omega),if_pos (by simp [h]; omega)]; rfl
theorem qfb (s : ByteArray) (i : Nat) : 1 ≤ (Utf8.decode s i).2 := by
 unfold Utf8.decode
 dsimp only
 repeat' split
 all_goals simp
def rsx (s : ByteArray) : Nat → Nat → LI
 | 0,_ => []
 | n + 1,i => if i < s.size then ((Utf8.decode s i).1 : Int) :: rsx s n (i + (Utf8.decode s i).2) else []
def rs (s : ByteArray) : LI := rsx s s.size 0
theorem qnN (s : ByteArray) : ∀ n i,(rsx s n i).length ≤ n
 | 0,_ => Nat.le_refl _
 | n + 1,i => by
  rw [rsx]
  split
  ·have := qnN s n (i + (Utf8.decode s i).2)
   simp; omega
  ·simp
theorem qlY (s : ByteArray) : (rs s).length ≤ s.size := qnN s _ _
def enc : LI → ByteArray
 | [] => ByteArray.empty
 | r :: l => Utf8.encode r ++ enc l
theorem qon : ∀ a b : LI,enc (a ++ b) = enc a ++ enc b
 | [],b => by rw [nAp,enc,qjX]
 | r :: a,b => by rw [List.cons_append,enc,enc,qon a b,qhs]
theorem qnO : ∀ (l : LI) (p : ByteArray) (n : Nat),(∀ r ∈ l,Utf8.valid r = true) → (enc l).size ≤ n → rsx (p ++ enc l) n p.size = l
 | [],p,n,_,_ => by
  cases n with
  | zero => rfl
  | succ n => rw [rsx,enc,qe3,ifq]
 | r :: l,p,n,hv,hn => by
  have h := hv r (List.mem_cons_self ..)
  have hr : 0 ≤ r := by
   unfold Utf8.valid at h
   simp at h; omega
  obtain ⟨q,rfl⟩ : ∃ q : Nat,r = (q : Int) := ⟨r.toNat,by omega⟩
  have hd := qjO h (enc l)
  have hp := qfb (Utf8.encode q ++ enc l) 0
  rw [enc,qaL] at hn
  rw [hd] at hp
  obtain ⟨n,rfl⟩ : ∃ m,n = m + 1 := ⟨n - 1,by dsimp only at hp; omega⟩
  dsimp only at hp
  rw [enc,rsx,if_pos (by rw [qaL,qaL]; omega),qm3,hd]
  dsimp only
  rw [← qhs,← qaL,qnO l _ n (fun r hr => hv r (mCm _ hr)) (by omega)]
theorem qpv {l : LI} (h : ∀ r ∈ l,Utf8.valid r = true) : rs (enc l) = l := by
 have := qnO l ByteArray.empty (enc l).size h (Nat.le_refl _)
 rwa [qjX] at this
theorem qfk (s : ByteArray) (hs : s.size ≤ 17592186043904) : ∀ (e i n : Nat) (y : LI),s.size ≤ i + e → e < n → y.length ≤ i → qbi.l0 n y s i = some (y ++ rsx s e i)
 | 0,i,n,y,hi,hn,hy => by
  obtain ⟨n,rfl⟩ := sun (n := n)
  rw [qbi.l0,ifq,rsx,List.append_nil]
 | e + 1,i,n,y,hi,hn,hy => by
  obtain ⟨n,rfl⟩ := sun (n := n)
  have hp := qfb s i
  rw [qbi.l0,rsx]
  by_cases c : i < s.size
  ·rw [if_pos c,if_pos c,if_pos (by rw [lSi]; omega),qfk s hs e _ n _ (by omega) (by omega) (by simp; omega),aAs]; rfl
  ·rw [if_neg c,if_neg c,List.append_nil]
theorem qdx (s : ByteArray) (hs : s.size ≤ 17592186043904) (k : Nat) (hk : s.size < k) : qbi.f k s = some (rs s) := by
 unfold qbi.f
 rw [qfk s hs s.size 0 k [] (by omega) hk (Nat.le_refl _)]; rfl
theorem qfY (s : ByteArray) (hs : s.size ≤ 17592186043904) : ∀ (e i n : Nat) (y : LI),s.size ≤ i + e → e < n → y.length ≤ i → qbC.l0 n y s i = some (y ++ rsx s e i)
 | 0,i,n,y,hi,hn,hy => by
  obtain ⟨n,rfl⟩ := sun (n := n)
  rw [qbC.l0,ifq,rsx,List.append_nil]
 | e + 1,i,n,y,hi,hn,hy => by
  obtain ⟨n,rfl⟩ := sun (n := n)
  have hp := qfb s i
  rw [qbC.l0,rsx]
  by_cases c : i < s.size
  ·rw [if_pos c,if_pos c,if_pos (by rw [lSi]; omega),qfY s hs e _ n _ (by omega) (by omega) (by simp; omega),aAs]; rfl
  ·rw [if_neg c,if_neg c,List.append_nil]
theorem qdX (s : ByteArray) (hs : s.size ≤ 17592186043904) (k : Nat) (hk : s.size < k) : qbC.f k s = some (rs s) := by
 unfold qbC.f
 rw [qfY s hs s.size 0 k [] (by omega) hk (Nat.le_refl _)]; rfl
end Go.Pf

namespace Go.Pf
open Go Go.Vm
def fnI (x : Int) : Nat → LI → Int
 | _,[] => -1
 | i,y :: l => if y = x then (i : Int) else fnI x (i + 1) l
def fnd (l : LI) (x : Int) : Int := fnI x 0 l
theorem qmp (x : Int) : ∀ (l : LI) (i : Nat),(fnI x i l = -1 ∧ x ∉ l) ∨ ∃ j : Nat,fnI x i l = ((i + j : Nat) : Int) ∧ j < l.length ∧ l.getD j 0 = x ∧ x ∉ l.take j
 | [],i => .inl ⟨rfl,by simp⟩
 | y :: l,i => by
  rw [fnI]
  by_cases c : y = x
  ·rw [if_pos c]
   exact .inr ⟨0,rfl,by simp,c,by simp⟩
  ·rw [if_neg c]
   rcases qmp x l (i + 1) with ⟨h1,h2⟩ | ⟨j,h1,h2,h3,h4⟩
   ·exact .inl ⟨h1,by simp [h2]; exact fun h => c h.symm⟩
   ·exact .inr ⟨j + 1,by rw [h1]; omega,by simp; omega,h3,by simp [h4]; exact fun h => c h.symm⟩
theorem qjM (l : LI) (x : Int) : (fnd l x = -1 ∧ x ∉ l) ∨ ∃ j : Nat,fnd l x = (j : Int) ∧ j < l.length ∧ l.getD j 0 = x ∧ x ∉ l.take j := by
 have := qmp x l 0
 simp only [Nat.zero_add] at this
 exact this
theorem qg6 (l : LI) (x : Int) (hl : l.length ≤ 17592186043904) (k : Nat) (hk : l.length < k) : qaH.f k l x = some (fnd l x) := by
 have := iter0 (L := fun n i (_ : Unit) => qaH.l0 n l x l.length i) (st := fun _=>()) (fun i => if fnI x i (l.drop i) = -1 then .inl () else .inr (fnI x i (l.drop i))) (m := l.length) 0
  (fun n _ => by rw [qaH.l0,ifq,dNl (Nat.le_refl _)]; rfl)
  (fun i n hi _ ih => by
   rw [qaH.l0,ifp,ifp,tNc,qaj hi (0 : Int),fnI]
   by_cases c : l.getD i 0 = x
   ·rw [if_pos c.symm,if_pos c,ifq]
   ·rw [if_neg (fun h => c h.symm),if_neg c,qav hi (by omega),ih]) k (by omega)
 rw [dZr] at this
 unfold qaH.f fnd
 rw [this,obs]
 by_cases c : fnI x 0 l = -1
 ·rw [if_pos c,c]; rfl
 ·rw [if_neg c]; rfl
theorem qir (l : LI) (x : Int) (hl : l.length ≤ 17592186043904) (k : Nat) (hk : l.length < k) : qbZ.f k l x = some (decide (x ∈ l)) := by
 unfold qbZ.f
 rw [qg6 l x hl k hk,obs]
 rcases qjM l x with ⟨h1,h2⟩ | ⟨j,h1,h2,h3,h4⟩
 ·rw [h1,decide_eq_false h2]; rfl
 ·rw [h1,decide_eq_true (by omega),decide_eq_true (by rw [← h3]; exact qal h2 _)]
theorem qkx (s : ByteArray) (x : Int) (hs : s.size ≤ 17592186043904) (k : Nat) (hk : s.size < k) : qeh.f k s x = some (fnd (rs s) x) := by
 have := qlY s
 unfold qeh.f
 rw [qdx s hs k hk,obs,qg6 _ _ (by omega) k (by omega),obs]
theorem qhK (s : ByteArray) (x : Int) (hs : s.size ≤ 17592186043904) (k : Nat) (hk : s.size < k) : qcc.f k s x = some (fnd (rs s) x) := by
 have hl := qlY s
 unfold qcc.f
 rw [qdX s hs k hk,obs]
 generalize rs s = l at hl ⊢
 have := iter0 (L := fun n i (_ : Unit) => qcc.l0 n x l.length i l) (st := fun _=>()) (fun i => if fnI x i (l.drop i) = -1 then .inl () else .inr (fnI x i (l.drop i))) (m := l.length) 0
  (fun n _ => by rw [qcc.l0,ifq,dNl (Nat.le_refl _)]; rfl)
  (fun i n hi _ ih => by
   rw [qcc.l0,ifp,ifp,ifp,tNc,qaj hi (0 : Int),fnI]
   by_cases c : l.getD i 0 = x
   ·rw [if_pos c,if_pos c,ifq]
   ·rw [if_neg c,if_neg c,qav hi (by omega),ih]) k (by omega)
 rw [dZr] at this
 unfold fnd
 rw [this,obs]
 by_cases c : fnI x 0 l = -1
 ·rw [if_pos c,c]; rfl
 ·rw [if_neg c]; rfl
def nmay (x : Int) : Bool := decide (33 ≤ x ∧ x ≠ 46 ∧ x ≠ 45 ∧ x ≠ 40 ∧ x ≠ 41 ∧ x ≠ 65533)
def nR (l : LI) : Nat → Nat → Bool
 | 0,_ => true
 | e + 1,i => nmay (l.getD i 0) && !decide (l.getD i 0 ∈ l.take i) && nR l e (i + 1)
def zNR (l : LI) (n : Int) : Bool := decide ((l.length : Int) = n ∧ n ≤ 3) && nR l l.length 0
theorem qlm (x : Int) : qeR.f x = some (nmay x) := by
 unfold qeR.f nmay
 by_cases c1 : x = 46
 ·rw [if_pos c1]; subst c1; rfl
 by_cases c2 : x = 45
 ·rw [if_neg c1,if_pos c2]; subst c2; rfl
 by_cases c3 : x = 40
 ·rw [if_neg c1,if_neg c2,if_pos c3]; subst c3; rfl
 by_cases c4 : x = 41
 ·rw [if_neg c1,if_neg c2,if_neg c3,if_pos c4]; subst c4; rfl
 by_cases c5 : x = 65533
 ·rw [if_neg c1,if_neg c2,if_neg c3,if_neg c4,if_pos c5]; subst c5; rfl
 rw [if_neg c1,if_neg c2,if_neg c3,if_neg c4,if_neg c5]
 congr 1
 simp [c1,c2,c3,c4,c5]
theorem qjx (s : ByteArray) (n : Int) (hs : s.size ≤ 17592186043904) (k : Nat) (hk : s.size < k) : qbA.f k s n = some (zNR (rs s) n) := by
 have hl := qlY s
 unfold qbA.f zNR
 rw [qdx s hs k hk,obs]
 generalize rs s = l at hl ⊢
 by_cases c1 : (l.length : Int) = n
 rotate_left
 ·rw [if_neg c1,decide_eq_false (fun h => c1 h.1)]; rfl
 by_cases c2 : 3 < n
 ·rw [if_pos c1,if_pos c2,decide_eq_false (by omega)]; rfl
 rw [if_pos c1,if_neg c2,decide_eq_true ⟨c1,by omega⟩,Bool.true_and]
 have := iter0 (L := fun n i (_ : Unit) => qbA.l0 k n l.length i l) (st := fun _=>()) (fun i => if nR l (l.length - i) i = true then .inl () else .inr false) (m := l.length) 0
  (fun n _ => by rw [qbA.l0,ifq,Nat.sub_self]; rfl)
  (fun i n hi _ ih => by
   rw [qbA.l0,ifp,ifp,ifp,tNc,qlm,obs,show l.length - i = (l.length - (i + 1)) + 1 by omega,nR]
   cases c : nmay (l.getD i 0)
   ·rw [if_neg Bool.false_ne_true,Bool.false_and,Bool.false_and,if_neg Bool.false_ne_true]
   rw [if_pos rfl,Bool.true_and,ifp,dZr,qir _ _ (by rw [lTk]; omega) k (by rw [lTk]; omega),obs]
   cases c3 : decide (l.getD i 0 ∈ l.take i)
   ·rw [if_neg Bool.false_ne_true,qav hi (by omega),ih]; rfl
   ·rw [if_pos rfl]; rfl) k (by omega)
 rw [Nat.sub_zero] at this
 have this : qbA.l0 k k l.length 0 l = _ := this
 rw [this,obs]
 cases nR l l.length 0 <;> rfl
theorem qkk (s : ByteArray) (n : Int) (hs : s.size ≤ 17592186043904) (k : Nat) (hk : s.size < k) : qbW.f k s n = some (zNR (rs s) n) := by
  have hl := qlY s
  unfold qbW.f zNR
  rw [qdX s hs k hk,obs]
  have hF := fun x => qhK s x hs k hk
  generalize rs s = l at hl hF ⊢
  by_cases c0 : n < 0
  · rw [if_pos c0,decide_eq_false (by omega)]; rfl
  by_cases c2 : 3 < n
  · rw [if_neg c0,if_pos c2,decide_eq_false (by omega)]; rfl
  by_cases c1 : (l.length : Int) = n
  rotate_left
  · rw [if_neg c0,if_neg c2,if_neg c1,decide_eq_false (fun h => c1 h.1)]; rfl
  rw [if_neg c0,if_neg c2,if_pos c1,decide_eq_true ⟨c1,by omega⟩,Bool.true_and]
  have := iter0 (L := fun n i (_ : Unit) => qbW.l0 k n s l.length i l) (st := fun _=>()) (fun i => if nR l (l.length - i) i = true then .inl () else .inr false) (m := l.length) 0
    (fun n _ => by rw [qbW.l0,ifq,Nat.sub_self]; rfl)
    (fun i n hi _ ih => by
      rw [qbW.l0,ifp,ifp,ifp,tNc,show l.length - i = (l.length - (i + 1)) + 1 by omega,nR,hF,obs]
      have bad : nmay (l.getD i 0) = false → (if (nmay (l.getD i 0) && !decide (l.getD i 0 ∈ l.take i) && nR l (l.length - (i + 1)) (i + 1)) = true then (Sum.inl () : Unit ⊕ Bool) else .inr false) = .inr false := fun h => by
        rw [h]; rfl
      by_cases d1 : l.getD i 0 < 33
      · rw [if_pos d1,bad (decide_eq_false (by omega))]
      by_cases d2 : l.getD i 0 = 65533
      · rw [if_neg d1,if_pos d2,bad (decide_eq_false (by omega))]
      by_cases d3 : l.getD i 0 = 46
      · rw [if_neg d1,if_neg d2,if_pos d3,bad (decide_eq_false (by omega))]
      by_cases d4 : l.getD i 0 = 45
      · rw [if_neg d1,if_neg d2,if_neg d3,if_pos d4,bad (decide_eq_false (by omega))]
      by_cases d5 : l.getD i 0 = 40
      · rw [if_neg d1,if_neg d2,if_neg d3,if_neg d4,if_pos d5,bad (decide_eq_false (by omega))]
      by_cases d6 : l.getD i 0 = 41
      · rw [if_neg d1,if_neg d2,if_neg d3,if_neg d4,if_neg d5,if_pos d6,bad (decide_eq_false (by omega))]
      rw [if_neg d1,if_neg d2,if_neg d3,if_neg d4,if_neg d5,if_neg d6,show nmay (l.getD i 0) = true from decide_eq_true (by omega),Bool.true_and]
      rcases qjM l (l.getD i 0) with ⟨h1,h2⟩ | ⟨j,h1,h2,h3,h4⟩
      · exact absurd (qal hi _) h2
      by_cases c : l.getD i 0 ∈ l.take i
      · rw [decide_eq_true c,if_neg (fun h => by
          obtain rfl : j = i := by omega
          exact h4 c)]; rfl
      · have : i = j := by
          rcases Nat.lt_trichotomy i j with h | h | h
          · refine absurd ?_ h4
            have : (l.take j).getD i 0 = l.getD i 0 := by
              rw [gDg,List.getElem?_take,if_pos h,gDg]
            rw [← this]
            exact qal (by rw [lTk]; omega) _
          · exact h
          · refine absurd ?_ c
            have : (l.take i).getD j 0 = l.getD j 0 := by
              rw [gDg,List.getElem?_take,if_pos h,gDg]
            rw [← h3,← this]
            exact qal (by rw [lTk]; omega) _
        rw [decide_eq_false c,ifp,qav hi (by omega),ih]; rfl) k (by omega)
  rw [Nat.sub_zero] at this
  have this : qbW.l0 k k s l.length 0 l = _ := this
  rw [this,obs]
  cases nR l l.length 0 <;> rfl
def zNl (nm : LI) : LI → LI → Option LI
 | [],y => some y
 | r :: l,y => if r = 32 then zNl nm l y else if r = 46 then zNl nm l (y ++ [-1]) else if fnd nm r < 0 ∨ fnd nm r ∈ y then none else zNl nm l (y ++ [fnd nm r])
def zNote (nm l : LI) (rank : Int) : Bool × Int × LI :=
 if 16 < l.length then (false,14,[]) else
 match zNl nm l [] with
 | none => (false,14,[])
 | some y => if y.length = 0 then (false,0,[]) else if (y.length : Int) = rank then (true,0,y) else (false,14,[])
theorem qf9 (s : ByteArray) (hs : s.size ≤ 17592186043904) (l : LI) (hl : l.length ≤ 16) (rank : Int) (k : Nat) (hk : s.size + 100 < k) : ∀ (e i n : Nat) (y : LI),l.length = i + e → e < n → y.length ≤ i →
  qbE.l0 k n s rank l.length i y l = some (match zNl (rs s) (l.drop i) y with | some y => .inl y | none => .inr (false,14))
 | 0,i,n,y,hi,hn,_ => by
  obtain ⟨n,rfl⟩ := sun (n := n)
  rw [qbE.l0,ifq,dNl (by omega)]; rfl
 | e + 1,i,n,y,hi,hn,hy => by
  obtain ⟨n,rfl⟩ := sun (n := n)
  have ih := fun y hy => qf9 s hs l hl rank k hk e (i + 1) n y (by omega) (by omega) hy
  rw [qbE.l0,ifp,ifp,ifp,tNc,qkx s _ hs k (by omega),obs,qav (show i < l.length by omega) (by omega),qaj (show i < l.length by omega) (0 : Int),zNl]
  by_cases c1 : l.getD i 0 = 32
  ·rw [if_pos c1,if_pos c1,ih y (by omega)]
  by_cases c2 : l.getD i 0 = 46
  ·rw [if_neg c1,if_pos c2,if_neg c1,if_pos c2,if_pos (by simp; omega),ih _ (by simp; omega)]
  rw [if_neg c1,if_neg c2,if_neg c1,if_neg c2]
  by_cases c3 : fnd (rs s) (l.getD i 0) < 0
  ·rw [if_pos c3,if_pos (.inl c3)]
  rw [if_neg c3,qgq _ _ (by omega) k (by omega),obs]
  by_cases c4 : fnd (rs s) (l.getD i 0) ∈ y
  ·rw [decide_eq_true c4,if_pos rfl,if_pos (show fnd (rs s) (l.getD i 0) < 0 ∨ fnd (rs s) (l.getD i 0) ∈ y from .inr c4)]
  ·rw [decide_eq_false c4,if_neg Bool.false_ne_true,if_neg (show ¬ (fnd (rs s) (l.getD i 0) < 0 ∨ fnd (rs s) (l.getD i 0) ∈ y) from fun h => h.elim c3 c4),if_pos (by simp; omega),ih _ (by simp; omega)]
theorem qg0 (s t : ByteArray) (rank : Int) (hs : s.size ≤ 17592186043904) (ht : t.size ≤ 17592186043904) (k : Nat) (hk : s.size + 100 < k) (hk2 : t.size < k) : qbE.f k s t rank = some (zNote (rs s) (rs t) rank) := by
 unfold qbE.f zNote
 rw [qdx t ht k hk2,obs]
 by_cases c : 16 < (rs t).length
 ·rw [ifp,if_pos c]
 ·have := qf9 s hs (rs t) (by omega) rank k hk (rs t).length 0 k [] (by omega) (by omega) (Nat.le_refl _)
  rw [n0,dZr] at this
  rw [ifq,if_neg c,this,obs]
  cases zNl (rs s) (rs t) [] with
  | none => rfl
  | some y =>
   dsimp only [Sum.elim_inl]
   by_cases c1 : y.length = 0
   ·rw [ifp,if_pos c1]
   ·rw [ifq,if_neg c1]
    split <;> rfl
theorem qkl (s : ByteArray) (rank x13 x21 x22 : Int) (y y1 : LI) (hy : y.length ≤ 1000) (n : Nat) (hn : 2000 ≤ n) :
  qa6.l1 n s rank x13 x21 x22 y.length 0 y y1 = some (if x13 ∈ y then .inr (false,14) else .inl ()) := by
 have := iter0 (L := fun n i (_ : Unit) => qa6.l1 n s rank x13 x21 x22 y.length i y y1) (st := fun _=>()) (fun i => if x13 ∈ y.drop i then .inr (false,14) else .inl ()) (m := y.length) 0
  (fun n _ => by rw [qa6.l1,ifq,dNl (Nat.le_refl _),if_neg (by simp)])
  (fun i n hi _ ih => by
   rw [qa6.l1,ifp,ifp,ifp,tNc,qaj hi (0 : Int)]
   by_cases c : y.getD i 0 = x13
   ·rw [if_pos c,if_pos (by rw [c]; exact List.mem_cons_self ..)]
   ·rw [if_neg c,qav hi (by omega),ih]
    by_cases c2 : x13 ∈ y.drop (i + 1)
    ·rw [if_pos c2,if_pos (mCm _ c2)]
    ·rw [if_neg c2,if_neg (fun h => by rcases List.mem_cons.1 h with h | h; exact c h.symm; exact c2 h)]) n (by omega)
 rw [dZr] at this
 exact this
theorem qgN (s : ByteArray) (hs : s.size ≤ 17592186043904) (l : LI) (hl : l.length ≤ 16) (rank : Int) (k : Nat) (hk : s.size + 100 < k) : ∀ (e i n : Nat) (y : LI),l.length = i + e → e + 2000 < n → y.length ≤ i →
  qa6.l0 k n s rank l.length i y l = some (match zNl (rs s) (l.drop i) y with | some y => .inl y | none => .inr (false,14))
 | 0,i,n,y,hi,hn,_ => by
  obtain ⟨n,rfl⟩ := sun (n := n)
  rw [qa6.l0,ifq,dNl (by omega)]; rfl
 | e + 1,i,n,y,hi,hn,hy => by
  obtain ⟨n,rfl⟩ := sun (n := n)
  have ih := fun y hy => qgN s hs l hl rank k hk e (i + 1) n y (by omega) (by omega) hy
  rw [qa6.l0,ifp,ifp,ifp,tNc,qhK s _ hs k (by omega),obs,qav (show i < l.length by omega) (by omega),qaj (show i < l.length by omega) (0 : Int),zNl]
  by_cases c1 : l.getD i 0 = 32
  ·rw [if_pos c1,if_pos c1,ih y (by omega)]
  by_cases c2 : l.getD i 0 = 46
  ·rw [if_neg c1,if_pos c2,if_neg c1,if_pos c2,if_pos (by simp; omega),ih _ (by simp; omega)]
  rw [if_neg c1,if_neg c2,if_neg c1,if_neg c2]
  by_cases c3 : fnd (rs s) (l.getD i 0) < 0
  ·rw [if_pos c3,if_pos (.inl c3)]
  rw [if_neg c3,qkl s rank _ _ _ y l (by omega) n (by omega),obs]
  by_cases c4 : fnd (rs s) (l.getD i 0) ∈ y
  ·rw [if_pos c4,if_pos (show fnd (rs s) (l.getD i 0) < 0 ∨ fnd (rs s) (l.getD i 0) ∈ y from .inr c4)]; rfl
  ·rw [if_neg c4,Sum.elim_inl,if_neg (show ¬ (fnd (rs s) (l.getD i 0) < 0 ∨ fnd (rs s) (l.getD i 0) ∈ y) from fun h => h.elim c3 c4),if_pos (by simp; omega),ih _ (by simp; omega)]
theorem qhJ (s t : ByteArray) (rank : Int) (hs : s.size ≤ 17592186043904) (ht : t.size ≤ 17592186043904) (k : Nat) (hk : s.size + 5000 < k) (hk2 : t.size < k) : qa6.f k s t rank = some (zNote (rs s) (rs t) rank) := by
 unfold qa6.f zNote
 rw [qdX t ht k hk2,obs]
 by_cases c : 16 < (rs t).length
 ·rw [ifp,if_pos c]
 ·have := qgN s hs (rs t) (by omega) rank k (by omega) (rs t).length 0 k [] (by omega) (by omega) (Nat.le_refl _)
  rw [n0,dZr] at this
  rw [ifq,if_neg c,this,obs]
  cases zNl (rs s) (rs t) [] with
  | none => rfl
  | some y =>
   dsimp only [Sum.elim_inl]
   by_cases c1 : y.length = 0
   ·rw [ifp,if_pos c1]
   ·rw [ifq,if_neg c1]
    split <;> rfl
end Go.Pf

namespace Go.Pf
open Go Go.Vm
abbrev Nd := Int × LI × LI × LI × Int × Int × ByteArray
abbrev nd0 : Nd := ln0
def zIn (out : List LI) : LI → Option (List LI)
 | [] => some []
 | x :: l => if x < 0 ∨ (out.length : Int) ≤ x then none else (zIn out l).map (out.getD x.toNat [] :: ·)
theorem qk0 {out : List LI} : ∀ {l : LI} {r : List LI},zIn out l = some r → r.length = l.length
 | [],r,h => by cases h; rfl
 | x :: l,r,h => by
  rw [zIn] at h
  split at h
  ·cases h
  ·cases e : zIn out l with
   | none => rw [e] at h; cases h
   | some q =>
    rw [e] at h
    cases h
    rw [lCo,lCo,qk0 e]
def zNd (nm : LI) (out : List LI) (x : Nd) : Int × LI :=
 match zIn out x.2.1 with
 | none => (23,[])
 | some l => if (zSh x.1 x.2.2.1 x.2.2.2.1 x.2.2.2.2.1 x.2.2.2.2.2.1 l).1 = 0 then
   ((zNote nm (rs x.2.2.2.2.2.2) (zSh x.1 x.2.2.1 x.2.2.2.1 x.2.2.2.2.1 x.2.2.2.2.2.1 l).2.length).2.1,(zSh x.1 x.2.2.1 x.2.2.2.1 x.2.2.2.2.1 x.2.2.2.2.2.1 l).2)
  else ((zSh x.1 x.2.2.1 x.2.2.2.1 x.2.2.2.2.1 x.2.2.2.2.2.1 l).1,[])
def zGo (nm : LI) : List Nd → List LI → Int × List LI
 | [],out => (0,out)
 | x :: r,out => if (zNd nm out x).1 = 0 then zGo nm r (out ++ [(zNd nm out x).2]) else ((zNd nm out x).1,[])
def zMs (s : LI) (nm : LI) : Bool := mR s && zNR nm s.length
def zShs (s : LI) (nm : ByteArray) (N : List Nd) (O : LI) : Int × List LI :=
 if zMs s (rs nm) = true then
  (if 48 < N.length then (3,[]) else if 48 < O.length then (3,[]) else
   if (zGo (rs nm) N []).1 = 0 then (if O.all (fun k => decide (0 ≤ k ∧ k < (N.length : Int))) = true then zGo (rs nm) N [] else (23,[])) else ((zGo (rs nm) N []).1,[]))
 else (15,[])
def okN (x : Nd) : Prop := x.2.1.length ≤ 100000 ∧ x.2.2.2.1.length ≤ 100000 ∧ x.2.2.2.2.2.2.size ≤ 100000
theorem qi9 (nm : LI) : ∀ (N : List Nd) (out : List LI),(zGo nm N out).1 = 0 → (zGo nm N out).2.length = out.length + N.length
 | [],out,_ => rfl
 | x :: r,out,h => by
  rw [zGo] at h ⊢
  by_cases c : (zNd nm out x).1 = 0
  ·rw [if_pos c] at h ⊢
   rw [qi9 nm r _ h]; simp; omega
  ·rw [if_neg c] at h; exact absurd h c
theorem qgc (l : LI) (hl : l.length ≤ 3) (nm : ByteArray) (N : List Nd) (O : LI) : ∀ (d i : Nat) (p : Int) (n : Nat),l.length = i + d → 1 ≤ p → p ≤ 8 ^ i → d < n →
  qb6.l0 n p l l.length i l nm N O = some (if (l.drop i).all okD = true then .inl (p * pd (l.drop i)) else .inr false)
 | 0,i,p,n,hi,h1,h2,hn => by
  obtain ⟨n,rfl⟩ := sun (n := n)
  rw [qb6.l0,ifq,dNl (by omega)]
  simp [pd]
 | d + 1,i,p,n,hi,h1,h2,hn => by
  obtain ⟨n,rfl⟩ := sun (n := n)
  rw [qb6.l0,ifp,ifp,tNc,qaj (show i < l.length by omega) 0]
  generalize l.getD i 0 = x
  by_cases c1 : x < 1
  ·rw [if_pos c1]; simp [qfF]; omega
  by_cases c2 : 8 < x
  ·rw [if_neg c1,if_pos c2]; simp [qfF]; omega
  have hx : okD x = true := qfF.2 (by omega)
  have hm := ql9 h1 h2 (show 1 ≤ x ∧ x ≤ 8 by omega)
  have h8 := p8 (show i + 1 ≤ 3 by omega)
  rw [if_neg c1,if_neg c2,qak (n := p * x) (by omega) (by omega),qak (n := (i : Int) + 1) (by omega) (by omega)]
  have := qgc l hl nm N O d (i + 1) (p * x) n (by omega) hm.1 hm.2 (by omega)
  rw [show (i : Int) + 1 = ((i + 1 : Nat) : Int) by omega,this]
  simp [hx,pd,Int.mul_assoc]
theorem qkH (l : LI) (nm : ByteArray) (N : List Nd) (O : LI) (hn : nm.size ≤ 100000) (k : Nat) (hk : 300000 ≤ k) : qb6.f k l nm N O = some (zMs l (rs nm)) := by
 unfold qb6.f zMs
 by_cases h : 3 < (l.length : Int)
 ·rw [if_pos h]; simp [mR]; omega
 ·have := qgc l (by omega) nm N O l.length 0 1 k (by omega) (by omega) (by simp) (by omega)
  rw [if_neg h,show (0 : Int) = ((0 : Nat) : Int) from rfl,this,qjx nm _ (by omega) k (by omega)]
  have hl : l.length ≤ 3 := by omega
  by_cases ha : l.all okD = true
  ·simp only [dZr,ha,if_true,obs,Sum.elim_inl,Int.one_mul]
   by_cases c : pd l ≤ 8
   ·simp [mR,hl,ha,c]
   ·simp [mR,c]
  ·simp [ha,mR]
theorem qf6 (l : LI) (nm : ByteArray) (N : List Nd) (O : LI) : ∀ (d i : Nat) (p : Int) (n : Nat),l.length = i + d → i ≤ 3 → 1 ≤ p → p ≤ 8 ^ i → 4 < n + i →
  qb3.l0 n p l.length i l nm N O = some (if l.length ≤ 3 ∧ (l.drop i).all okD = true then .inl (p * pd (l.drop i)) else .inr false)
 | 0,i,p,n,hi,hi3,h1,h2,hn => by
  obtain ⟨n,rfl⟩ := sun (n := n)
  rw [qb3.l0,ifq,dNl (by omega),if_pos ⟨by omega,by simp⟩]
  simp [pd]
 | d + 1,i,p,n,hi,hi3,h1,h2,hn => by
  obtain ⟨n,rfl⟩ := sun (n := n)
  rw [qb3.l0,ifp,ifp,tNc,qaj (show i < l.length by omega) 0]
  generalize l.getD i 0 = x
  by_cases c1 : x < 1
  ·rw [if_pos c1,if_neg (by simp [qfF]; omega)]
  by_cases c2 : 8 < x
  ·rw [if_neg c1,if_pos c2,if_neg (by simp [qfF]; omega)]
  by_cases c0 : 3 ≤ (i : Int)
  ·rw [if_neg c1,if_neg c2,if_pos c0,ifq]
  have hx : okD x = true := qfF.2 (by omega)
  have hm := ql9 h1 h2 (show 1 ≤ x ∧ x ≤ 8 by omega)
  have h8 := p8 (show i + 1 ≤ 3 by omega)
  rw [if_neg c1,if_neg c2,if_neg c0,qak (n := p * x) (by omega) (by omega),qak (n := (i : Int) + 1) (by omega) (by omega)]
  have := qf6 l nm N O d (i + 1) (p * x) n (by omega) (by omega) hm.1 hm.2 (by omega)
  rw [show (i : Int) + 1 = ((i + 1 : Nat) : Int) by omega,this]
  simp [hx,pd,Int.mul_assoc]
theorem qkq (l : LI) (nm : ByteArray) (N : List Nd) (O : LI) (hn : nm.size ≤ 100000) (k : Nat) (hk : 300000 ≤ k) : qb3.f k l nm N O = some (zMs l (rs nm)) := by
 unfold qb3.f zMs
 have := qf6 l nm N O l.length 0 1 k (by omega) (by omega) (by omega) (by simp) (by omega)
 rw [show ((0 : Nat) : Int) = 0 from rfl] at this
 rw [this,qkk nm _ (by omega) k (by omega)]
 by_cases ha : l.length ≤ 3 ∧ l.all okD = true
 ·simp only [dZr,ha,if_true,obs,Sum.elim_inl,Int.one_mul,and_self]
  by_cases c : pd l ≤ 8
  ·simp [mR,ha.1,ha.2,c]
  ·simp [mR,c]
 ·rw [dZr,if_neg ha]
  have : mR l = false := by
   cases h : mR l with
   | false => rfl
   | true => exact absurd ⟨(qjy h).1,(qjy h).2.1⟩ ha
  simp [this]
theorem qjH (out : List LI) (l : LI) (hl : l.length ≤ 100000) (g1 : LI) (g2 : ByteArray) (g3 : List Nd) (g4 : LI) (x1 : Int) (x2 x3 x4 : LI) (x5 x6 : Int) (x7 : ByteArray) (n : Nat) (hn : 100001 ≤ n) :
  qbX.l0 n out l l.length 0 g1 g2 g3 g4 x1 x2 x3 x4 x5 x6 x7 [] = some (match zIn out l with | some r => .inl r | none => .inr 23) := by
 have : ∀ (e i n : Nat) (y : List LI),l.length = i + e → e < n → y.length ≤ i → qbX.l0 n out l l.length i g1 g2 g3 g4 x1 x2 x3 x4 x5 x6 x7 y = some (match zIn out (l.drop i) with | some r => .inl (y ++ r) | none => .inr 23) := by
  intro e
  induction e with
  | zero =>
   intro i n y hi hn hy
   obtain ⟨n,rfl⟩ := sun (n := n)
   rw [qbX.l0,ifq,dNl (by omega),zIn]
   simp
  | succ e ih =>
   intro i n y hi hn hy
   obtain ⟨n,rfl⟩ := sun (n := n)
   rw [qbX.l0,ifp,ifp,tNc,qaj (show i < l.length by omega) 0,zIn]
   by_cases c1 : l.getD i 0 < 0
   ·rw [if_pos c1,if_pos (.inl c1)]
   by_cases c2 : (out.length : Int) ≤ l.getD i 0
   ·rw [if_neg c1,if_pos c2,if_pos (.inr c2)]
   rw [if_neg c1,if_neg c2,if_neg (show ¬ (l.getD i 0 < 0 ∨ (out.length : Int) ≤ l.getD i 0) by omega),ifp,if_pos (by rw [lSi]; omega),qav (show i < l.length by omega) (by omega),ih (i + 1) n _ (by omega) (by omega) (by simp; omega)]
   cases zIn out (l.drop (i + 1)) with
   | none => rfl
   | some r => simp
 have := this l.length 0 n [] (by omega) (by omega) (Nat.le_refl _)
 rw [n0,dZr] at this
 rw [this]
 cases zIn out l <;> simp
theorem qkG (s : LI) (nm : ByteArray) (N : List Nd) (O : LI) (x : Nd) (out : List LI) (hn : nm.size ≤ 100000) (hx : okN x) (k : Nat) (hk : 300000 ≤ k) :
  qbX.f k s nm N O x.1 x.2.1 x.2.2.1 x.2.2.2.1 x.2.2.2.2.1 x.2.2.2.2.2.1 x.2.2.2.2.2.2 out = some (zNd (rs nm) out x) := by
 obtain ⟨h1,h2,h3⟩ := hx
 unfold qbX.f zNd
 rw [qjH out x.2.1 h1 s nm N O _ _ _ _ _ _ _ k (by omega),obs]
 cases e : zIn out x.2.1 with
 | none => rfl
 | some l =>
  have hl := qk0 e
  dsimp only [Sum.elim_inl]
  rw [qjK _ _ _ _ _ _ _ l (by omega) (by omega) k (by omega),obs]
  split
  ·rename_i c
   rw [qg0 _ _ _ (by omega) (by omega) k (by omega) (by omega),obs]
  ·rfl
theorem qeU (s : LI) (nm : ByteArray) (N : List Nd) (O : LI) (hn : nm.size ≤ 100000) (hN : ∀ x ∈ N,okN x) (h48 : N.length ≤ 48) (k : Nat) (hk : 300000 ≤ k) : ∀ (e i n : Nat) (out : List LI),N.length = i + e → e < n → out.length = i →
  qbk.l0 k n N N.length i s nm N O out = some (if (zGo (rs nm) (N.drop i) out).1 = 0 then .inl (zGo (rs nm) (N.drop i) out).2 else .inr (zGo (rs nm) (N.drop i) out).1)
 | 0,i,n,out,hi,hn',ho => by
  obtain ⟨n,rfl⟩ := sun (n := n)
  rw [qbk.l0,ifq,dNl (by omega),zGo,if_pos rfl]
 | e + 1,i,n,out,hi,hn',ho => by
  obtain ⟨n,rfl⟩ := sun (n := n)
  have hx := hN _ (qal (show i < N.length by omega) nd0)
  rw [qbk.l0,ifp,ifp,tNc,qkG s nm N O (N.getD i nd0) out hn hx k hk,obs,qaj (show i < N.length by omega) nd0,zGo]
  by_cases c : (zNd (rs nm) out (N.getD i nd0)).1 = 0
  ·rw [if_pos c,if_pos c,if_pos (by rw [lSi]; omega),qav (show i < N.length by omega) (by omega),qeU s nm N O hn hN h48 k hk e (i + 1) n _ (by omega) (by omega) (by simp; omega)]
  ·rw [if_neg c,if_neg c,if_neg c]
theorem qhd (O : LI) (hO : O.length ≤ 48) (out : List LI) (k : Nat) (hk : 100 ≤ k) : qaG.f k O out = some (!O.all (fun x => decide (0 ≤ x ∧ x < (out.length : Int)))) := by
  have := iter0 (L := fun n i (_ : Unit) => qai.l0 n O O.length i out) (st := fun _=>()) (fun i => if (O.drop i).all (fun x => decide (0 ≤ x ∧ x < (out.length : Int))) = true then .inl () else .inr ((i + ((O.drop i).takeWhile (fun x => decide (0 ≤ x ∧ x < (out.length : Int)))).length : Nat) : Int)) (m := O.length) 0
    (fun n _ => by rw [qai.l0,ifq,dNl (Nat.le_refl _)]; rfl)
    (fun i n hi _ ih => by
      have e1 : qcW.f (O.getD i 0) out = some (!decide (0 ≤ O.getD i 0 ∧ O.getD i 0 < (out.length : Int))) := by
        unfold qcW.f
        by_cases c : O.getD i 0 < 0
        · rw [if_pos c,decide_eq_false (by omega)]; rfl
        · rw [if_neg c]
          by_cases c2 : (out.length : Int) ≤ O.getD i 0
          · rw [decide_eq_true c2,decide_eq_false (by omega)]; rfl
          · rw [decide_eq_false c2,decide_eq_true (by omega)]; rfl
      rw [qai.l0,ifp,ifp,tNc,e1,obs,qaj hi (0 : Int),List.all_cons,List.takeWhile_cons]
      cases c : decide (0 ≤ O.getD i 0 ∧ O.getD i 0 < (out.length : Int))
      · rw [if_pos (show (!false) = true from rfl),Bool.false_and,if_neg Bool.false_ne_true,if_neg Bool.false_ne_true]; rfl
      · rw [if_neg (show ¬ (!true) = true from Bool.false_ne_true),qav hi (by omega),ih,Bool.true_and,if_pos rfl,lCo,Nat.add_assoc i 1,Nat.add_comm 1]) k (by omega)
  rw [dZr] at this
  unfold qaG.f qai.f
  rw [this,obs]
  cases c : O.all (fun x => decide (0 ≤ x ∧ x < (out.length : Int)))
  · rw [if_neg (by decide),Sum.elim_inr,obs,decide_eq_true (by omega)]; rfl
  · rw [if_pos rfl,Sum.elim_inl,obs]; rfl
theorem qfn (s : LI) (nm : ByteArray) (N : List Nd) (O : LI) (hn : nm.size ≤ 100000) (hN : ∀ x ∈ N,okN x) (k : Nat) (hk : 300000 ≤ k) : qbk.f k s nm N O = some (zShs s nm N O) := by
 unfold qbk.f zShs
 rw [qkH s nm N O hn k hk,obs]
 by_cases c1 : zMs s (rs nm) = true
 rotate_left
 ·rw [if_neg c1,if_neg c1]
 rw [if_pos c1,if_pos c1]
 by_cases c2 : 48 < N.length
 ·rw [ifp,if_pos c2]
 by_cases c3 : 48 < O.length
 ·rw [ifq,ifp,if_neg c2,if_pos c3]
 have h0 := qeU s nm N O hn hN (by omega) k hk N.length 0 k [] (by omega) (by omega) rfl
 rw [n0,dZr] at h0
 rw [ifq,ifq,if_neg c2,if_neg c3,h0,obs]
 by_cases c4 : (zGo (rs nm) N []).1 = 0
 ·have hlen := qi9 _ N [] c4
  rw [List.length_nil,Nat.zero_add] at hlen
  rw [if_pos c4,if_pos c4,Sum.elim_inl,qhd O (by omega) _ k (by omega),obs,hlen]
  cases c5 : O.all (fun x => decide (0 ≤ x ∧ x < (N.length : Int)))
  ·rfl
  ·rw [if_neg (show ¬ (!true) = true from Bool.false_ne_true),if_pos rfl,← c4]
 ·rw [if_neg c4,if_neg c4]; rfl
theorem qjL (s : LI) (nm : ByteArray) (N : List Nd) (O : LI) (hn : nm.size ≤ 100000) (hN : ∀ x ∈ N,okN x) (k : Nat) (hk : 300000 ≤ k) : qdS.f k s nm N O = some (zShs s nm N O).1 := by
 unfold qdS.f
 rw [qfn s nm N O hn hN k hk,obs]
end Go.Pf

namespace Go.Pf
open Go Go.Vm
theorem zSh_R {op : Int} {s a : LI} {n h : Int} {l : List LI} (e : (zSh op s a n h l).1 = 0) : mSR (zSh op s a n h l).2 = true := by
 unfold zSh at e ⊢
 by_cases hF : zF op s.length a.length n h l.length = true
 rotate_left
 ·rw [if_neg hF] at e; simp at e
 rw [if_pos hF] at e ⊢
 by_cases hA : l.all mSR = true
 rotate_left
 ·rw [if_neg hA] at e; simp at e
 rw [if_pos hA] at e ⊢
 have hR : ∀ j,j < l.length → mSR (l.getD j []) = true := fun j hj => List.all_eq_true.1 hA _ (qal hj _)
 have m0 := qlS hF
 have t : ∀ {p : Prop} [Decidable p] {x y : Int × LI},(p → x.1 = 0 → mSR x.2 = true) → (¬ p → y.1 = 0 → mSR y.2 = true) → (if p then x else y).1 = 0 → mSR (if p then x else y).2 = true := fun hx hy => by
  split
  ·rename_i h; exact hx h
  ·rename_i h; exact hy h
 have w : ∀ {x : Int} {p : Prop},x ≠ 0 → p → ((x,[]) : Int × LI).1 = 0 → mSR ((x,[]) : Int × LI).2 = true := fun h _ hh => absurd hh h
 have z : ∀ {x : LI} {p : Prop},(p → mSR x = true) → p → ((0,x) : Int × LI).1 = 0 → mSR ((0,x) : Int × LI).2 = true := fun h hp _ => h hp
 revert e
 unfold zShape
 refine t (fun _=>t (z id) (w (by decide))) fun _=>t (fun _=>t (fun hs => t (z fun _=>hs) (w (by decide))) (w (by decide))) fun _=>t (fun ho => t (z fun h => qnY (hR 0 (by omega)) (qe7.1 h)) (w (by decide))) fun _=>t (fun _=>t (fun hs => t (z fun _=>hs) (w (by decide))) (w (by decide))) fun _ =>
  t (fun ho => t (z fun h => qoC (hR 0 (by omega)) h.2) (w (by decide))) fun _=>t (fun _=>t (fun _=>t (z id) (w (by decide))) (w (by decide))) fun _=>t (fun _=>t (fun _ e => qqF e) (w (by decide))) fun _=>t (fun _=>t (fun _=>t (fun _=>t (z id) (w (by decide))) (w (by decide))) (w (by decide))) fun _ =>
  t (fun _=>t (fun _ e => by have := qnr e; rw [this.1]; exact this.2.1) (w (by decide))) fun _=>t (fun ho => t (z fun h => qqG (hR 0 (by omega)) (by omega) _ _) (w (by decide))) fun _=>t (z fun _=>hR 0 (by omega)) (w (by decide))
theorem qlt (S : List LI) (s : LI) (hS : S.length ≤ 100) (hb : ∀ x ∈ S,x.length ≤ 4) (k : Nat) (hk : 120000 ≤ k) : ∃ l,qbI.f k S s = some l ∧ l.length ≤ 100 ∧ (∀ x ∈ l,0 ≤ x ∧ x < (S.length : Int)) ∧ (s ∈ S → 0 < l.length) := by
  have : ∀ (e i n : Nat) (y : LI),S.length = i + e → e < n → y.length ≤ i → (∀ x ∈ y,0 ≤ x ∧ x < (S.length : Int)) → ∃ l,qbI.l0 k n S s S.length i y = some l ∧ l.length ≤ S.length ∧ (∀ x ∈ l,0 ≤ x ∧ x < (S.length : Int)) ∧ (s ∈ S.drop i ∨ 0 < y.length → 0 < l.length) := by
    intro e
    induction e with
    | zero =>
      intro i n y hi hn hy hx
      obtain ⟨n,rfl⟩ := sun (n := n)
      rw [qbI.l0,ifq,dNl (by omega)]
      exact ⟨y,rfl,by omega,hx,fun h => by
        rcases h with h | h
        · cases h
        · exact h⟩
    | succ e ih =>
      intro i n y hi hn hy hx
      obtain ⟨n,rfl⟩ := sun (n := n)
      have h4 := hb _ (qal (show i < S.length by omega) [])
      rw [qbI.l0,ifp,ifp,tNc,qcK _ _ (by omega) k (by omega),obs,qav (show i < S.length by omega) (by omega),qaj (show i < S.length by omega) ([] : LI)]
      by_cases c : S.getD i [] = s
      · rw [decide_eq_true c,if_pos rfl,if_pos (by rw [lSi]; omega)]
        obtain ⟨l,e1,e2,e3,e4⟩ := ih (i + 1) n (y ++ [(i : Int)]) (by omega) (by omega) (by simp; omega) (fun x h => by
          rcases List.mem_append.1 h with h | h
          · exact hx x h
          · rw [List.mem_singleton] at h; omega)
        exact ⟨l,e1,e2,e3,fun _=>e4 (.inr (by simp))⟩
      · rw [decide_eq_false c,if_neg Bool.false_ne_true]
        obtain ⟨l,e1,e2,e3,e4⟩ := ih (i + 1) n y (by omega) (by omega) (by omega) hx
        exact ⟨l,e1,e2,e3,fun h => e4 (by
          rcases h with h | h
          · rcases List.mem_cons.1 h with h | h
            · exact absurd h.symm c
            · exact .inl h
          · exact .inr h)⟩
  obtain ⟨l,e1,e2,e3,e4⟩ := this S.length 0 k [] (by omega) (by omega) (Nat.le_refl _) (fun x h => by cases h)
  rw [n0] at e1
  refine ⟨l,?_,by omega,e3,fun h => e4 (.inl (by rw [dZr]; exact h))⟩
  unfold qbI.f
  rw [e1,obs]
structure Tp (L : LI) : Prop where
 len : L.length ≤ 17592186044415
 wf : ∀ x ∈ L,-9223372036854775808 ≤ x ∧ x < 9223372036854775808
theorem Tp.next {L : LI} (T : Tp L) (n : Int) (hn : 1 ≤ n) (p : Int) (h0 : 0 ≤ p) (hp : p ≤ 17592186000000) : ∃ r q,qad.f n L p = some (r,q) ∧ 0 ≤ r ∧ r < n ∧ 0 ≤ q ∧ q ≤ p + 1 := by
 obtain ⟨r,q,e,r0,r1,q0,_,_,q1⟩ := qdm n L T.len T.wf p h0 (by omega) hn
 exact ⟨r,q,e,r0,r1,q0,q1⟩
theorem qn8 {L : LI} (T : Tp L) (x7 : Int) (m : Nat) (hm : m ≤ 4) (z1 z2 z3 : Int) (z4 : ByteArray) (M : Int) (hM : M ≤ 17592185000000) : ∀ (e i : Nat) (p : Int) (y : LI) (n : Nat),m = i + e → e < n → 0 ≤ p → p ≤ M - e → y.length = i →
  ∃ q l,qae.l0 n x7 m i L p z1 z2 z3 z4 y = some (q,l) ∧ l.length = m ∧ 0 ≤ q ∧ q ≤ p + e
 | 0,i,p,y,n,hi,hn,h0,hp,hy => by
  obtain ⟨n,rfl⟩ := sun (n := n)
  rw [qae.l0,ifq]
  exact ⟨p,y,rfl,by omega,h0,by omega⟩
 | e + 1,i,p,y,n,hi,hn,h0,hp,hy => by
  obtain ⟨n,rfl⟩ := sun (n := n)
  obtain ⟨r,q,e1,r0,r1,q0,q1⟩ := T.next ((i : Int) + 1) (by omega) p h0 (by omega)
  have ht : (y.take r.toNat).length = r.toNat := by rw [lTk]; omega
  have hd : (y.drop r.toNat).length = y.length - r.toNat := List.length_drop ..
  rw [qae.l0,ifp,qav (show i < m by omega) (by omega),show ((i + 1 : Nat) : Int) = (i : Int) + 1 by omega,e1,obs]
  dsimp only
  rw [dZr,List.take_length,nAp,ifp,ifp,if_pos (by rw [lSi]; omega),ifp,if_pos (by rw [lAp,lSi]; omega)]
  obtain ⟨q',l,g1,g2,g3,g4⟩ := qn8 T x7 m hm z1 z2 z3 z4 M hM e (i + 1) q ((y.take r.toNat ++ [(i : Int)]) ++ y.drop r.toNat) n (by omega) (by omega) q0 (by omega) (by rw [lAp,lAp,lSi]; omega)
  exact ⟨q',l,g1,g2,g3,by omega⟩
theorem qlk (x7 x14 : Int) (m : Nat) (hm : m ≤ 10) (L : LI) (p z1 z2 z3 : Int) (z4 : ByteArray) (o : LI) : ∀ (e i : Nat) (y : LI) (n : Nat),m = i + e → e < n → y.length ≤ i →
  ∃ l,qae.l1 n x7 x14 m i L p z1 z2 z3 z4 o y = some l ∧ l.length ≤ m
 | 0,i,y,n,hi,hn,hy => by
  obtain ⟨n,rfl⟩ := sun (n := n)
  rw [qae.l1,ifq]
  exact ⟨y,rfl,by omega⟩
 | e + 1,i,y,n,hi,hn,hy => by
  obtain ⟨n,rfl⟩ := sun (n := n)
  rw [qae.l1,ifp,qav (show i < m by omega) (by omega)]
  by_cases c : (i : Int) = x14
  ·rw [if_pos c]
   exact qlk x7 x14 m hm L p z1 z2 z3 z4 o e (i + 1) y n (by omega) (by omega) (by omega)
  ·rw [if_neg c,if_pos (by rw [lSi]; omega)]
   exact qlk x7 x14 m hm L p z1 z2 z3 z4 o e (i + 1) _ n (by omega) (by omega) (by rw [lAp,lSi]; omega)
theorem qn7 {L : LI} (T : Tp L) (x7 : Int) (s : LI) (hs : s.length ≤ 4) (hb : ∀ x ∈ s,0 ≤ x ∧ x ≤ 32) (z1 z2 z3 : Int) (z4 : ByteArray) (M : Int) (hM : M ≤ 17592185000000) : ∀ (e i : Nat) (p : Int) (y z : LI) (n : Nat),s.length = i + e → e < n → 0 ≤ p → p ≤ M - 2 * e → y.length = i → z.length = i →
  ∃ q l r,qae.l2 n x7 s s.length i L p z1 z2 z3 z4 y z = some (q,l,r) ∧ l.length = s.length ∧ r.length = s.length ∧ 0 ≤ q ∧ q ≤ p + 2 * e
 | 0,i,p,y,z,n,hi,hn,h0,hp,hy,hz => by
  obtain ⟨n,rfl⟩ := sun (n := n)
  rw [qae.l2,ifq]
  exact ⟨p,y,z,rfl,by omega,by omega,h0,by omega⟩
 | e + 1,i,p,y,z,n,hi,hn,h0,hp,hy,hz => by
  obtain ⟨n,rfl⟩ := sun (n := n)
  have hx := hb _ (qal (show i < s.length by omega) 0)
  rw [qae.l2,ifp,ifp,tNc,qav (show i < s.length by omega) (by omega)]
  generalize s.getD i 0 = x at hx
  obtain ⟨r,q,e1,r0,r1,q0,q1⟩ := T.next (x + 1) (by omega) p h0 (by omega)
  obtain ⟨r',q',e2,r0',r1',q0',q1'⟩ := T.next (x - r + 1) (by omega) q q0 (by omega)
  rw [qak (n := x + 1) (by omega) (by omega),e1,obs,if_pos (by rw [lSi]; omega)]
  dsimp only
  rw [qak (n := x - r) (by omega) (by omega),qak (n := x - r + 1) (by omega) (by omega),e2,obs,if_pos (by rw [lSi]; omega)]
  obtain ⟨q'',l,l',g1,g2,g3,g4,g5⟩ := qn7 T x7 s hs hb z1 z2 z3 z4 M hM e (i + 1) q' (y ++ [r]) (z ++ [r']) n (by omega) (by omega) q0' (by omega) (by simp; omega) (by simp; omega)
  exact ⟨q'',l,l',g1,g2,g3,g4,by omega⟩
theorem qn6 {L : LI} (T : Tp L) (x7 : Int) (m : Nat) (hm : m ≤ 4) (z1 z2 z3 : Int) (z4 : ByteArray) (M : Int) (hM : M ≤ 17592185000000) : ∀ (e i : Nat) (p : Int) (y z : LI) (n : Nat),m = i + e → e < n → 0 ≤ p → p ≤ M - 2 * e → y.length = i → z.length = i →
  ∃ q l r,qae.l3 n x7 m i L p z1 z2 z3 z4 y z = some (q,l,r) ∧ l.length = m ∧ r.length = m ∧ 0 ≤ q ∧ q ≤ p + 2 * e
 | 0,i,p,y,z,n,hi,hn,h0,hp,hy,hz => by
  obtain ⟨n,rfl⟩ := sun (n := n)
  rw [qae.l3,ifq]
  exact ⟨p,y,z,rfl,by omega,by omega,h0,by omega⟩
 | e + 1,i,p,y,z,n,hi,hn,h0,hp,hy,hz => by
  obtain ⟨n,rfl⟩ := sun (n := n)
  obtain ⟨r,q,e1,r0,r1,q0,q1⟩ := T.next 3 (by omega) p h0 (by omega)
  obtain ⟨r',q',e2,r0',r1',q0',q1'⟩ := T.next 3 (by omega) q q0 (by omega)
  rw [qae.l3,ifp,qav (show i < m by omega) (by omega),e1,obs,if_pos (by rw [lSi]; omega)]
  dsimp only
  rw [e2,obs,if_pos (by rw [lSi]; omega)]
  obtain ⟨q'',l,l',g1,g2,g3,g4,g5⟩ := qn6 T x7 m hm z1 z2 z3 z4 M hM e (i + 1) q' (y ++ [r]) (z ++ [r']) n (by omega) (by omega) q0' (by omega) (by simp; omega) (by simp; omega)
  exact ⟨q'',l,l',g1,g2,g3,g4,by omega⟩
theorem qlj {L : LI} (T : Tp L) (x7 : Int) (m : Nat) (hm : m ≤ 4) (z1 z2 z3 : Int) (z4 : ByteArray) (M : Int) (hM : M ≤ 17592185000000) : ∀ (e i : Nat) (p : Int) (y : LI) (n : Nat),m = i + e → e < n → 0 ≤ p → p ≤ M - e → y.length ≤ i →
  ∃ q l,qae.l4 n x7 m i L p z1 z2 z3 z4 y = some (q,l) ∧ l.length ≤ m ∧ 0 ≤ q ∧ q ≤ p + e
 | 0,i,p,y,n,hi,hn,h0,hp,hy => by
  obtain ⟨n,rfl⟩ := sun (n := n)
  rw [qae.l4,ifq]
  exact ⟨p,y,rfl,by omega,h0,by omega⟩
 | e + 1,i,p,y,n,hi,hn,h0,hp,hy => by
  obtain ⟨n,rfl⟩ := sun (n := n)
  obtain ⟨r,q,e1,r0,r1,q0,q1⟩ := T.next 2 (by omega) p h0 (by omega)
  rw [qae.l4,ifp,qav (show i < m by omega) (by omega),e1,obs]
  dsimp only
  by_cases c : r = 0
  ·rw [if_pos c,if_pos (by rw [lSi]; omega)]
   obtain ⟨q',l,g1,g2,g3,g4⟩ := qlj T x7 m hm z1 z2 z3 z4 M hM e (i + 1) q (y ++ [(i : Int)]) n (by omega) (by omega) q0 (by omega) (by simp; omega)
   exact ⟨q',l,g1,g2,g3,by omega⟩
  ·rw [if_neg c]
   obtain ⟨q',l,g1,g2,g3,g4⟩ := qlj T x7 m hm z1 z2 z3 z4 M hM e (i + 1) q y n (by omega) (by omega) q0 (by omega) (by omega)
   exact ⟨q',l,g1,g2,g3,by omega⟩
theorem qoE {L : LI} (T : Tp L) (S : List LI) (hS : S.length ≤ 100) (a : Int) (ha0 : 0 ≤ a) (ha : a < (S.length : Int)) (p : Int) (h0 : 0 ≤ p) (hp : p ≤ 17592184000000) (k : Nat) (hk : 250000 ≤ k) :
  ∃ op n h q i A,qao.f k S a L p = some (op,n,h,ByteArray.empty,q,i,A) ∧ 0 ≤ q ∧ q ≤ p + 100 ∧ i.length ≤ 3 ∧ A.length ≤ 100 ∧ (∀ x ∈ i,0 ≤ x ∧ x < (S.length : Int)) := by
 have l1 : ∀ (x8 x9 : Int) (_ : 0 ≤ x9 ∧ x9 < (S.length : Int)) (y0 : LI) (y1 z1 z2 z3 : Int) (z4 : ByteArray) (s : LI) (n : Nat) (hn : 3 ≤ n),∃ u,qao.l1 k n S a s x8 x9 0 y0 y1 z1 z2 z3 z4 = some u ∧ (u = .inl () ∨ ∃ A : LI,u = .inr (19,0,0,ByteArray.empty,[a,x9],A) ∧ A.length ≤ 1) := by
  intro x8 x9 h9 y0 y1 z1 z2 z3 z4 s n hn
  have step : ∀ (e : Nat) (i : Int) (n : Nat),i + e = 2 → e < n → 0 ≤ i → ∃ u,qao.l1 k n S a s x8 x9 i y0 y1 z1 z2 z3 z4 = some u ∧ (u = .inl () ∨ ∃ A : LI,u = .inr (19,0,0,ByteArray.empty,[a,x9],A) ∧ A.length ≤ 1) := by
   intro e
   induction e with
   | zero =>
    intro i n hi hn h0
    obtain ⟨n,rfl⟩ := sun (n := n)
    rw [qao.l1,ifq]
    exact ⟨_,rfl,.inl rfl⟩
   | succ e ih =>
    intro i n hi hn h0
    obtain ⟨n,rfl⟩ := sun (n := n)
    rw [qao.l1,ifp,ifp,qet _ _ _ _ _ _ _ _ (by simp) (by simp) k (by simp; omega),obs,qak (n := i + 1) (by omega) (by omega)]
    have nx := ih (i + 1) n (by omega) (by omega) (by omega)
    split
    ·rename_i c
     rw [qde _ k (by omega),obs]
     split
     ·exact ⟨_,rfl,.inr ⟨_,rfl,by simp⟩⟩
     ·exact nx
    ·exact nx
  exact step 2 0 n (by omega) (by omega) (by omega)
 have l0 : ∀ (s : LI) (z1 z2 z3 : Int) (z4 : ByteArray) (M : Int) (_ : M ≤ 17592185000000) (e i : Nat) (p : Int) (n : Nat),S.length = i + e → e + 5 < n → 0 ≤ p → p ≤ M - e →
   ∃ u,qao.l0 k n S a s i L p z1 z2 z3 z4 = some u ∧ ((∃ q,u = .inl q ∧ 0 ≤ q ∧ q ≤ p + e) ∨ ∃ q x9 A,u = .inr (q,19,0,0,ByteArray.empty,[a,x9],A) ∧ 0 ≤ q ∧ q ≤ p + e ∧ A.length ≤ 1 ∧ 0 ≤ x9 ∧ x9 < (S.length : Int)) := by
  intro s z1 z2 z3 z4 M hM e
  induction e with
  | zero =>
   intro i p n hi hn h0 hp
   obtain ⟨n,rfl⟩ := sun (n := n)
   rw [qao.l0,ifq]
   exact ⟨_,rfl,.inl ⟨p,rfl,h0,by omega⟩⟩
  | succ e ih =>
   intro i p n hi hn h0 hp
   obtain ⟨n,rfl⟩ := sun (n := n)
   obtain ⟨r,q,e1,r0,r1,q0,q1⟩ := T.next 3 (by omega) p h0 (by omega)
   have hm : (IntKind.i64.wrap ((i : Int) + r)).tmod (S.length : Int) = ((i : Int) + r) % (S.length : Int) := by
    rw [qak (n := (i : Int) + r) (by omega) (by omega),Int.tmod_eq_emod_of_nonneg (by omega)]
   have hx9 : 0 ≤ (IntKind.i64.wrap ((i : Int) + r)).tmod (S.length : Int) ∧ (IntKind.i64.wrap ((i : Int) + r)).tmod (S.length : Int) < (S.length : Int) := by
    rw [hm]
    exact ⟨Int.emod_nonneg _ (by omega),Int.emod_lt_of_pos _ (by omega)⟩
   obtain ⟨u,g1,g2⟩ := l1 i _ hx9 L q z1 z2 z3 z4 s n (by omega)
   rw [qao.l0,ifp,e1,obs,ifp]
   dsimp only
   rw [g1,obs,qav (show i < S.length by omega) (by omega)]
   rcases g2 with rfl | ⟨A,rfl,hA⟩
   ·obtain ⟨u,f1,f2⟩ := ih (i + 1) q n (by omega) (by omega) q0 (by omega)
    refine ⟨u,f1,?_⟩
    rcases f2 with ⟨q',a1,a2,a3⟩ | ⟨q',x9,A,a1,a2,a3,a4⟩
    ·exact .inl ⟨q',a1,a2,by omega⟩
    ·exact .inr ⟨q',x9,A,a1,a2,by omega,a4⟩
   ·exact ⟨_,rfl,.inr ⟨q,_,A,rfl,q0,by omega,hA,hx9⟩⟩
 obtain ⟨u,f1,f2⟩ := l0 (S.getD a.toNat []) 0 0 0 ByteArray.empty (p + S.length) (by omega) S.length 0 p k (by omega) (by omega) h0 (by omega)
 rw [n0] at f1
 unfold qao.f
 rw [if_pos ⟨ha0,ha⟩,f1,obs]
 rcases f2 with ⟨q',rfl,a2,a3⟩ | ⟨q',x9,A,rfl,a2,a3,a4,a5⟩
 ·exact ⟨5,0,0,q',[a],[],rfl,a2,by omega,by simp,by simp,fun x h => by rw [List.mem_singleton] at h; omega⟩
 ·exact ⟨19,0,0,q',[a,x9],A,rfl,a2,by omega,by simp,by omega,fun x h => by
   rcases List.mem_cons.1 h with h | h
   ·omega
   ·rw [List.mem_singleton] at h; omega⟩
def nodeG (k : Nat) (o0_0 : LI) (o0_1 : Int) : Option (Int × LI × LI × Int × Int × ByteArray × Int × LI) := (qad.f 4 o0_0 o0_1).bind fun t1 => if t1.1 = 0 then ((qaw.f k o0_0 t1.2).bind fun t2 => (qbf.f o0_0 t2.1).bind fun t3 => some (2,[],t2.2,t3.1,0,ByteArray.empty,t3.2,[])) else if t1.1 = 1 then ((qaw.f k o0_0 t1.2).bind fun t4 => if ([3] : LI).length + t4.2.length ≤ 281474976710656 ∧ (([3] : LI).length + t4.2.length) * 8 ≤ 140737488355328 then if 3 < ((([3] : LI) ++ t4.2).length : Int) then (if 0 ≤ ((0 : Nat) : Int) ∧ ((0 : Nat) : Int) ≤ 3 ∧ 3 ≤ ((([3] : LI) ++ t4.2).length : Int) then (qad.f ((3 - 0 : Nat) : Int) o0_0 t4.1).bind fun t5 => some (3,[],((([3] : LI) ++ t4.2).take 3).drop 0,0,0,ByteArray.empty,t5.2,[t5.1]) else none) else (qad.f ((([3] : LI) ++ t4.2).length : Int) o0_0 t4.1).bind fun t6 => some (3,[],([3] : LI) ++ t4.2,0,0,ByteArray.empty,t6.2,[t6.1]) else none) else (qaw.f k o0_0 t1.2).bind fun t7 => some (1,[],t7.2,0,0,ByteArray.empty,t7.1,[])
def NodeOK (S : List LI) (M : Int) (o : Option (Int × LI × LI × Int × Int × ByteArray × Int × LI)) : Prop :=
 ∃ op i s n h q a,o = some (op,i,s,n,h,ByteArray.empty,q,a) ∧ 0 ≤ q ∧ q ≤ M ∧ i.length ≤ 3 ∧ a.length ≤ 100 ∧ s.length ≤ 10 ∧ (∀ x ∈ i,0 ≤ x ∧ x < (S.length : Int))
theorem qpE {L : LI} (T : Tp L) (S : List LI) (p : Int) (h0 : 0 ≤ p) (hp : p ≤ 17592184000000) (k : Nat) (hk : 250000 ≤ k) : NodeOK S (p + 100) (nodeG k L p) := by
 have fin : ∀ {op n h q : Int} {s a : LI},0 ≤ q → q ≤ p + 100 → s.length ≤ 10 → a.length ≤ 100 → NodeOK S (p + 100) (some (op,[],s,n,h,ByteArray.empty,q,a)) := fun h1 h2 h3 h4 => ⟨_,_,_,_,_,_,_,rfl,h1,h2,by simp,h4,h3,fun x h => by cases h⟩
 unfold nodeG
 obtain ⟨r,q,e1,r0,r1,q0,q1⟩ := T.next 4 (by omega) p h0 (by omega)
 obtain ⟨q',s,e2,s1,s2,s3,s4⟩ := qmG L T.len T.wf q q0 (by omega) k (by omega)
 rw [e1,obs]
 dsimp only
 rw [e2,obs,obs]
 by_cases c1 : r = 0
 ·obtain ⟨m,q2,e3,m1,m2⟩ := qhz L T.len T.wf q' s3 (by omega)
  rw [if_pos c1]
  dsimp only
  rw [e3,obs]
  exact fin m1 (by dsimp only; omega) (by omega) (by simp)
 by_cases c2 : r = 1
 ·rw [if_neg c1,if_pos c2]
  dsimp only
  have hl : (([3] : LI) ++ s).length = s.length + 1 := by simp
  rw [if_pos (by rw [lSi]; omega)]
  by_cases c3 : 3 < ((([3] : LI) ++ s).length : Int)
  ·obtain ⟨v,q2,e3,v0,v1,v2,v3⟩ := T.next 3 (by omega) q' s3 (by omega)
   rw [if_pos c3,ifp,show ((3 - 0 : Nat) : Int) = 3 from rfl,e3,obs]
   exact fin v2 (by dsimp only; omega) (by rw [dZr,lTk]; omega) (by simp)
  ·obtain ⟨v,q2,e3,v0,v1,v2,v3⟩ := T.next (([3] : LI) ++ s).length (by omega) q' s3 (by omega)
   rw [if_neg c3,e3,obs]
   exact fin v2 (by dsimp only; omega) (by omega) (by simp)
 rw [if_neg c1,if_neg c2]
 exact fin s3 (by omega) (by dsimp only; omega) (by simp)
set_option maxHeartbeats 1000000 in
theorem qny {L : LI} (T : Tp L) (S : List LI) (hS : S.length ≤ 100) (hb : ∀ s ∈ S,s.length ≤ 4 ∧ ∀ x ∈ s,0 ≤ x ∧ x ≤ 32) (p : Int) (h0 : 0 ≤ p) (hp : p ≤ 17592183000000) (k : Nat) (hk : 250000 ≤ k) : NodeOK S (p + 200) (qae.f k S L p) := by
 unfold qae.f
 by_cases c0 : (S.length : Int) = 0
 ·rw [if_pos c0]
  obtain ⟨op,i,s,n,h,q',a,g1,g2,g3,g4⟩ := qpE T S p h0 (by omega) k hk
  exact ⟨op,i,s,n,h,q',a,g1,g2,by omega,g4⟩
 rw [if_neg c0]
 obtain ⟨r,q,e1,r0,r1,q0,q1⟩ := T.next 5 (by omega) p h0 (by omega)
 rw [e1,obs]
 dsimp only
 by_cases c1 : r = 0
 ·rw [if_pos c1]
  have hz := qpE T S q q0 (by omega) k hk
  obtain ⟨op,i,s,n,h,q',a,g1,g2,g3,g4⟩ := hz
  unfold nodeG at g1
  exact ⟨op,i,s,n,h,q',a,g1,g2,by omega,g4⟩
 rw [if_neg c1]
 obtain ⟨a,q2,e2,a0,a1,b0,b1⟩ := T.next S.length (by omega) q q0 (by omega)
 rw [e2,obs,if_pos ⟨a0,a1⟩]
 obtain ⟨z,q3,e3,z0,z1,d0,d1⟩ := T.next 12 (by omega) q2 b0 (by omega)
 have hs := hb _ (qal (show a.toNat < S.length by omega) [])
 have hmem : S.getD a.toNat [] ∈ S := qal (show a.toNat < S.length by omega) []
 dsimp only
 rw [e3,obs]
 dsimp only
 generalize S.getD a.toNat [] = s at hs hmem
 obtain ⟨hs4,hs32⟩ := hs
 obtain ⟨sl,es,sl1,sl2,sl3⟩ := qlt S s hS (fun x h => (hb x h).1) k (by omega)
 have sl3 := sl3 hmem
 have slm : ∀ j : Int,0 ≤ j → j < (sl.length : Int) → 0 ≤ sl.getD j.toNat 0 ∧ sl.getD j.toNat 0 < (S.length : Int) := fun j h0 h1 => sl2 _ (qal (by omega) 0)
 have fin : ∀ {op n h q : Int} {i s a : LI},0 ≤ q → q ≤ p + 200 → i.length ≤ 3 → (∀ x ∈ i,0 ≤ x ∧ x < (S.length : Int)) → s.length ≤ 10 → a.length ≤ 100 → NodeOK S (p + 200) (some (op,i,s,n,h,ByteArray.empty,q,a)) := fun h1 h2 h5 h6 h3 h4 => ⟨_,_,_,_,_,_,_,rfl,h1,h2,h5,h4,h3,h6⟩
 have one : ∀ x ∈ [a],0 ≤ x ∧ x < (S.length : Int) := fun x h => by rw [List.mem_singleton] at h; omega
 have two : ∀ {b : Int},(0 ≤ b ∧ b < (S.length : Int)) → ∀ x ∈ [a,b],0 ≤ x ∧ x < (S.length : Int) := fun hb x h => by
  rcases List.mem_cons.1 h with h | h
  ·omega
  ·rw [List.mem_singleton] at h; omega
 have three : ∀ {b c : Int},(0 ≤ b ∧ b < (S.length : Int)) → (0 ≤ c ∧ c < (S.length : Int)) → ∀ x ∈ [a,b,c],0 ≤ x ∧ x < (S.length : Int) := fun hb hc x h => by
  rcases List.mem_cons.1 h with h | h
  ·omega
  rcases List.mem_cons.1 h with h | h
  ·omega
  ·rw [List.mem_singleton] at h; omega
 by_cases k0 : z = 0
 ·obtain ⟨t,q4,e4,t0,t1,f0,f1⟩ := T.next 2 (by omega) q3 d0 (by omega)
  rw [if_pos k0,e4,obs]
  exact fin f0 (by dsimp only; omega) (by simp) one (by simp) (by simp)
 rw [if_neg k0]
 have two' : ∀ (_ : z = 1 ∨ z = 2),NodeOK S (p + 200) ((qbI.f k S s).bind fun t19 => (qad.f 6 L q3).bind fun t20 => (qad.f (t19.length : Int) L t20.2).bind fun t21 => if 0 ≤ t21.1 ∧ t21.1 < (t19.length : Int) then if t21.1.toNat < t19.length then some (IntKind.i64.wrap (6 + t20.1),[a,t19.getD t21.1.toNat 0],[],0,0,ByteArray.empty,t21.2,[]) else none else none) := fun _=>by
  obtain ⟨t,q4,e4,t0,t1,f0,f1⟩ := T.next 6 (by omega) q3 d0 (by omega)
  obtain ⟨u,q5,e5,u0,u1,f0',f1'⟩ := T.next sl.length (by omega) q4 f0 (by omega)
  rw [es,obs,e4,obs]
  dsimp only
  rw [e5,obs,if_pos ⟨u0,u1⟩,if_pos (by dsimp only; omega)]
  exact fin f0' (by dsimp only; omega) (by simp) (two (slm _ u0 u1)) (by simp) (by simp)
 by_cases k1 : z = 1
 ·rw [if_pos k1]; exact two' (.inl k1)
 rw [if_neg k1]
 by_cases k2 : z = 2
 ·rw [if_pos k2]; exact two' (.inr k2)
 rw [if_neg k2]
 by_cases k3 : z = 3
 ·rw [if_pos k3,es,obs]
  obtain ⟨t,q4,e4,t0,t1,f0,f1⟩ := T.next sl.length (by omega) q3 d0 (by omega)
  obtain ⟨u,q5,e5,u0,u1,f0',f1'⟩ := T.next sl.length (by omega) q4 f0 (by omega)
  rw [e4,obs,if_pos ⟨t0,t1⟩,if_pos (by dsimp only; omega)]
  dsimp only
  rw [e5,obs,if_pos ⟨u0,u1⟩,if_pos (by dsimp only; omega)]
  exact fin f0' (by dsimp only; omega) (by simp) (three (slm _ t0 t1) (slm _ u0 u1)) (by simp) (by simp)
 rw [if_neg k3]
 by_cases k4 : z = 4
 ·obtain ⟨q4,l,g1,g2,g3,g4⟩ := qn8 T a s.length hs4 0 0 0 ByteArray.empty (q3 + s.length) (by omega) s.length 0 q3 [] k (by omega) (by omega) d0 (by omega) rfl
  rw [n0] at g1
  rw [if_pos k4,g1,obs]
  exact fin g3 (by dsimp only; omega) (by simp) one (by simp) (by dsimp only; omega)
 rw [if_neg k4]
 by_cases k5 : z = 5
 ·rw [if_pos k5]
  by_cases c : 2 < (s.length : Int)
  ·rw [if_pos c]
   exact fin d0 (by omega) (by simp) one (by simp) (by simp)
  obtain ⟨t,q4,e4,t0,t1,f0,f1⟩ := T.next ((s.length : Int) + 1) (by omega) q3 d0 (by omega)
  obtain ⟨u,q5,e5,u0,u1,f0',f1'⟩ := T.next 4 (by omega) q4 f0 (by omega)
  have hA : (s.take t.toNat ++ [IntKind.i64.wrap (1 + u)] ++ s.drop t.toNat).length = s.length + 1 := by
   rw [lAp,lAp,lSi,lTk,List.length_drop]; omega
  obtain ⟨l,g1,g2⟩ := qlk a t (s.take t.toNat ++ [IntKind.i64.wrap (1 + u)] ++ s.drop t.toNat).length (by omega) L q5 0 0 0 ByteArray.empty (s.take t.toNat ++ [IntKind.i64.wrap (1 + u)] ++ s.drop t.toNat) _ 0 [] k (Nat.zero_add _).symm (by omega) (Nat.le_refl _)
  rw [n0] at g1
  rw [if_neg c,qak (n := (s.length : Int) + 1) (by omega) (by omega),e4,obs]
  dsimp only
  rw [dZr,List.take_length,nAp,ifp,if_pos (by rw [lTk]; omega),e5,obs]
  dsimp only
  rw [if_pos (by rw [lSi,lTk]; omega),ifp,if_pos (by rw [lAp,lSi,lTk,List.length_drop]; omega),g1,obs]
  exact fin f0' (by omega) (by simp) one (by omega) (by omega)
 rw [if_neg k5]
 by_cases k6 : z = 6
 ·obtain ⟨q4,l,l',g1,g2,g3,g4,g5⟩ := qn7 T a s hs4 hs32 0 0 0 ByteArray.empty (q3 + 2 * s.length) (by omega) s.length 0 q3 [] [] k (by omega) (by omega) d0 (by omega) rfl rfl
  rw [n0] at g1
  rw [if_pos k6,g1,obs,if_pos (by dsimp only; omega)]
  exact fin g4 (by dsimp only; omega) (by simp) one (by simp) (by dsimp only; rw [lAp]; omega)
 rw [if_neg k6]
 by_cases k7 : z = 7
 ·obtain ⟨q4,l,l',g1,g2,g3,g4,g5⟩ := qn6 T a s.length hs4 0 0 0 ByteArray.empty (q3 + 2 * s.length) (by omega) s.length 0 q3 [] [] k (by omega) (by omega) d0 (by omega) rfl rfl
  obtain ⟨m,q5,e5,m1,m2⟩ := qhz L T.len T.wf q4 g4 (by omega)
  rw [n0] at g1
  rw [if_pos k7,g1,obs,if_pos (by dsimp only; omega)]
  dsimp only
  rw [e5,obs]
  exact fin m1 (by dsimp only; omega) (by simp) one (by simp) (by rw [lAp]; omega)
 rw [if_neg k7]
 by_cases k8 : z = 8
 ·rw [if_pos k8,es,obs]
  by_cases c : (s.length : Int) = 0
  ·rw [if_pos c]
   exact fin d0 (by omega) (by simp) one (by simp) (by simp)
  obtain ⟨t,q4,e4,t0,t1,f0,f1⟩ := T.next sl.length (by omega) q3 d0 (by omega)
  obtain ⟨u,q5,e5,u0,u1,f0',f1'⟩ := T.next 2 (by omega) q4 f0 (by omega)
  obtain ⟨v,q6,e6,v0,v1,f0'',f1''⟩ := T.next s.length (by omega) q5 f0' (by omega)
  rw [if_neg c,e4,obs,if_pos ⟨t0,t1⟩,if_pos (by dsimp only; omega)]
  dsimp only
  rw [e5,obs]
  dsimp only
  rw [qak (n := 2 + u) (by omega) (by omega),if_pos ⟨by omega,by omega,by simp; omega⟩,e6,obs]
  have h3 := three (slm _ t0 t1) (show 0 ≤ a ∧ a < (S.length : Int) from ⟨a0,a1⟩)
  exact fin f0'' (by dsimp only; omega) (by rw [dZr,lTk]; simp; omega) (fun x h => h3 x (by rw [dZr] at h; exact List.mem_of_mem_take h)) (by simp) (by simp)
 rw [if_neg k8]
 by_cases k9 : z = 9
 ·obtain ⟨q4,l,g1,g2,g3,g4⟩ := qlj T a s.length hs4 0 0 0 ByteArray.empty (q3 + s.length) (by omega) s.length 0 q3 [] k (by omega) (by omega) d0 (by omega) (Nat.le_refl _)
  obtain ⟨u,q5,e5,u0,u1,f0',f1'⟩ := T.next 4 (by omega) q4 g3 (by omega)
  rw [n0] at g1
  rw [if_pos k9,g1,obs]
  dsimp only
  rw [e5,obs]
  exact fin f0' (by dsimp only; omega) (by simp) one (by simp) (by omega)
 rw [if_neg k9]
 by_cases k10 : z = 10
 ·obtain ⟨op,n,h,q4,i,A,g1,g2,g3,g4,g5,g6⟩ := qoE T S hS a a0 a1 q3 d0 (by omega) k hk
  rw [if_pos k10,g1,obs]
  exact fin g2 (by dsimp only; omega) g4 g6 (by simp) g5
 rw [if_neg k10]
 by_cases c : (s.length : Int) = 0
 ·rw [if_pos c]
  exact fin d0 (by omega) (by simp) one (by simp) (by simp)
 obtain ⟨t,q4,e4,t0,t1,f0,f1⟩ := T.next s.length (by omega) q3 d0 (by omega)
 obtain ⟨u,q5,e5,u0,u1,f0',f1'⟩ := T.next 3 (by omega) q4 f0 (by omega)
 obtain ⟨v,q6,e6,v0,v1,f2,f3⟩ := T.next 2 (by omega) q5 f0' (by omega)
 obtain ⟨w,q7,e7,w0,w1,f4,f5⟩ := T.next 4 (by omega) q6 f2 (by omega)
 rw [if_neg c,e4,obs]
 dsimp only
 rw [e5,obs]
 dsimp only
 rw [e6,obs]
 dsimp only
 rw [e7,obs]
 exact fin f4 (by dsimp only; omega) (by simp) one (by simp) (by simp)
end Go.Pf

namespace Go.Pf
open Go Go.Vm
theorem qn9 {l : LI} : ∀ (e i : Nat),nR l e i = true → ∀ j,i ≤ j → j < i + e → nmay (l.getD j 0) = true ∧ l.getD j 0 ∉ l.take j
 | 0,i,_,j,h1,h2 => by omega
 | e + 1,i,h,j,h1,h2 => by
  rw [nR,bAt,bAt,Bool.not_eq_true',decide_eq_false_iff_not] at h
  by_cases c : j = i
  ·subst c; exact h.1
  ·exact qn9 e (i + 1) h.2 j (by omega) (by omega)
theorem qi8 {l : LI} {n : Int} (h : zNR l n = true) : ((l.length : Int) = n ∧ n ≤ 3) ∧ ∀ j,j < l.length → nmay (l.getD j 0) = true ∧ l.getD j 0 ∉ l.take j := by
 unfold zNR at h
 rw [bAt,decide_eq_true_eq] at h
 exact ⟨h.1,fun j hj => qn9 l.length 0 h.2 j (by omega) (by omega)⟩
theorem qq0 {l : LI} {n : Int} (h : zNR l n = true) {j : Nat} (hj : j < l.length) : fnd l (l.getD j 0) = (j : Int) := by
 obtain ⟨_,hs⟩ := qi8 h
 have tk : ∀ i j : Nat,i < j → j < l.length → l.getD i 0 ∈ l.take j := fun i j hij hj => by
  have : (l.take j).getD i 0 = l.getD i 0 := by
   rw [gDg,List.getElem?_take,if_pos hij,gDg]
  rw [← this]
  exact qal (by rw [lTk]; omega) _
 rcases qjM l (l.getD j 0) with ⟨h1,h2⟩ | ⟨i,h1,h2,h3,h4⟩
 ·exact absurd (qal hj _) h2
 ·rw [h1]
  rcases Nat.lt_trichotomy i j with c | c | c
  ·exact absurd (by rw [← h3]; exact tk i j c hj) (hs j hj).2
  ·rw [c]
  ·exact absurd (tk j i c h2) h4
def zTx (nm : LI) (k : Int) : Int := if k < 0 ∨ (nm.length : Int) ≤ k then 46 else nm.getD k.toNat 0
theorem qgk : ∀ l : LI,(enc l).size ≤ 4 * l.length
 | [] => Nat.le_refl _
 | r :: l => by
  have h := qgk l
  have : (Utf8.encode r).size ≤ 4 := by
   unfold Utf8.encode
   dsimp only
   generalize (if Utf8.valid r = true then r.toNat else Utf8.runeError) = c
   by_cases c1 : c < 128
   ·rw [if_pos c1]; show 1 ≤ 4; omega
   by_cases c2 : c < 2048
   ·rw [if_neg c1,if_pos c2]; show 2 ≤ 4; omega
   by_cases c3 : c < 65536
   ·rw [if_neg c1,if_neg c2,if_pos c3]; show 3 ≤ 4; omega
   ·rw [if_neg c1,if_neg c2,if_neg c3]; exact Nat.le_refl _
  rw [enc,qaL,lCo]; omega
theorem qom : Utf8.encode 46 = ByteArray.mk #[46] := rfl
theorem qpd (l : LI) (r : Int) : enc (l ++ [r]) = enc l ++ Utf8.encode r := by
 rw [qon,enc,enc,qe3]
theorem qhI (nm : ByteArray) (hn : nm.size ≤ 100000) (sp : LI) (hs : sp.length ≤ 1000) (k : Nat) (hk : 300000 ≤ k) : qb0.f k nm sp = some (enc (sp.map (zTx (rs nm)))) := by
 unfold qb0.f
 rw [qdX nm (by omega) k (by omega),obs]
 generalize rs nm = l
 have := iter0 (L := fun n i y => qb0.l0 n sp y sp.length i l) (st := fun i => enc ((sp.take i).map (zTx l))) (fun _=>enc (sp.map (zTx l))) (m := sp.length) 0
  (fun n _ => by rw [qb0.l0,ifq,List.take_length])
  (fun i n hi _ ih => by
   have hz := qgk ((sp.take i).map (zTx l))
   have hz2 := qgk [zTx l (sp.getD i 0)]
   rw [enc,enc,qe3,lSi] at hz2
   rw [List.length_map,lTk] at hz
   rw [qdn hi,List.map_append,List.map_cons,List.map_nil,qpd] at ih
   rw [qb0.l0,ifp,ifp,tNc,qav hi (by omega)]
   by_cases c1 : sp.getD i 0 < 0
   ·have e : zTx l (sp.getD i 0) = 46 := if_pos (.inl c1)
    rw [e,qom] at ih hz2
    rw [if_pos c1,ifp,ih]
   by_cases c2 : (l.length : Int) ≤ sp.getD i 0
   ·have e : zTx l (sp.getD i 0) = 46 := if_pos (.inr c2)
    rw [e,qom] at ih hz2
    rw [if_neg c1,if_pos c2,ifp,ih]
   ·have e : zTx l (sp.getD i 0) = l.getD (sp.getD i 0).toNat 0 := ifq
    rw [e] at ih hz2
    rw [if_neg c1,if_neg c2,ifp,ifp,ifp,ih]) k (by omega)
 have e0 : enc ((sp.take 0).map (zTx l)) = ByteArray.empty := by rw [List.take_zero,List.map_nil,enc]
 rw [e0] at this
 rw [this,obs]
theorem qn2 {m : Int} {pre : LI} {k : Int} {r : LI} (h : okGo m pre (k :: r) = true) : (-1 ≤ k ∧ k < m) ∧ (k = -1 ∨ k ∉ pre) ∧ okGo m (pre ++ [k]) r = true := by
 simp only [okGo,bAt,Bool.or_eq_true,decide_eq_true_eq,Bool.not_eq_true',decide_eq_false_iff_not] at h
 exact ⟨h.1.1,h.1.2,h.2⟩
theorem qlM {nm : LI} {n : Int} (h : zNR nm n = true) : ∀ (sp y : LI),okGo nm.length y sp = true → zNl nm (sp.map (zTx nm)) y = some (y ++ sp)
 | [],y,_ => by rw [List.map_nil,zNl,List.append_nil]
 | k :: r,y,ho => by
  obtain ⟨h1,h2,h3⟩ := qn2 ho
  have ih := qlM h r (y ++ [k]) h3
  rw [List.map_cons,zNl]
  by_cases c : k < 0
  ·have e : zTx nm k = 46 := if_pos (.inl c)
   have : k = -1 := by omega
   subst this
   rw [e,if_neg (by decide),if_pos rfl,ih,aAs]; rfl
  ·have e : zTx nm k = nm.getD k.toNat 0 := ifq
   have hk : k.toNat < nm.length := by omega
   have hm := of_decide_eq_true ((qi8 h).2 _ hk).1
   rw [e,ifq,ifq,qq0 h hk,show ((k.toNat : Nat) : Int) = k by omega,if_neg (by rintro (h | h); exact c h; exact (h2.resolve_left (by omega)) h),ih,aAs]; rfl
theorem qnf {nm : LI} (hv : ∀ r ∈ nm,Utf8.valid r = true) (k : Int) : Utf8.valid (zTx nm k) = true := by
 unfold zTx
 split
 ·rfl
 ·exact hv _ (qal (by omega) 0)
theorem qn5 {nm : LI} {n : Int} (h : zNR nm n = true) (hv : ∀ r ∈ nm,Utf8.valid r = true) {sp : LI} (ho : okGo nm.length [] sp = true) (hl : sp.length ≤ 16) : (zNote nm (rs (enc (sp.map (zTx nm)))) sp.length).2.1 = 0 := by
 rw [qpv (fun r hr => by
  obtain ⟨k,_,rfl⟩ := List.mem_map.1 hr
  exact qnf hv k)]
 unfold zNote
 rw [List.length_map,ifq,qlM h sp [] ho,nAp]
 dsimp only
 by_cases c : sp.length = 0
 ·rw [if_pos c]
 ·rw [if_neg c,if_pos rfl]
theorem qmT (nm : LI) (rank : Int) : (zNote nm (rs ByteArray.empty) rank).2.1 = 0 := rfl
structure MeshOK (nm : ByteArray) (s : LI) : Prop where
 size : nm.size ≤ 10
 ms : zMs s (rs nm) = true
 val : ∀ r ∈ rs nm,Utf8.valid r = true
theorem MeshOK.mk' {nm : ByteArray} {s l : LI} (h1 : nm.size ≤ 10) (h2 : nm = enc l) (h3 : l.all Utf8.valid = true) (h4 : zMs s l = true) : MeshOK nm s := by
 have hv : ∀ r ∈ l,Utf8.valid r = true := List.all_eq_true.1 h3
 have e : rs nm = l := by rw [h2,qpv hv]
 exact ⟨h1,by rw [e]; exact h4,by rw [e]; exact hv⟩
theorem MeshOK.right {nm : ByteArray} {s : LI} (h : MeshOK nm s) : mR s = true ∧ zNR (rs nm) s.length = true ∧ (rs nm).length = s.length := by
 have := h.ms
 unfold zMs at this
 rw [bAt] at this
 exact ⟨this.1,this.2,by have := (qi8 this.2).1.1; omega⟩
theorem qqS : (ByteArray.mk #[120]) = enc [120] := rfl
theorem qqR : (ByteArray.mk #[121,195,169]) = enc [121,233] := by decide
theorem qqQ : (ByteArray.mk #[97,98,228,184,150]) = enc [97,98,19990] := by decide
end Go.Pf

namespace Go.Pf
open Go Go.Vm
theorem qnz {L : LI} (T : Tp L) : ∃ nm q s,qcV.f L 0 = some (nm,q,s) ∧ 0 ≤ q ∧ q ≤ 1 ∧ MeshOK nm s := by
 obtain ⟨r,q,e,r0,r1,q0,q1⟩ := T.next 10 (by omega) 0 (by omega) (by omega)
 have m0 : MeshOK ByteArray.empty [] := MeshOK.mk' (l := []) (by decide) rfl rfl rfl
 have m1 : ∀ s : LI,zMs s [120] = true → MeshOK (ByteArray.mk #[120]) s := fun s h => MeshOK.mk' (by decide) qqS (by decide) h
 have m2 : ∀ s : LI,zMs s [121,233] = true → MeshOK (ByteArray.mk #[121,195,169]) s := fun s h => MeshOK.mk' (by decide) qqR (by decide) h
 have m3 : ∀ s : LI,zMs s [97,98,19990] = true → MeshOK (ByteArray.mk #[97,98,228,184,150]) s := fun s h => MeshOK.mk' (by decide) qqQ (by decide) h
 unfold qcV.f
 rw [e,obs]
 have : r = 0 ∨ r = 1 ∨ r = 2 ∨ r = 3 ∨ r = 4 ∨ r = 5 ∨ r = 6 ∨ r = 7 ∨ r = 8 ∨ r = 9 := by omega
 rcases this with rfl | rfl | rfl | rfl | rfl | rfl | rfl | rfl | rfl | rfl
 ·exact ⟨_,q,[2],rfl,q0,by omega,m1 _ (by decide)⟩
 ·exact ⟨_,q,[3],rfl,q0,by omega,m1 _ (by decide)⟩
 ·exact ⟨_,q,[2,2],rfl,q0,by omega,m2 _ (by decide)⟩
 ·exact ⟨_,q,[4],rfl,q0,by omega,m1 _ (by decide)⟩
 ·exact ⟨_,q,[2,3],rfl,q0,by omega,m2 _ (by decide)⟩
 ·exact ⟨_,q,[],rfl,q0,by omega,m0⟩
 ·exact ⟨_,q,[2,2,2],rfl,q0,by omega,m3 _ (by decide)⟩
 ·exact ⟨_,q,[5],rfl,q0,by omega,m1 _ (by decide)⟩
 ·exact ⟨_,q,[1,3],rfl,q0,by omega,m2 _ (by decide)⟩
 ·exact ⟨_,q,[8],rfl,q0,by omega,m1 _ (by decide)⟩
theorem qlQ {out : List LI} : ∀ {l : LI},(∀ x ∈ l,0 ≤ x ∧ x < (out.length : Int)) → zIn out l = some (l.map fun x => out.getD x.toNat [])
 | [],_ => rfl
 | x :: l,h => by
  have := h x (List.mem_cons_self ..)
  rw [zIn,ifq,qlQ fun y hy => h y (mCm _ hy)]; rfl
theorem qo6 (i : LI) (hi : i.length ≤ 10) (S : List LI) (h : ∀ x ∈ i,0 ≤ x ∧ x < (S.length : Int)) (x6 : Int) (y0 : ByteArray) (L : LI) (p : Int) (y2 : ByteArray) (z1 : Int) (z2 z3 : LI) (z4 z5 : Int) (z6 : ByteArray) (y6 : LI) (y7 : List Nd) (y8 : LI) (n : Nat) (hn : 11 ≤ n) :
  qau.l1 n x6 i i.length 0 y0 L p y2 S z1 z2 z3 z4 z5 z6 [] y6 y7 y8 = some (i.map fun x => S.getD x.toNat []) := by
 have := iter0 (L := fun n j y => qau.l1 n x6 i i.length j y0 L p y2 S z1 z2 z3 z4 z5 z6 y y6 y7 y8) (st := fun j => (i.take j).map fun x => S.getD x.toNat []) (fun _=>i.map fun x => S.getD x.toNat []) (m := i.length) 0
  (fun n _ => by rw [qau.l1,ifq,List.take_length])
  (fun j n hj _ ih => by
   have hx := h _ (qal hj 0)
   rw [qdn hj,List.map_append,List.map_cons,List.map_nil] at ih
   rw [qau.l1,ifp,ifp,tNc,if_pos hx,ifp,if_pos (by rw [List.length_map,lTk,lSi]; omega),qav hj (by omega),ih]) n (by omega)
 rw [List.take_zero,List.map_nil] at this
 exact this
theorem qlR (nm : LI) (x : Nd) : ∀ (N : List Nd) (o : List LI),(zGo nm N o).1 = 0 → zGo nm (N ++ [x]) o = if (zNd nm (zGo nm N o).2 x).1 = 0 then (0,(zGo nm N o).2 ++ [(zNd nm (zGo nm N o).2 x).2]) else ((zNd nm (zGo nm N o).2 x).1,[])
 | [],o,_ => by
  rw [nAp,zGo,zGo,zGo]
 | y :: N,o,h => by
  rw [zGo] at h
  rw [List.cons_append,zGo,zGo]
  by_cases c : (zNd nm o y).1 = 0
  ·rw [if_pos c] at h
   rw [if_pos c,if_pos c]
   exact qlR nm x N _ h
  ·rw [if_neg c] at h
   exact absurd h c
def tiN (x : Nd) : Prop := x.2.1.length ≤ 300 ∧ x.2.2.1.length ≤ 300 ∧ x.2.2.2.1.length ≤ 300 ∧ x.2.2.2.2.2.2.size ≤ 300
structure GrOK (nm : LI) (S : List LI) (N : List Nd) : Prop where
 go : zGo nm N [] = (0,S)
 ti : ∀ x ∈ N,tiN x
 sm : ∀ s ∈ S,mSR s = true
theorem GrOK.len {nm : LI} {S : List LI} {N : List Nd} (h : GrOK nm S N) : S.length = N.length := by
 have := qi9 nm N [] (by rw [h.go])
 rw [h.go] at this
 simpa using this
theorem GrOK.snoc {nm : LI} {S : List LI} {N : List Nd} (h : GrOK nm S N) {x : Nd} {s : LI} (hx : zNd nm S x = (0,s)) (ho : tiN x) (hs : mSR s = true) : GrOK nm (S ++ [s]) (N ++ [x]) where
 go := by
  rw [qlR nm x N [] (by rw [h.go]),h.go]
  dsimp only
  rw [hx,if_pos rfl]
 ti := fun y hy => by
  rcases List.mem_append.1 hy with hy | hy
  ·exact h.ti y hy
  ·rw [List.mem_singleton] at hy; rw [hy]; exact ho
 sm := fun y hy => by
  rcases List.mem_append.1 hy with hy | hy
  ·exact h.sm y hy
  ·rw [List.mem_singleton] at hy; rw [hy]; exact hs
theorem qmn {L : LI} (T : Tp L) {nm : ByteArray} {sz : LI} (hm : MeshOK nm sz) (y0 : ByteArray) (k : Nat) (hk : 300000 ≤ k) (M : Int) (hM : M ≤ 17592182000000) : ∀ (e : Nat) (p : Int) (S : List LI) (N : List Nd) (n : Nat),e + 100 < n → 0 ≤ p → p ≤ M - 300 * e → S.length + e ≤ 10 → GrOK (rs nm) S N →
  ∃ q S' N',qau.l0 k n e y0 L p nm S sz N = some (q,S',N') ∧ GrOK (rs nm) S' N' ∧ 0 ≤ q ∧ q ≤ M ∧ S'.length ≤ 10
 | 0,p,S,N,n,hn,h0,hp,hS,hG => by
  obtain ⟨n,rfl⟩ := sun (n := n)
  rw [qau.l0,ifq]
  exact ⟨p,S,N,rfl,hG,h0,by omega,by omega⟩
 | e + 1,p,S,N,n,hn,h0,hp,hS,hG => by
  obtain ⟨n,rfl⟩ := sun (n := n)
  have ih := fun p S N h0 hp hS hG => qmn T hm y0 k hk M hM e p S N n (by omega) h0 hp hS hG
  obtain ⟨hmR,hzR,hln⟩ := hm.right
  have hlen := hG.len
  obtain ⟨op,i,s,v,h,q,a,e1,q0,q1,hi,ha,hs,hx⟩ := qny T S (by omega) (fun s hs => by have := qam (hG.sm s hs); exact ⟨this.1,this.2.1⟩) p h0 (by omega) k (by omega)
  rw [qau.l0,ifp,e1,obs]
  dsimp only
  rw [qo6 i (by omega) S hx _ _ _ _ _ _ _ _ _ _ _ _ _ _ n (by omega),obs,qet _ _ _ _ _ _ _ _ (by rw [List.length_map]; omega) (by omega) k (by omega),obs,show IntKind.i64.wrap (((e + 1 : Nat) : Int) - 1) = (e : Int) by rw [qak (by omega) (by omega)]; omega]
  have hzN : ∀ nt : ByteArray,zNd (rs nm) S (op,(i,(s,(a,(v,(h,nt)))))) = if (zSh op s a v h (i.map fun x => S.getD x.toNat [])).1 = 0 then ((zNote (rs nm) (rs nt) (zSh op s a v h (i.map fun x => S.getD x.toNat [])).2.length).2.1,(zSh op s a v h (i.map fun x => S.getD x.toNat [])).2) else ((zSh op s a v h (i.map fun x => S.getD x.toNat [])).1,[]) := fun nt => by
   unfold zNd
   dsimp only
   rw [qlQ hx]
  generalize hz : zSh op s a v h (i.map fun x => S.getD x.toNat []) = z at hzN
  by_cases c : z.1 = 0
  rotate_left
  ·rw [if_neg c]
   exact ih q S N q0 (by omega) (by omega) hG
  have hR : mSR z.2 = true := by rw [← hz]; exact zSh_R (by rw [hz]; exact c)
  have hb := qam hR
  rw [if_pos c,qde _ k (by omega),obs]
  by_cases c2 : 400 < zSz z.2
  ·rw [if_pos c2]
   exact ih q S N q0 (by omega) (by omega) hG
  obtain ⟨w,q2,e2,w0,w1,f0,f1⟩ := T.next 3 (by omega) q q0 (by omega)
  rw [if_neg c2,e2,obs]
  dsimp only
  by_cases c3 : w = 0
  ·obtain ⟨q3,sp,e3,p1,p2,p3,p4⟩ := qnA sz (by have := (qjy hmR).1; omega) L T.len T.wf z.2.length (by omega) (by omega) q2 f0 (by omega) k (by omega)
   rw [if_pos c3,e3,obs]
   dsimp only
   have hsz := hm.size
   rw [qhI nm (by omega) sp (by omega) k (by omega),obs,if_pos (by rw [lSi]; omega),if_pos (by rw [lSi]; omega)]
   have hx := hzN (enc (sp.map (zTx (rs nm))))
   have he := qgk (sp.map (zTx (rs nm)))
   rw [List.length_map] at he
   rw [if_pos c,← p1,qn5 hzR hm.val (by rw [hln]; exact p2) (by omega)] at hx
   exact ih q3 (S ++ [z.2]) _ p3 (by omega) (by rw [lAp,lSi]; omega) (hG.snoc hx ⟨by dsimp only; omega,by dsimp only; omega,by dsimp only; omega,by dsimp only; omega⟩ hR)
  ·rw [if_neg c3,if_pos (by rw [lSi]; omega),if_pos (by rw [lSi]; omega)]
   have hx := hzN ByteArray.empty
   rw [if_pos c,qmT] at hx
   exact ih q2 (S ++ [z.2]) _ f0 (by omega) (by rw [lAp,lSi]; omega) (hG.snoc hx ⟨by dsimp only; omega,by dsimp only; omega,by dsimp only; omega,show ByteArray.empty.size ≤ 300 by decide⟩ hR)
theorem qmm {L : LI} (T : Tp L) (S : List LI) (hS : S.length ≤ 10) (y0 y2 : ByteArray) (y4 : LI) (y5 : List Nd) (M : Int) (hM : M ≤ 17592182000000) : ∀ (e : Nat) (p : Int) (O : LI) (n : Nat),e < n → 0 ≤ p → p ≤ M - 2 * e → O.length + e ≤ 10 → (∀ x ∈ O,0 ≤ x ∧ x < (S.length : Int)) →
  ∃ O',qau.l2 n e y0 L p y2 S y4 y5 O = some O' ∧ O'.length ≤ 10 ∧ ∀ x ∈ O',0 ≤ x ∧ x < (S.length : Int)
 | 0,p,O,n,hn,h0,hp,hO,hx => by
  obtain ⟨n,rfl⟩ := sun (n := n)
  rw [qau.l2,ifq]
  exact ⟨O,rfl,by omega,hx⟩
 | e + 1,p,O,n,hn,h0,hp,hO,hx => by
  obtain ⟨n,rfl⟩ := sun (n := n)
  rw [qau.l2,ifp,show IntKind.i64.wrap (((e + 1 : Nat) : Int) - 1) = (e : Int) by rw [qak (by omega) (by omega)]; omega]
  by_cases c : 0 < (S.length : Int)
  rotate_left
  ·rw [if_neg c]
   exact ⟨O,rfl,by omega,hx⟩
  obtain ⟨a,q,e1,a0,a1,q0,q1⟩ := T.next S.length (by omega) p h0 (by omega)
  obtain ⟨b,q2,e2,b0,b1,f0,f1⟩ := T.next 2 (by omega) q q0 (by omega)
  rw [if_pos c,e1,obs]
  dsimp only
  rw [e2,obs,qak (n := (S.length : Int) - 1) (by omega) (by omega)]
  dsimp only
  rw [if_pos ⟨b0,by simp; omega⟩,if_pos (by simp; omega),if_pos (by rw [lSi]; omega)]
  have hb : 0 ≤ [(S.length : Int) - 1,a].getD b.toNat 0 ∧ [(S.length : Int) - 1,a].getD b.toNat 0 < (S.length : Int) := by
   have : b = 0 ∨ b = 1 := by omega
   rcases this with rfl | rfl
   ·show 0 ≤ (S.length : Int) - 1 ∧ (S.length : Int) - 1 < S.length; omega
   ·exact ⟨a0,a1⟩
  exact qmm T S hS y0 y2 y4 y5 M hM e q2 _ n (by omega) f0 (by omega) (by rw [lAp,lSi]; omega) (fun x h => by
   rcases List.mem_append.1 h with h | h
   ·exact hx x h
   ·rw [List.mem_singleton] at h; rw [h]; exact hb)
theorem qmH {L : LI} (T : Tp L) (k : Nat) (hk : 300000 ≤ k) : ∃ nm sz N O S,qau.f k L = some (nm,sz,N,O) ∧ MeshOK nm sz ∧ GrOK (rs nm) S N ∧ N.length ≤ 10 ∧ O.length ≤ 10 ∧ ∀ x ∈ O,0 ≤ x ∧ x < (N.length : Int) := by
 obtain ⟨nm,q,sz,e1,q0,q1,hm⟩ := qnz T
 obtain ⟨r,q2,e2,r0,r1,f0,f1⟩ := T.next 9 (by omega) q q0 (by omega)
 obtain ⟨q3,S,N,e3,hG,g0,g1,hS⟩ := qmn T hm ByteArray.empty k hk 10000 (by omega) (1 + r).toNat q2 [] [] k (by omega) f0 (by omega) (by simp; omega) ⟨rfl,(fun x h => by cases h),(fun x h => by cases h)⟩
 obtain ⟨w,q4,e4,w0,w1,h0,h1⟩ := T.next 3 (by omega) q3 g0 (by omega)
 have hlen := hG.len
 obtain ⟨O,e5,o1,o2⟩ := qmm T S hS ByteArray.empty nm sz N 20000 (by omega) (1 + w).toNat q4 [] k (by omega) h0 (by omega) (by simp; omega) (fun x h => by cases h)
 refine ⟨nm,sz,N,O,S,?_,hm,hG,by omega,o1,by rw [← hlen]; exact o2⟩
 unfold qau.f
 rw [e1,obs]
 dsimp only
 rw [e2,obs]
 dsimp only
 rw [qak (n := 1 + r) (by omega) (by omega),show (1 + r : Int) = (((1 + r).toNat : Nat) : Int) by omega,e3,obs]
 dsimp only
 rw [e4,obs]
 dsimp only
 rw [qak (n := 1 + w) (by omega) (by omega),show (1 + w : Int) = (((1 + w).toNat : Nat) : Int) by omega,e5,obs]
end Go.Pf

namespace Go.Pf
open Go Go.Vm
def smN (x : Nd) : Prop := x.2.1.length ≤ 100000 ∧ x.2.2.1.length ≤ 100000 ∧ x.2.2.2.1.length ≤ 100000
theorem GrOK.shs {nm : ByteArray} {sz : LI} {N : List Nd} {S : List LI} (hm : MeshOK nm sz) (hG : GrOK (rs nm) S N) (hN : N.length ≤ 48) {O : LI} (hO : O.length ≤ 48) (hx : ∀ x ∈ O,0 ≤ x ∧ x < (N.length : Int)) : zShs sz nm N O = (0,S) := by
 unfold zShs
 rw [if_pos hm.ms,ifq,ifq,hG.go,if_pos rfl,if_pos (List.all_eq_true.2 fun x h => decide_eq_true (hx x h))]
end Go.Pf

namespace Go.Pf
open Go Go.Vm
theorem qhS (out : List LI) (l : LI) (hl : l.length ≤ 100000) (ho : out.length ≤ 1000) (x31 : List Nd) (x32 x33 : Int) (g1 : LI) (g2 : ByteArray) (g3 : List Nd) (g4 : LI) (x1 : Int) (x2 x3 x4 : LI) (x5 x6 : Int) (x7 : ByteArray) (n : Nat) (hn : 100001 ≤ n) :
  qaq.l1 n out.length x31 x32 x33 l l.length 0 g1 g2 g3 g4 out x1 x2 x3 x4 x5 x6 x7 [] = some (match zIn out l with | some r => .inl r | none => .inr 23) := by
 have : ∀ (e i n : Nat) (y : List LI),l.length = i + e → e < n → y.length ≤ i → qaq.l1 n out.length x31 x32 x33 l l.length i g1 g2 g3 g4 out x1 x2 x3 x4 x5 x6 x7 y = some (match zIn out (l.drop i) with | some r => .inl (y ++ r) | none => .inr 23) := by
  intro e
  induction e with
  | zero =>
   intro i n y hi hn hy
   obtain ⟨n,rfl⟩ := sun (n := n)
   rw [qaq.l1,ifq,dNl (by omega),zIn]
   simp
  | succ e ih =>
   intro i n y hi hn hy
   obtain ⟨n,rfl⟩ := sun (n := n)
   rw [qaq.l1,ifp,ifp,tNc,qaj (show i < l.length by omega) 0,zIn]
   by_cases c1 : l.getD i 0 < 0
   ·rw [if_pos c1,if_pos (.inl c1)]
   by_cases c2 : (out.length : Int) ≤ l.getD i 0
   ·rw [if_neg c1,if_pos c2,if_pos (.inr c2)]
   rw [if_neg c1,if_neg c2,if_neg (show ¬ (l.getD i 0 < 0 ∨ (out.length : Int) ≤ l.getD i 0) by omega),ifp,ifp,if_pos (by rw [lSi]; omega),qav (show i < l.length by omega) (by omega),ih (i + 1) n _ (by omega) (by omega) (by simp; omega)]
   cases zIn out (l.drop (i + 1)) with
   | none => rfl
   | some r => simp
 have := this l.length 0 n [] (by omega) (by omega) (Nat.le_refl _)
 rw [n0,dZr] at this
 rw [this]
 cases zIn out l <;> simp
theorem qeO (s : LI) (nm : ByteArray) (N : List Nd) (O : LI) (hn : nm.size ≤ 100000) (hN : ∀ x ∈ N,okN x) (h48 : N.length ≤ 48) (k : Nat) (hk : 300000 ≤ k) : ∀ (e i n : Nat) (out : List LI),N.length = i + e → e + 100500 < n → out.length = i →
  qaq.l0 k n N N.length i s nm N O out = some (if (zGo (rs nm) (N.drop i) out).1 = 0 then .inl (zGo (rs nm) (N.drop i) out).2 else .inr (zGo (rs nm) (N.drop i) out).1)
 | 0,i,n,out,hi,hn',ho => by
  obtain ⟨n,rfl⟩ := sun (n := n)
  rw [qaq.l0,ifq,dNl (by omega),zGo,if_pos rfl]
 | e + 1,i,n,out,hi,hn',ho => by
  obtain ⟨n,rfl⟩ := sun (n := n)
  obtain ⟨h1,h2,h3⟩ := hN _ (qal (show i < N.length by omega) nd0)
  have hl1 := qhS out (N.getD i nd0).2.1 h1 (by omega) N N.length i s nm N O (N.getD i nd0).1 (N.getD i nd0).2.1 (N.getD i nd0).2.2.1 (N.getD i nd0).2.2.2.1 (N.getD i nd0).2.2.2.2.1 (N.getD i nd0).2.2.2.2.2.1 (N.getD i nd0).2.2.2.2.2.2 n (by omega)
  rw [ho] at hl1
  rw [qaq.l0,ifp,ifp,tNc,hl1,obs,qaj (show i < N.length by omega) nd0,zGo]
  generalize hx : N.getD i nd0 = x at h1 h2 h3 ⊢
  cases e1 : zIn out x.2.1 with
  | none =>
   have hz : zNd (rs nm) out x = (23,[]) := by unfold zNd; rw [e1]
   rw [hz]; rfl
  | some l =>
   have hl := qk0 e1
   dsimp only [Sum.elim_inl]
   rw [qet _ _ _ _ _ _ _ l (by omega) (by omega) k (by omega),obs]
   by_cases c : (zSh x.1 x.2.2.1 x.2.2.2.1 x.2.2.2.2.1 x.2.2.2.2.2.1 l).1 = 0
   ·have hz : zNd (rs nm) out x = ((zNote (rs nm) (rs x.2.2.2.2.2.2) (zSh x.1 x.2.2.1 x.2.2.2.1 x.2.2.2.2.1 x.2.2.2.2.2.1 l).2.length).2.1,(zSh x.1 x.2.2.1 x.2.2.2.1 x.2.2.2.2.1 x.2.2.2.2.2.1 l).2) := by
     unfold zNd; rw [e1]; dsimp only; rw [if_pos c]
    rw [hz,if_pos c,qhJ _ _ _ (by omega) (by omega) k (by omega) (by omega),obs]
    dsimp only
    by_cases c2 : (zNote (rs nm) (rs x.2.2.2.2.2.2) (zSh x.1 x.2.2.1 x.2.2.2.1 x.2.2.2.2.1 x.2.2.2.2.2.1 l).2.length).2.1 = 0
    ·rw [if_pos c2,if_pos c2,if_pos (by rw [lSi]; omega),qav (show i < N.length by omega) (by omega),qeO s nm N O hn hN h48 k hk e (i + 1) n _ (by omega) (by omega) (by simp; omega)]
    ·rw [if_neg c2,if_neg c2,if_neg c2]
   ·have hz : zNd (rs nm) out x = ((zSh x.1 x.2.2.1 x.2.2.2.1 x.2.2.2.2.1 x.2.2.2.2.2.1 l).1,[]) := by
     unfold zNd; rw [e1]; dsimp only; rw [if_neg c]
    rw [hz,if_neg c,if_neg c,if_neg c]
theorem qfi (s : LI) (nm : ByteArray) (N : List Nd) (O : LI) (hn : nm.size ≤ 100000) (hN : ∀ x ∈ N,okN x) (k : Nat) (hk : 300000 ≤ k) : qaq.f k s nm N O = some (zShs s nm N O) := by
 unfold qaq.f zShs
 rw [qkq s nm N O hn k hk,obs]
 by_cases c1 : zMs s (rs nm) = true
 rotate_left
 ·rw [if_neg c1,if_neg c1]
 rw [if_pos c1,if_pos c1]
 by_cases c2 : 48 < N.length
 ·rw [ifp,if_pos c2]
 by_cases c3 : 48 < O.length
 ·rw [ifq,ifp,if_neg c2,if_pos c3]
 have h0 := qeO s nm N O hn hN (by omega) k hk N.length 0 k [] (by omega) (by omega) rfl
 rw [n0,dZr] at h0
 rw [ifq,ifq,if_neg c2,if_neg c3,h0,obs]
 by_cases c4 : (zGo (rs nm) N []).1 = 0
 ·have l2 : ∀ T,qaq.l2 k O O.length 0 s nm N O T = some (if O.all (fun k => decide (0 ≤ k ∧ k < (N.length : Int))) = true then .inl () else .inr 23) := fun T => by
   have := iter0 (L := fun n i (_ : Unit) => qaq.l2 n O O.length i s nm N O T) (st := fun _=>()) (fun i => if (O.drop i).all (fun k => decide (0 ≤ k ∧ k < (N.length : Int))) = true then .inl () else .inr 23) (m := O.length) 0
    (fun n _ => by rw [qaq.l2,ifq,dNl (Nat.le_refl _)]; rfl)
    (fun i n hi _ ih => by
     rw [qaq.l2,ifp,ifp,tNc,qaj hi (0 : Int),List.all_cons]
     by_cases d1 : O.getD i 0 < 0
     ·rw [if_pos d1,decide_eq_false (by omega),Bool.false_and,if_neg Bool.false_ne_true]
     by_cases d2 : (N.length : Int) ≤ O.getD i 0
     ·rw [if_neg d1,if_pos d2,decide_eq_false (by omega),Bool.false_and,if_neg Bool.false_ne_true]
     rw [if_neg d1,if_neg d2,qav hi (by omega),ih,decide_eq_true (by omega),Bool.true_and]) k (by omega)
   rw [dZr] at this
   exact this
  rw [if_pos c4,if_pos c4,Sum.elim_inl,l2,obs]
  by_cases c5 : O.all (fun k => decide (0 ≤ k ∧ k < (N.length : Int))) = true
  ·rw [if_pos c5,if_pos c5,Sum.elim_inl,← c4]
  ·rw [if_neg c5,if_neg c5]; rfl
 ·rw [if_neg c4,if_neg c4]; rfl
theorem qhT (s : LI) (nm : ByteArray) (N : List Nd) (O : LI) (h1 : s.length ≤ 100000) (h2 : N.length ≤ 100000) (h3 : O.length ≤ 100000) (h4 : ∀ x ∈ N,smN x) (k : Nat) (hk : 300000 ≤ k) : qb4.f k s nm N O s nm N O = some true := by
 unfold qb4.f
 rw [qcK _ _ (by omega) k (by omega),obs,if_pos (decide_eq_true rfl),if_pos (beq_self_eq_true _),if_pos rfl,qcK _ _ (by omega) k (by omega),obs,if_pos (decide_eq_true rfl)]
 have := iter0 (L := fun n i (_ : Unit) => qb4.l0 k n N.length i s nm N O s nm N O) (st := fun _=>()) (fun _=>.inl ()) (m := N.length) 0
  (fun n _ => by rw [qb4.l0,ifq])
  (fun i n hi _ ih => by
   obtain ⟨a1,a2,a3⟩ := h4 _ (qal hi nd0)
   have e : qdK.f k (N.getD i nd0).1 (N.getD i nd0).2.1 (N.getD i nd0).2.2.1 (N.getD i nd0).2.2.2.1 (N.getD i nd0).2.2.2.2.1 (N.getD i nd0).2.2.2.2.2.1 (N.getD i nd0).2.2.2.2.2.2 (N.getD i nd0).1 (N.getD i nd0).2.1 (N.getD i nd0).2.2.1 (N.getD i nd0).2.2.2.1 (N.getD i nd0).2.2.2.2.1 (N.getD i nd0).2.2.2.2.2.1 (N.getD i nd0).2.2.2.2.2.2 = some true := by
    unfold qdK.f
    rw [if_pos rfl,qcK _ _ (by omega) k (by omega),obs,if_pos (decide_eq_true rfl),qcK _ _ (by omega) k (by omega),obs,if_pos (decide_eq_true rfl),qcK _ _ (by omega) k (by omega),obs,if_pos (decide_eq_true rfl),if_pos rfl,if_pos rfl,beq_self_eq_true]
   rw [qb4.l0,ifp,ifp,ifp,tNc,e,obs,if_pos rfl,qav hi (by omega),ih]) k (by omega)
 rw [this,obs]; rfl
end Go.Pf

namespace Go.Pf
open Go Go.Vm
def bA (l : List UInt8) : ByteArray := ⟨l.toArray⟩
theorem qfp (a b : List UInt8) : bA a ++ bA b = bA (a ++ b) := by
 apply ByteArray.ext
 rw [ByteArray.data_append]
 simp [bA]
theorem qbr (a : List UInt8) : (bA a).size = a.length := rfl
theorem qjQ (a : List UInt8) : (bA a).data.toList = a := by simp [bA]
theorem qm9 (s : ByteArray) : bA s.data.toList = s := by cases s; simp [bA]
theorem qpM {a b : List UInt8} (h : bA a = bA b) : a = b := by
 have := congrArg (fun s : ByteArray => s.data.toList) h
 simpa [bA] using this
def zNum (n : Int) : ByteArray := bA (Lib.itoa n)
theorem qdu {n : Int} (h1 : -9223372036854775808 ≤ n) (h2 : n < 9223372036854775808) : qcH.f n = some (zNum n) := by
 unfold qcH.f strconv_FormatInt.f
 rw [if_pos ⟨rfl,h1,by omega⟩]; rfl
def dig (u : Nat) : List UInt8 := if u = 0 then [] else Lib.decDigits u
theorem qpf {u : Nat} (h : u ≠ 0) : dig u = dig (u / 10) ++ [UInt8.ofNat (48 + u % 10)] := by
 unfold dig
 rw [if_neg h]
 rw [Lib.decDigits]
 by_cases h10 : u < 10
 ·rw [dif_pos h10,ifp,Nat.mod_eq_of_lt h10]; rfl
 ·rw [dif_neg h10,ifq]
theorem qqn {d : Nat} (h : d < 10) : Utf8.encode (48 + (d : Int)) = bA [UInt8.ofNat (48 + d)] := by
 match d,h with
 | 0,_ | 1,_ | 2,_ | 3,_ | 4,_ | 5,_ | 6,_ | 7,_ | 8,_ | 9,_ => rfl
 | d + 10,h => omega
theorem qeN (x0 : Int) : ∀ (e : Nat) (x : Int) (s : ByteArray) (n : Nat),x.natAbs < 10 ^ e → x.natAbs < 9223372036854775809 → e < n → s.size + e ≤ 100000 → qaE.l0 n x0 s x = some (bA (dig x.natAbs) ++ s)
 | 0,x,s,n,h,_,hn,_ => by
  obtain ⟨n,rfl⟩ := sun (n := n)
  have hx : x = 0 := by simp at h; omega
  subst hx
  rw [qaE.l0,if_pos rfl]
  show some s = some (bA [] ++ s)
  congr 1
 | e + 1,x,s,n,h,hb,hn,hs => by
  obtain ⟨n,rfl⟩ := sun (n := n)
  by_cases hx : x = 0
  ·subst hx
   rw [qaE.l0,if_pos rfl]
   show some s = some (bA [] ++ s)
   congr 1
  rw [qaE.l0,if_neg hx,ifp]
  have hdiv : (x.tdiv 10).natAbs = x.natAbs / 10 := by rw [Int.natAbs_tdiv]; rfl
  have hmod : (x.tmod 10).natAbs = x.natAbs % 10 := by rw [Int.natAbs_tmod]; rfl
  have hd : x.natAbs / 10 < 10 ^ e := by rw [Nat.pow_succ] at h; omega
  have hw : IntKind.i64.wrap (x.tdiv 10) = x.tdiv 10 := qak (by omega) (by omega)
  have fin : ∀ c : Int,c = ((x.natAbs % 10 : Nat) : Int) → (if (Utf8.encode (IntKind.i32.wrap (IntKind.i64.wrap (48 + c)))).size + s.size ≤ 9223372036854775807 then qaE.l0 n x0 ((Utf8.encode (IntKind.i32.wrap (IntKind.i64.wrap (48 + c)))) ++ s) (IntKind.i64.wrap (x.tdiv 10)) else none) = some (bA (dig x.natAbs) ++ s) := by
   rintro c rfl
   have hr : x.natAbs % 10 < 10 := Nat.mod_lt _ (by omega)
   have h32 : IntKind.i32.wrap (IntKind.i64.wrap (48 + ((x.natAbs % 10 : Nat) : Int))) = 48 + ((x.natAbs % 10 : Nat) : Int) := by
    rw [qak (by omega) (by omega)]
    generalize x.natAbs % 10 = d at hr
    match d,hr with
    | 0,_ | 1,_ | 2,_ | 3,_ | 4,_ | 5,_ | 6,_ | 7,_ | 8,_ | 9,_ => rfl
    | d + 10,h => omega
   rw [h32,qqn hr,qbr,if_pos (by simp only [lSi]; omega),hw,qeN x0 e _ _ n (by rw [hdiv]; exact hd) (by rw [hdiv]; omega) (by omega) (by rw [qaL,qbr]; simp only [lSi]; omega),hdiv,
    qpf (show x.natAbs ≠ 0 by omega),← qfp,qhs]
  by_cases hneg : x.tmod 10 < 0
  ·rw [if_pos hneg]
   exact fin _ (by rw [qak (by omega) (by omega)]; omega)
  ·rw [if_neg hneg]
   exact fin _ (by omega)
theorem qbT {n : Int} (h1 : -9223372036854775808 ≤ n) (h2 : n < 9223372036854775808) (k : Nat) (hk : 100 ≤ k) : qaE.f k n = some (zNum n) := by
 unfold qaE.f zNum Lib.itoa
 by_cases h0 : n = 0
 ·subst h0; rw [if_pos rfl,ifq]
  simp only [Int.toNat_zero]
  rw [Lib.decDigits,dif_pos (by omega)]; rfl
 have hl := qeN n 19 n ByteArray.empty k (by omega) (by omega) (by omega) (by simp)
 rw [if_neg h0,hl,obs,qe3]
 have hdg : dig n.natAbs = Lib.decDigits n.natAbs := by unfold dig; rw [ifq]
 rw [hdg]
 have hlen : (Lib.decDigits n.natAbs).length ≤ 20 := by
  have key : ∀ e u,u < 10 ^ e → (Lib.decDigits u).length ≤ e + 1 := fun e => by
   induction e with
   | zero => intro u h; rw [Lib.decDigits,dif_pos (by omega)]; simp
   | succ e ih =>
    intro u h
    rw [Lib.decDigits]
    split
    ·simp
    ·rw [lAp]; have := ih (u / 10) (by rw [Nat.pow_succ] at h; omega); simp only [lSi]; omega
  exact key 19 _ (by omega)
 by_cases hn : n < 0
 ·rw [if_pos hn,if_pos hn,qbr,if_pos (by show 1 + _ ≤ _; omega)]
  show some (bA [45] ++ _) = _
  rw [qfp]; rfl
 ·rw [if_neg hn,if_neg hn]
  congr 3; omega
end Go.Pf
