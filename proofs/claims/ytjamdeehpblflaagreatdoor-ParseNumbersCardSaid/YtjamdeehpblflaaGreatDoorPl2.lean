/- Own texts put together: M12b, M12c, M12d .. -/
import Derived.Test.YtjamdeehpblflaaGreatDoorPl1
import Derived.Test.YtjamdeehpblflaaGreatDoorPl0
set_option linter.unusedVariables false
set_option linter.unusedSimpArgs false
namespace Go.Pf
open Go Go.Vm
def rng (n : Int) : Prop := -9223372036854775808 ≤ n ∧ n < 9223372036854775808
theorem qmz : ∀ e u,u < 10 ^ e → (Lib.decDigits u).length ≤ e + 1 := fun e => by
 induction e with
 | zero => intro u h; rw [Lib.decDigits,dif_pos (by omega)]; simp
 | succ e ih =>
  intro u h
  rw [Lib.decDigits]
  split
  ·simp
  ·rw [lAp]; have := ih (u / 10) (by rw [Nat.pow_succ] at h; omega); simp only [lSi]; omega
theorem qhq {n : Int} (h : rng n) : (Lib.itoa n).length ≤ 21 := by
 obtain ⟨h1,h2⟩ := h
 unfold Lib.itoa
 split
 ·have := qmz 19 n.natAbs (by omega); simp only [lCo]; omega
 ·have := qmz 19 n.toNat (by omega); omega
theorem qeH {n : Int} (h : rng n) : (zNum n).size ≤ 21 := qhq h
def zTl (l : LI) : List UInt8 := l.flatMap fun n => 32 :: Lib.itoa n
theorem qlI (n : Int) (l : LI) : zTl (n :: l) = 32 :: Lib.itoa n ++ zTl l := rfl
theorem qpP (a b : LI) : zTl (a ++ b) = zTl a ++ zTl b := List.flatMap_append
theorem qds : ∀ {l : LI},(∀ n ∈ l,rng n) → (zTl l).length ≤ 22 * l.length
 | [],_ => Nat.le_refl _
 | n :: l,h => by
  have h1 := qhq (h n (List.mem_cons_self ..))
  have h2 := qds (l := l) fun m hm => h m (mCm _ hm)
  rw [qlI,lAp,lCo,lCo]; omega
theorem qd5 (l : LI) (hl : l.length ≤ 1000000) (hr : ∀ n ∈ l,rng n) (k : Nat) (hk : l.length < k) : qbd.f k l = some (l.map zNum) := by
 unfold qbd.f
 have := iter0 (L := fun n i y => qbd.l0 n l l.length i y) (st := fun i => (l.take i).map zNum) (fun _=>l.map zNum) (m := l.length) 0
  (fun n _ => by rw [qbd.l0,ifq,List.take_length])
  (fun i n hi _ ih => by
   have hm := hr _ (qal hi 0)
   rw [qdn hi,List.map_append,List.map_cons,List.map_nil] at ih
   rw [qbd.l0,ifp,ifp,tNc,qdu hm.1 hm.2,obs,qav hi (by omega),if_pos (by rw [List.length_map,lTk,lSi]; omega)]
   exact ih) k (by omega)
 rw [List.take_zero,List.map_nil] at this
 rw [this]; rfl
theorem qgu (s0 : List UInt8) (L : Nat → ByteArray → Int → Option ByteArray) (l : LI) (hl : l.length ≤ 1000000) (hr : ∀ n ∈ l,rng n) (hs : s0.length ≤ 1000000000000)
  (h0 : ∀ n s,L (n + 1) s l.length = some s)
  (h1 : ∀ (i n : Nat) (s : ByteArray),i < l.length → s.size ≤ 2000000000000 → L (n + 1) s i = L n ((s ++ bA [32]) ++ zNum (l.getD i 0)) ((i + 1 : Nat) : Int)) (k : Nat) (hk : l.length < k) :
  L k (bA s0) 0 = some (bA (s0 ++ zTl l)) := by
 have := iter0 (L := fun n i y => L n y i) (st := fun i => bA (s0 ++ zTl (l.take i))) (fun _=>bA (s0 ++ zTl l)) (m := l.length) 0
  (fun n _ => by rw [h0,List.take_length])
  (fun i n hi _ ih => by
   have hm := qds (l := l.take i) fun m hm => hr m (List.mem_of_mem_take hm)
   rw [lTk] at hm
   rw [h1 i n _ hi (by rw [qbr,lAp]; omega)]
   rw [qdn hi,qpP,← aAs,qlI] at ih
   have e : zTl ([] : LI) = [] := rfl
   rw [e,List.append_nil] at ih
   rw [zNum,qfp,qfp,aAs (s0 ++ zTl (l.take i)) [32]]
   exact ih) k (by omega)
 rw [List.take_zero] at this
 have e : zTl ([] : LI) = [] := rfl
 rw [e,List.append_nil] at this
 exact this
theorem qeM (l : LI) (hl : l.length ≤ 1000000) (hr : ∀ n ∈ l,rng n) (k : Nat) (hk : l.length + 100 < k) : qbl.f k l = some (bA ([32,40] ++ zTl l ++ [32,41])) := by
 unfold qbl.f
 have hz := qds hr
 have := qgu [32,40] (fun n s i => qbl.l0 k n l s l.length i) l hl hr (by simp)
  (fun n s => by rw [qbl.l0,ifq])
  (fun i n s hi hs => by
   have hm := hr _ (qal hi 0)
   have hz := qeH hm
   rw [qbl.l0,ifp,if_pos (by show _ + 1 ≤ _; omega),ifp,tNc,qbT hm.1 hm.2 k (by omega),obs,if_pos (by rw [qaL]; show _ + 1 + _ ≤ _; omega),qav hi (by omega)]
   rfl) k (by omega)
 have e : ByteArray.mk #[32,40] = bA [32,40] := rfl
 rw [e,this,obs,if_pos (by rw [qbr,lAp]; show 2 + _ + 2 ≤ _; omega)]
 show some (_ ++ bA [32,41]) = _
 rw [qfp]
def zName (op : Int) : ByteArray := if op < 1 ∨ 20 < op then ByteArray.empty else (qcZ.f.getD []).getD op.toNat ByteArray.empty
theorem qhy (op : Int) : qd8.f op = some (zName op) := by
 rcases qdZ op with rfl | rfl | rfl | rfl | rfl | rfl | rfl | rfl | rfl | rfl | rfl | rfl | rfl | rfl | rfl | rfl | rfl | rfl | rfl | rfl | hout
 iterate 20 rfl
 unfold qd8.f zName
 rw [if_pos hout]
 rcases hout with h | h
 ·rw [if_pos h]
 ·rw [ifq,if_pos h]
theorem qko (op : Int) : qdD.f op = some (zName op) := by
 rcases qdZ op with rfl | rfl | rfl | rfl | rfl | rfl | rfl | rfl | rfl | rfl | rfl | rfl | rfl | rfl | rfl | rfl | rfl | rfl | rfl | rfl | hout
 iterate 20 rfl
 unfold qdD.f zName
 rw [if_pos hout]
 rcases hout with h | h
 ·rw [if_pos h]
 ·rw [ifq,if_pos h]
theorem qiA (op : Int) : (zName op).size ≤ 6 := by
 rcases qdZ op with rfl | rfl | rfl | rfl | rfl | rfl | rfl | rfl | rfl | rfl | rfl | rfl | rfl | rfl | rfl | rfl | rfl | rfl | rfl | rfl | hout
 iterate 20 decide
 unfold zName
 rw [if_pos hout]; decide
end Go.Pf

namespace Go.Pf
open Go Go.Vm
theorem qoA (s : ByteArray) : ∀ (e i : Nat) (r : List UInt8),s.size ≤ i + e → ByteArray.toList.loop s i r = r.reverse ++ s.data.toList.drop i
 | 0,i,r,h => by
  rw [ByteArray.toList.loop,ifq,dNl (by rw [Array.length_toList]; show s.size ≤ i; omega),List.append_nil]
 | e + 1,i,r,h => by
  rw [ByteArray.toList.loop]
  by_cases c : i < s.size
  ·have c' : i < s.data.toList.length := by rw [Array.length_toList]; exact c
   rw [if_pos c,qoA s e (i + 1) _ (by omega),List.reverse_cons,aAs,qaj c' 0]
   have e : s.get! i = s.data.toList.getD i 0 := by
    show s.data[i]! = _
    rw [Array.getElem!_eq_getD,Array.getD_eq_getD_getElem?,gDg,Array.getElem?_toList]; rfl
   rw [e]; rfl
  ·rw [if_neg c,dNl (by rw [Array.length_toList]; show s.size ≤ i; omega),List.append_nil]
theorem qkV (s : ByteArray) : s.toList = s.data.toList := by
 show ByteArray.toList.loop s 0 [] = _
 rw [qoA s s.size 0 [] (by omega)]; rfl
theorem qbQ (a b : ByteArray) : (a.toList == b.toList) = decide (a = b) := by
 rw [qkV,qkV]
 by_cases h : a = b
 ·subst h; simp
 ·have h2 : a.data.toList ≠ b.data.toList := fun e => h (by rw [← qm9 a,e,qm9])
  rw [decide_eq_false h]
  exact beq_false_of_ne h2
theorem qfd (a b : ByteArray) : ((a.toList == b.toList) = true) ↔ a = b := by rw [qbQ,decide_eq_true_eq]
theorem qeC (s : ByteArray) : qcu.f s = some (if s = ByteArray.empty then bA [45] else s) := by
 unfold qcu.f
 by_cases h : s = ByteArray.empty
 ·rw [if_pos ((qfd _ _).2 h),if_pos h]; rfl
 ·rw [if_neg (fun hh => h ((qfd _ _).1 hh)),if_neg h]
theorem qnM (l : LI) : runesBytes l = enc l := by
 have key : ∀ (l : LI) (a : ByteArray),l.foldl (fun r n => r ++ Utf8.encode n) a = a ++ enc l := fun l => by
  induction l with
  | nil => intro a; rw [List.foldl_nil,enc,qe3]
  | cons r l ih => intro a; rw [List.foldl_cons,ih,enc,qhs]
 unfold runesBytes
 rw [key,qjX]
def zTxt (nm : ByteArray) (sp : LI) : ByteArray := enc (sp.map (zTx (rs nm)))
theorem qkw (nm : ByteArray) (hn : nm.size ≤ 100000) (sp : LI) (hs : sp.length ≤ 1000) (k : Nat) (hk : 500000 ≤ k) : qbM.f k nm sp = some (zTxt nm sp) := by
  unfold qbM.f zTxt
  rw [qdx nm (by omega) k (by omega),obs]
  generalize rs nm = l
  have := iter0 (L := fun n i y => qbM.l0 n sp sp.length i l y) (st := fun i => (sp.take i).map (zTx l)) (fun _=>sp.map (zTx l)) (m := sp.length) 0
    (fun n _ => by rw [qbM.l0,ifq,List.take_length])
    (fun i n hi _ ih => by
      have hb : ((sp.take i).map (zTx l)).length ≤ 1000 := by rw [List.length_map,lTk]; omega
      rw [qdn hi,List.map_append,List.map_cons,List.map_nil] at ih
      rw [qbM.l0,ifp,ifp,tNc,qav hi (by omega)]
      by_cases c1 : 0 ≤ sp.getD i 0
      · by_cases c2 : sp.getD i 0 < (l.length : Int)
        · have e : zTx l (sp.getD i 0) = l.getD (sp.getD i 0).toNat 0 := ifq
          rw [e] at ih
          rw [if_pos c1,if_pos c2,if_pos ⟨c1,c2⟩,ifp,if_pos (by simp only [lSi]; omega),ih]
        · have e : zTx l (sp.getD i 0) = 46 := ifp
          rw [e] at ih
          rw [if_pos c1,if_neg c2,if_pos (by simp only [lSi]; omega),ih]
      · have e : zTx l (sp.getD i 0) = 46 := ifp
        rw [e] at ih
        rw [if_neg c1,if_pos (by simp only [lSi]; omega),ih]) k (by omega)
  rw [List.take_zero,List.map_nil] at this
  rw [this,obs,qnM]
theorem qm0 (r : Int) : 1 ≤ (Utf8.encode r).size := by
 unfold Utf8.encode
 dsimp only
 generalize (if Utf8.valid r = true then r.toNat else Utf8.runeError) = c
 by_cases c1 : c < 128
 ·rw [if_pos c1]; exact Nat.le_refl _
 by_cases c2 : c < 2048
 ·rw [if_neg c1,if_pos c2]; show 1 ≤ 2; omega
 by_cases c3 : c < 65536
 ·rw [if_neg c1,if_neg c2,if_pos c3]; show 1 ≤ 3; omega
 ·rw [if_neg c1,if_neg c2,if_neg c3]; show 1 ≤ 4; omega
def zNW (nm nt : ByteArray) (rank : Int) : ByteArray := if (zNote (rs nm) (rs nt) rank).1 = true then zTxt nm (zNote (rs nm) (rs nt) rank).2.2 else bA [45]
theorem qi7 (nm : LI) : ∀ (l y r : LI),zNl nm l y = some r → r.length ≤ y.length + l.length
 | [],y,r,h => by rw [zNl] at h; cases h; simp
 | x :: l,y,r,h => by
  rw [zNl] at h
  split at h
  ·have := qi7 nm l y r h; rw [lCo]; omega
  split at h
  ·have := qi7 nm l _ r h; rw [lAp] at this; simp only [lCo,List.length_nil] at this ⊢; omega
  split at h
  ·cases h
  ·have := qi7 nm l _ r h; rw [lAp] at this; simp only [lCo,List.length_nil] at this ⊢; omega
theorem qhx (nm l : LI) (rank : Int) : (zNote nm l rank).2.2.length ≤ 16 := by
 unfold zNote
 by_cases c : 16 < l.length
 ·rw [if_pos c]; exact Nat.zero_le _
 rw [if_neg c]
 cases h : zNl nm l [] with
 | none => exact Nat.zero_le _
 | some y =>
  have := qi7 nm l [] y h
  dsimp only
  by_cases c1 : y.length = 0
  ·rw [if_pos c1]; exact Nat.zero_le _
  by_cases c2 : (y.length : Int) = rank
  ·rw [if_neg c1,if_pos c2]; simp at this; show y.length ≤ 16; omega
  ·rw [if_neg c1,if_neg c2]; exact Nat.zero_le _
theorem qmF (nm l : LI) (rank : Int) : ((zNote nm l rank).1 = true ∧ (zNote nm l rank).2.2 ≠ []) ∨ ((zNote nm l rank).1 = false ∧ (zNote nm l rank).2.2 = []) := by
 unfold zNote
 by_cases c : 16 < l.length
 ·rw [if_pos c]; exact .inr ⟨rfl,rfl⟩
 rw [if_neg c]
 cases h : zNl nm l [] with
 | none => exact .inr ⟨rfl,rfl⟩
 | some y =>
  dsimp only
  by_cases c1 : y.length = 0
  ·rw [if_pos c1]; exact .inr ⟨rfl,rfl⟩
  by_cases c2 : (y.length : Int) = rank
  ·rw [if_neg c1,if_pos c2]; exact .inl ⟨rfl,fun e => by dsimp only at e; subst e; exact c1 rfl⟩
  ·rw [if_neg c1,if_neg c2]; exact .inr ⟨rfl,rfl⟩
theorem qlN (nm nt : ByteArray) (rank : Int) : (zNW nm nt rank).size ≤ 64 := by
 unfold zNW
 split
 ·have h1 := qgk ((zNote (rs nm) (rs nt) rank).2.2.map (zTx (rs nm)))
  have h2 := qhx (rs nm) (rs nt) rank
  rw [List.length_map] at h1
  unfold zTxt; omega
 ·show 1 ≤ 64; omega
theorem qns (nm nt : ByteArray) (rank : Int) : (if zTxt nm (zNote (rs nm) (rs nt) rank).2.2 = ByteArray.empty then bA [45] else zTxt nm (zNote (rs nm) (rs nt) rank).2.2) = zNW nm nt rank := by
 unfold zNW
 rcases qmF (rs nm) (rs nt) rank with ⟨h1,h2⟩ | ⟨h1,h2⟩
 ·rw [if_pos h1,if_neg]
  intro e
  cases hx : (zNote (rs nm) (rs nt) rank).2.2 with
  | nil => exact h2 hx
  | cons x r =>
   rw [hx] at e
   have hs := congrArg ByteArray.size e
   rw [zTxt,List.map_cons,enc,qaL] at hs
   have := qm0 (zTx (rs nm) x)
   rw [show ByteArray.empty.size = 0 from rfl] at hs
   omega
 ·rw [h1,h2]; rfl
theorem qkn (g1 : LI) (nm : ByteArray) (g3 : List Nd) (g4 : LI) (x1 : Int) (x2 x3 x4 : LI) (x5 x6 : Int) (nt : ByteArray) (rank : Int) (hn : nm.size ≤ 100000) (ht : nt.size ≤ 100000) (k : Nat) (hk : 500000 ≤ k) :
  qdC.f k g1 nm g3 g4 x1 x2 x3 x4 x5 x6 nt rank = some (zNW nm nt rank) := by
 unfold qdC.f zNW
 rw [qhJ nm nt rank (by omega) (by omega) k (by omega) (by omega),obs]
 have := qhx (rs nm) (rs nt) rank
 by_cases c : (zNote (rs nm) (rs nt) rank).1 = true
 ·rw [if_pos c,if_pos c,qhI nm hn _ (by omega) k (by omega)]; rfl
 ·rw [if_neg c,if_neg c]; rfl
end Go.Pf

namespace Go.Pf
open Go Go.Vm
theorem qjc {α : Type} {l : List α} {i : Nat} (h : i < l.length) (d : α) : l.take (i + 1) = l.take i ++ [l.getD i d] := by
 rw [List.take_add_one,gDg,List.getElem?_eq_getElem h]; rfl
def lst (l : LI) : List ByteArray := [bA [40]] ++ l.map zNum ++ [bA [41]]
def zWds (nm : ByteArray) (x : Nd) (rank : Int) : List ByteArray :=
 [zName x.1] ++ (lst x.2.1 ++ (lst x.2.2.1 ++ lst x.2.2.2.1)) ++ [zNum x.2.2.2.2.1,zNum x.2.2.2.2.2.1,zNW nm x.2.2.2.2.2.2 rank]
structure wtN (x : Nd) : Prop where
 i : x.2.1.length ≤ 100000
 s : x.2.2.1.length ≤ 100000
 a : x.2.2.2.1.length ≤ 100000
 nt : x.2.2.2.2.2.2.size ≤ 100000
 ri : ∀ n ∈ x.2.1,rng n
 rs : ∀ n ∈ x.2.2.1,rng n
 ra : ∀ n ∈ x.2.2.2.1,rng n
 rn : rng x.2.2.2.2.1
 rh : rng x.2.2.2.2.2.1
theorem wtN.ok {x : Nd} (h : wtN x) : okN x := ⟨h.i,h.a,h.nt⟩
theorem qj2 (Y : List LI) (hY : Y.length ≤ 10) (hl : ∀ l ∈ Y,l.length ≤ 100000 ∧ ∀ n ∈ l,rng n) (t : ByteArray) (r : Int) (g1 : LI) (g2 : ByteArray) (g3 : List Nd) (g4 : LI) (x1 : Int) (x2 x3 x4 : LI) (x5 x6 : Int) (x7 : ByteArray) (k : Nat) (hk : 500000 ≤ k) :
    qcb.l0 k k r Y.length 0 g1 g2 g3 g4 x1 x2 x3 x4 x5 x6 x7 [t] Y = some ([t] ++ Y.flatMap lst) := by
  have := iter0 (L := fun n i y => qcb.l0 k n r Y.length i g1 g2 g3 g4 x1 x2 x3 x4 x5 x6 x7 y Y) (st := fun i => [t] ++ (Y.take i).flatMap lst) (fun _=>[t] ++ Y.flatMap lst) (m := Y.length) 0
    (fun n _ => by rw [qcb.l0,ifq,List.take_length])
    (fun i n hi _ ih => by
      obtain ⟨h1,h2⟩ := hl _ (qal hi [])
      have hb : ((Y.take i).flatMap lst).length ≤ 100002 * i := by
        have key : ∀ (e : Nat) (Z : List LI),Z.length ≤ e → (∀ l ∈ Z,l ∈ Y) → (Z.flatMap lst).length ≤ 100002 * e := fun e => by
          induction e with
          | zero => intro Z hz _; cases Z with
            | nil => simp
            | cons => simp at hz
          | succ e ih =>
            intro Z hz hm
            cases Z with
            | nil => simp
            | cons z Z =>
              have h3 := ih Z (by simpa using hz) fun l hl => hm l (mCm _ hl)
              have h4 := (hl z (hm z (List.mem_cons_self ..))).1
              rw [List.flatMap_cons,lAp]
              have h5 : (lst z).length = z.length + 2 := by simp [lst]
              omega
        exact key i _ (by rw [lTk]; omega) fun l hl => List.mem_of_mem_take hl
      rw [qjc hi ([] : LI),List.flatMap_append,List.flatMap_cons,List.flatMap_nil,List.append_nil,← aAs] at ih
      have hz : (([t] ++ (Y.take i).flatMap lst)).length ≤ 2000000 := by rw [lAp,lSi]; omega
      rw [qcb.l0,ifp,ifp,tNc,if_pos hi,if_pos (by rw [lSi]; omega),qd5 _ (by omega) h2 k (by omega),obs,
        if_pos (by clear ih; generalize [t] ++ (Y.take i).flatMap lst = A at hz; simp only [lAp,lSi,List.length_map]; omega),if_pos (by clear ih; generalize [t] ++ (Y.take i).flatMap lst = A at hz; simp only [lAp,lSi,List.length_map]; omega),qav hi (by omega)]
      refine Eq.trans ?_ ih
      congr 1
      simp only [lst,aAs]; rfl) k (by omega)
  rw [List.take_zero,List.flatMap_nil,List.append_nil] at this
  exact this
theorem qk1 (g1 : LI) (nm : ByteArray) (g3 : List Nd) (g4 : LI) (x : Nd) (rank : Int) (hn : nm.size ≤ 100000) (hx : wtN x) (k : Nat) (hk : 500000 ≤ k) :
  qcb.f k g1 nm g3 g4 x.1 x.2.1 x.2.2.1 x.2.2.2.1 x.2.2.2.2.1 x.2.2.2.2.2.1 x.2.2.2.2.2.2 rank = some (zWds nm x rank) := by
 have hi := hx.i; have hs := hx.s; have ha := hx.a; have hnt := hx.nt
 unfold qcb.f
 rw [qhy,obs,qj2 [x.2.1,x.2.2.1,x.2.2.2.1] (by simp) (fun l hl => by
  rcases List.mem_cons.1 hl with rfl | hl
  ·exact ⟨by omega,hx.ri⟩
  rcases List.mem_cons.1 hl with rfl | hl
  ·exact ⟨by omega,hx.rs⟩
  rw [List.mem_singleton] at hl; subst hl
  exact ⟨by omega,hx.ra⟩) _ _ _ _ _ _ _ _ _ _ _ _ _ k (by omega),obs,qg0 nm _ _ (by omega) (by omega) k (by omega) (by omega),obs,qdu hx.rn.1 hx.rn.2,obs,qdu hx.rh.1 hx.rh.2,obs,
  qkw nm hn _ (by have := qhx (rs nm) (rs x.2.2.2.2.2.2) rank; omega) k (by omega),obs,qeC,obs,qns]
 have hl : ([zName x.1] ++ [x.2.1,x.2.2.1,x.2.2.2.1].flatMap lst).length ≤ 400000 := by
  simp only [lAp,lSi,List.flatMap_cons,List.flatMap_nil,List.length_nil,lst,List.length_map]; omega
 rw [if_pos (by rw [show [zNum x.2.2.2.2.1,zNum x.2.2.2.2.2.1,zNW nm x.2.2.2.2.2.2 rank].length = 3 from rfl]; omega)]
 simp [zWds]
def zLn (ws : List ByteArray) : List UInt8 := Lib.join (ws.map (·.data.toList)) [32] ++ [10]
def tl (ws : List ByteArray) : List UInt8 := ws.flatMap fun w => 32 :: w.data.toList
theorem qhh (w : ByteArray) (ws : List ByteArray) : zLn (w :: ws) = w.data.toList ++ tl ws ++ [10] := by
 unfold zLn tl
 rw [List.map_cons,Lib.join_cons]
 congr 2
 unfold Lib.joinTail
 rw [List.map_map,List.flatMap_def]; rfl
theorem qiB (a b : List ByteArray) : tl (a ++ b) = tl a ++ tl b := List.flatMap_append
theorem qlU (l : LI) : tl (l.map zNum) = zTl l := by
 unfold tl zTl
 rw [List.flatMap_map]
 congr 1
theorem qnx (l : LI) : tl (lst l) = [32,40] ++ zTl l ++ [32,41] := by
 unfold lst
 rw [qiB,qiB,qlU]; rfl
theorem qnm (nm : ByteArray) (x : Nd) (rank : Int) : zLn (zWds nm x rank) =
  (zName x.1).data.toList ++ (([32,40] ++ zTl x.2.1 ++ [32,41]) ++ (([32,40] ++ zTl x.2.2.1 ++ [32,41]) ++ ([32,40] ++ zTl x.2.2.2.1 ++ [32,41]))) ++ (32 :: Lib.itoa x.2.2.2.2.1 ++ (32 :: Lib.itoa x.2.2.2.2.2.1 ++ (32 :: (zNW nm x.2.2.2.2.2.2 rank).data.toList ++ [10]))) := by
 unfold zWds
 rw [aAs [zName x.1],List.singleton_append,qhh,qiB,qiB,qiB,qnx,qnx,qnx]
 have e : tl [zNum x.2.2.2.2.1,zNum x.2.2.2.2.2.1,zNW nm x.2.2.2.2.2.2 rank] = 32 :: Lib.itoa x.2.2.2.2.1 ++ (32 :: Lib.itoa x.2.2.2.2.2.1 ++ (32 :: (zNW nm x.2.2.2.2.2.2 rank).data.toList)) := by
  simp [tl,zNum,bA]
 rw [e]
 simp only [aAs]
theorem qfx (nm : ByteArray) (x : Nd) (rank : Int) (hx : wtN x) : (zLn (zWds nm x rank)).length ≤ 150 + 22 * (x.2.1.length + x.2.2.1.length + x.2.2.2.1.length) := by
 have h1 := qds hx.ri; have h2 := qds hx.rs; have h3 := qds hx.ra
 have h4 := qhq hx.rn; have h5 := qhq hx.rh
 have h6 := qiA x.1; have h7 := qlN nm x.2.2.2.2.2.2 rank
 have e6 : (zName x.1).data.toList.length = (zName x.1).size := Array.length_toList
 have e7 : (zNW nm x.2.2.2.2.2.2 rank).data.toList.length = (zNW nm x.2.2.2.2.2.2 rank).size := Array.length_toList
 rw [qnm]
 simp only [lAp,lCo,List.length_nil,e6,e7]
 omega
end Go.Pf

namespace Go.Pf
open Go Go.Vm
def zNs (nm : ByteArray) (N : List Nd) (S : List LI) : List (List ByteArray) := List.zipWith (fun x s => zWds nm x (s.length : Int)) N S
theorem qgp {nm : ByteArray} {N : List Nd} {S : List LI} (h : S.length = N.length) : (zNs nm N S).length = N.length := by
 unfold zNs; rw [List.length_zipWith,h,Nat.min_self]
theorem qhw {nm : ByteArray} {N : List Nd} {S : List LI} (h : S.length = N.length) {i : Nat} (hi : i < N.length) : (zNs nm N S).getD i [] = zWds nm (N.getD i nd0) ((S.getD i []).length : Int) := by
 unfold zNs
 simp only [gDg,List.getElem?_zipWith,List.getElem?_eq_getElem hi,List.getElem?_eq_getElem (show i < S.length by omega)]
 rfl
def mesh5 : List UInt8 := [109,101,115,104]
def outs4 : List UInt8 := [111,117,116,115]
def zHd (s : LI) (nm : ByteArray) : List ByteArray := [bA mesh5,if nm = ByteArray.empty then bA [45] else nm] ++ s.map zNum
def zOt (O : LI) : List ByteArray := [bA outs4] ++ O.map zNum
def zLs (s : LI) (nm : ByteArray) (N : List Nd) (O : LI) (S : List LI) : List (List ByteArray) := [zHd s nm] ++ zNs nm N S ++ [zOt O]
def zTB (s : LI) (nm : ByteArray) (N : List Nd) (O : LI) (S : List LI) : List UInt8 := (zLs s nm N O S).flatMap zLn
def zTx2 (s : LI) (nm : ByteArray) (N : List Nd) (O : LI) (S : List LI) : ByteArray × Int := if 65536 < (zTB s nm N O S).length then (ByteArray.empty,3) else (bA (zTB s nm N O S),0)
structure wtG (s : LI) (nm : ByteArray) (N : List Nd) (O : LI) : Prop where
 n : ∀ x ∈ N,wtN x
 nm : nm.size ≤ 100000
 rs : ∀ n ∈ s,rng n
 ro : ∀ n ∈ O,rng n
theorem qnn (s : LI) (nm : ByteArray) : zLn (zHd s nm) = mesh5 ++ (32 :: (if nm = ByteArray.empty then bA [45] else nm).data.toList ++ zTl s) ++ [10] := by
 unfold zHd
 rw [List.cons_append,qhh,List.cons_append,nAp]
 congr 2
 unfold tl
 rw [List.flatMap_cons]
 show _ ++ tl (s.map zNum) = _
 rw [qlU]
theorem qqD (O : LI) : zLn (zOt O) = outs4 ++ zTl O ++ [10] := by
 unfold zOt
 rw [List.singleton_append,qhh,qlU]; rfl
theorem qj4 (s : LI) (nm : ByteArray) (N : List Nd) (O : LI) (S : List LI) (hS : S.length = N.length) (hN : N.length ≤ 100000) (hn : nm.size ≤ 100000) (hw : ∀ x ∈ N,wtN x) (hd : List ByteArray) (k : Nat) (hk : 500000 ≤ k) :
  qbe.l0 k k N N.length 0 s nm N O S [hd] = some ([hd] ++ zNs nm N S) := by
 have := iter0 (L := fun n i y => qbe.l0 k n N N.length i s nm N O S y) (st := fun i => [hd] ++ (zNs nm N S).take i) (fun _=>[hd] ++ zNs nm N S) (m := N.length) 0
  (fun n _ => by rw [qbe.l0,ifq,List.take_of_length_le (by rw [qgp hS]; omega)])
  (fun i n hi _ ih => by
   have hx := hw _ (qal hi nd0)
   have hl := qgp (nm := nm) hS
   have h0 : ((zNs nm N S).take i).length ≤ 100000 := by rw [lTk,hl]; omega
   rw [qjc (show i < (zNs nm N S).length by rw [hl]; exact hi) ([] : List ByteArray),qhw hS hi,← aAs] at ih
   rw [qbe.l0,ifp,ifp,tNc,if_pos (by rw [hS]; omega),if_pos (by rw [hS]; exact hi),qk1 s nm N O (N.getD i nd0) _ hn hx k (by omega),obs,
    if_pos (by clear ih; generalize (zNs nm N S).take i = A at h0; simp only [lAp,lSi]; omega),qav hi (by omega)]
   exact ih) k (by omega)
 rw [List.take_zero,List.append_nil] at this
 exact this
def ints (l : List UInt8) : LI := l.map fun b => (b.toNat : Int)
theorem qmj (l : List UInt8) : (ints l).length = l.length := List.length_map _
theorem WS_f (s : ByteArray) (l : List UInt8) (h1 : s.size ≤ 1000000000000) (h2 : l.length ≤ 1000000000000) : qaK.f s (ints l) = some ((s.size : Int),ints (l ++ s.data.toList)) := by
 unfold qaK.f qcT.f
 have e : s.data.toList.length = s.size := Array.length_toList
 rw [obs,if_pos (by rw [qmj,List.length_map,e]; omega)]
 unfold ints
 rw [List.map_append]
theorem qgg {B : Nat} : ∀ {L : List (List ByteArray)},(∀ l ∈ L,(zLn l).length ≤ B) → (L.flatMap zLn).length ≤ B * L.length
 | [],_ => by simp
 | l :: L,h => by
  have h1 := h l (List.mem_cons_self ..)
  have h2 := qgg (L := L) fun m hm => h m (mCm _ hm)
  rw [List.flatMap_cons,lAp,lCo,Nat.mul_add]; omega
theorem qj3 (L : List (List ByteArray)) (hL : L.length ≤ 1000) (hb : ∀ l ∈ L,l.length ≤ 10000000 ∧ (zLn l).length ≤ 100000000) (k : Nat) (hk : 2000 ≤ k) :
  qbe.l1 k L.length 0 L [] = some (ints (L.flatMap zLn)) := by
 have := iter0 (L := fun n i y => qbe.l1 n L.length i L y) (st := fun i => ints ((L.take i).flatMap zLn)) (fun _=>ints (L.flatMap zLn)) (m := L.length) 0
  (fun n _ => by rw [qbe.l1,ifq,List.take_length])
  (fun i n hi _ ih => by
   obtain ⟨h1,h2⟩ := hb _ (qal hi [])
   have h3 := qgg (B := 100000000) (L := L.take i) fun l hl => (hb l (List.mem_of_mem_take hl)).2
   rw [lTk] at h3
   have h4 : ((L.take i).flatMap zLn).length ≤ 100000000000 := by
    refine Nat.le_trans h3 ?_
    have : min i L.length ≤ 1000 := by omega
    omega
   have h5 : (Lib.join ((L.getD i []).map (·.data.toList)) [32]).length ≤ 100000000 := by unfold zLn at h2; rw [lAp] at h2; omega
   have hj : strings_Join.f (L.getD i []) (ByteArray.mk #[32]) = some (bA (Lib.join ((L.getD i []).map (·.data.toList)) [32])) := by
    unfold strings_Join.f
    rw [show (ByteArray.mk #[32]).data.toList = [32] from rfl,if_pos ⟨by omega,by omega⟩]; rfl
   rw [qjc hi ([] : List ByteArray),List.flatMap_append,List.flatMap_cons,List.flatMap_nil,List.append_nil] at ih
   rw [qbe.l1,ifp,ifp,tNc,if_pos hi,hj,obs,WS_f _ _ (by rw [qbr]; omega) (by omega),obs]
   dsimp only
   rw [qjQ,WS_f _ _ (by decide) (by rw [lAp]; omega),obs]
   dsimp only
   rw [qav hi (by omega),aAs]
   exact ih) k (by omega)
 rw [List.take_zero] at this
 exact this
theorem qpV (l : List UInt8) : u8s (ints l) = l := by
 unfold u8s ints
 rw [List.map_map]
 have : ((fun x : Int => UInt8.ofNat x.toNat) ∘ fun b : UInt8 => (b.toNat : Int)) = id := by
  funext b; simp
 rw [this,List.map_id]
theorem qoG {l : List UInt8} (h : l ≠ []) : strings_Builder_String.f (ints l) = some (bA l) := by
 unfold strings_Builder_String.f
 rw [if_pos ⟨by unfold ints; simpa using h,fun x hx => by
  obtain ⟨b,_,rfl⟩ := List.mem_map.1 hx
  have := b.toNat_lt
  omega⟩,qpV]; rfl
theorem qlO (w : ByteArray) (l : List ByteArray) (m : LI) (hr : ∀ n ∈ m,rng n) (h : ∀ x ∈ l,x.size ≤ 100000) (hw : w.size ≤ 100000) (hl : l.length ≤ 2) : (zLn (w :: (l ++ m.map zNum))).length ≤ 400000 + 22 * m.length := by
 have h1 := qds hr
 have h2 : (tl l).length ≤ 200002 := by
  match l,hl with
  | [],_ => simp [tl]
  | [a],_ =>
   have := h a (by simp)
   have e : a.data.toList.length = a.size := Array.length_toList
   simp only [tl,List.flatMap_cons,List.flatMap_nil,List.append_nil,lCo,e]; omega
  | [a,b],_ =>
   have h3 := h a (by simp); have h4 := h b (by simp)
   have e : a.data.toList.length = a.size := Array.length_toList
   have e' : b.data.toList.length = b.size := Array.length_toList
   simp only [tl,List.flatMap_cons,List.flatMap_nil,List.append_nil,lCo,lAp,e,e']; omega
 have e : w.data.toList.length = w.size := Array.length_toList
 rw [qhh,qiB,qlU]
 simp only [lAp,lSi,e]; omega
theorem qiz {s : LI} {nm : ByteArray} {N : List Nd} {O : LI} (h : (zShs s nm N O).1 = 0) : s.length ≤ 3 ∧ N.length ≤ 48 ∧ O.length ≤ 48 ∧ (zShs s nm N O).2.length = N.length ∧ zShs s nm N O = zGo (rs nm) N [] ∧ (∀ x ∈ O,0 ≤ x ∧ x < (N.length : Int)) := by
 unfold zShs at h ⊢
 by_cases c1 : zMs s (rs nm) = true
 rotate_left
 ·rw [if_neg c1] at h; cases h
 rw [if_pos c1] at h ⊢
 by_cases c2 : 48 < N.length
 ·rw [if_pos c2] at h; cases h
 rw [if_neg c2] at h ⊢
 by_cases c3 : 48 < O.length
 ·rw [if_pos c3] at h; cases h
 rw [if_neg c3] at h ⊢
 by_cases c4 : (zGo (rs nm) N []).1 = 0
 rotate_left
 ·rw [if_neg c4] at h; exact absurd h c4
 rw [if_pos c4] at h ⊢
 by_cases c5 : O.all (fun k => decide (0 ≤ k ∧ k < (N.length : Int))) = true
 rotate_left
 ·rw [if_neg c5] at h; cases h
 rw [if_pos c5]
 have h6 := qi9 (rs nm) N [] c4
 refine ⟨?_,by omega,by omega,by simpa using h6,rfl,fun x hx => by simpa using List.all_eq_true.1 c5 x hx⟩
 unfold zMs zNR at c1
 simp only [bAt,decide_eq_true_eq] at c1
 omega
theorem qqC {s : LI} {nm : ByteArray} {N : List Nd} {O : LI} (hw : wtG s nm N O) {S : List LI} (hs : s.length ≤ 3) (hN : N.length ≤ 48) (hO : O.length ≤ 48) (hS : S.length = N.length) :
  (zLs s nm N O S).length = N.length + 2 ∧ ∀ l ∈ zLs s nm N O S,l.length ≤ 10000000 ∧ (zLn l).length ≤ 100000000 := by
 have hl := qgp (nm := nm) hS
 refine ⟨by unfold zLs; simp only [lAp,lSi,hl]; omega,fun l h => ?_⟩
 unfold zLs at h
 rcases List.mem_append.1 h with h | h
 ·rcases List.mem_append.1 h with h | h
  ·rw [List.mem_singleton] at h; subst h
   have hnm := hw.nm
   have h5 : (if nm = ByteArray.empty then bA [45] else nm).size ≤ 100000 := by
    by_cases c : nm = ByteArray.empty
    ·rw [if_pos c]; decide
    ·rw [if_neg c]; exact hnm
   refine ⟨by unfold zHd; simp only [lAp,lCo,List.length_nil,List.length_map]; omega,?_⟩
   have := qlO (bA mesh5) [if nm = ByteArray.empty then bA [45] else nm] s hw.rs (fun x hx => by rw [List.mem_singleton] at hx; rw [hx]; exact h5) (by decide) (by simp)
   unfold zHd
   rw [List.cons_append]
   omega
  ·obtain ⟨i,hi,rfl⟩ := List.getElem_of_mem h
   have hi' : i < N.length := by rw [← hl]; exact hi
   have hx := hw.n _ (qal hi' nd0)
   have e : (zNs nm N S)[i] = zWds nm (N.getD i nd0) ((S.getD i []).length : Int) := by
    rw [← qhw hS hi',gDg,List.getElem?_eq_getElem hi]; rfl
   rw [e]
   have h1 := hx.i; have h2 := hx.s; have h3 := hx.a
   refine ⟨by simp only [zWds,lst,lAp,lCo,List.length_nil,List.length_map]; omega,?_⟩
   have := qfx nm _ ((S.getD i []).length : Int) hx
   omega
 ·rw [List.mem_singleton] at h; subst h
  refine ⟨by unfold zOt; simp only [lAp,lCo,List.length_nil,List.length_map]; omega,?_⟩
  have := qlO (bA outs4) [] O hw.ro (fun x hx => by cases hx) (by decide) (by simp)
  unfold zOt
  rw [nAp] at this
  rw [List.singleton_append]; omega
theorem qk2 {s : LI} {nm : ByteArray} {N : List Nd} {O : LI} (hw : wtG s nm N O) (k : Nat) (hk : 500000 ≤ k) :
  qbe.f k s nm N O = some (if (zShs s nm N O).1 = 0 then zTx2 s nm N O (zShs s nm N O).2 else (ByteArray.empty,(zShs s nm N O).1)) := by
 unfold qbe.f
 rw [qfn s nm N O hw.nm (fun x hx => (hw.n x hx).ok) k (by omega),obs]
 by_cases h0 : (zShs s nm N O).1 = 0
 rotate_left
 ·rw [if_neg h0,if_neg h0]
 obtain ⟨h1,h2,h3,h4,_,_⟩ := qiz h0
 rw [if_pos h0,if_pos h0]
 generalize (zShs s nm N O).2 = S at h4
 obtain ⟨g1,g2⟩ := qqC hw h1 h2 h3 h4
 have hl := qgp (nm := nm) h4
 have e5 : (if nm = ByteArray.empty then bA [45] else nm) = (if nm = ByteArray.empty then bA [45] else nm) := rfl
 have hT : (zTB s nm N O S).length ≤ 100000000 * 50 := by
  refine Nat.le_trans (qgg (B := 100000000) fun l h => (g2 l h).2) ?_
  rw [g1]; omega
 have hne : zTB s nm N O S ≠ [] := by
  unfold zTB zLs
  rw [aAs,List.singleton_append,List.flatMap_cons,qnn]
  simp [mesh5]
 have hd : [(ByteArray.mk #[109,101,115,104]),if nm = ByteArray.empty then bA [45] else nm] ++ s.map zNum = zHd s nm := rfl
 have ho : [(ByteArray.mk #[111,117,116,115])] ++ O.map zNum = zOt O := rfl
 rw [qeC,obs,qd5 s (by omega) hw.rs k (by omega),obs,if_pos (by simp only [lCo,List.length_nil,List.length_map]; omega),hd,
  qj4 s nm N O S h4 (by omega) hw.nm hw.n _ k (by omega),obs,qd5 O (by omega) hw.ro k (by omega),obs,if_pos (by simp only [lCo,List.length_nil,List.length_map]; omega),ho,
  if_pos (by simp only [lAp,lSi,hl]; omega)]
 have hL : [zHd s nm] ++ zNs nm N S ++ [zOt O] = zLs s nm N O S := rfl
 rw [hL,qj3 _ (by rw [g1]; omega) g2 k (by omega),obs]
 show (qbK.f (ints (zTB s nm N O S))).bind _ = _
 unfold qbK.f
 rw [obs,qmj]
 unfold zTx2
 by_cases c : 65536 < (zTB s nm N O S).length
 ·rw [ifp,if_pos c]
 ·rw [ifq,if_neg c]
  show (strings_Builder_String.f (ints (zTB s nm N O S))).bind _ = _
  rw [qoG hne]; rfl
end Go.Pf

namespace Go.Pf
open Go Go.Vm
theorem qmO (s : List UInt8) (hs : s.length ≤ 100000000000) (nm : ByteArray) (x : Nd) (rank : Int) (hx : wtN x) (F : ByteArray → Option ByteArray) (k : Nat) (hk : 500000 ≤ k) (g1 : LI) (g3 : List Nd) (g4 : LI) (hn : nm.size ≤ 100000) :
    ((qdD.f x.1).bind fun t4 => if (bA s).size + t4.size ≤ 9223372036854775807 then (qbl.f k x.2.1).bind fun t5 => if ((bA s) ++ t4).size + t5.size ≤ 9223372036854775807 then (qbl.f k x.2.2.1).bind fun t6 => if (((bA s) ++ t4) ++ t5).size + t6.size ≤ 9223372036854775807 then (qbl.f k x.2.2.2.1).bind fun t7 => if ((((bA s) ++ t4) ++ t5) ++ t6).size + t7.size ≤ 9223372036854775807 then if (((((bA s) ++ t4) ++ t5) ++ t6) ++ t7).size + (ByteArray.mk #[32]).size ≤ 9223372036854775807 then (qaE.f k x.2.2.2.2.1).bind fun t8 => if ((((((bA s) ++ t4) ++ t5) ++ t6) ++ t7) ++ (ByteArray.mk #[32])).size + t8.size ≤ 9223372036854775807 then if (((((((bA s) ++ t4) ++ t5) ++ t6) ++ t7) ++ (ByteArray.mk #[32])) ++ t8).size + (ByteArray.mk #[32]).size ≤ 9223372036854775807 then (qaE.f k x.2.2.2.2.2.1).bind fun t9 => if ((((((((bA s) ++ t4) ++ t5) ++ t6) ++ t7) ++ (ByteArray.mk #[32])) ++ t8) ++ (ByteArray.mk #[32])).size + t9.size ≤ 9223372036854775807 then if (((((((((bA s) ++ t4) ++ t5) ++ t6) ++ t7) ++ (ByteArray.mk #[32])) ++ t8) ++ (ByteArray.mk #[32])) ++ t9).size + (ByteArray.mk #[32]).size ≤ 9223372036854775807 then (qdC.f k g1 nm g3 g4 x.1 x.2.1 x.2.2.1 x.2.2.2.1 x.2.2.2.2.1 x.2.2.2.2.2.1 x.2.2.2.2.2.2 rank).bind fun t10 => if ((((((((((bA s) ++ t4) ++ t5) ++ t6) ++ t7) ++ (ByteArray.mk #[32])) ++ t8) ++ (ByteArray.mk #[32])) ++ t9) ++ (ByteArray.mk #[32])).size + t10.size ≤ 9223372036854775807 then if (((((((((((bA s) ++ t4) ++ t5) ++ t6) ++ t7) ++ (ByteArray.mk #[32])) ++ t8) ++ (ByteArray.mk #[32])) ++ t9) ++ (ByteArray.mk #[32])) ++ t10).size + (ByteArray.mk #[10]).size ≤ 9223372036854775807 then F ((((((((((((bA s) ++ t4) ++ t5) ++ t6) ++ t7) ++ (ByteArray.mk #[32])) ++ t8) ++ (ByteArray.mk #[32])) ++ t9) ++ (ByteArray.mk #[32])) ++ t10) ++ (ByteArray.mk #[10])) else none else none else none else none else none else none else none else none else none else none else none)
      = F (bA (s ++ zLn (zWds nm x rank))) := by
  have h1 := qds hx.ri; have h2 := qds hx.rs; have h3 := qds hx.ra
  have l1 := hx.i; have l2 := hx.s; have l3 := hx.a
  have h4 := qeH hx.rn; have h5 := qeH hx.rh
  have h6 := qiA x.1; have h7 := qlN nm x.2.2.2.2.2.2 rank
  have s1 : (bA ([32,40] ++ zTl x.2.1 ++ [32,41])).size ≤ 3000000 := by rw [qbr]; simp only [lAp,lCo,List.length_nil]; omega
  have s2 : (bA ([32,40] ++ zTl x.2.2.1 ++ [32,41])).size ≤ 3000000 := by rw [qbr]; simp only [lAp,lCo,List.length_nil]; omega
  have s3 : (bA ([32,40] ++ zTl x.2.2.2.1 ++ [32,41])).size ≤ 3000000 := by rw [qbr]; simp only [lAp,lCo,List.length_nil]; omega
  have s0 : (bA s).size ≤ 100000000000 := hs
  have b32 : (ByteArray.mk #[32]).size = 1 := rfl
  have b10 : (ByteArray.mk #[10]).size = 1 := rfl
  rw [qko,obs,ifp,qeM _ (by omega) hx.ri k (by omega),obs]
  generalize e1 : bA ([32,40] ++ zTl x.2.1 ++ [32,41]) = L1 at s1
  rw [if_pos (by rw [qaL]; omega),qeM _ (by omega) hx.rs k (by omega),obs]
  generalize e2 : bA ([32,40] ++ zTl x.2.2.1 ++ [32,41]) = L2 at s2
  rw [if_pos (by rw [qaL,qaL]; omega),qeM _ (by omega) hx.ra k (by omega),obs]
  generalize e3 : bA ([32,40] ++ zTl x.2.2.2.1 ++ [32,41]) = L3 at s3
  rw [if_pos (by simp only [qaL]; omega),if_pos (by simp only [qaL]; omega),qbT hx.rn.1 hx.rn.2 k (by omega),obs,
    if_pos (by simp only [qaL]; omega),if_pos (by simp only [qaL]; omega),qbT hx.rh.1 hx.rh.2 k (by omega),obs,
    if_pos (by simp only [qaL]; omega),if_pos (by simp only [qaL]; omega),qkn g1 nm g3 g4 _ _ _ _ _ _ _ _ hn hx.nt k hk,obs,
    if_pos (by simp only [qaL]; omega),if_pos (by simp only [qaL]; omega)]
  congr 1
  rw [qnm,← e1,← e2,← e3]
  have c32 : ByteArray.mk #[32] = bA [32] := rfl
  have c10 : ByteArray.mk #[10] = bA [10] := rfl
  rw [c32,c10,← qm9 (zName x.1),← qm9 (zNW nm x.2.2.2.2.2.2 rank)]
  simp only [zNum,qfp,qjQ]
  congr 1
  simp only [aAs,List.cons_append,nAp,List.singleton_append]
theorem qjt (s : LI) (nm : ByteArray) (N : List Nd) (O : LI) (S : List LI) (hS : S.length = N.length) (hN : N.length ≤ 1000) (hn : nm.size ≤ 100000) (hw : ∀ x ∈ N,wtN x) (s0 : List UInt8) (hs0 : s0.length ≤ 1000000000) (k : Nat) (hk : 500000 ≤ k) :
    qar.l1 k k (bA s0) N N.length 0 s nm N O S = some (bA (s0 ++ (zNs nm N S).flatMap zLn)) := by
  have hl := qgp (nm := nm) hS
  have := iter0 (L := fun n i y => qar.l1 k n y N N.length i s nm N O S) (st := fun i => bA (s0 ++ ((zNs nm N S).take i).flatMap zLn)) (fun _=>bA (s0 ++ (zNs nm N S).flatMap zLn)) (m := N.length) 0
    (fun n _ => by rw [qar.l1,ifq,List.take_of_length_le (by rw [hl]; omega)])
    (fun i n hi _ ih => by
      have hx := hw _ (qal hi nd0)
      have hb : (((zNs nm N S).take i).flatMap zLn).length ≤ 100000000000 - 1000000000 := by
        have h3 := qgg (B := 9000000) (L := (zNs nm N S).take i) fun l h => by
          obtain ⟨j,hj,rfl⟩ := List.getElem_of_mem (List.mem_of_mem_take h)
          have hj' : j < N.length := by rw [← hl]; exact hj
          have hy := hw _ (qal hj' nd0)
          have e : (zNs nm N S)[j] = zWds nm (N.getD j nd0) ((S.getD j []).length : Int) := by
            rw [← qhw hS hj',gDg,List.getElem?_eq_getElem hj]; rfl
          rw [e]
          have h1 := hy.i; have h2 := hy.s; have h3 := hy.a
          have := qfx nm _ ((S.getD j []).length : Int) hy
          omega
        rw [lTk,hl] at h3
        omega
      rw [qjc (show i < (zNs nm N S).length by rw [hl]; exact hi) ([] : List ByteArray),qhw hS hi,List.flatMap_append,List.flatMap_cons,List.flatMap_nil,List.append_nil,← aAs] at ih
      rw [qar.l1,ifp,ifp,tNc,qav hi (by omega)]
      have p1 : 0 ≤ (i : Int) ∧ (i : Int) < (S.length : Int) := by rw [hS]; omega
      have p2 : i < S.length := by rw [hS]; exact hi
      simp only [if_pos p1,if_pos p2]
      refine (qmO _ (by rw [lAp]; omega) nm (N.getD i nd0) ((S.getD i []).length : Int) hx (fun y => qar.l1 k n y N N.length ((i + 1 : Nat) : Int) s nm N O S) k hk s N O hn).trans ?_
      exact ih) k (by omega)
  rw [List.take_zero,List.flatMap_nil,List.append_nil] at this
  exact this
theorem qgY {s : LI} {nm : ByteArray} {N : List Nd} {O : LI} (hw : wtG s nm N O) (k : Nat) (hk : 500000 ≤ k) :
    qar.f k s nm N O = some (if (zShs s nm N O).1 = 0 then zTx2 s nm N O (zShs s nm N O).2 else (ByteArray.empty,(zShs s nm N O).1)) := by
  unfold qar.f
  rw [qfi s nm N O hw.nm (fun x hx => (hw.n x hx).ok) k (by omega),obs]
  by_cases h0 : (zShs s nm N O).1 = 0
  rotate_left
  · rw [if_neg h0,if_neg h0]
  obtain ⟨h1,h2,h3,h4,_,_⟩ := qiz h0
  rw [if_pos h0,if_pos h0]
  generalize (zShs s nm N O).2 = S at h4
  have hl := qgp (nm := nm) h4
  have hz := qds hw.rs; have hzo := qds hw.ro
  have hnm := hw.nm
  -- behind the first line
  have rest : ∀ s0 : List UInt8,s0.length ≤ 1000000 → s0 ++ zTl s ++ [10] = zLn (zHd s nm) →
      ((qar.l0 k k (bA s0) (s.length : Int) 0 s nm N O S).bind fun t14 => if t14.size + (ByteArray.mk #[10]).size ≤ 9223372036854775807 then (qar.l1 k k (t14 ++ (ByteArray.mk #[10])) N (N.length : Int) 0 s nm N O S).bind fun t15 => if t15.size + (ByteArray.mk #[111,117,116,115]).size ≤ 9223372036854775807 then (qar.l2 k k (t15 ++ (ByteArray.mk #[111,117,116,115])) (O.length : Int) 0 s nm N O).bind fun t16 => if t16.size + (ByteArray.mk #[10]).size ≤ 9223372036854775807 then if 65536 < ((t16 ++ (ByteArray.mk #[10])).size : Int) then (some (ByteArray.empty,3)) else some (t16 ++ (ByteArray.mk #[10]),(0 : Int)) else none else none else none)
        = some (zTx2 s nm N O S) := by
    intro s0 hs0 he
    have a1 := qgu s0 (fun n y i => qar.l0 k n y s.length i s nm N O S) s (by omega) hw.rs (by omega)
      (fun n y => by rw [qar.l0,ifq])
      (fun i n y hi hy => by
        have hm := hw.rs _ (qal hi 0)
        have hz := qeH hm
        rw [qar.l0,ifp,if_pos (by show _ + 1 ≤ _; omega),ifp,tNc,qbT hm.1 hm.2 k (by omega),obs,if_pos (by rw [qaL]; show _ + 1 + _ ≤ _; omega),qav hi (by omega)]
        rfl) k (by omega)
    have c10 : ByteArray.mk #[10] = bA [10] := rfl
    have co : ByteArray.mk #[111,117,116,115] = bA outs4 := rfl
    rw [a1,obs,c10,co,if_pos (by rw [qbr,qbr,lAp]; simp only [lSi]; omega),qfp,he]
    have hlen : (zLn (zHd s nm)).length ≤ 2000000 := by
      rw [← he]; simp only [lAp,lSi]; omega
    have hns : ((zNs nm N S).flatMap zLn).length ≤ 9000000 * 48 := by
      refine Nat.le_trans (qgg (B := 9000000) fun l h => ?_) (by rw [hl]; omega)
      obtain ⟨j,hj,rfl⟩ := List.getElem_of_mem h
      have hj' : j < N.length := by rw [← hl]; exact hj
      have hy := hw.n _ (qal hj' nd0)
      have e : (zNs nm N S)[j] = zWds nm (N.getD j nd0) ((S.getD j []).length : Int) := by
        rw [← qhw h4 hj',gDg,List.getElem?_eq_getElem hj]; rfl
      rw [e]
      have h1 := hy.i; have h2 := hy.s; have h3 := hy.a
      have := qfx nm _ ((S.getD j []).length : Int) hy
      omega
    rw [qjt s nm N O S h4 (by omega) hw.nm hw.n _ (by omega) k hk,obs,if_pos (by rw [qbr,qbr,lAp,show outs4.length = 4 from rfl]; omega),qfp]
    have a2 := qgu (zLn (zHd s nm) ++ (zNs nm N S).flatMap zLn ++ outs4) (fun n y i => qar.l2 k n y O.length i s nm N O) O (by omega) hw.ro (by simp only [lAp,show outs4.length = 4 from rfl]; omega)
      (fun n y => by rw [qar.l2,ifq])
      (fun i n y hi hy => by
        have hm := hw.ro _ (qal hi 0)
        have hz := qeH hm
        rw [qar.l2,ifp,if_pos (by show _ + 1 ≤ _; omega),ifp,tNc,qbT hm.1 hm.2 k (by omega),obs,if_pos (by rw [qaL]; show _ + 1 + _ ≤ _; omega),qav hi (by omega)]
        rfl) k (by omega)
    rw [a2,obs,if_pos (by rw [qbr,qbr]; simp only [lAp,lSi,show outs4.length = 4 from rfl]; omega),qfp,qbr]
    have hT : zLn (zHd s nm) ++ (zNs nm N S).flatMap zLn ++ outs4 ++ zTl O ++ [10] = zTB s nm N O S := by
      unfold zTB zLs
      rw [List.flatMap_append,List.flatMap_append,List.flatMap_cons,List.flatMap_cons,List.flatMap_nil,List.append_nil,List.append_nil,qqD]
      simp only [aAs]
    rw [hT]
    unfold zTx2
    by_cases c : 65536 < (zTB s nm N O S).length
    · rw [ifp,if_pos c]
    · rw [ifq,if_neg c]
  by_cases hne : nm = ByteArray.empty
  · rw [if_pos ((qfd _ _).2 hne)]
    refine rest [109,101,115,104,32,45] (by decide) ?_
    rw [qnn,if_pos hne]; rfl
  · rw [if_neg (fun h => hne ((qfd _ _).1 h)),if_pos (by show 5 + _ ≤ _; omega)]
    have e : (ByteArray.mk #[109,101,115,104,32]) ++ nm = bA ([109,101,115,104,32] ++ nm.data.toList) := by rw [← qfp,qm9]; rfl
    have el : nm.data.toList.length = nm.size := Array.length_toList
    rw [e]
    refine rest _ (by simp only [lAp,lCo,List.length_nil,el]; omega) ?_
    rw [qnn,if_neg hne]
    simp [mesh5]
end Go.Pf

namespace Go.Pf
open Go Go.Vm
def sml (l : LI) : Prop := ∀ x ∈ l,0 ≤ x ∧ x ≤ 32
theorem qfy : sml [] := fun x h => by cases h
theorem qnH {l : LI} (h : l.length = 0) : sml l := by rw [List.eq_nil_of_length_eq_zero h]; exact qfy
theorem qk6 {l : LI} (h : l.length = 1) (h1 : 0 ≤ l.getD 0 0 ∧ l.getD 0 0 ≤ 32) : sml l := by
 match l,h with
 | [x],_ => intro y hy; rw [List.mem_singleton] at hy; subst hy; exact h1
theorem qnI {s : LI} (h : mSR s = true) : sml s := fun x hx => by have := (qam h).2.1 x hx; omega
theorem qpS {op : Int} {ls la : Nat} {n h m : Int} (hF : zF op ls la n h m = true) : ∃ lo more s a v w,tq op = some (lo,more,s,a,v,w) ∧ (s = false → ls = 0) ∧ (a = false → la = 0) ∧ (v = false → n = 0) ∧ (w = false → h = 0) := by
 unfold zF at hF
 cases ht : tq op with
 | none => rw [ht] at hF; cases hF
 | some t =>
  obtain ⟨lo,more,s,a,v,w⟩ := t
  rw [ht] at hF
  simp only [bAt,Bool.or_eq_true,decide_eq_true_eq] at hF
  obtain ⟨⟨⟨⟨⟨_,_⟩,h1⟩,h2⟩,h3⟩,h4⟩ := hF
  exact ⟨lo,more,s,a,v,w,rfl,fun e => by subst e; simpa using h1,fun e => by subst e; simpa using h2,fun e => by subst e; simpa using h3,fun e => by subst e; simpa using h4⟩
theorem qpn : ∀ {s f z : LI},sml s → zSl s f z = true → sml f ∧ sml z
 | [],[],[],_,_ => ⟨qfy,qfy⟩
 | a :: s,f :: fr,z :: sz,h,hz => by
  obtain ⟨h1,h2⟩ := qb9.1 hz
  obtain ⟨h3,h4⟩ := qpn (fun x hx => h x (mCm _ hx)) h2
  have := h a (List.mem_cons_self ..)
  exact ⟨fun x hx => (List.mem_cons.1 hx).elim (fun e => by rw [e]; omega) (h3 x),fun x hx => (List.mem_cons.1 hx).elim (fun e => by rw [e]; omega) (h4 x)⟩
 | [],[],_ :: _,_,h | [],_ :: _,[],_,h | [],_ :: _,_ :: _,_,h | _ :: _,[],_,_,h | _ :: _,_ :: _,[],_,h => by cases h
theorem qnk : ∀ {s f z : LI},zMay s f z = true → sml f ∧ sml z
 | [],[],[],_ => ⟨qfy,qfy⟩
 | a :: s,f :: fr,z :: sz,hz => by
  obtain ⟨⟨h1,h5⟩,h2⟩ := qca.1 hz
  obtain ⟨h3,h4⟩ := qnk h2
  exact ⟨fun x hx => (List.mem_cons.1 hx).elim (fun e => by rw [e]; omega) (h3 x),fun x hx => (List.mem_cons.1 hx).elim (fun e => by rw [e]; omega) (h4 x)⟩
 | [],[],_ :: _,h | [],_ :: _,[],h | [],_ :: _,_ :: _,h | _ :: _,[],_,h | _ :: _,_ :: _,[],h => by cases h
theorem qpm {o : LI} (ho : o.length ≤ 4) : ∀ {l : Int} {s a : LI},-1 ≤ l → zWi o l s a = true → sml a
 | _,[],[],_,_ => qfy
 | l,x :: s,k :: a,hl,h => by
  obtain ⟨h1,h2⟩ := qdi.1 h
  have := qpm ho (show -1 ≤ k by omega) h2
  exact fun y hy => (List.mem_cons.1 hy).elim (fun e => by rw [e]; omega) (this y)
 | _,[],_ :: _,_,h | _,_ :: _,[],_,h => by cases h
theorem qpq {m : Int} (hm : m ≤ 4) : ∀ {l : Int} {a : LI},-1 ≤ l → zRi m l a = true → sml a
 | _,[],_,_ => qfy
 | l,k :: a,hl,h => by
  obtain ⟨h1,h2⟩ := qcF.1 h
  have := qpq hm (show -1 ≤ k by omega) h2
  exact fun y hy => (List.mem_cons.1 hy).elim (fun e => by rw [e]; omega) (this y)
theorem qpu {a : LI} (n : Nat) (h1 : sml (a.take n)) (h2 : sml (a.drop n)) : sml a := fun x hx => by
 rw [← List.take_append_drop n a] at hx
 rcases List.mem_append.1 hx with hx | hx
 ·exact h1 x hx
 ·exact h2 x hx
theorem qng {op : Int} {s a : LI} {n h : Int} {l : List LI} (e : (zSh op s a n h l).1 = 0) : sml s ∧ sml a ∧ 0 ≤ h ∧ h ≤ 4 := by
 unfold zSh at e
 by_cases hF : zF op s.length a.length n h l.length = true
 rotate_left
 ·rw [if_neg hF] at e; simp at e
 rw [if_pos hF] at e
 by_cases hA : l.all mSR = true
 rotate_left
 ·rw [if_neg hA] at e; simp at e
 rw [if_pos hA] at e
 have hR : mSR (l.getD 0 []) = true := by
  cases l with
  | nil => decide
  | cons x l => exact List.all_eq_true.1 hA x (List.mem_cons_self ..)
 have hl4 := (qam hR).1
 have hsm := qnI hR
 obtain ⟨lo,more,fs,fa,fv,fw,ht,z1,z2,z3,z4⟩ := qpS hF
 have n1 : ∀ {p : Prop} [Decidable p] {x : Int × LI} {c : Int},c ≠ 0 → (if p then x else (c,([] : LI))).1 = 0 → p ∧ x.1 = 0 := fun hc h => by
  split at h
  ·exact ⟨‹_›,h⟩
  ·exact absurd h hc
 unfold zShape at e
 rcases qdZ op with rfl | rfl | rfl | rfl | rfl | rfl | rfl | rfl | rfl | rfl | rfl | rfl | rfl | rfl | rfl | rfl | rfl | rfl | rfl | rfl | hout
 case inr.inr.inr.inr.inr.inr.inr.inr.inr.inr.inr.inr.inr.inr.inr.inr.inr.inr.inr.inr => rw [qj9 hout] at ht; cases ht
 all_goals
  simp only [tq,Int.reduceEq,reduceIte,or_self,or_true,true_or,Int.reduceLE,and_true,and_self,true_and,false_and,and_false,or_false,false_or,Option.some.injEq,Prod.mk.injEq] at ht e
  obtain ⟨_,_,rfl,rfl,rfl,rfl⟩ := ht
 all_goals try (have hs0 := qnH (z1 rfl))
 all_goals try (have ha0 := qnH (z2 rfl))
 all_goals try (have hh0 := z4 rfl)
 all_goals try exact ⟨hs0,ha0,by omega,by omega⟩
 ·exact ⟨qnI (n1 (by decide) e).1,ha0,by omega,by omega⟩
 ·exact ⟨qnI (n1 (by decide) e).1,ha0,by omega,by omega⟩
 ·obtain ⟨h1,h2⟩ := n1 (by decide) e
  have h3 := (n1 (by decide) h2).1
  have := (qam h1).1
  exact ⟨qnI h1,qk6 h3.1 (by omega),by omega,by omega⟩
 ·have h1 := qe7.1 (n1 (by decide) e).1
  exact ⟨hs0,fun x hx => by have := h1.mem x hx; omega,by omega,by omega⟩
 ·obtain ⟨h1,h2⟩ := n1 (by decide) e
  have h3 := (n1 (by decide) h2).1
  exact ⟨qnI h1,qpm (qam h1).1 (by omega) h3,by omega,by omega⟩
 ·have h1 := (n1 (by decide) e).1
  obtain ⟨h2,h3⟩ := qpn hsm h1.2
  exact ⟨hs0,qpu _ h2 h3,by omega,by omega⟩
 ·have h1 := (n1 (by decide) e).1
  obtain ⟨h2,h3⟩ := qnk h1.2
  exact ⟨hs0,qpu _ h2 h3,by omega,by omega⟩
 ·obtain ⟨h1,h2⟩ := n1 (by decide) e
  have h3 : 0 ≤ a.getD 0 0 ∧ a.getD 0 0 < ((l.getD 0 []).length : Int) := by
   unfold zJs at h2
   by_cases c : l = [] ∨ a.getD 0 0 < 0 ∨ ((l.getD 0 []).length : Int) ≤ a.getD 0 0
   ·rw [if_pos c] at h2; cases h2
   ·omega
  exact ⟨hs0,qk6 h1 (by omega),by omega,by omega⟩
 ·obtain ⟨h1,h2⟩ := n1 (by decide) e
  have h3 := (n1 (by decide) h2).1
  exact ⟨hs0,qpq (by omega) (by omega) h3,by omega,by omega⟩
 ·obtain ⟨h1,h2⟩ := n1 (by decide) e
  have h3 : 0 ≤ a.getD 0 0 ∧ a.getD 0 0 < ((l.getD 0 []).length : Int) := by
   unfold zDS at h2
   by_cases c : a.getD 0 0 < 0 ∨ ((l.getD 0 []).length : Int) ≤ a.getD 0 0 ∨ ((l.getD 1 []).length : Int) ≤ a.getD 0 0
   ·rw [if_pos c] at h2; cases h2
   ·omega
  exact ⟨hs0,qk6 h1 (by omega),by omega,by omega⟩
 ·have h1 := (n1 (by decide) e).1
  obtain ⟨h2,⟨h3,h4,h5⟩,h6⟩ := h1
  refine ⟨hs0,?_,by omega,by omega⟩
  match a,h2 with
  | [x,y,z],_ =>
   simp only [List.getD_cons_zero,List.getD_cons_succ] at h4 h5 h6
   intro v hv
   rcases List.mem_cons.1 hv with rfl | hv
   ·omega
   rcases List.mem_cons.1 hv with rfl | hv
   ·omega
   rw [List.mem_singleton] at hv; subst hv; omega
end Go.Pf

namespace Go.Pf
open Go Go.Vm
def Giv {α : Type} (p : α → Prop) (o : Option α) : Prop := ∀ r,o = some r → p r
theorem Giv.none {α : Type} {p : α → Prop} : Giv p none := fun _ h => by cases h
theorem Giv.some {α : Type} {p : α → Prop} {x : α} (h : p x) : Giv p (some x) := fun _ e => by cases e; exact h
theorem Giv.bind {α β : Type} {p : β → Prop} {o : Option α} {f : α → Option β} (h : ∀ x,o = Option.some x → Giv p (f x)) : Giv p (o.bind f) := fun r e => by
 cases ho : o with
 | none => rw [ho] at e; cases e
 | some x => rw [ho] at e; exact h x ho r e
theorem Giv.ite {α : Type} {p : α → Prop} {c : Prop} [Decidable c] {x y : Option α} (h1 : c → Giv p x) (h2 : ¬ c → Giv p y) : Giv p (if c then x else y) := by
 split
 ·exact h1 ‹_›
 ·exact h2 ‹_›
theorem rng0 : rng 0 := by unfold rng; omega
theorem qqb (L : LI) (p : Int) : Giv (fun r => rng r.1) (qbf.f L p) := by
 unfold qbf.f
 refine Giv.bind fun t1 _ => Giv.ite (fun _=>Giv.bind fun t2 _ => Giv.ite (fun h => Giv.ite (fun h' => Giv.some ?_) fun _=>Giv.none) fun _=>Giv.none) fun _=>Giv.ite (fun _=>Giv.some rng0) fun _=>Giv.bind fun t3 _ => Giv.some (qmk _)
 dsimp only
 have hm := qal h' 0
 generalize List.getD _ _ _ = x at hm
 unfold rng
 simp only [List.mem_cons,List.not_mem_nil,or_false] at hm
 omega
theorem qmx (k : Nat) : ∀ (n : Nat) (x1 : List LI) (x2 : Int) (x7 : LI) (x8 x9 x10 : Int) (L : LI) (p y0 y1 y2 : Int) (y3 : ByteArray),Giv (fun r => Sum.elim (fun _=>True) (fun t => rng t.2.1) r) (qao.l1 k n x1 x2 x7 x8 x9 x10 L p y0 y1 y2 y3)
 | 0,_,_,_,_,_,_,_,_,_,_,_,_ => by unfold qao.l1; exact Giv.none
 | n + 1,_,_,_,_,_,_,_,_,_,_,_,_ => by
  unfold qao.l1
  have ih := qmx k n
  exact Giv.ite (fun _=>Giv.ite (fun _=>Giv.bind fun t2 _ => Giv.ite (fun _=>Giv.bind fun t3 _ => Giv.ite (fun _=>Giv.some rng0) fun _=>ih _ _ _ _ _ _ _ _ _ _ _ _) fun _=>ih _ _ _ _ _ _ _ _ _ _ _ _) fun _=>Giv.none) fun _=>Giv.some trivial
theorem qmy (k : Nat) : ∀ (n : Nat) (x1 : List LI) (x2 : Int) (x7 : LI) (x8 : Int) (L : LI) (p y0 y1 y2 : Int) (y3 : ByteArray),Giv (fun r => Sum.elim (fun _=>True) (fun t => rng t.2.2.1) r) (qao.l0 k n x1 x2 x7 x8 L p y0 y1 y2 y3)
 | 0,_,_,_,_,_,_,_,_,_,_ => by unfold qao.l0; exact Giv.none
 | n + 1,_,_,_,_,_,_,_,_,_,_ => by
  unfold qao.l0
  have ih := qmy k n
  refine Giv.ite (fun _=>Giv.bind fun t1 _ => Giv.ite (fun _=>Giv.bind fun t4 h4 => ?_) fun _=>Giv.none) fun _=>Giv.some trivial
  have h := qmx _ _ _ _ _ _ _ _ _ _ _ _ _ _ _ h4
  cases t4 with
  | inl u => exact ih _ _ _ _ _ _ _ _ _ _
  | inr u => exact Giv.some h
theorem qqo (k : Nat) (S : List LI) (a : Int) (L : LI) (p : Int) : Giv (fun r => rng r.2.1) (qao.f k S a L p) := by
 unfold qao.f
 refine Giv.ite (fun _=>Giv.bind fun t5 h5 => ?_) fun _=>Giv.none
 have h := qmy _ _ _ _ _ _ _ _ _ _ _ _ _ h5
 cases t5 with
 | inl u => exact Giv.some rng0
 | inr u => exact Giv.some h
set_option maxRecDepth 100000 in
theorem qoW (S : List LI) (L : LI) (p : Int) (k : Nat) : Giv (fun r => rng r.2.2.2.1) (qae.f k S L p) := by
 unfold qae.f
 repeat' first
  | exact Giv.none
  | exact Giv.some rng0
  | (refine Giv.some ?_; dsimp only; exact qqb _ _ _ (by assumption))
  | refine Giv.ite (fun _=>?_) (fun _=>?_)
  | refine Giv.bind fun _ _ => ?_
  | (refine Giv.some ?_; dsimp only; exact qqo _ _ _ _ _ _ (by assumption))
theorem qiQ (k : Nat) : ∀ (n : Nat) (x6 : Int) (y0 : ByteArray) (L : LI) (p : Int) (y2 : ByteArray) (S : List LI) (y4 : LI) (N : List Nd),(∀ x ∈ N,rng x.2.2.2.2.1) →
  Giv (fun r => ∀ x ∈ r.2.2,rng x.2.2.2.2.1) (qau.l0 k n x6 y0 L p y2 S y4 N)
 | 0,_,_,_,_,_,_,_,_,_ => by unfold qau.l0; exact Giv.none
 | n + 1,x6,y0,L,p,y2,S,y4,N,h => by
  unfold qau.l0
  have ih := qiQ k n
  refine Giv.ite (fun _=>Giv.bind fun t3 h3 => ?_) fun _=>Giv.some h
  have hr : rng t3.2.2.2.1 := qoW _ _ _ _ _ h3
  have snoc : ∀ (x : Nd),x.2.2.2.2.1 = t3.2.2.2.1 → ∀ y ∈ N ++ [x],rng y.2.2.2.2.1 := fun x e y hy => by
   rcases List.mem_append.1 hy with hy | hy
   ·exact h y hy
   ·rw [List.mem_singleton] at hy; rw [hy,e]; exact hr
  refine Giv.bind fun t4 _ => Giv.bind fun t5 _ => Giv.ite (fun _=>Giv.bind fun t6 _ => Giv.ite (fun _=>ih _ _ _ _ _ _ _ _ h) fun _=>Giv.bind fun t7 _ => Giv.ite (fun _=>Giv.bind fun t8 _ => Giv.bind fun t9 _ => Giv.ite (fun _=>Giv.ite (fun _=>ih _ _ _ _ _ _ _ _ (snoc _ rfl)) fun _=>Giv.none) fun _=>Giv.none)
   fun _=>Giv.ite (fun _=>Giv.ite (fun _=>ih _ _ _ _ _ _ _ _ (snoc _ rfl)) fun _=>Giv.none) fun _=>Giv.none) fun _=>ih _ _ _ _ _ _ _ _ h
theorem qoi (L : LI) (k : Nat) : Giv (fun r => ∀ x ∈ r.2.2.1,rng x.2.2.2.2.1) (qau.f k L) := by
 unfold qau.f
 exact Giv.bind fun t1 _ => Giv.bind fun t2 _ => Giv.bind fun t10 h10 => Giv.bind fun t11 _ => Giv.bind fun t14 _ => Giv.some (qiQ _ _ _ _ _ _ _ _ _ _ (fun _ h => by cases h) _ h10)
theorem qnG {l : LI} (h : sml l) : ∀ n ∈ l,rng n := fun n hn => by have := h n hn; unfold rng; omega
theorem qnq {out : List LI} : ∀ {l : LI} {r : List LI},zIn out l = some r → ∀ x ∈ l,0 ≤ x ∧ x < (out.length : Int)
 | [],_,_,x,hx => by cases hx
 | y :: l,r,h,x,hx => by
  rw [zIn] at h
  split at h
  ·cases h
  ·rename_i hc
   cases e : zIn out l with
   | none => rw [e] at h; cases h
   | some q =>
    rcases List.mem_cons.1 hx with rfl | hx
    ·omega
    ·exact qnq e x hx
theorem qni {nm : LI} {out : List LI} {x : Nd} (h : (zNd nm out x).1 = 0) : (∀ n ∈ x.2.1,0 ≤ n ∧ n < (out.length : Int)) ∧ sml x.2.2.1 ∧ sml x.2.2.2.1 ∧ 0 ≤ x.2.2.2.2.2.1 ∧ x.2.2.2.2.2.1 ≤ 4 := by
 unfold zNd at h
 cases e : zIn out x.2.1 with
 | none => rw [e] at h; cases h
 | some l =>
  rw [e] at h
  dsimp only at h
  by_cases c : (zSh x.1 x.2.2.1 x.2.2.2.1 x.2.2.2.2.1 x.2.2.2.2.2.1 l).1 = 0
  ·exact ⟨qnq e,qng c⟩
  ·rw [if_neg c] at h; exact absurd h c
theorem qj0 {nm : LI} : ∀ {N : List Nd} {out : List LI},(zGo nm N out).1 = 0 → ∀ x ∈ N,(∀ n ∈ x.2.1,0 ≤ n ∧ n < ((out.length + N.length : Nat) : Int)) ∧ sml x.2.2.1 ∧ sml x.2.2.2.1 ∧ 0 ≤ x.2.2.2.2.2.1 ∧ x.2.2.2.2.2.1 ≤ 4
 | [],_,_,x,hx => by cases hx
 | y :: N,out,h,x,hx => by
  rw [zGo] at h
  by_cases c : (zNd nm out y).1 = 0
  ·rw [if_pos c] at h
   rcases List.mem_cons.1 hx with rfl | hx
   ·obtain ⟨h1,h2⟩ := qni c
    exact ⟨fun n hn => by have := h1 n hn; rw [lCo]; omega,h2⟩
   ·obtain ⟨h1,h2⟩ := qj0 h x hx
    exact ⟨fun n hn => by have := h1 n hn; rw [lAp,lSi] at this; rw [lCo]; omega,h2⟩
  ·rw [if_neg c] at h; exact absurd h c
theorem qpW {L : LI} (T : Tp L) (k : Nat) (hk : 500000 ≤ k) : ∃ nm sz N O S,qau.f k L = some (nm,sz,N,O) ∧ MeshOK nm sz ∧ GrOK (rs nm) S N ∧ N.length ≤ 10 ∧ O.length ≤ 10 ∧ (∀ x ∈ O,0 ≤ x ∧ x < (N.length : Int)) ∧ wtG sz nm N O ∧ zShs sz nm N O = (0,S) := by
 obtain ⟨nm,sz,N,O,S,e,hm,hG,h1,h2,h3⟩ := qmH T k (by omega)
 have hr := qoi L k _ e
 have hz := GrOK.shs hm hG (by omega) (by omega : O.length ≤ 48) h3
 have h0 : (zGo (rs nm) N []).1 = 0 := by rw [hG.go]
 refine ⟨nm,sz,N,O,S,e,hm,hG,h1,h2,h3,⟨fun x hx => ?_,by have := hm.size; omega,fun n hn => ?_,fun n hn => ?_⟩,hz⟩
 ·obtain ⟨a1,a2,a3,a4⟩ := hG.ti x hx
  obtain ⟨b1,b2,b3,b4,b5⟩ := qj0 h0 x hx
  exact ⟨by omega,by omega,by omega,by omega,fun n hn => by have := b1 n hn; rw [List.length_nil] at this; unfold rng; omega,qnG b2,qnG b3,hr x hx,by unfold rng; omega⟩
 ·have := hm.right.1
  have h5 := List.all_eq_true.1 (qjy this).2.1 n hn
  unfold okD at h5
  simp only [bAt,decide_eq_true_eq] at h5
  unfold rng; omega
 ·have := h3 n hn; unfold rng; omega
end Go.Pf

namespace Go.Pf
open Go Go.Vm
theorem qpK {e : Nat} (he : 1 ≤ e) {u : Nat} (h : u < 10 ^ e) : (Lib.decDigits u).length ≤ e := by
 rw [Lib.decDigits_length]
 induction e generalizing u with
 | zero => omega
 | succ e ih =>
  by_cases h10 : u < 10
  ·rw [Lib.nDigits_small h10]; omega
  ·rw [Lib.nDigits_big h10]
   have he' : 1 ≤ e := by rcases e with _ | e; (· simp at h; omega); omega
   have := ih he' (u := u / 10) (by rw [Nat.pow_succ] at h; omega); omega
theorem qor (u : Nat) : 1 ≤ (Lib.decDigits u).length := by rw [Lib.decDigits_length]; exact Lib.nDigits_pos u
theorem qgz {n : Int} (h : rng n) : (Lib.itoa n).length ≤ 20 := by
 obtain ⟨h1,h2⟩ := h
 unfold Lib.itoa
 split
 ·have := qpK (e := 19) (by omega) (u := n.natAbs) (by omega); simp only [lCo]; omega
 ·have := qpK (e := 19) (by omega) (u := n.toNat) (by omega); omega
theorem qmi (n : Int) : 1 ≤ (Lib.itoa n).length := by
 unfold Lib.itoa; split
 ·simp
 ·exact qor _
theorem qd4 (d : Nat) (h : d < 10) : (UInt8.ofNat (48 + d)).toNat = 48 + d := by
 rw [UInt8.toNat_ofNat']; omega
theorem qq3 (u : Nat) : ∀ c ∈ Lib.decDigits u,48 ≤ c.toNat ∧ c.toNat ≤ 57 := by
 induction u using Nat.strongRecOn with
 | _ u ih =>
  intro c hc
  rw [Lib.decDigits] at hc
  split at hc
  ·simp only [List.mem_singleton] at hc; subst hc; rw [qd4 _ (by omega)]; omega
  ·rcases List.mem_append.1 hc with hc | hc
   ·exact ih _ (by omega) c hc
   ·simp only [List.mem_singleton] at hc; subst hc; rw [qd4 _ (by omega)]; omega
theorem pU_dd (M : Nat) (hM : M < 18446744073709551616) (u : Nat) : ∀ r : List UInt8,u ≤ M → Lib.parseUintM M 0 (Lib.decDigits u ++ r) = Lib.parseUintM M u r := by
 induction u using Nat.strongRecOn with
 | _ u ih =>
  intro r hu
  by_cases h10 : u < 10
  ·rw [Lib.decDigits,dif_pos h10,List.singleton_append,Lib.parseUintM,qd4 _ h10,ifp,ifq,ifq]
   congr 1; omega
  ·rw [Lib.decDigits,dif_neg h10,aAs,ih (u / 10) (by omega) _ (by omega),List.singleton_append,Lib.parseUintM,qd4 _ (by omega),ifp,ifq,ifq]
   congr 1; omega
theorem qpz {u : Nat} (h : u < 18446744073709551616) : Lib.parseUintB 64 (Lib.decDigits u) = .ok u := by
 unfold Lib.parseUintB
 rw [if_neg (fun h => by have := qor u; rw [h] at this; simp at this)]
 have := pU_dd (2 ^ 64 - 1) (by decide) u [] (by omega)
 rw [List.append_nil] at this
 rw [this]; rfl
theorem qlC (u : Nat) : ∃ c r,Lib.decDigits u = c :: r ∧ 48 ≤ c.toNat ∧ c.toNat ≤ 57 := by
 have h1 := qor u; have h2 := qq3 u
 cases h : Lib.decDigits u with
 | nil => rw [h] at h1; simp at h1
 | cons c r => rw [h] at h2; exact ⟨c,r,rfl,h2 c (by simp)⟩
theorem qqP {r : List UInt8} {u : Nat} (h : Lib.parseUintB 64 r = .ok u) (hu : u ≤ 9223372036854775808) : Lib.parseIntB 64 (45 :: r) = .ok (-(u : Int)) := by
 unfold Lib.parseIntB
 dsimp only
 rw [if_pos (show (45 : UInt8).toNat = 43 ∨ (45 : UInt8).toNat = 45 from .inr rfl),h]
 dsimp only
 rw [if_neg (fun h => h.1 rfl),if_neg (fun h => by have := h.2; omega),if_pos (show (45 : UInt8).toNat = 45 from rfl)]
theorem qqO {c : UInt8} {r : List UInt8} {u : Nat} (h1 : 48 ≤ c.toNat) (h2 : c.toNat ≤ 57) (h : Lib.parseUintB 64 (c :: r) = .ok u) (hu : u < 9223372036854775808) : Lib.parseIntB 64 (c :: r) = .ok (u : Int) := by
 unfold Lib.parseIntB
 dsimp only
 rw [if_neg (show ¬ (c.toNat = 43 ∨ c.toNat = 45) by omega),h]
 dsimp only
 rw [if_neg (fun h => by have := h.2; omega),if_neg (fun h => by have := h.1; omega),ifq]
theorem qp9 {n : Int} (h : rng n) : Lib.parseIntB 64 (Lib.itoa n) = .ok n := by
 obtain ⟨h1,h2⟩ := h
 unfold Lib.itoa
 by_cases hn : n < 0
 ·rw [if_pos hn,qqP (qpz (u := n.natAbs) (by omega)) (by omega)]
  congr 1; omega
 ·rw [if_neg hn]
  obtain ⟨c,r,e,hc1,hc2⟩ := qlC n.toNat
  have hp := qpz (u := n.toNat) (by omega)
  rw [e] at hp ⊢
  rw [qqO hc1 hc2 hp (by omega)]
  congr 1; omega
theorem qpD {l : List UInt8} {v : Int} (h : Lib.parseIntB 64 l = .ok v) : rng v := by
 unfold Lib.parseIntB at h
 split at h
 ·cases h
 ·rename_i c r
  split at h
  ·cases h
  ·cases h
  ·rename_i u _
   simp only at h
   split at h
   ·cases h
   ·split at h
    ·cases h
    ·rename_i h1 h2
     cases h
     unfold rng
     by_cases hc : c.toNat = 45
     ·rw [if_pos hc]; simp [hc] at h2; omega
     ·rw [if_neg hc]; simp [hc] at h1; omega
def zVal (s : ByteArray) : Option Int := match Lib.parseIntB 64 s.data.toList with
 | .ok v => if zNum v = s then some v else none
 | _ => none
theorem qlH {n : Int} (h : rng n) : zVal (zNum n) = some n := by
 unfold zVal zNum
 rw [qjQ,qp9 h]
 simp
theorem qeF {s : ByteArray} {n : Int} (h : zVal s = some n) : s = zNum n ∧ rng n := by
 unfold zVal at h
 split at h
 ·rename_i v hv
  split at h
  ·rename_i he; cases h; exact ⟨he.symm,qpD hv⟩
  ·cases h
 ·cases h
theorem qeG {s : ByteArray} (h : ∀ n,rng n → s ≠ zNum n) : zVal s = none := by
 cases e : zVal s with
 | none => rfl
 | some n => exact absurd (qeF e).1 (h n (qeF e).2)
def zV2 (s : ByteArray) : Int × Bool := match zVal s with | some n => (n,true) | none => (0,false)
theorem qja (s : ByteArray) (hs : s.size ≤ 281474976710656) : qdG.f s = some (zV2 s) := by
 unfold qdG.f strconv_ParseInt.f zV2 zVal
 rw [if_pos ⟨rfl,rfl,hs⟩,obs]
 cases h : Lib.parseIntB 64 s.data.toList with
 | ok v =>
  have hr := qpD h
  dsimp only
  rw [if_neg (by decide),qdu hr.1 hr.2,obs,qbQ]
  by_cases he : zNum v = s
  ·rw [decide_eq_true he,if_pos rfl,if_pos he]
  ·rw [decide_eq_false he,if_neg (by decide),if_neg he]
 | «syntax» => rfl
 | range => rfl
theorem qcx (s : ByteArray) (hs : s.size ≤ 281474976710656) : qcp.f s = some (zV2 s) := by
 unfold qcp.f; rw [qja s hs]; rfl
theorem qnU (s : ByteArray) (x : Int) (i n : Nat) (d : Nat) (hd : d < 10) (hi : i < s.size) (hb : s.size ≤ 100000) (hc : s.data.toList.getD i 0 = UInt8.ofNat (48 + d)) :
  qaA.l0 (n + 1) s x (i : Int) = qaA.l0 n s (IntKind.i64.wrap (IntKind.i64.wrap (x * 10) - (d : Int))) ((i + 1 : Nat) : Int) := by
 have hc' : (s.data.getD (i : Int).toNat 0) = UInt8.ofNat (48 + d) := by
  rw [← hc]; simp [Array.getD_eq_getD_getElem?,gDg]
 have hw : IntKind.i64.wrap (IntKind.u8.wrap (((48 + d : Nat) : Int) - 48)) = (d : Int) := by
  match d,hd with
  | 0,_ | 1,_ | 2,_ | 3,_ | 4,_ | 5,_ | 6,_ | 7,_ | 8,_ | 9,_ => rfl
  | d + 10,h => omega
 have hi1 : IntKind.i64.wrap ((i : Int) + 1) = ((i + 1 : Nat) : Int) := by rw [qak (by omega) (by omega)]; omega
 rw [qaA.l0,ifp]
 by_cases h0 : (i : Int) = 0
 ·have h00 : i = 0 := by omega
  subst h00
  have hc0 : s.data.getD 0 0 = UInt8.ofNat (48 + d) := hc'
  rw [if_pos h0,ifp,hc0,qd4 _ hd,ifq,ifp]
  rw [show s.data.getD ((0 : Nat) : Int).toNat 0 = UInt8.ofNat (48 + d) from hc0,qd4 _ hd,ifq,ifq,hw,hi1]
 ·rw [if_neg h0,ifp,hc',qd4 _ hd,ifq,ifq,hw,hi1]
theorem qqJ (s : ByteArray) (hb : s.size ≤ 100000) (u : Nat) : ∀ (p r : List UInt8) (n : Nat),u ≤ 9223372036854775808 → s.data.toList = p ++ (Lib.decDigits u ++ r) →
  qaA.l0 (n + (Lib.decDigits u).length) s 0 (p.length : Int) = qaA.l0 n s (-(u : Int)) ((p.length + (Lib.decDigits u).length : Nat) : Int) := by
 induction u using Nat.strongRecOn with
 | _ u ih =>
  intro p r n hu he
  have hsz : s.size = s.data.toList.length := (Array.length_toList (xs := s.data)).symm
  by_cases h10 : u < 10
  ·rw [Lib.decDigits,dif_pos h10] at he ⊢
   rw [lSi,qnU s 0 p.length n u h10 (by rw [hsz,he]; simp) hb (by rw [he]; simp [gDg])]
   congr 1
   rw [qak (n := 0 * 10) (by omega) (by omega),qak (by omega) (by omega)]; omega
  ·rw [Lib.decDigits,dif_neg h10] at he ⊢
   rw [aAs] at he
   rw [lAp,lSi,show n + ((Lib.decDigits (u / 10)).length + 1) = (n + 1) + (Lib.decDigits (u / 10)).length by omega,ih (u / 10) (by omega) p _ (n + 1) (by omega) he,
    qnU s _ _ n (u % 10) (by omega) (by rw [hsz,he]; simp) hb (by rw [he,← aAs]; simp [gDg,List.getElem?_append])]
   congr 1
   rw [qak (n := -((u / 10 : Nat) : Int) * 10) (by omega) (by omega),qak (by omega) (by omega)]; omega
theorem qpx (s : ByteArray) (hb : s.size ≤ 100000) : ∀ (e i n : Nat) (x : Int),s.size = i + e → e < n → rng x → ∃ r,qaA.l0 n s x (i : Int) = some r ∧ (r = .inr (0,false) ∨ ∃ t,r = .inl t ∧ rng t)
  | 0,i,n,x,he,hn,hx => by
    obtain ⟨n,rfl⟩ := sun (n := n)
    rw [qaA.l0,ifq]
    exact ⟨_,rfl,.inr ⟨_,rfl,hx⟩⟩
  | e + 1,i,n,x,he,hn,hx => by
    obtain ⟨n,rfl⟩ := sun (n := n)
    have hi1 : IntKind.i64.wrap ((i : Int) + 1) = ((i + 1 : Nat) : Int) := by rw [qak (by omega) (by omega)]; omega
    have ih : ∀ x,rng x → ∃ r,qaA.l0 n s x ((i + 1 : Nat) : Int) = some r ∧ (r = .inr (0,false) ∨ ∃ t,r = .inl t ∧ rng t) := fun x hx => qpx s hb e (i + 1) n x (by omega) (by omega) hx
    rw [qaA.l0,ifp,hi1]
    split
    · rw [ifp]
      split
      · exact ih _ hx
      · rw [ifp]
        split
        · exact ⟨_,rfl,.inl rfl⟩
        · split
          · exact ⟨_,rfl,.inl rfl⟩
          · exact ih _ (qmk _)
    · rw [ifp]
      split
      · exact ⟨_,rfl,.inl rfl⟩
      · split
        · exact ⟨_,rfl,.inl rfl⟩
        · exact ih _ (qmk _)
theorem qda (s : ByteArray) (k : Nat) (hk : 200 ≤ k) : qaA.f k s = some (zV2 s) := by
 unfold qaA.f
 have hsz : s.size = s.data.toList.length := (Array.length_toList (xs := s.data)).symm
 by_cases h1 : (s.size : Int) < 1
 ·rw [if_pos h1]
  unfold zV2
  rw [qeG (fun n hn e => by rw [e] at h1; have : (zNum n).size = (Lib.itoa n).length := rfl; have := qmi n; omega)]
 rw [if_neg h1]
 by_cases h2 : 20 < (s.size : Int)
 ·rw [if_pos h2]
  unfold zV2
  rw [qeG (fun n hn e => by rw [e] at h2; have : (zNum n).size = (Lib.itoa n).length := rfl; have := qgz hn; omega)]
 rw [if_neg h2]
 by_cases hv : ∃ n,rng n ∧ s = zNum n
 ·obtain ⟨n,hn,rfl⟩ := hv
  obtain ⟨b1,b2⟩ := hn
  unfold zV2; rw [qlH ⟨b1,b2⟩]
  have hl : (zNum n).data.toList = Lib.itoa n := qjQ _
  have hsz' : (zNum n).size = (Lib.itoa n).length := rfl
  by_cases hneg : n < 0
  ·have hi : Lib.itoa n = 45 :: Lib.decDigits n.natAbs := by unfold Lib.itoa; rw [if_pos hneg]
   have hg : (zNum n).data.getD 0 0 = 45 := by
    rw [show (zNum n).data.getD 0 0 = (zNum n).data.toList.getD 0 0 by simp [Array.getD_eq_getD_getElem?,gDg],hl,hi]; rfl
   have hL : qaA.l0 k (zNum n) 0 0 = some (.inl n) := by
    obtain ⟨m,rfl⟩ : ∃ m,k = (m + 1 + (Lib.decDigits n.natAbs).length) + 1 := ⟨k - 2 - (Lib.decDigits n.natAbs).length,by have := qgz ⟨b1,b2⟩; rw [hi] at this; simp only [lCo] at this; omega⟩
    rw [qaA.l0,ifp,if_pos rfl,ifp,hg,if_pos (by decide),qak (n := 0 + 1) (by omega) (by omega)]
    have := qqJ (zNum n) (by omega) n.natAbs [45] [] (m + 1) (by omega) (by rw [hl,hi]; simp)
    rw [show (0 : Int) + 1 = (([45] : List UInt8).length : Int) from rfl,this,qaA.l0,if_neg (by rw [hsz',hi]; simp only [lCo,List.length_nil]; omega)]
    congr 2; omega
   rw [hL,obs]
   simp only [Sum.elim_inl]
   rw [ifp,hg,if_pos (by decide),qbT b1 b2 k (by omega),obs,qbQ,decide_eq_true rfl,if_pos rfl]
  ·have hi : Lib.itoa n = Lib.decDigits n.toNat := by unfold Lib.itoa; rw [if_neg hneg]
   obtain ⟨c,r,ec,hc1,hc2⟩ := qlC n.toNat
   have hg : (zNum n).data.getD 0 0 = c := by
    rw [show (zNum n).data.getD 0 0 = (zNum n).data.toList.getD 0 0 by simp [Array.getD_eq_getD_getElem?,gDg],hl,hi,ec]; rfl
   have hL : qaA.l0 k (zNum n) 0 0 = some (.inl (-n)) := by
    obtain ⟨m,rfl⟩ : ∃ m,k = (m + 1) + (Lib.decDigits n.toNat).length := ⟨k - 1 - (Lib.decDigits n.toNat).length,by have := qgz ⟨b1,b2⟩; rw [hi] at this; omega⟩
    have := qqJ (zNum n) (by omega) n.toNat [] [] (m + 1) (by omega) (by rw [hl,hi]; simp)
    show qaA.l0 (m + 1 + (Lib.decDigits n.toNat).length) (zNum n) 0 ((([] : List UInt8).length : Nat) : Int) = _
    rw [this,qaA.l0,if_neg (by rw [hsz',hi]; simp only [List.length_nil]; omega)]
    congr 2; omega
   rw [hL,obs]
   simp only [Sum.elim_inl]
   rw [ifp,hg,ifq,show IntKind.i64.wrap (0 - -n) = n by rw [qak (by omega) (by omega)]; omega,qbT b1 b2 k (by omega),obs,qbQ,decide_eq_true rfl,if_pos rfl]
 ·have hz : zVal s = none := qeG (fun n hn e => hv ⟨n,hn,e⟩)
  unfold zV2; rw [hz]
  obtain ⟨r,hr,h⟩ := qpx s (by omega) s.size 0 k 0 (by omega) (by omega) ⟨by omega,by omega⟩
  rw [show qaA.l0 k s 0 0 = some r from hr,obs]
  rcases h with rfl | ⟨t,rfl,ht⟩
  ·rfl
  ·simp only [Sum.elim_inl]
   rw [ifp]
   have hw := qmk (0 - t)
   split
   ·rw [qbT ht.1 ht.2 k (by omega),obs,qbQ,decide_eq_false (fun e => hv ⟨t,ht,e.symm⟩),if_neg (by decide)]
   ·rw [qbT hw.1 hw.2 k (by omega),obs,qbQ,decide_eq_false (fun e => hv ⟨_,hw,e.symm⟩),if_neg (by decide)]
end Go.Pf

namespace Go.Pf
open Go Go.Vm
theorem qoB (s : ByteArray) (i : Nat) : s.get! i = s.data.toList.getD i 0 := by
 rw [gDg]
 simp only [ByteArray.get!,Array.getElem?_toList]
 rw [getElem!_def]
 cases s.data[i]? <;> rfl
theorem qm2 (s : ByteArray) (i : Nat) (h : (s.get! i).toNat < 128) : Utf8.decode s i = ((s.get! i).toNat,1) := by
 unfold Utf8.decode
 dsimp only
 rw [if_pos (by simpa using h)]; rfl
theorem qlB (s : ByteArray) (i c : Nat) (hi : i < s.size) (hc : c < 128) (h : (s.get! i).toNat ≠ c) :
  (Utf8.decode s i).1 ≠ c ∧ ∀ j,j < (Utf8.decode s i).2 → i + j < s.size ∧ (s.get! (i + j)).toNat ≠ c := by
 have one : ∀ j,j < 1 → i + j < s.size ∧ (s.get! (i + j)).toNat ≠ c := fun j hj => by
  have : j = 0 := by omega
  subst this; exact ⟨by omega,by simpa using h⟩
 have cn : ∀ k,(decide (i + k < s.size) && (s.get! (i + k)).toNat / 64 == 2) = true → i + k < s.size ∧ (s.get! (i + k)).toNat ≠ c := fun k hk => by
  simp only [bAt,decide_eq_true_eq,beq_iff_eq] at hk
  exact ⟨hk.1,by omega⟩
 unfold Utf8.decode
 dsimp only
 split
 ·exact ⟨by simpa using h,one⟩
 split
 ·rename_i h2
  split
  ·rename_i h3
   refine ⟨by simp only []; omega,fun j hj => ?_⟩
   simp only [bAt] at h2
   have c1 := cn 1 (by simpa only [bAt] using h2.2)
   rcases (show j = 0 ∨ j = 1 by simp only [] at hj; omega) with rfl | rfl
   ·exact one 0 (by omega)
   ·exact c1
  ·exact ⟨by simp only [Utf8.runeError]; omega,one⟩
 split
 ·rename_i h2
  split
  ·rename_i h3
   simp only [bAt] at h2
   have h3' : 0x800 ≤ (s.get! (i + 0)).toNat % 16 * 4096 + (s.get! (i + 1)).toNat % 64 * 64 + (s.get! (i + 2)).toNat % 64 := by
    simp only [ge_iff_le,bAt,decide_eq_true_eq] at h3; exact h3.1
   refine ⟨by simp only []; omega,fun j hj => ?_⟩
   have c1 := cn 1 (by simpa only [bAt] using h2.1.2)
   have c2 := cn 2 (by simpa only [bAt] using h2.2)
   rcases (show j = 0 ∨ j = 1 ∨ j = 2 by simp only [] at hj; omega) with rfl | rfl | rfl
   ·exact one 0 (by omega)
   ·exact c1
   ·exact c2
  ·exact ⟨by simp only [Utf8.runeError]; omega,one⟩
 split
 ·rename_i h2
  split
  ·rename_i h3
   simp only [bAt] at h2
   have h3' : 0x10000 ≤ (s.get! (i + 0)).toNat % 8 * 262144 + (s.get! (i + 1)).toNat % 64 * 4096 + (s.get! (i + 2)).toNat % 64 * 64 + (s.get! (i + 3)).toNat % 64 := by
    simp only [ge_iff_le,bAt,decide_eq_true_eq] at h3; exact h3.1
   refine ⟨by simp only []; omega,fun j hj => ?_⟩
   have c1 := cn 1 (by simpa only [bAt] using h2.1.1.2)
   have c2 := cn 2 (by simpa only [bAt] using h2.1.2)
   have c3 := cn 3 (by simpa only [bAt] using h2.2)
   rcases (show j = 0 ∨ j = 1 ∨ j = 2 ∨ j = 3 by simp only [] at hj; omega) with rfl | rfl | rfl | rfl
   ·exact one 0 (by omega)
   ·exact c1
   ·exact c2
   ·exact c3
  ·exact ⟨by simp only [Utf8.runeError]; omega,one⟩
 ·exact ⟨by simp only [Utf8.runeError]; omega,one⟩
def sp (c : UInt8) : List UInt8 → List UInt8 → List (List UInt8) × List UInt8
 | cur,[] => ([],cur)
 | cur,x :: r => if x = c then (cur :: (sp c [] r).1,(sp c [] r).2) else sp c (cur ++ [x]) r
theorem qnD (c : UInt8) : ∀ (a cur r : List UInt8),(∀ x ∈ a,x ≠ c) → sp c cur (a ++ r) = sp c (cur ++ a) r
 | [],cur,r,_ => by simp
 | x :: a,cur,r,h => by
  rw [List.cons_append,sp,if_neg (h x (by simp)),qnD c a _ r (fun y hy => h y (by simp [hy])),aAs]; rfl
theorem qpt (c : UInt8) (cur r : List UInt8) : sp c cur (c :: r) = (cur :: (sp c [] r).1,(sp c [] r).2) := by rw [sp,if_pos rfl]
theorem qgF (s : ByteArray) (a b : Nat) : s.extract a b = bA ((s.data.toList.drop a).take (b - a)) := by
 rw [← qm9 (s.extract a b)]
 congr 1
 rw [ByteArray.data_extract,Array.toList_extract]
theorem qnB {α : Type} (l : List α) {f i : Nat} (h : f ≤ i) (w : Nat) : (l.drop f).take (i + w - f) = (l.drop f).take (i - f) ++ (l.drop i).take w := by
 rw [show i + w - f = (i - f) + w by omega,List.take_add,List.drop_drop,show f + (i - f) = i by omega]
def At (c : UInt8) (s : ByteArray) (f i : Nat) (y : List ByteArray) (r : Option (Int × List ByteArray)) : Prop :=
 ∃ f' : Nat,r = some ((f' : Int),y ++ (sp c ((s.data.toList.drop f).take (i - f)) (s.data.toList.drop i)).1.map bA) ∧ f' ≤ s.size ∧ s.data.toList.drop f' = (sp c ((s.data.toList.drop f).take (i - f)) (s.data.toList.drop i)).2
theorem At.fin {c : UInt8} {s : ByteArray} {f : Nat} (hf : f ≤ s.size) (y : List ByteArray) {i : Nat} (hi : s.size ≤ i) : At c s f i y (some ((f : Int),y)) := by
 have hl : s.data.toList.length = s.size := Array.length_toList
 have hd : s.data.toList.drop i = [] := dNl (by omega)
 refine ⟨f,?_,hf,?_⟩
 ·rw [hd]; simp [sp]
 ·rw [hd]; simp only [sp]
  rw [List.take_of_length_le (by rw [List.length_drop]; omega)]
theorem At.hit {c : UInt8} {s : ByteArray} {f i : Nat} {y : List ByteArray} {r : Option (Int × List ByteArray)} (hi : i < s.size) (hc : s.get! i = c) (h : At c s (i + 1) (i + 1) (y ++ [s.extract f i]) r) : At c s f i y r := by
 have hl : s.data.toList.length = s.size := Array.length_toList
 obtain ⟨f',e,h1,h2⟩ := h
 have hd : s.data.toList.drop i = c :: s.data.toList.drop (i + 1) := by
  rw [qaj (by omega) 0,← qoB,hc]
 rw [Nat.sub_self,List.take_zero] at e h2
 refine ⟨f',?_,h1,?_⟩
 ·rw [e,hd,qpt,qgF,aAs]; rfl
 ·rw [h2,hd,qpt]
theorem At.miss {c : UInt8} {s : ByteArray} {f i w : Nat} {y : List ByteArray} {r : Option (Int × List ByteArray)} (hf : f ≤ i) (hc : ∀ j,j < w → i + j < s.size ∧ s.get! (i + j) ≠ c) (h : At c s f (i + w) y r) : At c s f i y r := by
 have hl : s.data.toList.length = s.size := Array.length_toList
 have hd : s.data.toList.drop i = (s.data.toList.drop i).take w ++ s.data.toList.drop (i + w) := by
  rw [← List.drop_drop,List.take_append_drop]
 have hx : ∀ x ∈ (s.data.toList.drop i).take w,x ≠ c := fun x hx => by
  obtain ⟨j,hj,e⟩ := List.getElem_of_mem hx
  have hjw : j < w := by rw [lTk] at hj; omega
  obtain ⟨h1,h2⟩ := hc j hjw
  rw [qoB,gDg,List.getElem?_eq_getElem (by omega)] at h2
  rw [← e]
  simpa using h2
 have e : sp c ((s.data.toList.drop f).take (i - f)) (s.data.toList.drop i) = sp c ((s.data.toList.drop f).take (i + w - f)) (s.data.toList.drop (i + w)) := by
  rw [hd,qnD c _ _ _ hx,qnB _ hf]
 obtain ⟨f',e',h1,h2⟩ := h
 exact ⟨f',by rw [e',e],h1,by rw [h2,e]⟩
theorem qqH {a b : UInt8} (h : a.toNat = b.toNat) : a = b := UInt8.toNat_inj.1 h
theorem qhX (s : ByteArray) (hs : s.size ≤ 100000000000) (c : UInt8) (hc : c.toNat < 128) : ∀ (e i f n : Nat) (y : List ByteArray),s.size ≤ i + e → e < n → f ≤ i → f ≤ s.size → y.length ≤ i → i ≤ s.size →
  At c s f i y (qa0.l0 n s (c.toNat : Int) (f : Int) y s i)
 | e,i,f,0,y,_,hn,_,_,_,_ => by omega
 | 0,i,f,n + 1,y,he,hn,hf,hf',hy,hi => by
  rw [qa0.l0,ifq]
  exact At.fin hf' y (by omega)
 | e + 1,i,f,n + 1,y,he,hn,hf,hf',hy,hi => by
  rw [qa0.l0]
  by_cases hlt : i < s.size
  ·rw [if_pos hlt]
   by_cases hit : (s.get! i).toNat = c.toNat
   ·rw [qm2 s i (by omega),if_pos (by rw [hit]),ifp,if_pos (by simp only [lAp,lSi]; omega)]
    refine At.hit hlt (qqH hit) ?_
    rw [show IntKind.i64.wrap ((i : Int) + 1) = ((i + 1 : Nat) : Int) by rw [qak (by omega) (by omega)]; omega]
    exact qhX s hs c hc e (i + 1) (i + 1) n _ (by omega) (by omega) (by omega) (by omega) (by simp only [lAp,lSi]; omega) (by omega)
   ·obtain ⟨h1,h2⟩ := qlB s i c.toNat hlt hc hit
    have hp := qfb s i
    rw [ifq]
    refine At.miss hf (w := (Utf8.decode s i).2) (fun j hj => ⟨(h2 j hj).1,fun e => (h2 j hj).2 (by rw [e])⟩) ?_
    have hw := (h2 ((Utf8.decode s i).2 - 1) (by omega)).1
    exact qhX s hs c hc e _ f n y (by omega) (by omega) (by omega) hf' (by omega) (by omega)
  ·rw [if_neg hlt]
   exact At.fin hf' y (by omega)
def zWd (c : UInt8) (s : ByteArray) : List ByteArray := (sp c [] s.data.toList).1.map bA ++ [bA (sp c [] s.data.toList).2]
theorem ql5 (s : ByteArray) (hs : s.size ≤ 100000000000) (c : UInt8) (hc : c.toNat < 128) (hl : (sp c [] s.data.toList).1.length ≤ 1000000000000) (k : Nat) (hk : s.size < k) : qa0.f k s (c.toNat : Int) = some (zWd c s) := by
 have hsz : s.data.toList.length = s.size := Array.length_toList
 obtain ⟨f',e,h1,h2⟩ := qhX s hs c hc s.size 0 0 k [] (by omega) hk (by omega) (by omega) (by simp) (by omega)
 unfold qa0.f
 have e0 : qa0.l0 k s (c.toNat : Int) 0 [] s 0 = some ((f' : Int),(sp c [] s.data.toList).1.map bA) := by simpa using e
 have h2' : s.data.toList.drop f' = (sp c [] s.data.toList).2 := by simpa using h2
 rw [e0,obs,if_pos (by simp only []; omega),if_pos (by simp only [lAp,lSi,List.length_map]; omega)]
 unfold zWd
 rw [qgF,← h2']
 congr 4
 rw [List.take_of_length_le (by simp only [List.length_drop,tNc]; omega)]; rfl
theorem qoS (s : ByteArray) (hs : s.size ≤ 100000000000) (c : UInt8) (L : Nat → ByteArray → Int → Int → List ByteArray → Option (Int × List ByteArray))
  (hL : ∀ n x0 x4 x5 y0,L (n + 1) x0 x4 x5 y0 = if x5 < (x0.size : Int) then (if 0 ≤ x5 ∧ x5 < (x0.size : Int) then if ((x0.data.getD x5.toNat 0).toNat : Int) = (c.toNat : Int) then (if 0 ≤ x4 ∧ x4 ≤ x5 ∧ x5 ≤ (x0.size : Int) then if y0.length + [x0.extract x4.toNat x5.toNat].length ≤ 281474976710656 ∧ (y0.length + [x0.extract x4.toNat x5.toNat].length) * 16 ≤ 140737488355328 then L n x0 (IntKind.i64.wrap (x5 + 1)) (IntKind.i64.wrap (x5 + 1)) (y0 ++ [x0.extract x4.toNat x5.toNat]) else none else none) else L n x0 x4 (IntKind.i64.wrap (x5 + 1)) y0 else none) else some (x4,y0)) :
  ∀ (e i f n : Nat) (y : List ByteArray),s.size ≤ i + e → e < n → f ≤ i → f ≤ s.size → y.length ≤ i → i ≤ s.size → At c s f i y (L n s (f : Int) (i : Int) y)
 | e,i,f,0,y,_,hn,_,_,_,_ => by omega
 | 0,i,f,n + 1,y,he,hn,hf,hf',hy,hi => by
  rw [hL,ifq]
  exact At.fin hf' y (by omega)
 | e + 1,i,f,n + 1,y,he,hn,hf,hf',hy,hi => by
  rw [hL]
  by_cases hlt : i < s.size
  ·have hg : s.data.getD (i : Int).toNat 0 = s.get! i := by
    rw [qoB]; simp [Array.getD_eq_getD_getElem?,gDg]
   rw [ifp,ifp,hg,show IntKind.i64.wrap ((i : Int) + 1) = ((i + 1 : Nat) : Int) by rw [qak (by omega) (by omega)]; omega]
   by_cases hit : (s.get! i).toNat = c.toNat
   ·rw [ifp,ifp,if_pos (by simp only [lAp,lSi]; omega)]
    refine At.hit hlt (qqH hit) ?_
    exact qoS s hs c L hL e (i + 1) (i + 1) n _ (by omega) (by omega) (by omega) (by omega) (by simp only [lAp,lSi]; omega) (by omega)
   ·rw [ifq]
    refine At.miss hf (w := 1) (fun j hj => ⟨by omega,fun e => hit (by rw [show i + j = i by omega] at e; rw [e])⟩) ?_
    exact qoS s hs c L hL e (i + 1) f n y (by omega) (by omega) (by omega) hf' (by omega) (by omega)
  ·rw [ifq]
   exact At.fin hf' y (by omega)
theorem qfQ (c : UInt8) : ∀ (l cur : List UInt8),(sp c cur l).1.length ≤ l.length
 | [],_ => by simp [sp]
 | x :: l,cur => by
  rw [sp]
  split
  ·simp only [lCo]; have := qfQ c l []; omega
  ·have := qfQ c l (cur ++ [x]); simp only [lCo]; omega
theorem qdv (s : ByteArray) (hs : s.size ≤ 100000000000) (k : Nat) (hk : s.size < k) : qa9.f k s = some (zWd 32 s) := by
 have hsz : s.data.toList.length = s.size := Array.length_toList
 have hl := qfQ 32 s.data.toList []
 obtain ⟨f',e,h1,h2⟩ := qoS s hs 32 qa9.l0 (fun _ _ _ _ _ => rfl) s.size 0 0 k [] (by omega) hk (by omega) (by omega) (by simp) (by omega)
 unfold qa9.f
 have e0 : qa9.l0 k s 0 0 [] = some ((f' : Int),(sp 32 [] s.data.toList).1.map bA) := by simpa using e
 have h2' : s.data.toList.drop f' = (sp 32 [] s.data.toList).2 := by simpa using h2
 rw [e0,obs,if_pos (by simp only []; omega),if_pos (by simp only [lAp,lSi,List.length_map]; omega)]
 unfold zWd
 rw [qgF,← h2']
 congr 4
 rw [List.take_of_length_le (by simp only [List.length_drop,tNc]; omega)]; rfl
theorem qcR (s : ByteArray) (hs : s.size ≤ 100000000000) (k : Nat) (hk : s.size < k) : qci.f k s = some (zWd 32 s) := by
 have hsz : s.data.toList.length = s.size := Array.length_toList
 have hl := qfQ 32 s.data.toList []
 unfold qci.f
 rw [show qa0.f k s 32 = some (zWd 32 s) from ql5 s hs 32 (by decide) (by omega) k hk]; rfl
theorem qjs (s : ByteArray) (hs : s.size ≤ 100000000000) (k : Nat) (hk : s.size < k) : qbL.f k s = some (decide ((sp 10 [] s.data.toList).2 = []),(sp 10 [] s.data.toList).1.map bA) := by
 have hsz : s.data.toList.length = s.size := Array.length_toList
 obtain ⟨f',e,h1,h2⟩ := qoS s hs 10 qbL.l0 (fun _ _ _ _ _ => rfl) s.size 0 0 k [] (by omega) hk (by omega) (by omega) (by simp) (by omega)
 unfold qbL.f
 have e0 : qbL.l0 k s 0 0 [] = some ((f' : Int),(sp 10 [] s.data.toList).1.map bA) := by simpa using e
 have h2' : s.data.toList.drop f' = (sp 10 [] s.data.toList).2 := by simpa using h2
 rw [e0,obs,← h2']
 congr 2
 refine decide_eq_decide.2 ?_
 rw [List.drop_eq_nil_iff]
 simp only []
 omega
end Go.Pf

namespace Go.Pf
open Go Go.Vm
def wl (l : List ByteArray) : Prop := l.length ≤ 1000000 ∧ ∀ w ∈ l,w.size ≤ 100000000000
theorem wl.tail {w : ByteArray} {r : List ByteArray} (h : wl (w :: r)) : wl r := ⟨by have := h.1; simp only [lCo] at this; omega,fun x hx => h.2 x (mCm _ hx)⟩
theorem wl.nil : wl [] := ⟨by simp,fun _ h => by cases h⟩
def Rz {α : Type} (p : Option (α × List ByteArray)) (a : α) (l' : List ByteArray) (b' : Bool) : Prop := match p with
 | some x => b' = false ∧ l' = x.2 ∧ a = x.1
 | none => b' = true
def Cz {α : Type} (p : List ByteArray → Option (α × List ByteArray)) (l : List ByteArray) (b : Bool) (a : α) (l' : List ByteArray) (b' : Bool) : Prop :=
 wl l' ∧ (b = true → b' = true) ∧ (b = false → Rz (p l) a l' b')
def seqP {α β : Type} (p : List ByteArray → Option (α × List ByteArray)) (q : List ByteArray → Option (β × List ByteArray)) (l : List ByteArray) : Option ((α × β) × List ByteArray) :=
 (p l).bind fun x => (q x.2).bind fun y => some ((x.1,y.1),y.2)
theorem Cz.seq {α β : Type} {p : List ByteArray → Option (α × List ByteArray)} {q : List ByteArray → Option (β × List ByteArray)} {l : List ByteArray} {b : Bool} {a : α} {l1 : List ByteArray} {b1 : Bool} {a2 : β} {l2 : List ByteArray} {b2 : Bool}
  (h1 : Cz p l b a l1 b1) (h2 : Cz q l1 b1 a2 l2 b2) : Cz (seqP p q) l b (a,a2) l2 b2 := by
 obtain ⟨w1,t1,f1⟩ := h1
 obtain ⟨w2,t2,f2⟩ := h2
 refine ⟨w2,fun hb => t2 (t1 hb),fun hb => ?_⟩
 have f1 := f1 hb
 unfold seqP
 cases hp : p l with
 | none => rw [hp] at f1; exact t2 f1
 | some x =>
  rw [hp] at f1
  obtain ⟨e1,e2,e3⟩ := f1
  have f2 := f2 e1
  rw [e2] at f2
  simp only [obs]
  cases hq : q x.2 with
  | none => rw [hq] at f2; exact f2
  | some y =>
   rw [hq] at f2
   obtain ⟨g1,g2,g3⟩ := f2
   exact ⟨g1,g2,by rw [e3,g3]⟩
theorem qq8 : bA [] = ByteArray.empty := rfl
theorem qmD : zVal ByteArray.empty = none := qeG fun n hn e => by
 have := qmi n
 have h : (zNum n).size = (Lib.itoa n).length := rfl
 rw [← e] at h
 have : ByteArray.empty.size = 0 := rfl
 omega
theorem qhf {s : ByteArray} {n : Int} (h : zVal s = some n) : zV2 s = (n,true) := by unfold zV2; rw [h]
theorem qhg {s : ByteArray} (h : zVal s = none) : zV2 s = (0,false) := by unfold zV2; rw [h]
def pN : List ByteArray → Option (Int × List ByteArray)
 | [] => none
 | w :: r => (zVal w).map fun n => (n,r)
def nums : List ByteArray → Option LI
 | [] => some []
 | w :: r => match zVal w with
  | some n => (nums r).map (n :: ·)
  | none => none
def pLt : List ByteArray → Option (LI × List ByteArray)
 | [] => none
 | w :: r => if w = bA [41] then some ([],r) else match zVal w with
  | some n => (pLt r).map fun p => (n :: p.1,p.2)
  | none => none
def pL : List ByteArray → Option (LI × List ByteArray)
 | [] => none
 | w :: r => if w = bA [40] then pLt r else none
def pNm : List ByteArray → Option (ByteArray × List ByteArray)
 | [] => none
 | w :: r => if w = ByteArray.empty then none else some (if w = bA [45] then ByteArray.empty else w,r)
def pMu (a : ByteArray) : List ByteArray → Option (Unit × List ByteArray)
 | [] => none
 | w :: r => if w = a then some ((),r) else none
theorem pN_c (w : ByteArray) (r : List ByteArray) : pN (w :: r) = (zVal w).map fun n => (n,r) := rfl
theorem qn3 (w : ByteArray) (r : List ByteArray) : nums (w :: r) = match zVal w with | some n => (nums r).map (n :: ·) | none => none := rfl
theorem qp7 (w : ByteArray) (r : List ByteArray) : pLt (w :: r) = if w = bA [41] then some ([],r) else match zVal w with | some n => (pLt r).map fun p => (n :: p.1,p.2) | none => none := rfl
theorem pL_c (w : ByteArray) (r : List ByteArray) : pL (w :: r) = if w = bA [40] then pLt r else none := rfl
theorem qlh (w : ByteArray) (r : List ByteArray) : pNm (w :: r) = if w = ByteArray.empty then none else some (if w = bA [45] then ByteArray.empty else w,r) := rfl
theorem qgv (a w : ByteArray) (r : List ByteArray) : pMu a (w :: r) = if w = a then some ((),r) else none := rfl
theorem qd3 (b : Bool) : qbn.f [] b = some (ByteArray.empty,[],true) := rfl
theorem qgh (w : ByteArray) (r : List ByteArray) (b : Bool) (hl : wl (w :: r)) : qbn.f (w :: r) b = some (if w = ByteArray.empty then (ByteArray.empty,w :: r,true) else (w,r,b)) := by
 unfold qbn.f
 have h1 := hl.1
 simp only [lCo] at h1
 rw [if_neg (by simp only [lCo]; omega),if_pos (by simp only [lCo]; omega),qbQ]
 simp only [List.getD_cons_zero]
 by_cases h : w = ByteArray.empty
 ·rw [decide_eq_true h,if_pos rfl,if_pos h]
 ·rw [decide_eq_false h,if_neg (by decide),if_pos (by simp only [lCo]; omega),if_neg h]
  simp
theorem qfa {w : ByteArray} (h : w = ByteArray.empty) (r : List ByteArray) (b : Bool) (hl : wl (w :: r)) : qbn.f (w :: r) b = some (ByteArray.empty,w :: r,true) := by rw [qgh w r b hl,if_pos h]
theorem qe9 {w : ByteArray} (h : w ≠ ByteArray.empty) (r : List ByteArray) (b : Bool) (hl : wl (w :: r)) : qbn.f (w :: r) b = some (w,r,b) := by rw [qgh w r b hl,if_neg h]
theorem qiV (l : List ByteArray) (b : Bool) (hl : wl l) : ∃ a l' b',qcw.f l b = some (a,l',b') ∧ Cz pN l b a l' b' := by
 unfold qcw.f
 cases l with
 | nil =>
  rw [qd3,obs]
  dsimp only
  rw [qcx _ (by decide),obs,if_pos rfl]
  exact ⟨_,_,_,rfl,hl,fun _=>rfl,fun _=>rfl⟩
 | cons w r =>
  by_cases h : w = ByteArray.empty
  ·rw [qfa h r b hl,obs]
   dsimp only
   rw [qcx _ (by decide),obs,if_pos rfl]
   refine ⟨_,_,_,rfl,hl,fun _=>rfl,fun _=>?_⟩
   rw [pN_c,h,qmD]; rfl
  ·rw [qe9 h r b hl,obs]
   dsimp only
   have hw := hl.2 w (by simp)
   rw [qcx _ (by omega),obs]
   cases b with
   | true => rw [if_pos rfl]; exact ⟨_,_,_,rfl,hl.tail,fun _=>rfl,fun h => by cases h⟩
   | false =>
    rw [if_neg (by decide)]
    refine ⟨_,_,_,rfl,hl.tail,fun h => (by cases h),fun _=>?_⟩
    rw [pN_c]
    cases hv : zVal w with
    | none => rw [qhg hv]; rfl
    | some n => rw [qhf hv]; exact ⟨rfl,rfl,rfl⟩
theorem qeY (l : List ByteArray) (b : Bool) (hl : wl l) : ∃ a l' b',qbY.f l b = some (a,l',b') ∧ Cz pN l b a l' b' := by
 obtain ⟨a,l',b',e,h⟩ := qiV l b hl
 unfold qbY.f
 rw [e,obs]
 cases b' with
 | true => exact ⟨_,_,_,rfl,h⟩
 | false => rw [if_neg (fun h : (false : Bool) = true => by cases h),decide_eq_true rfl]; exact ⟨_,_,_,rfl,h⟩
theorem qel (w : ByteArray) (hw : w ≠ ByteArray.empty) (l : List ByteArray) (b : Bool) (hl : wl l) : ∃ l' b',qbv.f w l b = some (l',b') ∧ Cz (pMu w) l b () l' b' := by
 unfold qbv.f
 cases l with
 | nil =>
  rw [qd3,obs]
  dsimp only
  rw [qbQ,decide_eq_false (fun e => hw e.symm),if_neg (by decide)]
  exact ⟨_,_,rfl,hl,fun _=>rfl,fun _=>rfl⟩
 | cons x r =>
  by_cases h : x = ByteArray.empty
  ·rw [qfa h r b hl,obs]
   dsimp only
   rw [qbQ,decide_eq_false (fun e => hw e.symm),if_neg (by decide)]
   refine ⟨_,_,rfl,hl,fun _=>rfl,fun _=>?_⟩
   rw [qgv,if_neg (fun e => hw (e.symm.trans h))]; rfl
  ·rw [qe9 h r b hl,obs]
   dsimp only
   rw [qbQ]
   by_cases hx : x = w
   ·rw [decide_eq_true hx,if_pos rfl]
    refine ⟨_,_,rfl,hl.tail,fun h => h,fun hb => ?_⟩
    rw [qgv,if_pos hx]; exact ⟨hb,rfl,rfl⟩
   ·rw [decide_eq_false hx,if_neg (by decide)]
    refine ⟨_,_,rfl,hl.tail,fun _=>rfl,fun hb => ?_⟩
    rw [qgv,if_neg hx]; rfl
theorem qiU (l : List ByteArray) (b : Bool) (hl : wl l) : ∃ a l' b',qcv.f l b = some (a,l',b') ∧ Cz pNm l b a l' b' := by
 have e45 : ByteArray.mk #[45] = bA [45] := rfl
 have ne : ByteArray.empty ≠ bA [45] := fun h => by have := congrArg ByteArray.size h; simp [qbr] at this
 unfold qcv.f
 rw [e45]
 cases l with
 | nil =>
  rw [qd3,obs]
  dsimp only
  rw [qbQ,decide_eq_false ne,if_neg (by decide)]
  exact ⟨_,_,_,rfl,hl,fun _=>rfl,fun _=>rfl⟩
 | cons x r =>
  by_cases h : x = ByteArray.empty
  ·rw [qfa h r b hl,obs]
   dsimp only
   rw [qbQ,decide_eq_false ne,if_neg (by decide)]
   refine ⟨_,_,_,rfl,hl,fun _=>rfl,fun _=>?_⟩
   rw [qlh,if_pos h]; rfl
  ·rw [qe9 h r b hl,obs]
   dsimp only
   rw [qbQ]
   by_cases hx : x = bA [45]
   ·rw [decide_eq_true hx,if_pos rfl]
    refine ⟨_,_,_,rfl,hl.tail,fun h => h,fun hb => ?_⟩
    rw [qlh,if_neg h,if_pos hx]; exact ⟨hb,rfl,rfl⟩
   ·rw [decide_eq_false hx,if_neg (by decide)]
    refine ⟨_,_,_,rfl,hl.tail,fun h => h,fun hb => ?_⟩
    rw [qlh,if_neg h,if_neg hx]; exact ⟨hb,rfl,rfl⟩
theorem qic : ∀ (l : List ByteArray) (n : Nat) (y : LI),wl l → l.length < n → y.length + l.length ≤ 2000000 → ∃ l' b' y',qaJ.l0 n l false y = some (l',b',y') ∧ match nums l with | some ns => b' = false ∧ y' = y ++ ns | none => b' = true
 | [],n,y,hl,hn,hy => by
  obtain ⟨n,rfl⟩ := sun (n := n)
  exact ⟨_,_,_,by rw [qaJ.l0,if_neg (by decide)],rfl,by simp⟩
 | w :: r,n,y,hl,hn,hy => by
  obtain ⟨n,rfl⟩ : ∃ m,n = m + 1 := ⟨n - 1,by simp only [lCo] at hn; omega⟩
  simp only [lCo] at hn hy
  obtain ⟨a,l',b',e,hw,_,hf⟩ := qeY (w :: r) false hl
  have hf := hf rfl
  rw [qaJ.l0,if_pos (by simp only [lCo]; omega),if_neg (by decide),e,obs]
  dsimp only
  rw [if_pos (by simp only [lSi]; omega)]
  rw [qn3]
  rw [pN_c] at hf
  cases hv : zVal w with
  | none =>
   rw [hv] at hf
   have hb : b' = true := hf
   subst hb
   obtain ⟨n,rfl⟩ := sun (n := n)
   rw [qaJ.l0]
   by_cases hz : 0 < (l'.length : Int)
   ·rw [if_pos hz,if_pos rfl]; exact ⟨_,_,_,rfl,rfl⟩
   ·rw [if_neg hz]; exact ⟨_,_,_,rfl,rfl⟩
  | some m =>
   rw [hv] at hf
   obtain ⟨hb,hl2,ha⟩ := hf
   have hl2 : l' = r := hl2
   have ha : a = m := ha
   rw [hb,hl2,ha]
   obtain ⟨l2,b2,y2,e2,h2⟩ := qic r n (y ++ [m]) hl.tail (by omega) (by simp only [lAp,lSi]; omega)
   refine ⟨l2,b2,y2,e2,?_⟩
   cases hr : nums r with
   | none => rw [hr] at h2; exact h2
   | some ns => rw [hr] at h2; exact ⟨h2.1,by rw [h2.2,aAs]; rfl⟩
theorem qiT (l : List ByteArray) (b : Bool) (hl : wl l) (k : Nat) (hk : 1000010 ≤ k) : ∃ l' b' y',qaJ.f k l b = some (l',b',y') ∧ (b = true → b' = true) ∧ (b = false → match nums l with | some ns => b' = false ∧ y' = ns | none => b' = true) := by
 have h1 := hl.1
 unfold qaJ.f
 cases b with
 | true =>
  obtain ⟨k,rfl⟩ : ∃ m,k = m + 1 := ⟨k - 1,by omega⟩
  rw [qaJ.l0]
  by_cases hz : 0 < (l.length : Int)
  ·rw [if_pos hz,if_pos rfl]; exact ⟨_,_,_,rfl,fun _=>rfl,fun h => by cases h⟩
  ·rw [if_neg hz]; exact ⟨_,_,_,rfl,fun _=>rfl,fun h => by cases h⟩
 | false =>
  obtain ⟨l',b',y',e,h⟩ := qic l k [] hl (by omega) (by simp; omega)
  rw [e,obs]
  refine ⟨_,_,_,rfl,fun h => (by cases h),fun _=>?_⟩
  cases hn : nums l with
  | none => rw [hn] at h; exact h
  | some ns => rw [hn] at h; exact ⟨h.1,by simpa using h.2⟩
theorem qid : ∀ (l : List ByteArray) (n : Nat) (y : LI),wl l → l.length < n → y.length + l.length ≤ 2000000 → ∃ l' b' y',qaO.l0 n l false y = some (l',b',y') ∧ wl l' ∧ match pLt l with | some x => b' = false ∧ l' = bA [41] :: x.2 ∧ y' = y ++ x.1 | none => b' = true ∨ (b' = false ∧ l' = [])
 | [],n,y,hl,hn,hy => by
  obtain ⟨n,rfl⟩ := sun (n := n)
  exact ⟨_,_,_,by rw [qaO.l0,if_neg (by decide),if_neg (by decide)],hl,.inr ⟨rfl,rfl⟩⟩
 | w :: r,n,y,hl,hn,hy => by
  obtain ⟨n,rfl⟩ : ∃ m,n = m + 1 := ⟨n - 1,by simp only [lCo] at hn; omega⟩
  simp only [lCo] at hn hy
  have e41 : ByteArray.mk #[41] = bA [41] := rfl
  obtain ⟨a,l',b',e,hw,_,hf⟩ := qeY (w :: r) false hl
  have hf := hf rfl
  rw [qaO.l0,if_neg (by decide),if_pos (by simp only [lCo]; omega),if_pos (by simp only [lCo]; omega),qbQ,e41]
  simp only [List.getD_cons_zero]
  rw [qp7]
  by_cases hc : w = bA [41]
  ·rw [decide_eq_true hc,if_pos rfl,if_pos hc]
   exact ⟨_,_,_,rfl,hl,rfl,by rw [hc],by simp⟩
  rw [decide_eq_false hc,if_neg (by decide),if_neg hc,e,obs]
  dsimp only
  rw [if_pos (by simp only [lSi]; omega)]
  rw [pN_c] at hf
  cases hv : zVal w with
  | none =>
   rw [hv] at hf
   have hb : b' = true := hf
   subst hb
   obtain ⟨n,rfl⟩ := sun (n := n)
   rw [qaO.l0,if_pos rfl]
   exact ⟨_,_,_,rfl,hw,.inl rfl⟩
  | some m =>
   rw [hv] at hf
   obtain ⟨hb,hl2,ha⟩ := hf
   have hl2 : l' = r := hl2
   have ha : a = m := ha
   rw [hb,hl2,ha]
   obtain ⟨l2,b2,y2,e2,hw2,h2⟩ := qid r n (y ++ [m]) hl.tail (by omega) (by simp only [lAp,lSi]; omega)
   refine ⟨l2,b2,y2,e2,hw2,?_⟩
   cases hr : pLt r with
   | none => rw [hr] at h2; exact h2
   | some x => rw [hr] at h2; exact ⟨h2.1,h2.2.1,by rw [h2.2.2,aAs]; rfl⟩
theorem qgE (l : List ByteArray) (b : Bool) (hl : wl l) (k : Nat) (hk : 1000010 ≤ k) : ∃ l' b' y',qaO.f k l b = some (l',b',y') ∧ Cz pL l b y' l' b' := by
 have e40 : ByteArray.mk #[40] = bA [40] := rfl
 have e41 : ByteArray.mk #[41] = bA [41] := rfl
 have n40 : bA [40] ≠ ByteArray.empty := fun h => by have := congrArg ByteArray.size h; simp [qbr] at this
 have n41 : bA [41] ≠ ByteArray.empty := fun h => by have := congrArg ByteArray.size h; simp [qbr] at this
 unfold qaO.f
 obtain ⟨l1,b1,e1,w1,t1,f1⟩ := qel (bA [40]) n40 l b hl
 rw [e40,e1,obs,e41]
 dsimp only
 cases b1 with
 | true =>
  obtain ⟨k,rfl⟩ : ∃ m,k = m + 1 := ⟨k - 1,by omega⟩
  rw [qaO.l0,if_pos rfl,obs]
  dsimp only
  obtain ⟨l2,b2,e2,w2,t2,f2⟩ := qel (bA [41]) n41 l1 true w1
  rw [e2,obs]
  refine ⟨_,_,_,rfl,w2,fun _=>t2 rfl,fun hb => ?_⟩
  have f1 := f1 hb
  have hp : pL l = none := by
   cases l with
   | nil => rfl
   | cons w r =>
    rw [qgv] at f1
    by_cases hw : w = bA [40]
    ·rw [if_pos hw] at f1; cases f1.1
    ·rw [pL_c,if_neg hw]
  rw [hp]; exact t2 rfl
 | false =>
  have hb : b = false := by cases b with | false => rfl | true => cases t1 rfl
  have f1 := f1 hb
  cases l with
  | nil => cases f1
  | cons w r =>
   rw [qgv] at f1
   by_cases hw : w = bA [40]
   ·rw [if_pos hw] at f1
    obtain ⟨_,hl1,_⟩ := f1
    have hl1 : l1 = r := hl1
    rw [hl1] at w1 ⊢
    have h1 := w1.1
    obtain ⟨l2,b2,y2,e2,w2,h2⟩ := qid r k [] w1 (by omega) (by simp; omega)
    rw [e2,obs]
    dsimp only
    obtain ⟨l3,b3,e3,w3,t3,f3⟩ := qel (bA [41]) n41 l2 b2 w2
    rw [e3,obs]
    refine ⟨_,_,_,rfl,w3,fun h => (by rw [hb] at h; cases h),fun _=>?_⟩
    rw [pL_c,if_pos hw]
    cases hp : pLt r with
    | none =>
     rw [hp] at h2
     rcases h2 with h2 | ⟨h2,h2'⟩
     ·exact t3 h2
     ·have := f3 h2; rw [h2'] at this; exact this
    | some x =>
     rw [hp] at h2
     obtain ⟨h2a,h2b,h2c⟩ := h2
     have := f3 h2a
     rw [h2b] at this
     rw [qgv] at this
     rw [if_pos rfl] at this
     exact ⟨this.1,this.2.1,by simpa using h2c⟩
   ·rw [if_neg hw] at f1; cases f1
end Go.Pf

namespace Go.Pf
open Go Go.Vm
theorem qdL (b : Bool) : qaB.f [] b = some (ByteArray.empty,[],true) := rfl
theorem qcg (w : ByteArray) (r : List ByteArray) (b : Bool) (hl : wl (w :: r)) : qaB.f (w :: r) b = some (w,r,b) := by
 unfold qaB.f
 have h1 := hl.1
 simp only [lCo] at h1
 rw [if_neg (by simp only [lCo]; omega),if_pos (by simp only [lCo]; omega),if_pos (by simp only [lCo]; omega)]
 simp
theorem qfE (l : List ByteArray) (b : Bool) (hl : wl l) (k : Nat) (hk : 200 ≤ k) : ∃ a l' b',qbp.f k l b = some (a,l',b') ∧ Cz pN l b a l' b' := by
 unfold qbp.f
 cases l with
 | nil =>
  rw [qdL,obs]
  dsimp only
  rw [qda _ k hk,obs,if_pos rfl]
  exact ⟨_,_,_,rfl,hl,fun _=>rfl,fun _=>rfl⟩
 | cons w r =>
  rw [qcg w r b hl,obs]
  dsimp only
  rw [qda _ k hk,obs]
  cases b with
  | true => rw [if_pos rfl]; exact ⟨_,_,_,rfl,hl.tail,fun _=>rfl,fun h => (by cases h)⟩
  | false =>
   rw [if_neg (by decide)]
   refine ⟨_,_,_,rfl,hl.tail,fun h => (by cases h),fun _=>?_⟩
   rw [pN_c]
   cases hv : zVal w with
   | none => rw [qhg hv]; rfl
   | some n => rw [qhf hv]; exact ⟨rfl,rfl,rfl⟩
theorem qiJ (k : Nat) (hk : 200 ≤ k) : ∀ (l : List ByteArray) (n : Nat) (y : LI),wl l → l.length < n → y.length + l.length ≤ 2000000 → ∃ l' b' y',qap.l0 k n l false y = some (l',b',y') ∧ match nums l with | some ns => b' = false ∧ y' = y ++ ns | none => b' = true
 | [],n,y,hl,hn,hy => by
  obtain ⟨n,rfl⟩ := sun (n := n)
  exact ⟨_,_,_,by rw [qap.l0,if_neg (by decide)],rfl,by simp⟩
 | w :: r,n,y,hl,hn,hy => by
  obtain ⟨n,rfl⟩ : ∃ m,n = m + 1 := ⟨n - 1,by simp only [lCo] at hn; omega⟩
  simp only [lCo] at hn hy
  obtain ⟨a,l',b',e,hw,_,hf⟩ := qfE (w :: r) false hl k hk
  have hf := hf rfl
  rw [qap.l0,if_pos (by simp only [lCo]; omega),if_neg (by decide),e,obs]
  dsimp only
  rw [if_pos (by simp only [lSi]; omega)]
  rw [qn3]
  rw [pN_c] at hf
  cases hv : zVal w with
  | none =>
   rw [hv] at hf
   have hb : b' = true := hf
   subst hb
   obtain ⟨n,rfl⟩ := sun (n := n)
   rw [qap.l0]
   by_cases hz : 0 < (l'.length : Int)
   ·rw [if_pos hz,if_pos rfl]; exact ⟨_,_,_,rfl,rfl⟩
   ·rw [if_neg hz]; exact ⟨_,_,_,rfl,rfl⟩
  | some m =>
   rw [hv] at hf
   obtain ⟨hb,hl2,ha⟩ := hf
   have hl2 : l' = r := hl2
   have ha : a = m := ha
   rw [hb,hl2,ha]
   obtain ⟨l2,b2,y2,e2,h2⟩ := qiJ k hk r n (y ++ [m]) hl.tail (by omega) (by simp only [lAp,lSi]; omega)
   refine ⟨l2,b2,y2,e2,?_⟩
   cases hr : nums r with
   | none => rw [hr] at h2; exact h2
   | some ns => rw [hr] at h2; exact ⟨h2.1,by rw [h2.2,aAs]; rfl⟩
theorem qhU (l : List ByteArray) (b : Bool) (hl : wl l) (k : Nat) (hk : 1000010 ≤ k) : ∃ l' b' y',qap.f k l b = some (l',b',y') ∧ (b = true → b' = true) ∧ (b = false → match nums l with | some ns => b' = false ∧ y' = ns | none => b' = true) := by
 have h1 := hl.1
 unfold qap.f
 cases b with
 | true =>
  obtain ⟨m,hm⟩ : ∃ m,k = m + 1 := ⟨k - 1,by omega⟩
  rw [show qap.l0 k k l true [] = qap.l0 k (m + 1) l true [] by rw [← hm],qap.l0]
  by_cases hz : 0 < (l.length : Int)
  ·rw [if_pos hz,if_pos rfl]; exact ⟨_,_,_,rfl,fun _=>rfl,fun h => by cases h⟩
  ·rw [if_neg hz]; exact ⟨_,_,_,rfl,fun _=>rfl,fun h => by cases h⟩
 | false =>
  obtain ⟨l',b',y',e,h⟩ := qiJ k (by omega) l k [] hl (by omega) (by simp; omega)
  rw [e,obs]
  refine ⟨_,_,_,rfl,fun h => (by cases h),fun _=>?_⟩
  cases hn : nums l with
  | none => rw [hn] at h; exact h
  | some ns => rw [hn] at h; exact ⟨h.1,by simpa using h.2⟩
theorem qdp (k n : Nat) (l : List ByteArray) (y : LI) (hn : 0 < n) : qat.l0 k n l true y = some (l,true,y) := by
 obtain ⟨n,rfl⟩ := sun (n := n)
 rw [qat.l0,if_pos rfl]
theorem qiK (k : Nat) (hk : 200 ≤ k) : ∀ (l : List ByteArray) (n : Nat) (y : LI),wl l → l.length + 1 < n → y.length + l.length ≤ 2000000 → ∃ l' b' y',qat.l0 k n l false y = some (l',b',y') ∧ wl l' ∧ Rz ((pLt l).map fun p => (y ++ p.1,p.2)) y' l' b'
 | [],n,y,hl,hn,hy => by
  obtain ⟨n,rfl⟩ := sun (n := n)
  have e41 : ByteArray.mk #[41] = bA [41] := rfl
  have n41 : ByteArray.empty ≠ bA [41] := fun h => by have := congrArg ByteArray.size h; simp [qbr] at this
  rw [qat.l0,if_neg (by decide),qdL,obs,e41]
  dsimp only
  rw [qbQ,decide_eq_false n41,if_neg (by decide),qda _ k hk,obs,if_pos rfl,if_pos (by simp only [lSi]; simp only [List.length_nil] at hy; omega),qdp k n _ _ (by omega)]
  exact ⟨_,_,_,rfl,hl,rfl⟩
 | w :: r,n,y,hl,hn,hy => by
  obtain ⟨n,rfl⟩ : ∃ m,n = m + 1 := ⟨n - 1,by simp only [lCo] at hn; omega⟩
  simp only [lCo] at hn hy
  have e41 : ByteArray.mk #[41] = bA [41] := rfl
  rw [qat.l0,if_neg (by decide),qcg w r false hl,obs,e41]
  dsimp only
  rw [qbQ,qp7]
  by_cases hc : w = bA [41]
  ·rw [decide_eq_true hc,if_pos rfl,if_pos hc]
   exact ⟨_,_,_,rfl,hl.tail,rfl,rfl,by simp⟩
  rw [decide_eq_false hc,if_neg (by decide),if_neg hc,qda _ k hk,obs,if_neg (by decide),if_pos (by simp only [lSi]; omega)]
  cases hv : zVal w with
  | none =>
   rw [qhg hv]
   dsimp only
   rw [show (!false) = true from rfl,qdp k n _ _ (by omega)]
   exact ⟨_,_,_,rfl,hl.tail,rfl⟩
  | some m =>
   rw [qhf hv]
   dsimp only
   rw [show (!true) = false from rfl]
   obtain ⟨l2,b2,y2,e2,hw2,h2⟩ := qiK k hk r n (y ++ [m]) hl.tail (by omega) (by simp only [lAp,lSi]; omega)
   refine ⟨l2,b2,y2,e2,hw2,?_⟩
   cases hr : pLt r with
   | none => rw [hr] at h2; exact h2
   | some x => rw [hr] at h2; exact ⟨h2.1,h2.2.1,by rw [h2.2.2]; dsimp only; rw [aAs]; rfl⟩
theorem qhV (l : List ByteArray) (b : Bool) (hl : wl l) (k : Nat) (hk : 1000010 ≤ k) : ∃ l' b' y',qat.f k l b = some (l',b',y') ∧ Cz pL l b y' l' b' := by
 have e40 : ByteArray.mk #[40] = bA [40] := rfl
 have n40 : ByteArray.empty ≠ bA [40] := fun h => by have := congrArg ByteArray.size h; simp [qbr] at this
 unfold qat.f
 cases l with
 | nil =>
  rw [qdL,obs,e40]
  dsimp only
  rw [qbQ,decide_eq_false n40,if_neg (by decide),qdp k k _ _ (by omega)]
  exact ⟨_,_,_,rfl,hl,fun _=>rfl,fun _=>rfl⟩
 | cons w r =>
  rw [qcg w r b hl,obs,e40]
  dsimp only
  rw [qbQ]
  by_cases hc : w = bA [40]
  ·rw [decide_eq_true hc,if_pos rfl]
   cases b with
   | true =>
    rw [qdp k k _ _ (by omega)]
    exact ⟨_,_,_,rfl,hl.tail,fun _=>rfl,fun h => (by cases h)⟩
   | false =>
    have h1 := hl.1
    simp only [lCo] at h1
    obtain ⟨l2,b2,y2,e2,hw2,h2⟩ := qiK k (by omega) r k [] hl.tail (by omega) (by simp; omega)
    rw [e2,obs]
    refine ⟨_,_,_,rfl,hw2,fun h => (by cases h),fun _=>?_⟩
    rw [pL_c,if_pos hc]
    cases hr : pLt r with
    | none => rw [hr] at h2; exact h2
    | some x => rw [hr] at h2; exact ⟨h2.1,h2.2.1,by simpa using h2.2.2⟩
  ·rw [decide_eq_false hc,if_neg (by decide),qdp k k _ _ (by omega)]
   refine ⟨_,_,_,rfl,hl.tail,fun _=>rfl,fun _=>?_⟩
   rw [pL_c,if_neg hc]; rfl
def zOpF : Nat → Int → ByteArray → Option Int
 | 0,_,_ => none
 | e + 1,op,w => if zName op = w then some op else zOpF e (op + 1) w
def zOp (w : ByteArray) : Option Int := zOpF 20 1 w
theorem qkZ : ∀ (e : Nat) (op : Int) (w : ByteArray) (r : Int),zOpF e op w = some r → op ≤ r ∧ r < op + e ∧ zName r = w
 | 0,_,_,_,h => by cases h
 | e + 1,op,w,r,h => by
  rw [zOpF] at h
  by_cases c : zName op = w
  ·rw [if_pos c] at h; cases h; exact ⟨by omega,by omega,c⟩
  ·rw [if_neg c] at h
   obtain ⟨h1,h2,h3⟩ := qkZ e (op + 1) w r h
   exact ⟨by omega,by omega,h3⟩
theorem qoD (op : Int) (h1 : 1 ≤ op) (h2 : op ≤ 20) : zName op ≠ ByteArray.empty := by
 have : ∀ i : Fin 21,1 ≤ i.val → (zName (i.val : Int)).size ≠ 0 := by decide +kernel
 intro e
 have h := this ⟨op.toNat,by omega⟩ (by show 1 ≤ op.toNat; omega)
 rw [show ((⟨op.toNat,by omega⟩ : Fin 21).val : Int) = op by show (op.toNat : Int) = op; omega,e] at h
 exact h rfl
theorem qhv : zOp ByteArray.empty = none := by
 cases h : zOp ByteArray.empty with
 | none => rfl
 | some r =>
  obtain ⟨h1,h2,h3⟩ := qkZ 20 1 _ r h
  exact absurd h3 (qoD r (by omega) (by omega))
theorem qgi (w : ByteArray) (y0 : List ByteArray) (y1 : Bool) : ∀ (e : Nat) (op : Int) (n : Nat),op + e = 21 → 1 ≤ op → e < n → qbu.l0 n w op y0 y1 = some (match zOpF e op w with | some r => .inr r | none => .inl ())
 | 0,op,n,h,_,hn => by
  obtain ⟨n,rfl⟩ := sun (n := n)
  rw [qbu.l0,ifq]; rfl
 | e + 1,op,n,h,h1,hn => by
  obtain ⟨n,rfl⟩ := sun (n := n)
  rw [qbu.l0,ifp,qhy,obs,qbQ,zOpF]
  by_cases c : zName op = w
  ·rw [decide_eq_true c,if_pos rfl,if_pos c]
  ·rw [decide_eq_false c,if_neg (by decide),if_neg c,qak (by omega) (by omega)]
   exact qgi w y0 y1 e (op + 1) n (by omega) (by omega) (by omega)
theorem qhR (w : ByteArray) (L : List ByteArray) (hL : L.length = 21) (hn : ∀ op : Int,1 ≤ op → op ≤ 20 → L.getD op.toNat ByteArray.empty = zName op) : ∀ (e : Nat) (op : Int) (n : Nat),op + e = 21 → 1 ≤ op → e < n → qcq.l0 n w 21 op L = some (match zOpF e op w with | some r => .inr r | none => .inl ())
 | 0,op,n,h,_,hm => by
  obtain ⟨n,rfl⟩ := sun (n := n)
  rw [qcq.l0,ifq]; rfl
 | e + 1,op,n,h,h1,hm => by
  obtain ⟨n,rfl⟩ := sun (n := n)
  rw [qcq.l0,ifp,ifp,ifp,ifp,hn op h1 (by omega),qbQ,zOpF]
  by_cases c : zName op = w
  ·rw [decide_eq_true c,if_pos rfl,if_pos c]
  ·rw [decide_eq_false c,if_neg (by decide),if_neg c,qak (by omega) (by omega)]
   exact qhR w L hL hn e (op + 1) n (by omega) (by omega) (by omega)
theorem qmP (w : ByteArray) (k : Nat) (hk : 200 ≤ k) : qcq.f k w = some ((zOp w).getD 0) := by
 obtain ⟨L,hL⟩ : ∃ L,qcZ.f = some L := ⟨_,rfl⟩
 have h21 : L.length = 21 := by
  have : (qcZ.f.getD []).length = 21 := rfl
  rw [hL] at this; exact this
 have hn : ∀ op : Int,1 ≤ op → op ≤ 20 → L.getD op.toNat ByteArray.empty = zName op := fun op h1 h2 => by
  unfold zName
  rw [ifq,hL]; rfl
 unfold qcq.f
 rw [hL,obs,h21]
 obtain ⟨n,rfl⟩ : ∃ m,k = m + 1 := ⟨k - 1,by omega⟩
 have := qhR w L h21 hn 20 1 n (by omega) (by omega) (by omega)
 rw [show ((21 : Nat) : Int) = 21 from rfl,qcq.l0,ifp,ifp,if_pos (by rw [h21]; decide),ifq,qak (n := 0 + 1) (by omega) (by omega),show (0 : Int) + 1 = 1 from rfl,this,obs]
 unfold zOp
 cases zOpF 20 1 w <;> rfl
def pOp : List ByteArray → Option (Int × List ByteArray)
 | [] => none
 | w :: r => (zOp w).map fun op => (op,r)
theorem qmR (w : ByteArray) (r : List ByteArray) : pOp (w :: r) = (zOp w).map fun op => (op,r) := rfl
theorem qo8 (l : List ByteArray) (b : Bool) (hl : wl l) (k : Nat) (hk : 200 ≤ k) : ∃ a l' b',qbu.f k l b = some (a,l',b') ∧ Cz pOp l b a l' b' := by
 unfold qbu.f
 cases l with
 | nil =>
  rw [qd3,obs]
  dsimp only
  rw [qgi _ _ _ 20 1 k (by omega) (by omega) (by omega),obs]
  rw [show zOpF 20 1 ByteArray.empty = none from qhv]
  exact ⟨_,_,_,rfl,hl,fun _=>rfl,fun _=>rfl⟩
 | cons w r =>
  by_cases h : w = ByteArray.empty
  ·rw [qfa h r b hl,obs]
   dsimp only
   rw [qgi _ _ _ 20 1 k (by omega) (by omega) (by omega),obs]
   rw [show zOpF 20 1 ByteArray.empty = none from qhv]
   refine ⟨_,_,_,rfl,hl,fun _=>rfl,fun _=>?_⟩
   rw [qmR,h,qhv]; rfl
  ·rw [qe9 h r b hl,obs]
   dsimp only
   rw [qgi _ _ _ 20 1 k (by omega) (by omega) (by omega),obs]
   rw [show zOpF 20 1 w = zOp w from rfl]
   cases ho : zOp w with
   | none =>
    refine ⟨_,_,_,rfl,hl.tail,fun _=>rfl,fun _=>?_⟩
    rw [qmR,ho]; rfl
   | some op =>
    refine ⟨_,_,_,rfl,hl.tail,fun h => h,fun hb => ?_⟩
    rw [qmR,ho]; exact ⟨hb,rfl,rfl⟩
end Go.Pf

namespace Go.Pf
open Go Go.Vm
def pAll := seqP (seqP (seqP (seqP (seqP (seqP pOp pL) pL) pL) pN) pN) pNm
def toNd (x : (((((Int × LI) × LI) × LI) × Int) × Int) × ByteArray) : Nd := (x.1.1.1.1.1.1,(x.1.1.1.1.1.2,(x.1.1.1.1.2,(x.1.1.1.2,(x.1.1.2,(x.1.2,x.2))))))
def pNd (l : List ByteArray) : Option Nd := match pAll l with
 | some x => if x.2 = [] then some (toNd x.1) else none
 | none => none
theorem qmX (l : List ByteArray) (hl : wl l) (k : Nat) (hk : 1000010 ≤ k) : ∃ o,qcU.f k l false = some o ∧ match pNd l with
  | some x => o.2.2.2.2.2.1 = false ∧ (o.1,(o.2.2.2.2.2.2.1,(o.2.2.2.2.2.2.2.1,(o.2.2.2.2.2.2.2.2,(o.2.1,(o.2.2.1,o.2.2.2.1)))))) = x
  | none => o.2.2.2.2.2.1 = true := by
 unfold qcU.f
 obtain ⟨a1,l1,b1,e1,c1⟩ := qo8 l false hl k (by omega)
 rw [e1,obs]; dsimp only
 obtain ⟨l2,b2,a2,e2,c2⟩ := qgE l1 b1 c1.1 k hk
 rw [e2,obs]; dsimp only
 obtain ⟨l3,b3,a3,e3,c3⟩ := qgE l2 b2 c2.1 k hk
 rw [e3,obs]; dsimp only
 obtain ⟨l4,b4,a4,e4,c4⟩ := qgE l3 b3 c3.1 k hk
 rw [e4,obs]; dsimp only
 obtain ⟨a5,l5,b5,e5,c5⟩ := qiV l4 b4 c4.1
 rw [e5,obs]; dsimp only
 obtain ⟨a6,l6,b6,e6,c6⟩ := qeY l5 b5 c5.1
 rw [e6,obs]; dsimp only
 obtain ⟨a7,l7,b7,e7,c7⟩ := qiU l6 b6 c6.1
 rw [e7,obs]; dsimp only
 have c := ((((((c1.seq c2).seq c3).seq c4).seq c5).seq c6).seq c7).2.2 rfl
 rw [show seqP (seqP (seqP (seqP (seqP (seqP pOp pL) pL) pL) pN) pN) pNm l = pAll l from rfl] at c
 unfold pNd
 cases hp : pAll l with
 | none =>
  rw [hp] at c
  have hb : b7 = true := c
  rw [if_pos hb]; exact ⟨_,rfl,rfl⟩
 | some x =>
  rw [hp] at c
  obtain ⟨hb,hl7,ha⟩ := c
  rw [hb,if_neg (by decide)]
  refine ⟨_,rfl,?_⟩
  dsimp only
  by_cases hx : x.2 = []
  ·rw [if_pos hx]
   have : l7 = [] := hl7.trans hx
   rw [this]
   refine ⟨by simp,?_⟩
   rw [← ha]; rfl
  ·rw [if_neg hx]
   have : l7 ≠ [] := fun e => hx (hl7 ▸ e)
   have h0 : 0 < (l7.length : Int) := by have := List.length_pos_iff.2 this; omega
   exact decide_eq_true h0
theorem qoU {w : ByteArray} {r : List ByteArray} (h : zOp w = none) : pNd (w :: r) = none := by
 unfold pNd pAll seqP
 rw [qmR,h]; rfl
theorem qi6 (c : UInt8) (s : ByteArray) : ∃ w r,zWd c s = w :: r := by
 unfold zWd
 cases (sp c [] s.data.toList).1.map bA with
 | nil => exact ⟨_,_,rfl⟩
 | cons a l => exact ⟨_,_,rfl⟩
theorem qnS (s : ByteArray) (hs : s.size ≤ 900000) (hl : wl (zWd 32 s)) (k : Nat) (hk : 1000010 ≤ k) : ∃ o,qef.f k s = some o ∧ match pNd (zWd 32 s) with
    | some x => o.2.2.2.2.1 = true ∧ (o.1,(o.2.2.2.2.2.1,(o.2.2.2.2.2.2.1,(o.2.2.2.2.2.2.2,(o.2.1,(o.2.2.1,o.2.2.2.1)))))) = x
    | none => o.2.2.2.2.1 = false := by
  have e45 : ByteArray.mk #[45] = bA [45] := rfl
  have ne : ByteArray.empty ≠ bA [45] := fun h => by have := congrArg ByteArray.size h; simp [qbr] at this
  unfold qef.f
  obtain ⟨w,r,hw⟩ := qi6 32 s
  rw [qdv s (by omega) k (by omega),obs]
  rw [hw] at hl ⊢
  rw [qcg w r false hl,obs]; dsimp only
  rw [qmP w k (by omega),obs]
  obtain ⟨l2,b2,a2,e2,c2⟩ := qhV r false hl.tail k hk
  rw [e2,obs]; dsimp only
  obtain ⟨l3,b3,a3,e3,c3⟩ := qhV l2 b2 c2.1 k hk
  rw [e3,obs]; dsimp only
  obtain ⟨l4,b4,a4,e4,c4⟩ := qhV l3 b3 c3.1 k hk
  rw [e4,obs]; dsimp only
  obtain ⟨a5,l5,b5,e5,c5⟩ := qfE l4 b4 c4.1 k (by omega)
  rw [e5,obs]; dsimp only
  obtain ⟨a6,l6,b6,e6,c6⟩ := qfE l5 b5 c5.1 k (by omega)
  rw [e6,obs]; dsimp only
  rw [e45]
  cases ho : zOp w with
  | none =>
    rw [qoU ho]
    rw [show (none : Option Int).getD 0 = 0 from rfl]
    obtain ⟨a7,l7,b7,e7⟩ : ∃ a l' b',qaB.f l6 b6 = some (a,l',b') := by
      cases l6 with
      | nil => exact ⟨_,_,_,rfl⟩
      | cons x q => exact ⟨_,_,_,qcg x q b6 c6.1⟩
    rw [e7,obs]; dsimp only
    by_cases h1 : b7 = true <;> by_cases h2 : (a7.toList == (bA [45]).toList) = true
    · rw [if_pos h1,if_pos h2,if_neg (by decide)]; exact ⟨_,rfl,rfl⟩
    · rw [if_pos h1,if_neg h2,if_neg (by decide)]; exact ⟨_,rfl,rfl⟩
    · rw [if_neg h1,if_pos h2,if_neg (by decide)]; exact ⟨_,rfl,rfl⟩
    · rw [if_neg h1,if_neg h2,if_neg (by decide)]; exact ⟨_,rfl,rfl⟩
  | some op =>
    obtain ⟨o1,o2,_⟩ := qkZ 20 1 w op ho
    rw [show (some op : Option Int).getD 0 = op from rfl]
    have c1 : Cz pOp (w :: r) false op r false := ⟨hl.tail,fun h => h,fun _=>by rw [qmR,ho]; exact ⟨rfl,rfl,rfl⟩⟩
    have c := (((((c1.seq c2).seq c3).seq c4).seq c5).seq c6)
    have hpos : 0 < op := by omega
    unfold pNd
    cases l6 with
    | nil =>
      have c7 : Cz pNm [] b6 ByteArray.empty [] true := ⟨wl.nil,fun _=>rfl,fun _=>rfl⟩
      have c := (c.seq c7).2.2 rfl
      rw [show seqP (seqP (seqP (seqP (seqP (seqP pOp pL) pL) pL) pN) pN) pNm (w :: r) = pAll (w :: r) from rfl] at c
      rw [qdL,obs]; dsimp only
      rw [if_pos rfl,qbQ,decide_eq_false ne,if_neg (by decide),if_pos hpos]
      refine ⟨_,rfl,?_⟩
      cases hp : pAll (w :: r) with
      | none => rfl
      | some x => rw [hp] at c; cases c.1
    | cons x q =>
      have c7 : Cz pNm (x :: q) b6 (if x = bA [45] then ByteArray.empty else x) q (b6 || decide (x = ByteArray.empty)) := ⟨c6.1.tail,fun h => by rw [h]; rfl,fun h => by
        rw [qlh]
        by_cases hx : x = ByteArray.empty
        · rw [if_pos hx,decide_eq_true hx,h]; rfl
        · rw [if_neg hx,decide_eq_false hx,h]; exact ⟨rfl,rfl,rfl⟩⟩
      have c := (c.seq c7).2.2 rfl
      rw [show seqP (seqP (seqP (seqP (seqP (seqP pOp pL) pL) pL) pN) pN) pNm (w :: r) = pAll (w :: r) from rfl] at c
      rw [qcg x q b6 c6.1,obs]; dsimp only
      rw [qbQ,qbQ]
      cases b6 with
      | true =>
        rw [if_pos rfl]
        have hn : pAll (w :: r) = none := by
          cases hp : pAll (w :: r) with
          | none => rfl
          | some x => rw [hp] at c; have := c.1; simp at this
        rw [hn]
        by_cases h2 : x = bA [45]
        · rw [decide_eq_true h2,if_pos rfl,if_pos hpos]; exact ⟨_,rfl,rfl⟩
        · rw [decide_eq_false h2,if_neg (by decide),if_pos hpos]; exact ⟨_,rfl,rfl⟩
      | false =>
        rw [if_neg (by decide)]
        by_cases h2 : x = bA [45]
        · have hx : x ≠ ByteArray.empty := fun e => ne (e.symm.trans h2)
          rw [decide_eq_true h2,if_pos rfl,if_pos hpos,decide_eq_false hx,if_neg (by decide)]
          refine ⟨_,rfl,?_⟩
          rw [decide_eq_false hx,if_pos h2] at c
          cases hp : pAll (w :: r) with
          | none => rw [hp] at c; cases c
          | some y =>
            rw [hp] at c
            obtain ⟨_,hq,ha⟩ := c
            dsimp only
            by_cases hy : y.2 = []
            · rw [if_pos hy]
              have : q = [] := hq.trans hy
              rw [this]
              refine ⟨by simp,?_⟩
              rw [← ha]; rfl
            · rw [if_neg hy]
              have : q ≠ [] := fun e => hy (hq ▸ e)
              have h0 : ¬ (q.length : Int) = 0 := by have := List.length_pos_iff.2 this; omega
              exact decide_eq_false h0
        · by_cases hx : x = ByteArray.empty
          · rw [decide_eq_false h2,if_neg (by decide),if_pos hpos,decide_eq_true hx,if_pos rfl]
            refine ⟨_,rfl,?_⟩
            rw [decide_eq_true hx] at c
            cases hp : pAll (w :: r) with
            | none => rfl
            | some y => rw [hp] at c; have := c.1; simp at this
          · rw [decide_eq_false h2,if_neg (by decide),if_pos hpos,decide_eq_false hx,if_neg (by decide)]
            refine ⟨_,rfl,?_⟩
            rw [decide_eq_false hx,if_neg h2] at c
            cases hp : pAll (w :: r) with
            | none => rw [hp] at c; cases c
            | some y =>
              rw [hp] at c
              obtain ⟨_,hq,ha⟩ := c
              dsimp only
              by_cases hy : y.2 = []
              · rw [if_pos hy]
                have : q = [] := hq.trans hy
                rw [this]
                refine ⟨by simp,?_⟩
                rw [← ha]; rfl
              · rw [if_neg hy]
                have : q ≠ [] := fun e => hy (hq ▸ e)
                have h0 : ¬ (q.length : Int) = 0 := by have := List.length_pos_iff.2 this; omega
                exact decide_eq_false h0
def pNds : List ByteArray → Option (List Nd)
 | [] => some []
 | s :: r => match pNd (zWd 32 s) with
  | some x => (pNds r).map (x :: ·)
  | none => none
def ln (M : List ByteArray) : Prop := M.length ≤ 1000000 ∧ ∀ s ∈ M,s.size ≤ 900000
theorem qhu {s : ByteArray} (h : s.size ≤ 900000) : wl (zWd 32 s) := by
 have hsz : s.data.toList.length = s.size := Array.length_toList
 have h1 := qfQ 32 s.data.toList []
 have key : ∀ (l cur : List UInt8),(∀ x ∈ (sp 32 cur l).1,x.length ≤ cur.length + l.length) ∧ (sp 32 cur l).2.length ≤ cur.length + l.length := by
  intro l
  induction l with
  | nil => intro cur; simp [sp]
  | cons x l ih =>
   intro cur
   rw [sp]
   split
   ·obtain ⟨i1,i2⟩ := ih []
    simp only [List.length_nil,lCo] at i1 i2 ⊢
    refine ⟨fun y hy => ?_,by omega⟩
    rcases List.mem_cons.1 hy with rfl | hy
    ·omega
    ·have := i1 y hy; omega
   ·obtain ⟨i1,i2⟩ := ih (cur ++ [x])
    simp only [lAp,lCo,List.length_nil] at i1 i2 ⊢
    exact ⟨fun y hy => by have := i1 y hy; omega,by omega⟩
 obtain ⟨k1,k2⟩ := key s.data.toList []
 simp only [List.length_nil] at k1 k2
 unfold zWd
 refine ⟨by simp only [lAp,List.length_map,lSi]; omega,fun w hw => ?_⟩
 rcases List.mem_append.1 hw with hw | hw
 ·obtain ⟨x,hx,rfl⟩ := List.mem_map.1 hw
  have := k1 x hx; rw [qbr]; omega
 ·rw [List.mem_singleton] at hw; subst hw; rw [qbr]; omega
theorem qlf (k : Nat) (hk : 1000010 ≤ k) (M : List ByteArray) (hM : ln M) (y0 y1 : ByteArray) (y2 : List ByteArray) (c2 : Bool) (y3 : List ByteArray) (c3 : Bool) (y4 : LI) : ∀ (e i n : Nat) (b : Bool) (y : List Nd),M.length = i + e → e < n → y.length ≤ i →
  ∃ b' y',qbt.l0 k n b M (M.length : Int) (i : Int) y0 y1 y2 c2 y3 c3 y4 y = some (b',y') ∧ (b = true → b' = true) ∧ (b = false → match pNds (M.drop i) with | some ns => b' = false ∧ y' = y ++ ns | none => b' = true)
 | 0,i,n,b,y,hi,hn,hy => by
  obtain ⟨n,rfl⟩ := sun (n := n)
  refine ⟨_,_,by rw [qbt.l0,ifq],fun h => h,fun h => ?_⟩
  rw [dNl (by omega)]
  exact ⟨h,by simp⟩
 | e + 1,i,n,b,y,hi,hn,hy => by
  obtain ⟨n,rfl⟩ := sun (n := n)
  have h1 := hM.1
  have hm := hM.2 _ (qal (show i < M.length by omega) ByteArray.empty)
  rw [qbt.l0,ifp,ifp,tNc,qcR _ (by omega) k (by omega),obs]
  obtain ⟨o,eo,ho⟩ := qmX (zWd 32 (M.getD i ByteArray.empty)) (qhu hm) k hk
  rw [eo,obs,if_pos (by simp only [lSi]; omega),qak (n := (i : Int) + 1) (by omega) (by omega),show (i : Int) + 1 = ((i + 1 : Nat) : Int) by omega,qaj (show i < M.length by omega) ByteArray.empty]
  cases b with
  | true =>
   rw [if_pos rfl]
   obtain ⟨b',y',e',t',_⟩ := qlf k hk M hM y0 y1 y2 c2 y3 c3 y4 e (i + 1) n true (y ++ [_]) (by omega) (by omega) (by simp only [lAp,lSi]; omega)
   exact ⟨b',y',e',t',fun h => by cases h⟩
  | false =>
   rw [if_neg (by decide)]
   obtain ⟨b',y',e',t',f'⟩ := qlf k hk M hM y0 y1 y2 c2 y3 c3 y4 e (i + 1) n o.2.2.2.2.2.1 (y ++ [(o.1,(o.2.2.2.2.2.2.1,(o.2.2.2.2.2.2.2.1,(o.2.2.2.2.2.2.2.2,(o.2.1,(o.2.2.1,o.2.2.2.1))))))]) (by omega) (by omega) (by simp only [lAp,lSi]; omega)
   refine ⟨b',y',e',fun h => (by cases h),fun _=>?_⟩
   rw [pNds]
   cases hp : pNd (zWd 32 (M.getD i ByteArray.empty)) with
   | none => rw [hp] at ho; exact t' ho
   | some x =>
    rw [hp] at ho
    obtain ⟨h2,h3⟩ := ho
    have f' := f' h2
    rw [h3] at f'
    cases hr : pNds (M.drop (i + 1)) with
    | none => rw [hr] at f'; exact f'
    | some ns => rw [hr] at f'; exact ⟨f'.1,by rw [f'.2,aAs]; rfl⟩
theorem qmC (k : Nat) (hk : 1000010 ≤ k) (s : ByteArray) (L : List ByteArray) (hL : ln L) (hpos : 1 ≤ L.length) (y0 y2 : ByteArray) (y3 : LI) : ∀ (e i n : Nat) (y : List Nd),L.length - 1 = i + e → e < n → y.length ≤ i →
  qbg.l0 k n s (i : Int) y0 L y2 y3 y = some (match pNds ((L.take (L.length - 1)).drop i) with | some ns => .inl (y ++ ns) | none => .inr (12,ByteArray.empty))
 | 0,i,n,y,hi,hn,hy => by
  obtain ⟨n,rfl⟩ := sun (n := n)
  have h1 := hL.1
  rw [qbg.l0,qak (n := (L.length : Int) - 1) (by omega) (by omega),ifq,dNl (by rw [lTk]; omega)]
  simp [pNds]
 | e + 1,i,n,y,hi,hn,hy => by
  obtain ⟨n,rfl⟩ := sun (n := n)
  have h1 := hL.1
  have hm := hL.2 _ (qal (show i < L.length by omega) ByteArray.empty)
  have hg : (L.take (L.length - 1)).getD i ByteArray.empty = L.getD i ByteArray.empty := by
   rw [gDg,gDg,List.getElem?_take,ifp]
  rw [qbg.l0,qak (n := (L.length : Int) - 1) (by omega) (by omega),ifp,ifp,tNc,ifp]
  obtain ⟨o,eo,ho⟩ := qnS (L.getD i ByteArray.empty) hm (qhu hm) k hk
  rw [eo,obs,qaj (show i < (L.take (L.length - 1)).length by rw [lTk]; omega) ByteArray.empty,hg,pNds]
  cases hp : pNd (zWd 32 (L.getD i ByteArray.empty)) with
  | none =>
   rw [hp] at ho
   rw [ho,if_neg (by decide)]
  | some x =>
   rw [hp] at ho
   obtain ⟨h2,h3⟩ := ho
   rw [h2,if_pos rfl,if_pos (by simp only [lSi]; omega),h3,qak (n := (i : Int) + 1) (by omega) (by omega),show (i : Int) + 1 = ((i + 1 : Nat) : Int) by omega,
    qmC k hk s L hL hpos y0 y2 y3 e (i + 1) n _ (by omega) (by omega) (by simp only [lAp,lSi]; omega)]
   cases pNds ((L.take (L.length - 1)).drop (i + 1)) with
   | none => rfl
   | some ns => simp
end Go.Pf

namespace Go.Pf
open Go Go.Vm
theorem qqI (c : UInt8) : ∀ (l cur : List UInt8),(∀ x ∈ (sp c cur l).1,x.length ≤ cur.length + l.length) ∧ (sp c cur l).2.length ≤ cur.length + l.length := by
 intro l
 induction l with
 | nil => intro cur; simp [sp]
 | cons x l ih =>
  intro cur
  rw [sp]
  split
  ·obtain ⟨i1,i2⟩ := ih []
   simp only [List.length_nil,lCo] at i1 i2 ⊢
   refine ⟨fun y hy => ?_,by omega⟩
   rcases List.mem_cons.1 hy with rfl | hy
   ·omega
   ·have := i1 y hy; omega
  ·obtain ⟨i1,i2⟩ := ih (cur ++ [x])
   simp only [lAp,lCo,List.length_nil] at i1 i2 ⊢
   exact ⟨fun y hy => by have := i1 y hy; omega,by omega⟩
def zLi (s : ByteArray) : List ByteArray := (sp 10 [] s.data.toList).1.map bA
theorem qno {s : ByteArray} (h : s.size ≤ 65536) : ln (zLi s) ∧ ∀ x ∈ zLi s,x.size ≤ 65536 := by
 have hsz : s.data.toList.length = s.size := Array.length_toList
 have h1 := qfQ 10 s.data.toList []
 obtain ⟨k1,k2⟩ := qqI 10 s.data.toList []
 simp only [List.length_nil] at k1
 have key : ∀ x ∈ zLi s,x.size ≤ 65536 := fun w hw => by
  obtain ⟨x,hx,rfl⟩ := List.mem_map.1 hw
  have := k1 x hx; rw [qbr]; omega
 exact ⟨⟨by unfold zLi; rw [List.length_map]; omega,fun w hw => by have := key w hw; omega⟩,key⟩
def pMs (ws : List ByteArray) : Option (ByteArray × LI) := match seqP (pMu (bA mesh5)) pNm ws with
 | some x => match nums x.2 with
  | some ns => if x.1.2 = ByteArray.empty ∧ 0 < ns.length then none else some (x.1.2,ns)
  | none => none
 | none => none
def pOu (ws : List ByteArray) : Option LI := match pMu (bA outs4) ws with
 | some x => nums x.2
 | none => none
def rdL (L : List ByteArray) : Option (ByteArray × LI × List Nd × LI) := match pMs (zWd 32 (L.getD 0 ByteArray.empty)) with
 | none => none
 | some m => match pNds ((L.take (L.length - 1)).drop 1) with
  | none => none
  | some N => match pOu (zWd 32 (L.getD (L.length - 1) ByteArray.empty)) with
   | none => none
   | some O => some (m.1,m.2,N,O)
def zRd (s : ByteArray) : Option (ByteArray × LI × List Nd × LI) := if (sp 10 [] s.data.toList).2 = [] ∧ 2 ≤ (zLi s).length then rdL (zLi s) else none
theorem qoX : bA mesh5 ≠ ByteArray.empty := fun h => by have := congrArg ByteArray.size h; simp [qbr,mesh5] at this
theorem qoV : bA outs4 ≠ ByteArray.empty := fun h => by have := congrArg ByteArray.size h; simp [qbr,outs4] at this
theorem qpN (l : List UInt8) : bA l = ByteArray.empty ↔ l = [] := by
 rw [← qq8]
 exact ⟨qpM,fun h => by rw [h]⟩
set_option maxHeartbeats 1000000 in
theorem qku (s : ByteArray) (hs : s.size ≤ 65536) (k : Nat) (hk : 1000010 ≤ k) : ∃ o,qbt.f k s = some o ∧ match zRd s with
    | some z => o = (z.1,true,z.2.1,z.2.2.1,z.2.2.2)
    | none => o.2.1 = false := by
  have hsz : s.data.toList.length = s.size := Array.length_toList
  have hspl := qfQ 10 s.data.toList []
  obtain ⟨hln,hsm⟩ := qno hs
  unfold qbt.f zRd
  rw [show qa0.f k s 10 = some (zWd 10 s) from ql5 s (by omega) 10 (by decide) (by omega) k (by omega),obs]
  have ht : zWd 10 s = zLi s ++ [bA (sp 10 [] s.data.toList).2] := rfl
  rw [ht]
  generalize hL : zLi s = L at hln hsm ⊢
  generalize (sp 10 [] s.data.toList).2 = q
  have hl1 := hln.1
  have hlen : ((L ++ [bA q]).length : Int) = (L.length : Int) + 1 := by rw [lAp,lSi]; omega
  by_cases h3 : L.length < 2
  · rw [ifp,ifq]; exact ⟨_,rfl,rfl⟩
  have hw : IntKind.i64.wrap (((L ++ [bA q]).length : Int) - 1) = (L.length : Int) := by rw [hlen,qak (by omega) (by omega)]; omega
  have hw2 : IntKind.i64.wrap ((L.length : Int) - 1) = ((L.length - 1 : Nat) : Int) := by rw [qak (by omega) (by omega)]; omega
  have htk : (L ++ [bA q]).take L.length = L := by simp
  have hgt : (L ++ [bA q]).getD L.length ByteArray.empty = bA q := by simp
  simp only [hw,tNc,htk,dZr,hw2,hgt]
  rw [ifq,ifp,qbQ]
  by_cases hq : q ≠ []
  · rw [decide_eq_false (fun e => hq ((qpN q).1 e)),if_neg (by decide),if_neg (fun h => hq h.1)]; exact ⟨_,rfl,rfl⟩
  have hq : q = [] := Classical.not_not.1 hq
  rw [decide_eq_true ((qpN q).2 hq),if_pos rfl,if_pos (show q = [] ∧ 2 ≤ L.length from ⟨hq,by omega⟩),ifp,ifp]
  have m0 := hsm _ (qal (show 0 < L.length by omega) ByteArray.empty)
  have m1 := hsm _ (qal (show L.length - 1 < L.length by omega) ByteArray.empty)
  rw [qcR _ (by omega) k (by omega),obs,ifp,qcR _ (by omega) k (by omega),obs]
  have w0 := qhu (s := L.getD 0 ByteArray.empty) (by omega)
  have w1 := qhu (s := L.getD (L.length - 1) ByteArray.empty) (by omega)
  obtain ⟨l1,b1,e1,c1⟩ := qel (bA mesh5) qoX _ false w0
  rw [show ByteArray.mk #[109,101,115,104] = bA mesh5 from rfl,e1,obs]; dsimp only
  obtain ⟨nm,l2,b2,e2,c2⟩ := qiU l1 b1 c1.1
  rw [e2,obs]; dsimp only
  obtain ⟨l3,b3,sz,e3,t3,f3⟩ := qiT l2 b2 c2.1 k hk
  rw [e3,obs]; dsimp only
  have c12 := (c1.seq c2).2.2 rfl
  -- the rest
  obtain ⟨l4,b4,e4,c4⟩ := qel (bA outs4) qoV _ false w1
  obtain ⟨l5,b5,O,e5,t5,f5⟩ := qiT l4 b4 c4.1 k hk
  have hO : match pOu (zWd 32 (L.getD (L.length - 1) ByteArray.empty)) with | some o => b5 = false ∧ O = o | none => b5 = true := by
    have c4 := c4.2.2 rfl
    unfold pOu
    cases hp : pMu (bA outs4) (zWd 32 (L.getD (L.length - 1) ByteArray.empty)) with
    | none => rw [hp] at c4; exact t5 c4
    | some x =>
      rw [hp] at c4
      obtain ⟨g1,g2,_⟩ := c4
      have f5 := f5 g1
      rw [g2] at f5
      exact f5
  have hMl : ln ((L.take (L.length - 1)).drop 1) := ⟨by rw [List.length_drop,lTk]; omega,fun x hx => by have := hsm x (List.mem_of_mem_take (List.mem_of_mem_drop hx)); omega⟩
  have tail : ∀ b0 : Bool,∃ b9 N,qbt.l0 k k b0 ((L.take (L.length - 1)).drop 1) (((L.take (L.length - 1)).drop 1).length : Int) 0 ByteArray.empty nm l3 b3 (zWd 32 (L.getD (L.length - 1) ByteArray.empty)) false sz [] = some (b9,N) ∧ (b0 = true → b9 = true) ∧ (b0 = false → match pNds ((L.take (L.length - 1)).drop 1) with | some ns => b9 = false ∧ N = ns | none => b9 = true) := fun b0 => by
    obtain ⟨b9,N,e9,t9,f9⟩ := qlf k hk _ hMl ByteArray.empty nm l3 b3 (zWd 32 (L.getD (L.length - 1) ByteArray.empty)) false sz ((L.take (L.length - 1)).drop 1).length 0 k b0 [] (by omega) (by have := hMl.1; omega) (by simp)
    refine ⟨b9,N,e9,t9,fun h => ?_⟩
    have f9 := f9 h
    rw [dZr] at f9
    cases hN : pNds ((L.take (L.length - 1)).drop 1) with
    | none => rw [hN] at f9; exact f9
    | some ns => rw [hN] at f9; exact ⟨f9.1,by simpa using f9.2⟩
  have fin : ∀ b0 : Bool,b0 = decide (nm = ByteArray.empty ∧ 0 < sz.length) → ∃ o,(qbt.l0 k k b0 ((L.take (L.length - 1)).drop 1) (((L.take (L.length - 1)).drop 1).length : Int) 0 ByteArray.empty nm l3 b3 (zWd 32 (L.getD (L.length - 1) ByteArray.empty)) false sz []).bind (fun t9 => (qbv.f (ByteArray.mk #[111,117,116,115]) (zWd 32 (L.getD (L.length - 1) ByteArray.empty)) false).bind fun t10 => (qaJ.f k t10.1 t10.2).bind fun t11 => if t9.1 = true then (some (nm,false,sz,t9.2,t11.2.2)) else if b3 = true then (some (nm,false,sz,t9.2,t11.2.2)) else some (nm,!t11.2.1,sz,t9.2,t11.2.2)) = some o ∧ match rdL L with
      | some z => o = (z.1,true,z.2.1,z.2.2.1,z.2.2.2)
      | none => o.2.1 = false := fun b0 hb0 => by
    obtain ⟨b9,N,e9,t9,f9⟩ := tail b0
    rw [e9,obs,show ByteArray.mk #[111,117,116,115] = bA outs4 from rfl,e4,obs]; dsimp only
    rw [e5,obs]; dsimp only
    have hbad : (b9 = true ∨ b3 = true ∨ b5 = true) → rdL L = none → ∃ o,(if b9 = true then some (nm,false,sz,N,O) else if b3 = true then some (nm,false,sz,N,O) else some (nm,!b5,sz,N,O)) = some o ∧ match rdL L with
      | some z => o = (z.1,true,z.2.1,z.2.2.1,z.2.2.2)
      | none => o.2.1 = false := fun hb hr => by
      rw [hr]
      by_cases h9 : b9 = true
      · rw [if_pos h9]; exact ⟨_,rfl,rfl⟩
      · by_cases h3 : b3 = true
        · rw [if_neg h9,if_pos h3]; exact ⟨_,rfl,rfl⟩
        · rw [if_neg h9,if_neg h3]
          rcases hb with h | h | h
          · exact absurd h h9
          · exact absurd h h3
          · exact ⟨_,rfl,by rw [h]; rfl⟩
    cases hp : seqP (pMu (bA mesh5)) pNm (zWd 32 (L.getD 0 ByteArray.empty)) with
    | none =>
      rw [hp] at c12
      exact hbad (.inr (.inl (t3 c12))) (by unfold rdL pMs; rw [hp])
    | some x =>
      rw [hp] at c12
      obtain ⟨g1,g2,g3⟩ := c12
      have g3 : nm = x.1.2 := congrArg Prod.snd g3
      have f3 := f3 g1
      rw [g2] at f3
      cases hn : nums x.2 with
      | none =>
        rw [hn] at f3
        exact hbad (.inr (.inl f3)) (by unfold rdL pMs; rw [hp]; dsimp only; rw [hn])
      | some ns =>
        rw [hn] at f3
        obtain ⟨g4,g5⟩ := f3
        by_cases hz : nm = ByteArray.empty ∧ 0 < sz.length
        · rw [decide_eq_true hz] at hb0
          exact hbad (.inl (t9 hb0)) (by unfold rdL pMs; rw [hp]; dsimp only; rw [hn]; dsimp only; rw [← g3,← g5,if_pos hz])
        · rw [decide_eq_false hz] at hb0
          have f9 := f9 hb0
          have hms : pMs (zWd 32 (L.getD 0 ByteArray.empty)) = some (nm,sz) := by unfold pMs; rw [hp]; dsimp only; rw [hn]; dsimp only; rw [← g3,← g5,if_neg hz]
          cases hN : pNds ((L.take (L.length - 1)).drop 1) with
          | none =>
            rw [hN] at f9
            exact hbad (.inl f9) (by unfold rdL; rw [hms]; dsimp only; rw [hN])
          | some Ns =>
            rw [hN] at f9
            obtain ⟨g6,g7⟩ := f9
            cases hou : pOu (zWd 32 (L.getD (L.length - 1) ByteArray.empty)) with
            | none =>
              rw [hou] at hO
              exact hbad (.inr (.inr hO)) (by unfold rdL; rw [hms]; dsimp only; rw [hN]; dsimp only; rw [hou])
            | some Os =>
              rw [hou] at hO
              obtain ⟨g8,g9⟩ := hO
              have hr : rdL L = some (nm,sz,Ns,Os) := by unfold rdL; rw [hms]; dsimp only; rw [hN]; dsimp only; rw [hou]
              rw [hr,g6,if_neg (by decide),g4,if_neg (by decide),g8]
              exact ⟨_,rfl,by rw [g7,g9]; rfl⟩
  rw [qbQ]
  by_cases hnm : nm = ByteArray.empty
  · rw [decide_eq_true hnm,if_pos rfl,ifp]
    exact fin _ (decide_eq_decide.2 ⟨fun h => ⟨hnm,by omega⟩,fun h => by have := h.2; omega⟩)
  · rw [decide_eq_false hnm,if_neg (by decide),ifp]
    exact fin _ (decide_eq_false (fun h => hnm h.1)).symm
end Go.Pf

namespace Go.Pf
open Go Go.Vm
def Bd (l : List ByteArray) : Prop := l.length ≤ 65537 ∧ ∀ w ∈ l,w.size ≤ 65537
theorem Bd.tail {w : ByteArray} {r : List ByteArray} (h : Bd (w :: r)) : Bd r := ⟨by have := h.1; simp only [lCo] at this; omega,fun x hx => h.2 x (mCm _ hx)⟩
theorem qne {s : ByteArray} (h : s.size ≤ 65536) : Bd (zWd 32 s) := by
 have hsz : s.data.toList.length = s.size := Array.length_toList
 have h1 := qfQ 32 s.data.toList []
 obtain ⟨k1,k2⟩ := qqI 32 s.data.toList []
 simp only [List.length_nil] at k1 k2
 unfold zWd
 refine ⟨by simp only [lAp,List.length_map,lSi]; omega,fun w hw => ?_⟩
 rcases List.mem_append.1 hw with hw | hw
 ·obtain ⟨x,hx,rfl⟩ := List.mem_map.1 hw
  have := k1 x hx; rw [qbr]; omega
 ·rw [List.mem_singleton] at hw; subst hw; rw [qbr]; omega
theorem qdH {α β : Type} {p : List ByteArray → Option (α × List ByteArray)} {q : List ByteArray → Option (β × List ByteArray)} {l : List ByteArray} {z : (α × β) × List ByteArray} (h : seqP p q l = some z) : ∃ x y,p l = some x ∧ q x.2 = some y ∧ z = ((x.1,y.1),y.2) := by
 unfold seqP at h
 cases hp : p l with
 | none => rw [hp] at h; cases h
 | some x =>
  rw [hp,obs] at h
  cases hq : q x.2 with
  | none => rw [hq] at h; cases h
  | some y => rw [hq,obs] at h; cases h; exact ⟨x,y,rfl,hq,rfl⟩
theorem qqN {l : List ByteArray} (hl : Bd l) {x : Int × List ByteArray} (h : pN l = some x) : rng x.1 ∧ Bd x.2 := by
 cases l with
 | nil => cases h
 | cons w r =>
  rw [pN_c] at h
  cases hv : zVal w with
  | none => rw [hv] at h; cases h
  | some n => rw [hv] at h; cases h; exact ⟨(qeF hv).2,hl.tail⟩
theorem qli : ∀ {l : List ByteArray} {ns : LI},nums l = some ns → ns.length = l.length ∧ ∀ n ∈ ns,rng n
 | [],ns,h => by cases h; exact ⟨rfl,fun _ h => by cases h⟩
 | w :: r,ns,h => by
  rw [qn3] at h
  cases hv : zVal w with
  | none => rw [hv] at h; cases h
  | some n =>
   rw [hv] at h
   cases hr : nums r with
   | none => rw [hr] at h; cases h
   | some m =>
    rw [hr] at h; cases h
    obtain ⟨h1,h2⟩ := qli hr
    refine ⟨by simp only [lCo]; omega,fun x hx => ?_⟩
    rcases List.mem_cons.1 hx with rfl | hx
    ·exact (qeF hv).2
    ·exact h2 x hx
theorem qpC : ∀ {l : List ByteArray} {x : LI × List ByteArray},Bd l → pLt l = some x → x.1.length ≤ l.length ∧ (∀ n ∈ x.1,rng n) ∧ Bd x.2
 | [],x,_,h => by cases h
 | w :: r,x,hl,h => by
  rw [qp7] at h
  by_cases hw : w = bA [41]
  ·rw [if_pos hw] at h; cases h; exact ⟨by simp,fun _ h => (by cases h),hl.tail⟩
  rw [if_neg hw] at h
  cases hv : zVal w with
  | none => rw [hv] at h; cases h
  | some n =>
   rw [hv] at h
   cases hr : pLt r with
   | none => rw [hr] at h; cases h
   | some y =>
    rw [hr] at h; cases h
    obtain ⟨h1,h2,h3⟩ := qpC hl.tail hr
    refine ⟨by simp only [lCo]; omega,fun m hm => ?_,h3⟩
    rcases List.mem_cons.1 hm with rfl | hm
    ·exact (qeF hv).2
    ·exact h2 m hm
theorem qp8 {l : List ByteArray} {x : LI × List ByteArray} (hl : Bd l) (h : pL l = some x) : x.1.length ≤ 65537 ∧ (∀ n ∈ x.1,rng n) ∧ Bd x.2 := by
 cases l with
 | nil => cases h
 | cons w r =>
  rw [pL_c] at h
  by_cases hw : w = bA [40]
  ·rw [if_pos hw] at h
   obtain ⟨h1,h2,h3⟩ := qpC hl.tail h
   have := hl.tail.1
   exact ⟨by omega,h2,h3⟩
  ·rw [if_neg hw] at h; cases h
theorem qpA {l : List ByteArray} {x : ByteArray × List ByteArray} (hl : Bd l) (h : pNm l = some x) : x.1.size ≤ 65537 ∧ Bd x.2 := by
 cases l with
 | nil => cases h
 | cons w r =>
  rw [qlh] at h
  have hw := hl.2 w (by simp)
  by_cases h1 : w = ByteArray.empty
  ·rw [if_pos h1] at h; cases h
  rw [if_neg h1] at h
  cases h
  refine ⟨?_,hl.tail⟩
  dsimp only
  by_cases h2 : w = bA [45]
  ·rw [if_pos h2]; decide
  ·rw [if_neg h2]; exact hw
theorem qpB {a : ByteArray} {l : List ByteArray} {x : Unit × List ByteArray} (hl : Bd l) (h : pMu a l = some x) : Bd x.2 := by
 cases l with
 | nil => cases h
 | cons w r =>
  rw [qgv] at h
  by_cases hw : w = a
  ·rw [if_pos hw] at h; cases h; exact hl.tail
  ·rw [if_neg hw] at h; cases h
theorem qqM {l : List ByteArray} (hl : Bd l) {x : Nd} (h : pNd l = some x) : wtN x := by
  unfold pNd at h
  cases hp : pAll l with
  | none => rw [hp] at h; cases h
  | some z =>
    rw [hp] at h
    dsimp only at h
    by_cases hz : z.2 = []
    · rw [if_pos hz] at h
      cases h
      obtain ⟨z6,x7,e6,e7,rfl⟩ := qdH hp
      obtain ⟨z5,x6,e5,f6,rfl⟩ := qdH e6
      obtain ⟨z4,x5,e4,f5,rfl⟩ := qdH e5
      obtain ⟨z3,x4,e3,f4,rfl⟩ := qdH e4
      obtain ⟨z2,x3,e2,f3,rfl⟩ := qdH e3
      obtain ⟨x1,x2,e1,f2,rfl⟩ := qdH e2
      have b1 : Bd x1.2 := by
        cases l with
        | nil => cases e1
        | cons w r =>
          rw [qmR] at e1
          cases ho : zOp w with
          | none => rw [ho] at e1; cases e1
          | some op => rw [ho] at e1; cases e1; exact hl.tail
      obtain ⟨a2,r2,b2⟩ := qp8 b1 f2
      obtain ⟨a3,r3,b3⟩ := qp8 b2 f3
      obtain ⟨a4,r4,b4⟩ := qp8 b3 f4
      obtain ⟨r5,b5⟩ := qqN b4 f5
      obtain ⟨r6,b6⟩ := qqN b5 f6
      obtain ⟨a7,_⟩ := qpA b6 e7
      exact ⟨by show x2.1.length ≤ _; omega,by show x3.1.length ≤ _; omega,by show x4.1.length ≤ _; omega,by show x7.1.size ≤ _; omega,r2,r3,r4,r5,r6⟩
    · rw [if_neg hz] at h; cases h
theorem qn0 : ∀ {M : List ByteArray} {N : List Nd},(∀ s ∈ M,s.size ≤ 65536) → pNds M = some N → N.length = M.length ∧ ∀ x ∈ N,wtN x
 | [],N,_,h => by cases h; exact ⟨rfl,fun _ h => by cases h⟩
 | s :: r,N,hM,h => by
  rw [pNds] at h
  cases hp : pNd (zWd 32 s) with
  | none => rw [hp] at h; cases h
  | some x =>
   rw [hp] at h
   cases hr : pNds r with
   | none => rw [hr] at h; cases h
   | some m =>
    rw [hr] at h; cases h
    obtain ⟨h1,h2⟩ := qn0 (fun s hs => hM s (mCm _ hs)) hr
    refine ⟨by simp only [lCo]; omega,fun y hy => ?_⟩
    rcases List.mem_cons.1 hy with rfl | hy
    ·exact qqM (qne (hM s (by simp))) hp
    ·exact h2 y hy
theorem qnh {s : ByteArray} (hs : s.size ≤ 65536) {z : ByteArray × LI × List Nd × LI} (h : zRd s = some z) : wtG z.2.1 z.1 z.2.2.1 z.2.2.2 ∧ z.2.1.length ≤ 100000 ∧ z.2.2.1.length ≤ 100000 ∧ z.2.2.2.length ≤ 100000 ∧ s ≠ ByteArray.empty := by
  obtain ⟨hln,hsm⟩ := qno hs
  have hsz : s.data.toList.length = s.size := Array.length_toList
  have hspl := qfQ 10 s.data.toList []
  unfold zRd at h
  by_cases hc' : ¬ ((sp 10 [] s.data.toList).2 = [] ∧ 2 ≤ (zLi s).length)
  · rw [if_neg hc'] at h; cases h
  have hc := Classical.not_not.1 hc'
  rw [if_pos hc] at h
  have hne : s ≠ ByteArray.empty := fun e => by
    have h2 := hc.2
    unfold zLi at h2
    rw [List.length_map,e] at h2
    exact absurd h2 (by decide)
  have hlen : (zLi s).length ≤ 65536 := by unfold zLi; rw [List.length_map]; omega
  have m0 := hsm _ (qal (show 0 < (zLi s).length by omega) ByteArray.empty)
  have m1 := hsm _ (qal (show (zLi s).length - 1 < (zLi s).length by omega) ByteArray.empty)
  unfold rdL at h
  cases h1 : pMs (zWd 32 ((zLi s).getD 0 ByteArray.empty)) with
  | none => rw [h1] at h; cases h
  | some m =>
    rw [h1] at h
    dsimp only at h
    cases h2 : pNds (((zLi s).take ((zLi s).length - 1)).drop 1) with
    | none => rw [h2] at h; cases h
    | some N =>
      rw [h2] at h
      dsimp only at h
      cases h3 : pOu (zWd 32 ((zLi s).getD ((zLi s).length - 1) ByteArray.empty)) with
      | none => rw [h3] at h; cases h
      | some O =>
        rw [h3] at h
        cases h
        obtain ⟨n1,n2⟩ := qn0 (fun x hx => hsm x (List.mem_of_mem_take (List.mem_of_mem_drop hx))) h2
        have b0 := qne m0
        have b1 := qne m1
        have hm : m.1.size ≤ 65537 ∧ m.2.length ≤ 65537 ∧ ∀ n ∈ m.2,rng n := by
          unfold pMs at h1
          cases hp : seqP (pMu (bA mesh5)) pNm (zWd 32 ((zLi s).getD 0 ByteArray.empty)) with
          | none => rw [hp] at h1; cases h1
          | some y =>
            rw [hp] at h1
            dsimp only at h1
            cases hn : nums y.2 with
            | none => rw [hn] at h1; cases h1
            | some ns =>
              rw [hn] at h1
              dsimp only at h1
              obtain ⟨y1,y2,e1,e2,rfl⟩ := qdH hp
              obtain ⟨p1,p2⟩ := qpA (qpB b0 e1) e2
              obtain ⟨q1,q2⟩ := qli hn
              by_cases hz : y2.1 = ByteArray.empty ∧ 0 < ns.length
              · rw [if_pos hz] at h1; cases h1
              · rw [if_neg hz] at h1; cases h1
                exact ⟨p1,by have := p2.1; show ns.length ≤ _; rw [q1]; exact this,q2⟩
        have ho : O.length ≤ 65537 ∧ ∀ n ∈ O,rng n := by
          unfold pOu at h3
          cases hp : pMu (bA outs4) (zWd 32 ((zLi s).getD ((zLi s).length - 1) ByteArray.empty)) with
          | none => rw [hp] at h3; cases h3
          | some y =>
            rw [hp] at h3
            obtain ⟨q1,q2⟩ := qli h3
            have := (qpB b1 hp).1
            exact ⟨by rw [q1]; exact this,q2⟩
        exact ⟨⟨n2,by show m.1.size ≤ _; omega,hm.2.2,ho.2⟩,by show m.2.length ≤ _; omega,by show N.length ≤ _; rw [n1,List.length_drop,lTk]; omega,by show O.length ≤ _; omega,hne⟩
end Go.Pf

namespace Go.Pf
open Go Go.Vm
def zE (e : Int) : ByteArray × Int × LI × List Nd × LI := (ByteArray.empty,e,[],[],[])
def zGr (s : ByteArray) (z : ByteArray × LI × List Nd × LI) : ByteArray × Int × LI × List Nd × LI :=
 if (zShs z.2.1 z.1 z.2.2.1 z.2.2.2).1 = 0 then (if (zTx2 z.2.1 z.1 z.2.2.1 z.2.2.2 (zShs z.2.1 z.1 z.2.2.1 z.2.2.2).2).1 = s then (z.1,0,z.2.1,z.2.2.1,z.2.2.2) else zE 12) else zE (zShs z.2.1 z.1 z.2.2.1 z.2.2.2).1
def zPa (s : ByteArray) : ByteArray × Int × LI × List Nd × LI := if 65536 < (s.size : Int) then zE 3 else match zRd s with
 | none => zE 12
 | some z => zGr s z
theorem ptail (s : ByteArray) (L : List ByteArray) (hL : ln L) (h2 : 2 ≤ L.length) (nm : ByteArray) (sz : LI) (k : Nat) (hk : 2000000 ≤ k)
  (hz : ∀ N O,pNds ((L.take (L.length - 1)).drop 1) = some N → pOu (zWd 32 (L.getD (L.length - 1) ByteArray.empty)) = some O → wtG sz nm N O) :
  ((qbg.l0 k k s 1 ByteArray.empty L nm sz []).bind fun t13 => Sum.elim (fun t13 => if 0 ≤ IntKind.i64.wrap ((L.length : Int) - 1) ∧ IntKind.i64.wrap ((L.length : Int) - 1) < (L.length : Int) then if (IntKind.i64.wrap ((L.length : Int) - 1)).toNat < L.length then (qa9.f k (L.getD (IntKind.i64.wrap ((L.length : Int) - 1)).toNat ByteArray.empty)).bind fun t14 => (qaB.f t14 false).bind fun t15 => if (t15.1.toList == (ByteArray.mk #[111,117,116,115]).toList) = true then ((qap.f k t15.2.1 t15.2.2).bind fun t16 => if t16.2.1 = true then (some (ByteArray.empty,12,[],[],[])) else (qdf.f k sz nm t13 t16.2.2).bind fun t17 => if t17 = 0 then ((qar.f k sz nm t13 t16.2.2).bind fun t18 => if (t18.1.toList == s.toList) = true then (some (nm,0,sz,t13,t16.2.2)) else some (ByteArray.empty,12,[],[],[])) else some (ByteArray.empty,t17,[],[],[])) else some (ByteArray.empty,12,[],[],[]) else none else none) (fun t13 => some (t13.2,t13.1,[],[],[])) t13)
  = some (match pNds ((L.take (L.length - 1)).drop 1) with
   | none => zE 12
   | some N => match pOu (zWd 32 (L.getD (L.length - 1) ByteArray.empty)) with
    | none => zE 12
    | some O => zGr s (nm,sz,N,O)) := by
 have h1 := hL.1
 have hw2 : IntKind.i64.wrap ((L.length : Int) - 1) = ((L.length - 1 : Nat) : Int) := by rw [qak (by omega) (by omega)]; omega
 have hm := hL.2 _ (qal (show L.length - 1 < L.length by omega) ByteArray.empty)
 have l0 : qbg.l0 k k s 1 ByteArray.empty L nm sz [] = _ := qmC k (by omega) s L hL (by omega) ByteArray.empty nm sz (L.length - 2) 1 k [] (by omega) (by omega) (by simp)
 rw [l0,obs]
 cases hN : pNds ((L.take (L.length - 1)).drop 1) with
 | none => rfl
 | some N =>
  simp only [Sum.elim_inl,nAp,hw2,tNc]
  rw [ifp,ifp,qdv _ (by omega) k (by omega),obs]
  obtain ⟨w,r,hwr⟩ := qi6 32 (L.getD (L.length - 1) ByteArray.empty)
  have hwl := qhu hm
  have hz := hz N
  rw [hwr] at hwl hz ⊢
  rw [qcg w r false hwl,obs]; dsimp only
  rw [show ByteArray.mk #[111,117,116,115] = bA outs4 from rfl,qbQ]
  by_cases hc : w = bA outs4
  ·have hp : pOu (w :: r) = nums r := by unfold pOu; rw [qgv,if_pos hc]
   rw [decide_eq_true hc,if_pos rfl,hp]
   obtain ⟨l5,b5,O,e5,_,f5⟩ := qhU r false hwl.tail k (by omega)
   have f5 := f5 rfl
   rw [e5,obs]; dsimp only
   cases hn : nums r with
   | none => rw [hn] at f5; rw [f5,if_pos rfl]; rfl
   | some o =>
    rw [hn] at f5
    obtain ⟨g1,g2⟩ := f5
    have hg := hz O hN (by rw [hp,hn,g2])
    rw [g1,if_neg (by decide)]
    unfold qdf.f
    rw [qfi sz nm N O hg.nm (fun x hx => (hg.n x hx).ok) k (by omega),obs,obs,← g2]
    dsimp only
    unfold zGr
    dsimp only
    by_cases hs : (zShs sz nm N O).1 = 0
    ·rw [if_pos hs,if_pos hs,qgY hg k (by omega),if_pos hs,obs,qbQ]
     by_cases ht : (zTx2 sz nm N O (zShs sz nm N O).2).1 = s
     ·rw [decide_eq_true ht,if_pos rfl,if_pos ht]
     ·rw [decide_eq_false ht,if_neg (by decide),if_neg ht]; rfl
    ·rw [if_neg hs,if_neg hs]; rfl
  ·have hp : pOu (w :: r) = none := by unfold pOu; rw [qgv,if_neg hc]
   rw [decide_eq_false hc,if_neg (by decide),hp]; rfl
theorem qju (s : ByteArray) (k : Nat) (hk : 2000000 ≤ k) : qbg.f k s = some (zPa s) := by
  unfold qbg.f zPa
  by_cases hs : 65536 < (s.size : Int)
  · rw [if_pos hs,if_pos hs]; rfl
  rw [if_neg hs,if_neg hs,qjs s (by omega) k (by omega),obs]
  have hwt := fun z (h : zRd s = some z) => qnh (show s.size ≤ 65536 by omega) h
  obtain ⟨hln,hsm⟩ := qno (s := s) (by omega)
  unfold zRd at hwt ⊢
  rw [show (sp 10 [] s.data.toList).1.map bA = zLi s from rfl]
  generalize zLi s = L at hln hsm hwt ⊢
  generalize (sp 10 [] s.data.toList).2 = q at hwt ⊢
  dsimp only
  by_cases hq : q ≠ []
  · rw [decide_eq_false hq,if_neg (by decide),if_neg (fun h => hq h.1)]; rfl
  have hq : q = [] := Classical.not_not.1 hq
  rw [decide_eq_true hq,if_pos rfl]
  by_cases h3 : (L.length : Int) < 2
  · rw [if_pos h3,if_neg (fun h => by have := h.2; omega)]; rfl
  have hcc : q = [] ∧ 2 ≤ L.length := ⟨hq,by omega⟩
  rw [if_pos hcc] at hwt
  rw [if_neg h3,if_pos hcc,ifp,ifp]
  have m0 := hsm _ (qal (show 0 < L.length by omega) ByteArray.empty)
  rw [qdv _ (by omega) k (by omega),obs]
  unfold rdL at hwt ⊢
  obtain ⟨w,r,hwr⟩ := qi6 32 (L.getD 0 ByteArray.empty)
  have hwl := qhu (s := L.getD 0 ByteArray.empty) (by omega)
  rw [hwr] at hwl hwt ⊢
  rw [qcg w r false hwl,obs]; dsimp only
  rw [show ByteArray.mk #[109,101,115,104] = bA mesh5 from rfl,show ByteArray.mk #[45] = bA [45] from rfl]
  have n45 : bA [45] ≠ ByteArray.empty := fun h => by have := congrArg ByteArray.size h; simp [qbr] at this
  cases r with
  | nil =>
    rw [qdL,obs]; dsimp only
    obtain ⟨l5,b5,O,e5,t5,_⟩ := qhU [] true wl.nil k (by omega)
    rw [e5,obs,obs,qbQ w,qbQ ByteArray.empty (bA [45]),qbQ ByteArray.empty ByteArray.empty,show decide (ByteArray.empty = bA [45]) = false from decide_eq_false (fun e => n45 e.symm),show decide (ByteArray.empty = ByteArray.empty) = true from decide_eq_true rfl]
    dsimp only
    have hms : pMs [w] = none := by
      unfold pMs seqP
      rw [qgv]
      by_cases hc : w = bA mesh5
      · rw [if_pos hc]; rfl
      · rw [if_neg hc]; rfl
    rw [hms]
    by_cases hc : w = bA mesh5
    · rw [decide_eq_true hc,if_pos rfl,if_neg (by decide),if_neg (by decide)]; rfl
    · rw [decide_eq_false hc,if_neg (by decide),if_neg (by decide)]; rfl
  | cons x r' =>
    rw [qcg x r' false hwl.tail,obs]; dsimp only
    obtain ⟨l5,b5,sz,e5,_,f5⟩ := qhU r' false hwl.tail.tail k (by omega)
    have f5 := f5 rfl
    rw [e5,obs,obs,qbQ w,qbQ x (bA [45]),qbQ x ByteArray.empty]
    dsimp only
    by_cases hc : w = bA mesh5
    rotate_left
    · have hms : pMs (w :: x :: r') = none := by
        unfold pMs seqP
        rw [qgv,if_neg hc]; rfl
      rw [hms,decide_eq_false hc,if_neg (by decide)]
      by_cases hx : x = bA [45]
      · rw [decide_eq_true hx,if_pos rfl]; rfl
      · rw [decide_eq_false hx,if_neg (by decide)]; rfl
    rw [decide_eq_true hc,if_pos rfl]
    by_cases hxe : x = ByteArray.empty
    · have hms : pMs (w :: x :: r') = none := by
        unfold pMs seqP
        rw [qgv,if_pos hc]
        simp only [obs]
        rw [qlh,if_pos hxe]; rfl
      rw [hms,decide_eq_false (fun e => n45 (e.symm.trans hxe)),if_neg (by decide),decide_eq_true hxe,if_neg (by decide)]; rfl
    have hms : pMs (w :: x :: r') = match nums r' with | some ns => if (if x = bA [45] then ByteArray.empty else x) = ByteArray.empty ∧ 0 < ns.length then none else some (if x = bA [45] then ByteArray.empty else x,ns) | none => none := by
      unfold pMs seqP
      rw [qgv,if_pos hc]
      simp only [obs]
      rw [qlh,if_neg hxe]; rfl
    have m1 := hsm _ (qal (show L.length - 1 < L.length by omega) ByteArray.empty)
    have go : ∀ nm : ByteArray,pMs (w :: x :: r') = some (nm,sz) → ∀ N O,pNds ((L.take (L.length - 1)).drop 1) = some N → pOu (zWd 32 (L.getD (L.length - 1) ByteArray.empty)) = some O → wtG sz nm N O := fun nm h1 N O h2 h3 => by
      have := (hwt (nm,sz,N,O) (by rw [h1]; dsimp only; rw [h2]; dsimp only; rw [h3])).1
      exact this
    have fin : ∀ nm : ByteArray,pMs (w :: x :: r') = some (nm,sz) → (match pNds ((L.take (L.length - 1)).drop 1) with
      | none => zE 12
      | some N => match pOu (zWd 32 (L.getD (L.length - 1) ByteArray.empty)) with
        | none => zE 12
        | some O => zGr s (nm,sz,N,O)) = (match (match pMs (w :: x :: r') with
          | none => none
          | some m => match pNds ((L.take (L.length - 1)).drop 1) with
            | none => none
            | some N => match pOu (zWd 32 (L.getD (L.length - 1) ByteArray.empty)) with
              | none => none
              | some O => some (m.1,m.2,N,O)) with
        | none => zE 12
        | some z => zGr s z) := fun nm h1 => by
      rw [h1]
      dsimp only
      cases pNds ((L.take (L.length - 1)).drop 1) with
      | none => rfl
      | some N =>
        dsimp only
        cases pOu (zWd 32 (L.getD (L.length - 1) ByteArray.empty)) with
        | none => rfl
        | some O => rfl
    by_cases hx : x = bA [45]
    · rw [decide_eq_true hx,if_pos rfl,decide_eq_false hxe,if_neg (by decide)]
      rw [if_pos hx] at hms
      cases hn : nums r' with
      | none =>
        rw [hn] at f5 hms
        dsimp only at hms
        rw [hms,f5]
        by_cases hz : (sz.length : Int) = 0
        · rw [if_pos hz,if_pos rfl]; rfl
        · rw [if_neg hz]; rfl
      | some ns =>
        rw [hn] at f5 hms
        dsimp only at hms
        obtain ⟨g1,g2⟩ := f5
        by_cases hz : (sz.length : Int) = 0
        · have hms : pMs (w :: x :: r') = some (ByteArray.empty,sz) := by rw [hms,if_neg (fun h => by have := h.2; rw [← g2] at this; omega),g2]
          rw [if_pos hz,g1,if_neg (by decide)]
          refine (ptail s L hln (by omega) ByteArray.empty sz k hk (go _ hms)).trans ?_
          rw [fin _ hms]
          all_goals rfl
        · have hms : pMs (w :: x :: r') = none := by rw [hms,if_pos ⟨rfl,by rw [← g2]; omega⟩]
          rw [if_neg hz,hms]; rfl
    · rw [decide_eq_false hx,if_neg (by decide),decide_eq_false hxe,if_pos (by decide)]
      rw [if_neg hx] at hms
      cases hn : nums r' with
      | none =>
        rw [hn] at f5 hms
        dsimp only at hms
        rw [hms,f5,if_pos rfl]; rfl
      | some ns =>
        rw [hn] at f5 hms
        dsimp only at hms
        obtain ⟨g1,g2⟩ := f5
        have hms : pMs (w :: x :: r') = some (x,sz) := by rw [hms,if_neg (fun h => hxe h.1),g2]
        rw [g1,if_neg (by decide)]
        refine (ptail s L hln (by omega) x sz k hk (go _ hms)).trans ?_
        rw [fin _ hms]
        all_goals rfl
theorem qpO {s : LI} {nm : ByteArray} {N : List Nd} {O : LI} {S : List LI} {t : ByteArray} (ht : t ≠ ByteArray.empty) : (zTx2 s nm N O S).1 = t → (zTx2 s nm N O S).2 = 0 := by
 unfold zTx2
 by_cases h : 65536 < (zTB s nm N O S).length
 ·rw [if_pos h]; intro e; exact absurd e.symm ht
 ·rw [if_neg h]; intro _; rfl
theorem qeu (s : ByteArray) (k : Nat) (hk : 2000000 ≤ k) : qc0.f k s = some ((zPa s).2.2.1,(zPa s).1,(zPa s).2.2.2.1,(zPa s).2.2.2.2,(zPa s).2.1) := by
 unfold qc0.f zPa
 by_cases hs : 65536 < (s.size : Int)
 ·rw [if_pos hs,if_pos hs]; rfl
 rw [if_neg hs,if_neg hs]
 obtain ⟨o,eo,ho⟩ := qku s (by omega) k (by omega)
 rw [eo,obs]
 cases hz : zRd s with
 | none =>
  rw [hz] at ho
  rw [ho,if_neg (by decide)]; rfl
 | some z =>
  rw [hz] at ho
  obtain ⟨hg,_,_,_,hne⟩ := qnh (show s.size ≤ 65536 by omega) hz
  rw [ho]
  dsimp only
  rw [if_pos rfl,qjL _ _ _ _ hg.nm (fun x hx => (hg.n x hx).ok) k (by omega),obs]
  unfold zGr
  by_cases h0 : (zShs z.2.1 z.1 z.2.2.1 z.2.2.2).1 = 0
  ·rw [if_pos h0,if_pos h0,qk2 hg k (by omega),if_pos h0,obs]
   by_cases ht : (zTx2 z.2.1 z.1 z.2.2.1 z.2.2.2 (zShs z.2.1 z.1 z.2.2.1 z.2.2.2).2).1 = s
   ·rw [if_pos (qpO hne ht),qbQ,decide_eq_true ht,if_pos rfl,if_pos ht]
   ·rw [if_neg ht,qbQ,decide_eq_false ht]
    by_cases h2 : (zTx2 z.2.1 z.1 z.2.2.1 z.2.2.2 (zShs z.2.1 z.1 z.2.2.1 z.2.2.2).2).2 = 0
    ·rw [if_pos h2,if_neg (by decide)]; rfl
    ·rw [if_neg h2]; rfl
  ·rw [if_neg h0,if_neg h0]; rfl
theorem qqB (s : ByteArray) : (zPa s).2.2.1.length ≤ 100000 ∧ (zPa s).2.2.2.1.length ≤ 100000 ∧ (zPa s).2.2.2.2.length ≤ 100000 ∧ ∀ x ∈ (zPa s).2.2.2.1,smN x := by
 have e : ∀ n,(zE n).2.2.1.length ≤ 100000 ∧ (zE n).2.2.2.1.length ≤ 100000 ∧ (zE n).2.2.2.2.length ≤ 100000 ∧ ∀ x ∈ (zE n).2.2.2.1,smN x := fun n => ⟨by simp [zE],by simp [zE],by simp [zE],fun x hx => by simp [zE] at hx⟩
 unfold zPa
 by_cases hs : 65536 < (s.size : Int)
 ·rw [if_pos hs]; exact e 3
 rw [if_neg hs]
 cases hz : zRd s with
 | none => exact e 12
 | some z =>
  obtain ⟨hg,h1,h2,h3,_⟩ := qnh (show s.size ≤ 65536 by omega) hz
  dsimp only
  unfold zGr
  split
  ·split
   ·exact ⟨h1,h2,h3,fun x hx => ⟨(hg.n x hx).i,(hg.n x hx).s,(hg.n x hx).a⟩⟩
   ·exact e 12
  ·exact e _
theorem qd1 (s : ByteArray) (k : Nat) (hk : 2000000 ≤ k) : qc5.f k s = some true := by
 unfold qc5.f
 obtain ⟨h1,h2,h3,h4⟩ := qqB s
 rw [qeu s k hk,obs,qju s k hk,obs,if_pos rfl]
 dsimp only
 rw [qhT _ _ _ _ h1 h2 h3 h4 k (by omega)]; rfl
theorem qfm (l : List ByteArray) (hl : l.length ≤ 1000000) : ∀ (e i n : Nat),l.length = i + e → e < n → qbB.l0 n l l (l.length : Int) (i : Int) = some (.inl ())
 | 0,i,n,h,hn => by
  obtain ⟨n,rfl⟩ := sun (n := n)
  rw [qbB.l0,ifq]
 | e + 1,i,n,h,hn => by
  obtain ⟨n,rfl⟩ := sun (n := n)
  rw [qbB.l0,ifp,ifp,ifp,qbQ,decide_eq_true rfl,if_pos rfl,qak (n := (i : Int) + 1) (by omega) (by omega)]
  exact qfm l hl e (i + 1) n (by omega) (by omega)
theorem qjE (s : ByteArray) (hs : s.size ≤ 900000) (k : Nat) (hk : 2000000 ≤ k) : qbB.f k s = some true := by
 have hw := (qhu hs).1
 unfold qbB.f
 rw [qcR s (by omega) k (by omega),obs,qdv s (by omega) k (by omega),obs,qcx s (by omega),obs,qda s k (by omega),obs,if_pos rfl,if_pos rfl,if_pos (by simp),
  show qbB.l0 k (zWd 32 s) (zWd 32 s) ((zWd 32 s).length : Int) 0 = _ from qfm _ hw (zWd 32 s).length 0 k (by omega) (by omega)]; rfl
end Go.Pf

namespace Go.Pf
open Go Go.Vm
theorem qqq {u : Nat} (hu : u ≠ 0) : ∀ c r,Lib.decDigits u = c :: r → c.toNat ≠ 48 := by
 induction u using Nat.strongRecOn with
 | _ u ih =>
  intro c r e
  by_cases h : u < 10
  ·rw [Lib.decDigits,dif_pos h] at e
   cases e
   rw [qd4 _ h]; omega
  ·rw [Lib.decDigits,dif_neg h] at e
   obtain ⟨c',r',e',_,_⟩ := qlC (u / 10)
   rw [e',List.cons_append] at e
   cases e
   exact ih (u / 10) (by omega) (by omega) c r' e'
theorem qqe {n : Int} {r : List UInt8} (h : Lib.itoa n = 48 :: r) : n = 0 ∧ r = [] := by
 unfold Lib.itoa at h
 split at h
 ·cases h
 ·rename_i hn
  by_cases h0 : n.toNat = 0
  ·rw [h0,Lib.decDigits,dif_pos (by omega)] at h
   cases h
   exact ⟨by omega,rfl⟩
  ·exact absurd rfl (qqq h0 48 r h)
theorem qqz {l : List UInt8} (h : ∀ n,Lib.itoa n ≠ l) : zV2 (bA l) = (0,false) :=
 qhg (qeG fun n _ e => h n (qpM e.symm))
def kn : List UInt8 := [109,101,115,104,32,45,10,111,117,116,115,10]
theorem known13 (k : Nat) (hk : 2000000 ≤ k) : qdO.f k = some true := by
 have t1 : zTB [] ByteArray.empty [] [] [] = kn := by decide +kernel
 have hs : (zShs [] ByteArray.empty [] []) = (0,[]) := by decide +kernel
 have z1 : zRd (bA kn) = some (ByteArray.empty,[],[],[]) := by rfl
 have x1 : zTx2 [] ByteArray.empty [] [] [] = (bA kn,0) := by
  unfold zTx2; rw [t1,if_neg (by decide)]
 have p1 : zPa (bA kn) = (ByteArray.empty,0,[],[],[]) := by
  unfold zPa
  rw [if_neg (by decide),z1]
  unfold zGr
  dsimp only
  rw [hs]
  dsimp only
  rw [if_pos rfl,x1,if_pos rfl]
 have p2 : zPa ByteArray.empty = zE 12 := by
  unfold zPa
  rw [if_neg (by decide),show zRd ByteArray.empty = none from rfl]
 have n1 : zV2 (ByteArray.mk #[45,55]) = (-7,true) := by
  have e : ByteArray.mk #[45,55] = zNum (-7) := by
   unfold zNum Lib.itoa
   rw [if_pos (by decide),show (-7 : Int).natAbs = 7 from rfl,Lib.decDigits,dif_pos (by decide)]; rfl
  rw [e,qhf (qlH ⟨by decide,by decide⟩)]
 have n2 : zV2 (ByteArray.mk #[48,49]) = (0,false) := qqz (l := [48,49]) fun n e => by cases (qqe e).2
 unfold qdO.f
 rw [show ByteArray.mk #[109,101,115,104,32,45,10,111,117,116,115,10] = bA kn from rfl,qeu _ k hk,obs,qeu _ k hk,obs,qcx _ (by decide),obs,qcx _ (by decide),obs,p1,p2,n1,n2]
 dsimp only
 rw [if_pos rfl,if_pos (by decide),if_pos (by decide),if_pos rfl,if_pos rfl,if_neg (by decide),qcR _ (by decide) k (by show 4 < k; omega),obs,if_pos (by rfl),qcR _ (by decide) k (by show 0 < k; omega),obs]
 rfl
theorem qkE (x : Int) (k : Nat) (hk : 1000 ≤ k) : ∃ L,qb5.f k x = some L ∧ Tp L := by
 have : ∀ (e i n : Nat) (y : LI),200 = i + e → e < n → y.length = i → (∀ x ∈ y,-9223372036854775808 ≤ x ∧ x < 9223372036854775808) → ∃ L,qb5.l0 n x i y = some L ∧ L.length = 200 ∧ ∀ x ∈ L,-9223372036854775808 ≤ x ∧ x < 9223372036854775808 := by
  intro e
  induction e with
  | zero =>
   intro i n y hi hn hy hx
   obtain ⟨n,rfl⟩ := sun (n := n)
   rw [qb5.l0,ifq]
   exact ⟨y,rfl,by omega,hx⟩
  | succ e ih =>
   intro i n y hi hn hy hx
   obtain ⟨n,rfl⟩ := sun (n := n)
   rw [qb5.l0,ifp,if_pos (by decide),if_pos (by rw [lSi]; omega),qav (show i < 200 by omega) (by omega)]
   refine ih (i + 1) n _ (by omega) (by omega) (by rw [lAp,lSi]; omega) fun v hv => ?_
   rcases List.mem_append.1 hv with hv | hv
   ·exact hx v hv
   ·rw [List.mem_singleton] at hv
    generalize (IntKind.i64.wrap _ : Int) = u at hv
    have t2 := Int.lt_tmod_of_pos u (show (0 : Int) < 211 by omega)
    have t3 := Int.tmod_lt_of_pos u (show (0 : Int) < 211 by omega)
    omega
 obtain ⟨L,e,hl,hx⟩ := this 200 0 k [] (by omega) (by omega) rfl (fun x h => by cases h)
 rw [n0] at e
 unfold qb5.f
 rw [e,obs]
 exact ⟨L,rfl,by omega,hx⟩
theorem qi2 (k : Nat) (hk : 2000000 ≤ k) (x1 : Int) (t : ByteArray) (ht : t.size ≤ 100000) (i : Nat) (hi : i < t.size) (Y : List ByteArray) (hY : Y.length ≤ 100) (hs : ∀ y ∈ Y,y.size ≤ 100) : ∀ (e j n : Nat),Y.length = j + e → e < n → qac.l2 k n x1 t (i : Int) (Y.length : Int) (j : Int) Y = some (.inl ())
 | 0,j,n,h,hn => by
  obtain ⟨n,rfl⟩ := sun (n := n)
  rw [qac.l2,ifq]
 | e + 1,j,n,h,hn => by
  obtain ⟨n,rfl⟩ := sun (n := n)
  have hy := hs _ (qal (show j < Y.length by omega) ByteArray.empty)
  rw [qac.l2,ifp,ifp,ifp,ifp,qak (n := (i : Int) + 1) (by omega) (by omega)]
  have z1 : (t.extract ((0 : Nat) : Int).toNat (i : Int).toNat).size ≤ 100000 := by rw [ByteArray.size_extract]; omega
  have z2 : (t.extract ((i : Int) + 1).toNat (t.size : Int).toNat).size ≤ 100000 := by rw [ByteArray.size_extract]; omega
  rw [if_pos (by simp only [tNc] at z1 z2 ⊢; omega),ifp,if_pos (by rw [qaL]; simp only [tNc] at z1 z2 ⊢; omega),qd1 _ k hk,obs,if_pos rfl,qak (n := (j : Int) + 1) (by omega) (by omega)]
  exact qi2 k hk x1 t ht i hi Y hY hs e (j + 1) n (by omega) (by omega)
theorem qi3 (k : Nat) (hk : 2000000 ≤ k) (x1 : Int) (t : ByteArray) (ht : t.size ≤ 100000) : ∀ (e i n : Nat),t.size + 1 = i + e → e + 200 < n → qac.l1 k n x1 t (i : Int) = some (.inl ())
 | 0,i,n,h,hn => by
  obtain ⟨n,rfl⟩ := sun (n := n)
  rw [qac.l1,ifq]
 | e + 1,i,n,h,hn => by
  obtain ⟨n,rfl⟩ := sun (n := n)
  rw [qac.l1,ifp]
  by_cases h4 : (i : Int) < 400
  rotate_left
  ·rw [if_neg h4]
  rw [if_pos h4,ifp,qd1 _ k hk,obs,if_pos rfl]
  by_cases he : (i : Int) = (t.size : Int)
  ·rw [if_pos he]
  have hz : (t.extract (i : Int).toNat ((i : Int) + 1).toNat).size ≤ 1 := by rw [ByteArray.size_extract]; omega
  rw [if_neg he,qak (n := (i : Int) + 1) (by omega) (by omega),ifp,ifp]
  have l2 := qi2 k hk x1 t ht i (by omega) [ByteArray.empty,(ByteArray.mk #[32]),(ByteArray.mk #[10]),(ByteArray.mk #[40]),(ByteArray.mk #[48]),(ByteArray.mk #[45]),(ByteArray.mk #[120]),(t.extract (i : Int).toNat ((i : Int) + 1).toNat) ++ (t.extract (i : Int).toNat ((i : Int) + 1).toNat)] (by simp) (fun y hy => by
   simp only [List.mem_cons,List.not_mem_nil,or_false] at hy
   rcases hy with rfl | rfl | rfl | rfl | rfl | rfl | rfl | rfl
   ·decide
   ·decide
   ·decide
   ·decide
   ·decide
   ·decide
   ·decide
   ·rw [qaL]; omega) 8 0 n (by simp) (by omega)
  refine (congrArg (fun o => Option.bind o _) l2).trans ?_
  rw [obs,Sum.elim_inl]
  exact qi3 k hk x1 t ht e (i + 1) n (by omega) (by omega)
theorem qi4 (k : Nat) (hk : 2000000 ≤ k) : ∀ (e i n : Nat),i + e = 4 → e + 200000 < n → qac.l0 k n (i : Int) = some (.inl ())
 | 0,i,n,h,hn => by
  obtain ⟨n,rfl⟩ := sun (n := n)
  rw [qac.l0,ifq]
 | e + 1,i,n,h,hn => by
  obtain ⟨n,rfl⟩ := sun (n := n)
  obtain ⟨L,eL,T⟩ := qkE (i : Int) k (by omega)
  obtain ⟨nm,sz,N,O,S,e1,_,_,_,_,_,hw,hz⟩ := qpW T k (by omega)
  rw [qac.l0,ifp,eL,obs,e1,obs]
  dsimp only
  rw [qgY hw k (by omega),obs,hz,if_pos rfl]
  have ht : (zTx2 sz nm N O S).1.size ≤ 100000 := by
   unfold zTx2
   by_cases h : 65536 < (zTB sz nm N O S).length
   ·rw [if_pos h]; exact Nat.zero_le _
   ·rw [if_neg h]; show (bA _).size ≤ _; rw [qbr]; omega
  have l1 := qi3 k hk (i : Int) (zTx2 sz nm N O S).1 ht ((zTx2 sz nm N O S).1.size + 1) 0 n (by omega) (by omega)
  dsimp only
  rw [show qac.l1 k n (i : Int) (zTx2 sz nm N O S).1 0 = _ from l1,obs,Sum.elim_inl,qak (n := (i : Int) + 1) (by omega) (by omega)]
  exact qi4 k hk e (i + 1) n (by omega) (by omega)
theorem qi1 (k : Nat) (hk : 2000000 ≤ k) (Y : List ByteArray) (hY : Y.length ≤ 100) (hs : ∀ y ∈ Y,y.size ≤ 100) : ∀ (e j n : Nat),Y.length = j + e → e < n → qac.l3 k n (Y.length : Int) (j : Int) Y = some (.inl ())
 | 0,j,n,h,hn => by
  obtain ⟨n,rfl⟩ := sun (n := n)
  rw [qac.l3,ifq]
 | e + 1,j,n,h,hn => by
  obtain ⟨n,rfl⟩ := sun (n := n)
  have hy := hs _ (qal (show j < Y.length by omega) ByteArray.empty)
  rw [qac.l3,ifp,ifp,ifp,tNc,qjE _ (by omega) k hk,obs,if_pos rfl,qak (n := (j : Int) + 1) (by omega) (by omega)]
  exact qi1 k hk Y hY hs e (j + 1) n (by omega) (by omega)
theorem qi0 (k : Nat) (hk : 2000000 ≤ k) (Y : List ByteArray) (hY : Y.length ≤ 100) : ∀ (e j n : Nat),Y.length = j + e → e < n → qac.l4 k n (Y.length : Int) (j : Int) Y = some (.inl ())
 | 0,j,n,h,hn => by
  obtain ⟨n,rfl⟩ := sun (n := n)
  rw [qac.l4,ifq]
 | e + 1,j,n,h,hn => by
  obtain ⟨n,rfl⟩ := sun (n := n)
  rw [qac.l4,ifp,ifp,ifp,tNc,qd1 _ k hk,obs,if_pos rfl,qak (n := (j : Int) + 1) (by omega) (by omega)]
  exact qi0 k hk Y hY e (j + 1) n (by omega) (by omega)
theorem qiq : ∃ k,qac.f k = some true := by
 refine ⟨2000000,?_⟩
 generalize hk' : (2000000 : Nat) = k
 have hk : 2000000 ≤ k := by omega
 clear hk'
 unfold qac.f
 rw [show qac.l0 k k 0 = _ from qi4 k hk 4 0 k (by omega) (by omega),obs,Sum.elim_inl]
 refine (congrArg (fun o => Option.bind o _) (qi1 k hk _ (by decide) (by decide) 19 0 k rfl (by omega))).trans ?_
 rw [obs,Sum.elim_inl]
 refine (congrArg (fun o => Option.bind o _) (qi0 k hk _ (by decide) 11 0 k rfl (by omega))).trans ?_
 rw [obs,Sum.elim_inl,if_pos (by decide),qd1 _ k hk,obs,if_pos rfl,known13 k hk]
 rfl
end Go.Pf
