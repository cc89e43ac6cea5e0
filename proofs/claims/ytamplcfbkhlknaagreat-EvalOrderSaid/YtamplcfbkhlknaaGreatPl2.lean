/- Own texts put together: M10g, M10h, M10i .. -/
import Derived.Test.YtamplcfbkhlknaaGreatPl1
import Derived.Test.YtamplcfbkhlknaaGreatPl0
set_option linter.unusedVariables false
set_option linter.unusedSimpArgs false
namespace Go.Pf
open Go Go.Vm
def fnI (x : Int) : Nat → LI → Int
 | _,[] => -1
 | i,y :: l => if y = x then (i : Int) else fnI x (i + 1) l
def fnd (l : LI) (x : Int) : Int := fnI x 0 l
theorem qmR (x : Int) : ∀ (l : LI) (i : Nat),(fnI x i l = -1 ∧ x ∉ l) ∨ ∃ j : Nat,fnI x i l = ((i + j : Nat) : Int) ∧ j < l.length ∧ l.getD j 0 = x ∧ x ∉ l.take j
 | [],i => .inl ⟨rfl,by simp⟩
 | y :: l,i => by
  rw [fnI]
  by_cases c : y = x
  ·rw [if_pos c]
   exact .inr ⟨0,rfl,by simp,c,by simp⟩
  ·rw [if_neg c]
   rcases qmR x l (i + 1) with ⟨h1,h2⟩ | ⟨j,h1,h2,h3,h4⟩
   ·exact .inl ⟨h1,by simp [h2]; exact fun h => c h.symm⟩
   ·exact .inr ⟨j + 1,by rw [h1]; omega,by simp; omega,h3,by simp [h4]; exact fun h => c h.symm⟩
theorem qj7 (l : LI) (x : Int) : (fnd l x = -1 ∧ x ∉ l) ∨ ∃ j : Nat,fnd l x = (j : Int) ∧ j < l.length ∧ l.getD j 0 = x ∧ x ∉ l.take j := by
 have := qmR x l 0
 simp only [Nat.zero_add] at this
 exact this
theorem qhJ (l : LI) (x : Int) (hl : l.length ≤ 17592186043904) (k : Nat) (hk : l.length < k) : qaS.f k l x = some (fnd l x) := by
 have := iter0 (L := fun n i (_ : Unit) => qaS.l0 n l x l.length i) (st := fun _=>()) (fun i => if fnI x i (l.drop i) = -1 then .inl () else .inr (fnI x i (l.drop i))) (m := l.length) 0
  (fun n _ => by rw [qaS.l0,if_neg (by omega),List.drop_eq_nil_of_le (Nat.le_refl _)]; rfl)
  (fun i n hi _ ih => by
   rw [qaS.l0,if_pos (by omega),if_pos (by omega),Int.toNat_natCast,qae hi (0 : Int),fnI]
   by_cases c : l.getD i 0 = x
   ·rw [if_pos c.symm,if_pos c,if_neg (by omega)]
   ·rw [if_neg (fun h => c h.symm),if_neg c,qao hi (by omega),ih]) k (by omega)
 rw [List.drop_zero] at this
 unfold qaS.f fnd
 rw [this,obs]
 by_cases c : fnI x 0 l = -1
 ·rw [if_pos c,c]; rfl
 ·rw [if_neg c]; rfl
theorem qiS (l : LI) (x : Int) (hl : l.length ≤ 17592186043904) (k : Nat) (hk : l.length < k) : qcg.f k l x = some (decide (x ∈ l)) := by
 unfold qcg.f
 rw [qhJ l x hl k hk,obs]
 rcases qj7 l x with ⟨h1,h2⟩ | ⟨j,h1,h2,h3,h4⟩
 ·rw [h1,decide_eq_false h2]; rfl
 ·rw [h1,decide_eq_true (by omega),decide_eq_true (by rw [← h3]; exact qan h2 _)]
theorem qkS (s : ByteArray) (x : Int) (hs : s.size ≤ 17592186043904) (k : Nat) (hk : s.size < k) : qex.f k s x = some (fnd (rs s) x) := by
 have := qmt s
 unfold qex.f
 rw [qeO s hs k hk,obs,qhJ _ _ (by omega) k (by omega),obs]
theorem qh9 (s : ByteArray) (x : Int) (hs : s.size ≤ 17592186043904) (k : Nat) (hk : s.size < k) : qcq.f k s x = some (fnd (rs s) x) := by
 have hl := qmt s
 unfold qcq.f
 rw [qeg s hs k hk,obs]
 generalize rs s = l at hl ⊢
 have := iter0 (L := fun n i (_ : Unit) => qcq.l0 n x l.length i l) (st := fun _=>()) (fun i => if fnI x i (l.drop i) = -1 then .inl () else .inr (fnI x i (l.drop i))) (m := l.length) 0
  (fun n _ => by rw [qcq.l0,if_neg (by omega),List.drop_eq_nil_of_le (Nat.le_refl _)]; rfl)
  (fun i n hi _ ih => by
   rw [qcq.l0,if_pos (by omega),if_pos (by omega),if_pos (by omega),Int.toNat_natCast,qae hi (0 : Int),fnI]
   by_cases c : l.getD i 0 = x
   ·rw [if_pos c,if_pos c,if_neg (by omega)]
   ·rw [if_neg c,if_neg c,qao hi (by omega),ih]) k (by omega)
 rw [List.drop_zero] at this
 unfold fnd
 rw [this,obs]
 by_cases c : fnI x 0 l = -1
 ·rw [if_pos c,c]; rfl
 ·rw [if_neg c]; rfl
def nmay (x : Int) : Bool := decide (33 ≤ x ∧ x ≠ 46 ∧ x ≠ 45 ∧ x ≠ 40 ∧ x ≠ 41 ∧ x ≠ 65533)
def nR (l : LI) : Nat → Nat → Bool
 | 0,_ => true
 | e + 1,i => nmay (l.getD i 0) && !decide (l.getD i 0 ∈ l.take i) && nR l e (i + 1)
def zNR (l : LI) (n : Int) : Bool := decide ((l.length : Int) = n ∧ n ≤ 3) && nR l l.length 0
theorem qlJ (x : Int) : qfg.f x = some (nmay x) := by
 unfold qfg.f nmay
 by_cases c1 : x = 46
 ·rw [if_pos c1]; subst c1; rfl
 by_cases c2 : x = 45
 ·rw [if_neg c1,if_pos c2]; subst c2; rfl
 by_cases c3 : x = 40
 ·rw [if_neg c1,if_neg c2,if_pos c3]; subst c3; rfl
 by_cases c4 : x = 41
 ·rw [if_neg c1,if_neg c2,if_neg c3,if_pos c4]; subst c4; rfl
 by_cases c5 : x = 65533
 ·rw [if_neg c1,if_neg c2,if_neg c3,if_neg c4,if_pos c5]; subst c5; rfl
 rw [if_neg c1,if_neg c2,if_neg c3,if_neg c4,if_neg c5]
 congr 1
 simp [c1,c2,c3,c4,c5]
theorem qjV (s : ByteArray) (n : Int) (hs : s.size ≤ 17592186043904) (k : Nat) (hk : s.size < k) : qbJ.f k s n = some (zNR (rs s) n) := by
 have hl := qmt s
 unfold qbJ.f zNR
 rw [qeO s hs k hk,obs]
 generalize rs s = l at hl ⊢
 by_cases c1 : (l.length : Int) = n
 rotate_left
 ·rw [if_neg c1,decide_eq_false (fun h => c1 h.1)]; rfl
 by_cases c2 : 3 < n
 ·rw [if_pos c1,if_pos c2,decide_eq_false (by omega)]; rfl
 rw [if_pos c1,if_neg c2,decide_eq_true ⟨c1,by omega⟩,Bool.true_and]
 have := iter0 (L := fun n i (_ : Unit) => qbJ.l0 k n l.length i l) (st := fun _=>()) (fun i => if nR l (l.length - i) i = true then .inl () else .inr false) (m := l.length) 0
  (fun n _ => by rw [qbJ.l0,if_neg (by omega),Nat.sub_self]; rfl)
  (fun i n hi _ ih => by
   rw [qbJ.l0,if_pos (by omega),if_pos (by omega),if_pos (by omega),Int.toNat_natCast,qlJ,obs,show l.length - i = (l.length - (i + 1)) + 1 by omega,nR]
   cases c : nmay (l.getD i 0)
   ·rw [if_neg Bool.false_ne_true,Bool.false_and,Bool.false_and,if_neg Bool.false_ne_true]
   rw [if_pos rfl,Bool.true_and,if_pos (by omega),List.drop_zero,qiS _ _ (by rw [List.length_take]; omega) k (by rw [List.length_take]; omega),obs]
   cases c3 : decide (l.getD i 0 ∈ l.take i)
   ·rw [if_neg Bool.false_ne_true,qao hi (by omega),ih]; rfl
   ·rw [if_pos rfl]; rfl) k (by omega)
 rw [Nat.sub_zero] at this
 have this : qbJ.l0 k k l.length 0 l = _ := this
 rw [this,obs]
 cases nR l l.length 0 <;> rfl
theorem qkC (s : ByteArray) (n : Int) (hs : s.size ≤ 17592186043904) (k : Nat) (hk : s.size < k) : qb8.f k s n = some (zNR (rs s) n) := by
  have hl := qmt s
  unfold qb8.f zNR
  rw [qeg s hs k hk,obs]
  have hF := fun x => qh9 s x hs k hk
  generalize rs s = l at hl hF ⊢
  by_cases c0 : n < 0
  · rw [if_pos c0,decide_eq_false (by omega)]; rfl
  by_cases c2 : 3 < n
  · rw [if_neg c0,if_pos c2,decide_eq_false (by omega)]; rfl
  by_cases c1 : (l.length : Int) = n
  rotate_left
  · rw [if_neg c0,if_neg c2,if_neg c1,decide_eq_false (fun h => c1 h.1)]; rfl
  rw [if_neg c0,if_neg c2,if_pos c1,decide_eq_true ⟨c1,by omega⟩,Bool.true_and]
  have := iter0 (L := fun n i (_ : Unit) => qb8.l0 k n s l.length i l) (st := fun _=>()) (fun i => if nR l (l.length - i) i = true then .inl () else .inr false) (m := l.length) 0
    (fun n _ => by rw [qb8.l0,if_neg (by omega),Nat.sub_self]; rfl)
    (fun i n hi _ ih => by
      rw [qb8.l0,if_pos (by omega),if_pos (by omega),if_pos (by omega),Int.toNat_natCast,show l.length - i = (l.length - (i + 1)) + 1 by omega,nR,hF,obs]
      have bad : nmay (l.getD i 0) = false → (if (nmay (l.getD i 0) && !decide (l.getD i 0 ∈ l.take i) && nR l (l.length - (i + 1)) (i + 1)) = true then (Sum.inl () : Unit ⊕ Bool) else .inr false) = .inr false := fun h => by
        rw [h]; rfl
      by_cases d1 : l.getD i 0 < 33
      · rw [if_pos d1,bad (decide_eq_false (by omega))]
      by_cases d2 : l.getD i 0 = 65533
      · rw [if_neg d1,if_pos d2,bad (decide_eq_false (by omega))]
      by_cases d3 : l.getD i 0 = 46
      · rw [if_neg d1,if_neg d2,if_pos d3,bad (decide_eq_false (by omega))]
      by_cases d4 : l.getD i 0 = 45
      · rw [if_neg d1,if_neg d2,if_neg d3,if_pos d4,bad (decide_eq_false (by omega))]
      by_cases d5 : l.getD i 0 = 40
      · rw [if_neg d1,if_neg d2,if_neg d3,if_neg d4,if_pos d5,bad (decide_eq_false (by omega))]
      by_cases d6 : l.getD i 0 = 41
      · rw [if_neg d1,if_neg d2,if_neg d3,if_neg d4,if_neg d5,if_pos d6,bad (decide_eq_false (by omega))]
      rw [if_neg d1,if_neg d2,if_neg d3,if_neg d4,if_neg d5,if_neg d6,show nmay (l.getD i 0) = true from decide_eq_true (by omega),Bool.true_and]
      rcases qj7 l (l.getD i 0) with ⟨h1,h2⟩ | ⟨j,h1,h2,h3,h4⟩
      · exact absurd (qan hi _) h2
      by_cases c : l.getD i 0 ∈ l.take i
      · rw [decide_eq_true c,if_neg (fun h => by
          obtain rfl : j = i := by omega
          exact h4 c)]; rfl
      · have : i = j := by
          rcases Nat.lt_trichotomy i j with h | h | h
          · refine absurd ?_ h4
            have : (l.take j).getD i 0 = l.getD i 0 := by
              rw [List.getD_eq_getElem?_getD,List.getElem?_take,if_pos h,List.getD_eq_getElem?_getD]
            rw [← this]
            exact qan (by rw [List.length_take]; omega) _
          · exact h
          · refine absurd ?_ c
            have : (l.take i).getD j 0 = l.getD j 0 := by
              rw [List.getD_eq_getElem?_getD,List.getElem?_take,if_pos h,List.getD_eq_getElem?_getD]
            rw [← h3,← this]
            exact qan (by rw [List.length_take]; omega) _
        rw [decide_eq_false c,if_pos (by omega),qao hi (by omega),ih]; rfl) k (by omega)
  rw [Nat.sub_zero] at this
  have this : qb8.l0 k k s l.length 0 l = _ := this
  rw [this,obs]
  cases nR l l.length 0 <;> rfl
def zNl (nm : LI) : LI → LI → Option LI
 | [],y => some y
 | r :: l,y => if r = 32 then zNl nm l y else if r = 46 then zNl nm l (y ++ [-1]) else if fnd nm r < 0 ∨ fnd nm r ∈ y then none else zNl nm l (y ++ [fnd nm r])
def zNote (nm l : LI) (rank : Int) : Bool × Int × LI :=
 if 16 < l.length then (false,14,[]) else
 match zNl nm l [] with
 | none => (false,14,[])
 | some y => if y.length = 0 then (false,0,[]) else if (y.length : Int) = rank then (true,0,y) else (false,14,[])
theorem qgw (s : ByteArray) (hs : s.size ≤ 17592186043904) (l : LI) (hl : l.length ≤ 16) (rank : Int) (k : Nat) (hk : s.size + 100 < k) : ∀ (e i n : Nat) (y : LI),l.length = i + e → e < n → y.length ≤ i →
  qbW.l0 k n s rank l.length i y l = some (match zNl (rs s) (l.drop i) y with | some y => .inl y | none => .inr (false,14))
 | 0,i,n,y,hi,hn,_ => by
  obtain ⟨n,rfl⟩ : ∃ m,n = m + 1 := ⟨n - 1,by omega⟩
  rw [qbW.l0,if_neg (by omega),List.drop_eq_nil_of_le (by omega)]; rfl
 | e + 1,i,n,y,hi,hn,hy => by
  obtain ⟨n,rfl⟩ : ∃ m,n = m + 1 := ⟨n - 1,by omega⟩
  have ih := fun y hy => qgw s hs l hl rank k hk e (i + 1) n y (by omega) (by omega) hy
  rw [qbW.l0,if_pos (by omega),if_pos (by omega),if_pos (by omega),Int.toNat_natCast,qkS s _ hs k (by omega),obs,qao (show i < l.length by omega) (by omega),qae (show i < l.length by omega) (0 : Int),zNl]
  by_cases c1 : l.getD i 0 = 32
  ·rw [if_pos c1,if_pos c1,ih y (by omega)]
  by_cases c2 : l.getD i 0 = 46
  ·rw [if_neg c1,if_pos c2,if_neg c1,if_pos c2,if_pos (by simp; omega),ih _ (by simp; omega)]
  rw [if_neg c1,if_neg c2,if_neg c1,if_neg c2]
  by_cases c3 : fnd (rs s) (l.getD i 0) < 0
  ·rw [if_pos c3,if_pos (.inl c3)]
  rw [if_neg c3,qgZ _ _ (by omega) k (by omega),obs]
  by_cases c4 : fnd (rs s) (l.getD i 0) ∈ y
  ·rw [decide_eq_true c4,if_pos rfl,if_pos (show fnd (rs s) (l.getD i 0) < 0 ∨ fnd (rs s) (l.getD i 0) ∈ y from .inr c4)]
  ·rw [decide_eq_false c4,if_neg Bool.false_ne_true,if_neg (show ¬ (fnd (rs s) (l.getD i 0) < 0 ∨ fnd (rs s) (l.getD i 0) ∈ y) from fun h => h.elim c3 c4),if_pos (by simp; omega),ih _ (by simp; omega)]
theorem qkR (s t : ByteArray) (rank : Int) (hs : s.size ≤ 17592186043904) (ht : t.size ≤ 17592186043904) (k : Nat) (hk : s.size + 100 < k) (hk2 : t.size < k) : qbW.f k s t rank = some (zNote (rs s) (rs t) rank) := by
 unfold qbW.f zNote
 rw [qeO t ht k hk2,obs]
 by_cases c : 16 < (rs t).length
 ·rw [if_pos (by omega),if_pos c]
 ·have := qgw s hs (rs t) (by omega) rank k hk (rs t).length 0 k [] (by omega) (by omega) (Nat.le_refl _)
  rw [n0,List.drop_zero] at this
  rw [if_neg (by omega),if_neg c,this,obs]
  cases zNl (rs s) (rs t) [] with
  | none => rfl
  | some y =>
   dsimp only [Sum.elim_inl]
   by_cases c1 : y.length = 0
   ·rw [if_pos (by omega),if_pos c1]
   ·rw [if_neg (by omega),if_neg c1]
    split <;> rfl
theorem qkD (s : ByteArray) (rank x13 x21 x22 : Int) (y y1 : LI) (hy : y.length ≤ 1000) (n : Nat) (hn : 2000 ≤ n) :
  qbm.l1 n s rank x13 x21 x22 y.length 0 y y1 = some (if x13 ∈ y then .inr (false,14) else .inl ()) := by
 have := iter0 (L := fun n i (_ : Unit) => qbm.l1 n s rank x13 x21 x22 y.length i y y1) (st := fun _=>()) (fun i => if x13 ∈ y.drop i then .inr (false,14) else .inl ()) (m := y.length) 0
  (fun n _ => by rw [qbm.l1,if_neg (by omega),List.drop_eq_nil_of_le (Nat.le_refl _),if_neg (by simp)])
  (fun i n hi _ ih => by
   rw [qbm.l1,if_pos (by omega),if_pos (by omega),if_pos (by omega),Int.toNat_natCast,qae hi (0 : Int)]
   by_cases c : y.getD i 0 = x13
   ·rw [if_pos c,if_pos (by rw [c]; exact List.mem_cons_self ..)]
   ·rw [if_neg c,qao hi (by omega),ih]
    by_cases c2 : x13 ∈ y.drop (i + 1)
    ·rw [if_pos c2,if_pos (List.mem_cons_of_mem _ c2)]
    ·rw [if_neg c2,if_neg (fun h => by rcases List.mem_cons.1 h with h | h; exact c h.symm; exact c2 h)]) n (by omega)
 rw [List.drop_zero] at this
 exact this
theorem qhm (s : ByteArray) (hs : s.size ≤ 17592186043904) (l : LI) (hl : l.length ≤ 16) (rank : Int) (k : Nat) (hk : s.size + 100 < k) : ∀ (e i n : Nat) (y : LI),l.length = i + e → e + 2000 < n → y.length ≤ i →
  qbm.l0 k n s rank l.length i y l = some (match zNl (rs s) (l.drop i) y with | some y => .inl y | none => .inr (false,14))
 | 0,i,n,y,hi,hn,_ => by
  obtain ⟨n,rfl⟩ : ∃ m,n = m + 1 := ⟨n - 1,by omega⟩
  rw [qbm.l0,if_neg (by omega),List.drop_eq_nil_of_le (by omega)]; rfl
 | e + 1,i,n,y,hi,hn,hy => by
  obtain ⟨n,rfl⟩ : ∃ m,n = m + 1 := ⟨n - 1,by omega⟩
  have ih := fun y hy => qhm s hs l hl rank k hk e (i + 1) n y (by omega) (by omega) hy
  rw [qbm.l0,if_pos (by omega),if_pos (by omega),if_pos (by omega),Int.toNat_natCast,qh9 s _ hs k (by omega),obs,qao (show i < l.length by omega) (by omega),qae (show i < l.length by omega) (0 : Int),zNl]
  by_cases c1 : l.getD i 0 = 32
  ·rw [if_pos c1,if_pos c1,ih y (by omega)]
  by_cases c2 : l.getD i 0 = 46
  ·rw [if_neg c1,if_pos c2,if_neg c1,if_pos c2,if_pos (by simp; omega),ih _ (by simp; omega)]
  rw [if_neg c1,if_neg c2,if_neg c1,if_neg c2]
  by_cases c3 : fnd (rs s) (l.getD i 0) < 0
  ·rw [if_pos c3,if_pos (.inl c3)]
  rw [if_neg c3,qkD s rank _ _ _ y l (by omega) n (by omega),obs]
  by_cases c4 : fnd (rs s) (l.getD i 0) ∈ y
  ·rw [if_pos c4,if_pos (show fnd (rs s) (l.getD i 0) < 0 ∨ fnd (rs s) (l.getD i 0) ∈ y from .inr c4)]; rfl
  ·rw [if_neg c4,Sum.elim_inl,if_neg (show ¬ (fnd (rs s) (l.getD i 0) < 0 ∨ fnd (rs s) (l.getD i 0) ∈ y) from fun h => h.elim c3 c4),if_pos (by simp; omega),ih _ (by simp; omega)]
theorem qly (s t : ByteArray) (rank : Int) (hs : s.size ≤ 17592186043904) (ht : t.size ≤ 17592186043904) (k : Nat) (hk : s.size + 5000 < k) (hk2 : t.size < k) : qbm.f k s t rank = some (zNote (rs s) (rs t) rank) := by
 unfold qbm.f zNote
 rw [qeg t ht k hk2,obs]
 by_cases c : 16 < (rs t).length
 ·rw [if_pos (by omega),if_pos c]
 ·have := qhm s hs (rs t) (by omega) rank k (by omega) (rs t).length 0 k [] (by omega) (by omega) (Nat.le_refl _)
  rw [n0,List.drop_zero] at this
  rw [if_neg (by omega),if_neg c,this,obs]
  cases zNl (rs s) (rs t) [] with
  | none => rfl
  | some y =>
   dsimp only [Sum.elim_inl]
   by_cases c1 : y.length = 0
   ·rw [if_pos (by omega),if_pos c1]
   ·rw [if_neg (by omega),if_neg c1]
    split <;> rfl
end Go.Pf

namespace Go.Pf
open Go Go.Vm
abbrev Nd := Int × LI × LI × LI × Int × Int × ByteArray
abbrev nd0 : Nd := ln0
def zIn (out : List LI) : LI → Option (List LI)
 | [] => some []
 | x :: l => if x < 0 ∨ (out.length : Int) ≤ x then none else (zIn out l).map (out.getD x.toNat [] :: ·)
theorem qln {out : List LI} : ∀ {l : LI} {r : List LI},zIn out l = some r → r.length = l.length
 | [],r,h => by cases h; rfl
 | x :: l,r,h => by
  rw [zIn] at h
  split at h
  ·cases h
  ·cases e : zIn out l with
   | none => rw [e] at h; cases h
   | some q =>
    rw [e] at h
    cases h
    rw [List.length_cons,List.length_cons,qln e]
def zNd (nm : LI) (out : List LI) (x : Nd) : Int × LI :=
 match zIn out x.2.1 with
 | none => (23,[])
 | some l => if (zSh x.1 x.2.2.1 x.2.2.2.1 x.2.2.2.2.1 x.2.2.2.2.2.1 l).1 = 0 then
   ((zNote nm (rs x.2.2.2.2.2.2) (zSh x.1 x.2.2.1 x.2.2.2.1 x.2.2.2.2.1 x.2.2.2.2.2.1 l).2.length).2.1,(zSh x.1 x.2.2.1 x.2.2.2.1 x.2.2.2.2.1 x.2.2.2.2.2.1 l).2)
  else ((zSh x.1 x.2.2.1 x.2.2.2.1 x.2.2.2.2.1 x.2.2.2.2.2.1 l).1,[])
def zGo (nm : LI) : List Nd → List LI → Int × List LI
 | [],out => (0,out)
 | x :: r,out => if (zNd nm out x).1 = 0 then zGo nm r (out ++ [(zNd nm out x).2]) else ((zNd nm out x).1,[])
def zMs (s : LI) (nm : LI) : Bool := mR s && zNR nm s.length
def zShs (s : LI) (nm : ByteArray) (N : List Nd) (O : LI) : Int × List LI :=
 if zMs s (rs nm) = true then
  (if 48 < N.length then (3,[]) else if 48 < O.length then (3,[]) else
   if (zGo (rs nm) N []).1 = 0 then (if O.all (fun k => decide (0 ≤ k ∧ k < (N.length : Int))) = true then zGo (rs nm) N [] else (23,[])) else ((zGo (rs nm) N []).1,[]))
 else (15,[])
def okN (x : Nd) : Prop := x.2.1.length ≤ 400 ∧ x.2.2.2.1.length ≤ 100000 ∧ x.2.2.2.2.2.2.size ≤ 100000
theorem qfV (nm : LI) : ∀ (N : List Nd) (out : List LI),(zGo nm N out).1 = 0 → (zGo nm N out).2.length = out.length + N.length
 | [],out,_ => rfl
 | x :: r,out,h => by
  rw [zGo] at h ⊢
  by_cases c : (zNd nm out x).1 = 0
  ·rw [if_pos c] at h ⊢
   rw [qfV nm r _ h]; simp; omega
  ·rw [if_neg c] at h; exact absurd h c
theorem qgD (l : LI) (hl : l.length ≤ 3) (nm : ByteArray) (N : List Nd) (O : LI) : ∀ (d i : Nat) (p : Int) (n : Nat),l.length = i + d → 1 ≤ p → p ≤ 8 ^ i → d < n →
  qcj.l0 n p l l.length i l nm N O = some (if (l.drop i).all okD = true then .inl (p * pd (l.drop i)) else .inr false)
 | 0,i,p,n,hi,h1,h2,hn => by
  obtain ⟨n,rfl⟩ : ∃ m,n = m + 1 := ⟨n - 1,by omega⟩
  rw [qcj.l0,if_neg (by omega),List.drop_eq_nil_of_le (by omega)]
  simp [pd]
 | d + 1,i,p,n,hi,h1,h2,hn => by
  obtain ⟨n,rfl⟩ : ∃ m,n = m + 1 := ⟨n - 1,by omega⟩
  rw [qcj.l0,if_pos (by omega),if_pos (by omega),Int.toNat_natCast,qae (show i < l.length by omega) 0]
  generalize l.getD i 0 = x
  by_cases c1 : x < 1
  ·rw [if_pos c1]; simp [qf0]; omega
  by_cases c2 : 8 < x
  ·rw [if_neg c1,if_pos c2]; simp [qf0]; omega
  have hx : okD x = true := qf0.2 (by omega)
  have hm := qmC h1 h2 (show 1 ≤ x ∧ x ≤ 8 by omega)
  have h8 := p8 (show i + 1 ≤ 3 by omega)
  rw [if_neg c1,if_neg c2,qal (n := p * x) (by omega) (by omega),qal (n := (i : Int) + 1) (by omega) (by omega)]
  have := qgD l hl nm N O d (i + 1) (p * x) n (by omega) hm.1 hm.2 (by omega)
  rw [show (i : Int) + 1 = ((i + 1 : Nat) : Int) by omega,this]
  simp [hx,pd,Int.mul_assoc]
theorem qk0 (l : LI) (nm : ByteArray) (N : List Nd) (O : LI) (hn : nm.size ≤ 100000) (k : Nat) (hk : 200000 ≤ k) : qcj.f k l nm N O = some (zMs l (rs nm)) := by
 unfold qcj.f zMs
 by_cases h : 3 < (l.length : Int)
 ·rw [if_pos h]; simp [mR]; omega
 ·have := qgD l (by omega) nm N O l.length 0 1 k (by omega) (by omega) (by simp) (by omega)
  rw [if_neg h,show (0 : Int) = ((0 : Nat) : Int) from rfl,this,qjV nm _ (by omega) k (by omega)]
  have hl : l.length ≤ 3 := by omega
  by_cases ha : l.all okD = true
  ·simp only [List.drop_zero,ha,if_true,obs,Sum.elim_inl,Int.one_mul]
   by_cases c : pd l ≤ 8
   ·simp [mR,hl,ha,c]
   ·simp [mR,c]
  ·simp [ha,mR]
theorem qgr (l : LI) (nm : ByteArray) (N : List Nd) (O : LI) : ∀ (d i : Nat) (p : Int) (n : Nat),l.length = i + d → i ≤ 3 → 1 ≤ p → p ≤ 8 ^ i → 4 < n + i →
  qch.l0 n p l.length i l nm N O = some (if l.length ≤ 3 ∧ (l.drop i).all okD = true then .inl (p * pd (l.drop i)) else .inr false)
 | 0,i,p,n,hi,hi3,h1,h2,hn => by
  obtain ⟨n,rfl⟩ : ∃ m,n = m + 1 := ⟨n - 1,by omega⟩
  rw [qch.l0,if_neg (by omega),List.drop_eq_nil_of_le (by omega),if_pos ⟨by omega,by simp⟩]
  simp [pd]
 | d + 1,i,p,n,hi,hi3,h1,h2,hn => by
  obtain ⟨n,rfl⟩ : ∃ m,n = m + 1 := ⟨n - 1,by omega⟩
  rw [qch.l0,if_pos (by omega),if_pos (by omega),Int.toNat_natCast,qae (show i < l.length by omega) 0]
  generalize l.getD i 0 = x
  by_cases c1 : x < 1
  ·rw [if_pos c1,if_neg (by simp [qf0]; omega)]
  by_cases c2 : 8 < x
  ·rw [if_neg c1,if_pos c2,if_neg (by simp [qf0]; omega)]
  by_cases c0 : 3 ≤ (i : Int)
  ·rw [if_neg c1,if_neg c2,if_pos c0,if_neg (by omega)]
  have hx : okD x = true := qf0.2 (by omega)
  have hm := qmC h1 h2 (show 1 ≤ x ∧ x ≤ 8 by omega)
  have h8 := p8 (show i + 1 ≤ 3 by omega)
  rw [if_neg c1,if_neg c2,if_neg c0,qal (n := p * x) (by omega) (by omega),qal (n := (i : Int) + 1) (by omega) (by omega)]
  have := qgr l nm N O d (i + 1) (p * x) n (by omega) (by omega) hm.1 hm.2 (by omega)
  rw [show (i : Int) + 1 = ((i + 1 : Nat) : Int) by omega,this]
  simp [hx,pd,Int.mul_assoc]
theorem qkF (l : LI) (nm : ByteArray) (N : List Nd) (O : LI) (hn : nm.size ≤ 100000) (k : Nat) (hk : 200000 ≤ k) : qch.f k l nm N O = some (zMs l (rs nm)) := by
 unfold qch.f zMs
 have := qgr l nm N O l.length 0 1 k (by omega) (by omega) (by omega) (by simp) (by omega)
 rw [show ((0 : Nat) : Int) = 0 from rfl] at this
 rw [this,qkC nm _ (by omega) k (by omega)]
 by_cases ha : l.length ≤ 3 ∧ l.all okD = true
 ·simp only [List.drop_zero,ha,if_true,obs,Sum.elim_inl,Int.one_mul,and_self]
  by_cases c : pd l ≤ 8
  ·simp [mR,ha.1,ha.2,c]
  ·simp [mR,c]
 ·rw [List.drop_zero,if_neg ha]
  have : mR l = false := by
   cases h : mR l with
   | false => rfl
   | true => exact absurd ⟨(qis h).1,(qis h).2.1⟩ ha
  simp [this]
theorem qj4 (out : List LI) (l : LI) (hl : l.length ≤ 400) (g1 : LI) (g2 : ByteArray) (g3 : List Nd) (g4 : LI) (x1 : Int) (x2 x3 x4 : LI) (x5 x6 : Int) (x7 : ByteArray) (n : Nat) (hn : 401 ≤ n) :
  qcc.l0 n out l l.length 0 g1 g2 g3 g4 x1 x2 x3 x4 x5 x6 x7 [] = some (match zIn out l with | some r => .inl r | none => .inr 23) := by
 have : ∀ (e i n : Nat) (y : List LI),l.length = i + e → e < n → y.length ≤ i → qcc.l0 n out l l.length i g1 g2 g3 g4 x1 x2 x3 x4 x5 x6 x7 y = some (match zIn out (l.drop i) with | some r => .inl (y ++ r) | none => .inr 23) := by
  intro e
  induction e with
  | zero =>
   intro i n y hi hn hy
   obtain ⟨n,rfl⟩ : ∃ m,n = m + 1 := ⟨n - 1,by omega⟩
   rw [qcc.l0,if_neg (by omega),List.drop_eq_nil_of_le (by omega),zIn]
   simp
  | succ e ih =>
   intro i n y hi hn hy
   obtain ⟨n,rfl⟩ : ∃ m,n = m + 1 := ⟨n - 1,by omega⟩
   rw [qcc.l0,if_pos (by omega),if_pos (by omega),Int.toNat_natCast,qae (show i < l.length by omega) 0,zIn]
   by_cases c1 : l.getD i 0 < 0
   ·rw [if_pos c1,if_pos (.inl c1)]
   by_cases c2 : (out.length : Int) ≤ l.getD i 0
   ·rw [if_neg c1,if_pos c2,if_pos (.inr c2)]
   rw [if_neg c1,if_neg c2,if_neg (show ¬ (l.getD i 0 < 0 ∨ (out.length : Int) ≤ l.getD i 0) by omega),if_pos (by omega),if_pos (by rw [List.length_singleton]; omega),qao (show i < l.length by omega) (by omega),ih (i + 1) n _ (by omega) (by omega) (by simp; omega)]
   cases zIn out (l.drop (i + 1)) with
   | none => rfl
   | some r => simp
 have := this l.length 0 n [] (by omega) (by omega) (Nat.le_refl _)
 rw [n0,List.drop_zero] at this
 rw [this]
 cases zIn out l <;> simp
theorem qkZ (s : LI) (nm : ByteArray) (N : List Nd) (O : LI) (x : Nd) (out : List LI) (hn : nm.size ≤ 100000) (hx : okN x) (k : Nat) (hk : 200000 ≤ k) :
  qcc.f k s nm N O x.1 x.2.1 x.2.2.1 x.2.2.2.1 x.2.2.2.2.1 x.2.2.2.2.2.1 x.2.2.2.2.2.2 out = some (zNd (rs nm) out x) := by
 obtain ⟨h1,h2,h3⟩ := hx
 unfold qcc.f zNd
 rw [qj4 out x.2.1 h1 s nm N O _ _ _ _ _ _ _ k (by omega),obs]
 cases e : zIn out x.2.1 with
 | none => rfl
 | some l =>
  have hl := qln e
  dsimp only [Sum.elim_inl]
  rw [qgE _ _ _ _ _ _ _ l (by omega) (by omega) k (by omega),obs]
  split
  ·rename_i c
   rw [qkR _ _ _ (by omega) (by omega) k (by omega) (by omega),obs]
  ·rfl
theorem qfi (s : LI) (nm : ByteArray) (N : List Nd) (O : LI) (hn : nm.size ≤ 100000) (hN : ∀ x ∈ N,okN x) (h48 : N.length ≤ 48) (k : Nat) (hk : 200000 ≤ k) : ∀ (e i n : Nat) (out : List LI),N.length = i + e → e < n → out.length = i →
  qbF.l0 k n N N.length i s nm N O out = some (if (zGo (rs nm) (N.drop i) out).1 = 0 then .inl (zGo (rs nm) (N.drop i) out).2 else .inr (zGo (rs nm) (N.drop i) out).1)
 | 0,i,n,out,hi,hn',ho => by
  obtain ⟨n,rfl⟩ : ∃ m,n = m + 1 := ⟨n - 1,by omega⟩
  rw [qbF.l0,if_neg (by omega),List.drop_eq_nil_of_le (by omega),zGo,if_pos rfl]
 | e + 1,i,n,out,hi,hn',ho => by
  obtain ⟨n,rfl⟩ : ∃ m,n = m + 1 := ⟨n - 1,by omega⟩
  have hx := hN _ (qan (show i < N.length by omega) nd0)
  rw [qbF.l0,if_pos (by omega),if_pos (by omega),Int.toNat_natCast,qkZ s nm N O (N.getD i nd0) out hn hx k hk,obs,qae (show i < N.length by omega) nd0,zGo]
  by_cases c : (zNd (rs nm) out (N.getD i nd0)).1 = 0
  ·rw [if_pos c,if_pos c,if_pos (by rw [List.length_singleton]; omega),qao (show i < N.length by omega) (by omega),qfi s nm N O hn hN h48 k hk e (i + 1) n _ (by omega) (by omega) (by simp; omega)]
  ·rw [if_neg c,if_neg c,if_neg c]
theorem qhQ (O : LI) (hO : O.length ≤ 48) (out : List LI) (k : Nat) (hk : 100 ≤ k) : qaQ.f k O out = some (!O.all (fun x => decide (0 ≤ x ∧ x < (out.length : Int)))) := by
  have := iter0 (L := fun n i (_ : Unit) => qam.l0 n O O.length i out) (st := fun _=>()) (fun i => if (O.drop i).all (fun x => decide (0 ≤ x ∧ x < (out.length : Int))) = true then .inl () else .inr ((i + ((O.drop i).takeWhile (fun x => decide (0 ≤ x ∧ x < (out.length : Int)))).length : Nat) : Int)) (m := O.length) 0
    (fun n _ => by rw [qam.l0,if_neg (by omega),List.drop_eq_nil_of_le (Nat.le_refl _)]; rfl)
    (fun i n hi _ ih => by
      have e1 : qdc.f (O.getD i 0) out = some (!decide (0 ≤ O.getD i 0 ∧ O.getD i 0 < (out.length : Int))) := by
        unfold qdc.f
        by_cases c : O.getD i 0 < 0
        · rw [if_pos c,decide_eq_false (by omega)]; rfl
        · rw [if_neg c]
          by_cases c2 : (out.length : Int) ≤ O.getD i 0
          · rw [decide_eq_true c2,decide_eq_false (by omega)]; rfl
          · rw [decide_eq_false c2,decide_eq_true (by omega)]; rfl
      rw [qam.l0,if_pos (by omega),if_pos (by omega),Int.toNat_natCast,e1,obs,qae hi (0 : Int),List.all_cons,List.takeWhile_cons]
      cases c : decide (0 ≤ O.getD i 0 ∧ O.getD i 0 < (out.length : Int))
      · rw [if_pos (show (!false) = true from rfl),Bool.false_and,if_neg Bool.false_ne_true,if_neg Bool.false_ne_true]; rfl
      · rw [if_neg (show ¬ (!true) = true from Bool.false_ne_true),qao hi (by omega),ih,Bool.true_and,if_pos rfl,List.length_cons,Nat.add_assoc i 1,Nat.add_comm 1]) k (by omega)
  rw [List.drop_zero] at this
  unfold qaQ.f qam.f
  rw [this,obs]
  cases c : O.all (fun x => decide (0 ≤ x ∧ x < (out.length : Int)))
  · rw [if_neg (by decide),Sum.elim_inr,obs,decide_eq_true (by omega)]; rfl
  · rw [if_pos rfl,Sum.elim_inl,obs]; rfl
theorem qi0 (s : LI) (nm : ByteArray) (N : List Nd) (O : LI) (hn : nm.size ≤ 100000) (hN : ∀ x ∈ N,okN x) (k : Nat) (hk : 200000 ≤ k) : qbF.f k s nm N O = some (zShs s nm N O) := by
 unfold qbF.f zShs
 rw [qk0 s nm N O hn k hk,obs]
 by_cases c1 : zMs s (rs nm) = true
 rotate_left
 ·rw [if_neg c1,if_neg c1]
 rw [if_pos c1,if_pos c1]
 by_cases c2 : 48 < N.length
 ·rw [if_pos (by omega),if_pos c2]
 by_cases c3 : 48 < O.length
 ·rw [if_neg (by omega),if_pos (by omega),if_neg c2,if_pos c3]
 have h0 := qfi s nm N O hn hN (by omega) k hk N.length 0 k [] (by omega) (by omega) rfl
 rw [n0,List.drop_zero] at h0
 rw [if_neg (by omega),if_neg (by omega),if_neg c2,if_neg c3,h0,obs]
 by_cases c4 : (zGo (rs nm) N []).1 = 0
 ·have hlen := qfV _ N [] c4
  rw [List.length_nil,Nat.zero_add] at hlen
  rw [if_pos c4,if_pos c4,Sum.elim_inl,qhQ O (by omega) _ k (by omega),obs,hlen]
  cases c5 : O.all (fun x => decide (0 ≤ x ∧ x < (N.length : Int)))
  ·rfl
  ·rw [if_neg (show ¬ (!true) = true from Bool.false_ne_true),if_pos rfl,← c4]
 ·rw [if_neg c4,if_neg c4]; rfl
end Go.Pf

namespace Go.Pf
open Go Go.Vm
theorem zSh_R {op : Int} {s a : LI} {n h : Int} {l : List LI} (e : (zSh op s a n h l).1 = 0) : mSR (zSh op s a n h l).2 = true := by
 unfold zSh at e ⊢
 by_cases hF : zF op s.length a.length n h l.length = true
 rotate_left
 ·rw [if_neg hF] at e; simp at e
 rw [if_pos hF] at e ⊢
 by_cases hA : l.all mSR = true
 rotate_left
 ·rw [if_neg hA] at e; simp at e
 rw [if_pos hA] at e ⊢
 have hR : ∀ j,j < l.length → mSR (l.getD j []) = true := fun j hj => List.all_eq_true.1 hA _ (qan hj _)
 have m0 := qi9 hF
 have t : ∀ {p : Prop} [Decidable p] {x y : Int × LI},(p → x.1 = 0 → mSR x.2 = true) → (¬ p → y.1 = 0 → mSR y.2 = true) → (if p then x else y).1 = 0 → mSR (if p then x else y).2 = true := fun hx hy => by
  split
  ·rename_i h; exact hx h
  ·rename_i h; exact hy h
 have w : ∀ {x : Int} {p : Prop},x ≠ 0 → p → ((x,[]) : Int × LI).1 = 0 → mSR ((x,[]) : Int × LI).2 = true := fun h _ hh => absurd hh h
 have z : ∀ {x : LI} {p : Prop},(p → mSR x = true) → p → ((0,x) : Int × LI).1 = 0 → mSR ((0,x) : Int × LI).2 = true := fun h hp _ => h hp
 revert e
 unfold zShape
 refine t (fun _=>t (z id) (w (by decide))) fun _=>t (fun _=>t (fun hs => t (z fun _=>hs) (w (by decide))) (w (by decide))) fun _=>t (fun ho => t (z fun h => qil (hR 0 (by omega)) (qey.1 h)) (w (by decide))) fun _=>t (fun _=>t (fun hs => t (z fun _=>hs) (w (by decide))) (w (by decide))) fun _ =>
  t (fun ho => t (z fun h => qkm (hR 0 (by omega)) h.2) (w (by decide))) fun _=>t (fun _=>t (fun _=>t (z id) (w (by decide))) (w (by decide))) fun _=>t (fun _=>t (fun _ e => qpM e) (w (by decide))) fun _=>t (fun _=>t (fun _=>t (fun _=>t (z id) (w (by decide))) (w (by decide))) (w (by decide))) fun _ =>
  t (fun _=>t (fun _ e => by have := qkp e; rw [this.1]; exact this.2.1) (w (by decide))) fun _=>t (fun ho => t (z fun h => qoC (hR 0 (by omega)) (by omega) _ _) (w (by decide))) fun _=>t (z fun _=>hR 0 (by omega)) (w (by decide))
theorem qlO (S : List LI) (s : LI) (hS : S.length ≤ 100) (hb : ∀ x ∈ S,x.length ≤ 4) (k : Nat) (hk : 5000 ≤ k) : ∃ l,qbT.f k S s = some l ∧ l.length ≤ 100 ∧ (∀ x ∈ l,0 ≤ x ∧ x < (S.length : Int)) ∧ (s ∈ S → 0 < l.length) := by
  have : ∀ (e i n : Nat) (y : LI),S.length = i + e → e < n → y.length ≤ i → (∀ x ∈ y,0 ≤ x ∧ x < (S.length : Int)) → ∃ l,qbT.l0 k n S s S.length i y = some l ∧ l.length ≤ S.length ∧ (∀ x ∈ l,0 ≤ x ∧ x < (S.length : Int)) ∧ (s ∈ S.drop i ∨ 0 < y.length → 0 < l.length) := by
    intro e
    induction e with
    | zero =>
      intro i n y hi hn hy hx
      obtain ⟨n,rfl⟩ : ∃ m,n = m + 1 := ⟨n - 1,by omega⟩
      rw [qbT.l0,if_neg (by omega),List.drop_eq_nil_of_le (by omega)]
      exact ⟨y,rfl,by omega,hx,fun h => by
        rcases h with h | h
        · cases h
        · exact h⟩
    | succ e ih =>
      intro i n y hi hn hy hx
      obtain ⟨n,rfl⟩ : ∃ m,n = m + 1 := ⟨n - 1,by omega⟩
      have h4 := hb _ (qan (show i < S.length by omega) [])
      rw [qbT.l0,if_pos (by omega),if_pos (by omega),Int.toNat_natCast,qeM _ _ (by omega) k (by omega),obs,qao (show i < S.length by omega) (by omega),qae (show i < S.length by omega) ([] : LI)]
      by_cases c : S.getD i [] = s
      · rw [decide_eq_true c,if_pos rfl,if_pos (by rw [List.length_singleton]; omega)]
        obtain ⟨l,e1,e2,e3,e4⟩ := ih (i + 1) n (y ++ [(i : Int)]) (by omega) (by omega) (by simp; omega) (fun x h => by
          rcases List.mem_append.1 h with h | h
          · exact hx x h
          · rw [List.mem_singleton] at h; omega)
        exact ⟨l,e1,e2,e3,fun _=>e4 (.inr (by simp))⟩
      · rw [decide_eq_false c,if_neg Bool.false_ne_true]
        obtain ⟨l,e1,e2,e3,e4⟩ := ih (i + 1) n y (by omega) (by omega) (by omega) hx
        exact ⟨l,e1,e2,e3,fun h => e4 (by
          rcases h with h | h
          · rcases List.mem_cons.1 h with h | h
            · exact absurd h.symm c
            · exact .inl h
          · exact .inr h)⟩
  obtain ⟨l,e1,e2,e3,e4⟩ := this S.length 0 k [] (by omega) (by omega) (Nat.le_refl _) (fun x h => by cases h)
  rw [n0] at e1
  refine ⟨l,?_,by omega,e3,fun h => e4 (.inl (by rw [List.drop_zero]; exact h))⟩
  unfold qbT.f
  rw [e1,obs]
structure Tp (L : LI) : Prop where
 len : L.length ≤ 17592186044415
 wf : ∀ x ∈ L,-9223372036854775808 ≤ x ∧ x < 9223372036854775808
theorem Tp.next {L : LI} (T : Tp L) (n : Int) (hn : 1 ≤ n) (p : Int) (h0 : 0 ≤ p) (hp : p ≤ 17592186000000) : ∃ r q,qac.f n L p = some (r,q) ∧ 0 ≤ r ∧ r < n ∧ 0 ≤ q ∧ q ≤ p + 1 := by
 obtain ⟨r,q,e,r0,r1,q0,_,_,q1⟩ := qdC n L T.len T.wf p h0 (by omega) hn
 exact ⟨r,q,e,r0,r1,q0,q1⟩
theorem qn7 {L : LI} (T : Tp L) (x7 : Int) (m : Nat) (hm : m ≤ 4) (z1 z2 z3 : Int) (z4 : ByteArray) (M : Int) (hM : M ≤ 17592185000000) : ∀ (e i : Nat) (p : Int) (y : LI) (n : Nat),m = i + e → e < n → 0 ≤ p → p ≤ M - e → y.length = i →
  ∃ q l,qag.l0 n x7 m i L p z1 z2 z3 z4 y = some (q,l) ∧ l.length = m ∧ 0 ≤ q ∧ q ≤ p + e
 | 0,i,p,y,n,hi,hn,h0,hp,hy => by
  obtain ⟨n,rfl⟩ : ∃ q,n = q + 1 := ⟨n - 1,by omega⟩
  rw [qag.l0,if_neg (by omega)]
  exact ⟨p,y,rfl,by omega,h0,by omega⟩
 | e + 1,i,p,y,n,hi,hn,h0,hp,hy => by
  obtain ⟨n,rfl⟩ : ∃ q,n = q + 1 := ⟨n - 1,by omega⟩
  obtain ⟨r,q,e1,r0,r1,q0,q1⟩ := T.next ((i : Int) + 1) (by omega) p h0 (by omega)
  have ht : (y.take r.toNat).length = r.toNat := by rw [List.length_take]; omega
  have hd : (y.drop r.toNat).length = y.length - r.toNat := List.length_drop ..
  rw [qag.l0,if_pos (by omega),qao (show i < m by omega) (by omega),show ((i + 1 : Nat) : Int) = (i : Int) + 1 by omega,e1,obs]
  dsimp only
  rw [List.drop_zero,List.take_length,List.nil_append,if_pos (by omega),if_pos (by omega),if_pos (by rw [List.length_singleton]; omega),if_pos (by omega),if_pos (by rw [List.length_append,List.length_singleton]; omega)]
  obtain ⟨q',l,g1,g2,g3,g4⟩ := qn7 T x7 m hm z1 z2 z3 z4 M hM e (i + 1) q ((y.take r.toNat ++ [(i : Int)]) ++ y.drop r.toNat) n (by omega) (by omega) q0 (by omega) (by rw [List.length_append,List.length_append,List.length_singleton]; omega)
  exact ⟨q',l,g1,g2,g3,by omega⟩
theorem qlH (x7 x14 : Int) (m : Nat) (hm : m ≤ 10) (L : LI) (p z1 z2 z3 : Int) (z4 : ByteArray) (o : LI) : ∀ (e i : Nat) (y : LI) (n : Nat),m = i + e → e < n → y.length ≤ i →
  ∃ l,qag.l1 n x7 x14 m i L p z1 z2 z3 z4 o y = some l ∧ l.length ≤ m
 | 0,i,y,n,hi,hn,hy => by
  obtain ⟨n,rfl⟩ : ∃ q,n = q + 1 := ⟨n - 1,by omega⟩
  rw [qag.l1,if_neg (by omega)]
  exact ⟨y,rfl,by omega⟩
 | e + 1,i,y,n,hi,hn,hy => by
  obtain ⟨n,rfl⟩ : ∃ q,n = q + 1 := ⟨n - 1,by omega⟩
  rw [qag.l1,if_pos (by omega),qao (show i < m by omega) (by omega)]
  by_cases c : (i : Int) = x14
  ·rw [if_pos c]
   exact qlH x7 x14 m hm L p z1 z2 z3 z4 o e (i + 1) y n (by omega) (by omega) (by omega)
  ·rw [if_neg c,if_pos (by rw [List.length_singleton]; omega)]
   exact qlH x7 x14 m hm L p z1 z2 z3 z4 o e (i + 1) _ n (by omega) (by omega) (by rw [List.length_append,List.length_singleton]; omega)
theorem qn6 {L : LI} (T : Tp L) (x7 : Int) (s : LI) (hs : s.length ≤ 4) (hb : ∀ x ∈ s,0 ≤ x ∧ x ≤ 32) (z1 z2 z3 : Int) (z4 : ByteArray) (M : Int) (hM : M ≤ 17592185000000) : ∀ (e i : Nat) (p : Int) (y z : LI) (n : Nat),s.length = i + e → e < n → 0 ≤ p → p ≤ M - 2 * e → y.length = i → z.length = i →
  ∃ q l r,qag.l2 n x7 s s.length i L p z1 z2 z3 z4 y z = some (q,l,r) ∧ l.length = s.length ∧ r.length = s.length ∧ 0 ≤ q ∧ q ≤ p + 2 * e
 | 0,i,p,y,z,n,hi,hn,h0,hp,hy,hz => by
  obtain ⟨n,rfl⟩ : ∃ q,n = q + 1 := ⟨n - 1,by omega⟩
  rw [qag.l2,if_neg (by omega)]
  exact ⟨p,y,z,rfl,by omega,by omega,h0,by omega⟩
 | e + 1,i,p,y,z,n,hi,hn,h0,hp,hy,hz => by
  obtain ⟨n,rfl⟩ : ∃ q,n = q + 1 := ⟨n - 1,by omega⟩
  have hx := hb _ (qan (show i < s.length by omega) 0)
  rw [qag.l2,if_pos (by omega),if_pos (by omega),Int.toNat_natCast,qao (show i < s.length by omega) (by omega)]
  generalize s.getD i 0 = x at hx
  obtain ⟨r,q,e1,r0,r1,q0,q1⟩ := T.next (x + 1) (by omega) p h0 (by omega)
  obtain ⟨r',q',e2,r0',r1',q0',q1'⟩ := T.next (x - r + 1) (by omega) q q0 (by omega)
  rw [qal (n := x + 1) (by omega) (by omega),e1,obs,if_pos (by rw [List.length_singleton]; omega)]
  dsimp only
  rw [qal (n := x - r) (by omega) (by omega),qal (n := x - r + 1) (by omega) (by omega),e2,obs,if_pos (by rw [List.length_singleton]; omega)]
  obtain ⟨q'',l,l',g1,g2,g3,g4,g5⟩ := qn6 T x7 s hs hb z1 z2 z3 z4 M hM e (i + 1) q' (y ++ [r]) (z ++ [r']) n (by omega) (by omega) q0' (by omega) (by simp; omega) (by simp; omega)
  exact ⟨q'',l,l',g1,g2,g3,g4,by omega⟩
theorem qn5 {L : LI} (T : Tp L) (x7 : Int) (m : Nat) (hm : m ≤ 4) (z1 z2 z3 : Int) (z4 : ByteArray) (M : Int) (hM : M ≤ 17592185000000) : ∀ (e i : Nat) (p : Int) (y z : LI) (n : Nat),m = i + e → e < n → 0 ≤ p → p ≤ M - 2 * e → y.length = i → z.length = i →
  ∃ q l r,qag.l3 n x7 m i L p z1 z2 z3 z4 y z = some (q,l,r) ∧ l.length = m ∧ r.length = m ∧ 0 ≤ q ∧ q ≤ p + 2 * e
 | 0,i,p,y,z,n,hi,hn,h0,hp,hy,hz => by
  obtain ⟨n,rfl⟩ : ∃ q,n = q + 1 := ⟨n - 1,by omega⟩
  rw [qag.l3,if_neg (by omega)]
  exact ⟨p,y,z,rfl,by omega,by omega,h0,by omega⟩
 | e + 1,i,p,y,z,n,hi,hn,h0,hp,hy,hz => by
  obtain ⟨n,rfl⟩ : ∃ q,n = q + 1 := ⟨n - 1,by omega⟩
  obtain ⟨r,q,e1,r0,r1,q0,q1⟩ := T.next 3 (by omega) p h0 (by omega)
  obtain ⟨r',q',e2,r0',r1',q0',q1'⟩ := T.next 3 (by omega) q q0 (by omega)
  rw [qag.l3,if_pos (by omega),qao (show i < m by omega) (by omega),e1,obs,if_pos (by rw [List.length_singleton]; omega)]
  dsimp only
  rw [e2,obs,if_pos (by rw [List.length_singleton]; omega)]
  obtain ⟨q'',l,l',g1,g2,g3,g4,g5⟩ := qn5 T x7 m hm z1 z2 z3 z4 M hM e (i + 1) q' (y ++ [r]) (z ++ [r']) n (by omega) (by omega) q0' (by omega) (by simp; omega) (by simp; omega)
  exact ⟨q'',l,l',g1,g2,g3,g4,by omega⟩
theorem qlG {L : LI} (T : Tp L) (x7 : Int) (m : Nat) (hm : m ≤ 4) (z1 z2 z3 : Int) (z4 : ByteArray) (M : Int) (hM : M ≤ 17592185000000) : ∀ (e i : Nat) (p : Int) (y : LI) (n : Nat),m = i + e → e < n → 0 ≤ p → p ≤ M - e → y.length ≤ i →
  ∃ q l,qag.l4 n x7 m i L p z1 z2 z3 z4 y = some (q,l) ∧ l.length ≤ m ∧ 0 ≤ q ∧ q ≤ p + e
 | 0,i,p,y,n,hi,hn,h0,hp,hy => by
  obtain ⟨n,rfl⟩ : ∃ q,n = q + 1 := ⟨n - 1,by omega⟩
  rw [qag.l4,if_neg (by omega)]
  exact ⟨p,y,rfl,by omega,h0,by omega⟩
 | e + 1,i,p,y,n,hi,hn,h0,hp,hy => by
  obtain ⟨n,rfl⟩ : ∃ q,n = q + 1 := ⟨n - 1,by omega⟩
  obtain ⟨r,q,e1,r0,r1,q0,q1⟩ := T.next 2 (by omega) p h0 (by omega)
  rw [qag.l4,if_pos (by omega),qao (show i < m by omega) (by omega),e1,obs]
  dsimp only
  by_cases c : r = 0
  ·rw [if_pos c,if_pos (by rw [List.length_singleton]; omega)]
   obtain ⟨q',l,g1,g2,g3,g4⟩ := qlG T x7 m hm z1 z2 z3 z4 M hM e (i + 1) q (y ++ [(i : Int)]) n (by omega) (by omega) q0 (by omega) (by simp; omega)
   exact ⟨q',l,g1,g2,g3,by omega⟩
  ·rw [if_neg c]
   obtain ⟨q',l,g1,g2,g3,g4⟩ := qlG T x7 m hm z1 z2 z3 z4 M hM e (i + 1) q y n (by omega) (by omega) q0 (by omega) (by omega)
   exact ⟨q',l,g1,g2,g3,by omega⟩
theorem qoD {L : LI} (T : Tp L) (S : List LI) (hS : S.length ≤ 100) (a : Int) (ha0 : 0 ≤ a) (ha : a < (S.length : Int)) (p : Int) (h0 : 0 ≤ p) (hp : p ≤ 17592184000000) (k : Nat) (hk : 50000 ≤ k) :
  ∃ op n h q i A,qaJ.f k S a L p = some (op,n,h,ByteArray.empty,q,i,A) ∧ 0 ≤ q ∧ q ≤ p + 100 ∧ i.length ≤ 3 ∧ A.length ≤ 100 ∧ (∀ x ∈ i,0 ≤ x ∧ x < (S.length : Int)) := by
 have l1 : ∀ (x8 x9 : Int) (_ : 0 ≤ x9 ∧ x9 < (S.length : Int)) (y0 : LI) (y1 z1 z2 z3 : Int) (z4 : ByteArray) (s : LI) (n : Nat) (hn : 3 ≤ n),∃ u,qaJ.l1 k n S a s x8 x9 0 y0 y1 z1 z2 z3 z4 = some u ∧ (u = .inl () ∨ ∃ A : LI,u = .inr (19,0,0,ByteArray.empty,[a,x9],A) ∧ A.length ≤ 1) := by
  intro x8 x9 h9 y0 y1 z1 z2 z3 z4 s n hn
  have step : ∀ (e : Nat) (i : Int) (n : Nat),i + e = 2 → e < n → 0 ≤ i → ∃ u,qaJ.l1 k n S a s x8 x9 i y0 y1 z1 z2 z3 z4 = some u ∧ (u = .inl () ∨ ∃ A : LI,u = .inr (19,0,0,ByteArray.empty,[a,x9],A) ∧ A.length ≤ 1) := by
   intro e
   induction e with
   | zero =>
    intro i n hi hn h0
    obtain ⟨n,rfl⟩ : ∃ q,n = q + 1 := ⟨n - 1,by omega⟩
    rw [qaJ.l1,if_neg (by omega)]
    exact ⟨_,rfl,.inl rfl⟩
   | succ e ih =>
    intro i n hi hn h0
    obtain ⟨n,rfl⟩ : ∃ q,n = q + 1 := ⟨n - 1,by omega⟩
    rw [qaJ.l1,if_pos (by omega),if_pos (by omega),qdO _ _ _ _ _ _ _ _ (by simp) (by simp) k (by simp; omega),obs,qal (n := i + 1) (by omega) (by omega)]
    have nx := ih (i + 1) n (by omega) (by omega) (by omega)
    split
    ·rename_i c
     rw [qdr _ k (by omega),obs]
     split
     ·exact ⟨_,rfl,.inr ⟨_,rfl,by simp⟩⟩
     ·exact nx
    ·exact nx
  exact step 2 0 n (by omega) (by omega) (by omega)
 have l0 : ∀ (s : LI) (z1 z2 z3 : Int) (z4 : ByteArray) (M : Int) (_ : M ≤ 17592185000000) (e i : Nat) (p : Int) (n : Nat),S.length = i + e → e + 5 < n → 0 ≤ p → p ≤ M - e →
   ∃ u,qaJ.l0 k n S a s i L p z1 z2 z3 z4 = some u ∧ ((∃ q,u = .inl q ∧ 0 ≤ q ∧ q ≤ p + e) ∨ ∃ q x9 A,u = .inr (q,19,0,0,ByteArray.empty,[a,x9],A) ∧ 0 ≤ q ∧ q ≤ p + e ∧ A.length ≤ 1 ∧ 0 ≤ x9 ∧ x9 < (S.length : Int)) := by
  intro s z1 z2 z3 z4 M hM e
  induction e with
  | zero =>
   intro i p n hi hn h0 hp
   obtain ⟨n,rfl⟩ : ∃ q,n = q + 1 := ⟨n - 1,by omega⟩
   rw [qaJ.l0,if_neg (by omega)]
   exact ⟨_,rfl,.inl ⟨p,rfl,h0,by omega⟩⟩
  | succ e ih =>
   intro i p n hi hn h0 hp
   obtain ⟨n,rfl⟩ : ∃ q,n = q + 1 := ⟨n - 1,by omega⟩
   obtain ⟨r,q,e1,r0,r1,q0,q1⟩ := T.next 3 (by omega) p h0 (by omega)
   have hm : (IntKind.i64.wrap ((i : Int) + r)).tmod (S.length : Int) = ((i : Int) + r) % (S.length : Int) := by
    rw [qal (n := (i : Int) + r) (by omega) (by omega),Int.tmod_eq_emod_of_nonneg (by omega)]
   have hx9 : 0 ≤ (IntKind.i64.wrap ((i : Int) + r)).tmod (S.length : Int) ∧ (IntKind.i64.wrap ((i : Int) + r)).tmod (S.length : Int) < (S.length : Int) := by
    rw [hm]
    exact ⟨Int.emod_nonneg _ (by omega),Int.emod_lt_of_pos _ (by omega)⟩
   obtain ⟨u,g1,g2⟩ := l1 i _ hx9 L q z1 z2 z3 z4 s n (by omega)
   rw [qaJ.l0,if_pos (by omega),e1,obs,if_pos (by omega)]
   dsimp only
   rw [g1,obs,qao (show i < S.length by omega) (by omega)]
   rcases g2 with rfl | ⟨A,rfl,hA⟩
   ·obtain ⟨u,f1,f2⟩ := ih (i + 1) q n (by omega) (by omega) q0 (by omega)
    refine ⟨u,f1,?_⟩
    rcases f2 with ⟨q',a1,a2,a3⟩ | ⟨q',x9,A,a1,a2,a3,a4⟩
    ·exact .inl ⟨q',a1,a2,by omega⟩
    ·exact .inr ⟨q',x9,A,a1,a2,by omega,a4⟩
   ·exact ⟨_,rfl,.inr ⟨q,_,A,rfl,q0,by omega,hA,hx9⟩⟩
 obtain ⟨u,f1,f2⟩ := l0 (S.getD a.toNat []) 0 0 0 ByteArray.empty (p + S.length) (by omega) S.length 0 p k (by omega) (by omega) h0 (by omega)
 rw [n0] at f1
 unfold qaJ.f
 rw [if_pos ⟨ha0,ha⟩,f1,obs]
 rcases f2 with ⟨q',rfl,a2,a3⟩ | ⟨q',x9,A,rfl,a2,a3,a4,a5⟩
 ·exact ⟨5,0,0,q',[a],[],rfl,a2,by omega,by simp,by simp,fun x h => by rw [List.mem_singleton] at h; omega⟩
 ·exact ⟨19,0,0,q',[a,x9],A,rfl,a2,by omega,by simp,by omega,fun x h => by
   rcases List.mem_cons.1 h with h | h
   ·omega
   ·rw [List.mem_singleton] at h; omega⟩
def nodeG (k : Nat) (o0_0 : LI) (o0_1 : Int) : Option (Int × LI × LI × Int × Int × ByteArray × Int × LI) := (qac.f 4 o0_0 o0_1).bind fun t1 => if t1.1 = 0 then ((qaC.f k o0_0 t1.2).bind fun t2 => (qbA.f o0_0 t2.1).bind fun t3 => some (2,[],t2.2,t3.1,0,ByteArray.empty,t3.2,[])) else if t1.1 = 1 then ((qaC.f k o0_0 t1.2).bind fun t4 => if ([3] : LI).length + t4.2.length ≤ 281474976710656 ∧ (([3] : LI).length + t4.2.length) * 8 ≤ 140737488355328 then if 3 < ((([3] : LI) ++ t4.2).length : Int) then (if 0 ≤ ((0 : Nat) : Int) ∧ ((0 : Nat) : Int) ≤ 3 ∧ 3 ≤ ((([3] : LI) ++ t4.2).length : Int) then (qac.f ((3 - 0 : Nat) : Int) o0_0 t4.1).bind fun t5 => some (3,[],((([3] : LI) ++ t4.2).take 3).drop 0,0,0,ByteArray.empty,t5.2,[t5.1]) else none) else (qac.f ((([3] : LI) ++ t4.2).length : Int) o0_0 t4.1).bind fun t6 => some (3,[],([3] : LI) ++ t4.2,0,0,ByteArray.empty,t6.2,[t6.1]) else none) else (qaC.f k o0_0 t1.2).bind fun t7 => some (1,[],t7.2,0,0,ByteArray.empty,t7.1,[])
def NodeOK (S : List LI) (M : Int) (o : Option (Int × LI × LI × Int × Int × ByteArray × Int × LI)) : Prop :=
 ∃ op i s n h q a,o = some (op,i,s,n,h,ByteArray.empty,q,a) ∧ 0 ≤ q ∧ q ≤ M ∧ i.length ≤ 3 ∧ a.length ≤ 100 ∧ s.length ≤ 10 ∧ (∀ x ∈ i,0 ≤ x ∧ x < (S.length : Int))
theorem qpn {L : LI} (T : Tp L) (S : List LI) (p : Int) (h0 : 0 ≤ p) (hp : p ≤ 17592184000000) (k : Nat) (hk : 50000 ≤ k) : NodeOK S (p + 100) (nodeG k L p) := by
 have fin : ∀ {op n h q : Int} {s a : LI},0 ≤ q → q ≤ p + 100 → s.length ≤ 10 → a.length ≤ 100 → NodeOK S (p + 100) (some (op,[],s,n,h,ByteArray.empty,q,a)) := fun h1 h2 h3 h4 => ⟨_,_,_,_,_,_,_,rfl,h1,h2,by simp,h4,h3,fun x h => by cases h⟩
 unfold nodeG
 obtain ⟨r,q,e1,r0,r1,q0,q1⟩ := T.next 4 (by omega) p h0 (by omega)
 obtain ⟨q',s,e2,s1,s2,s3,s4⟩ := qm5 L T.len T.wf q q0 (by omega) k (by omega)
 rw [e1,obs]
 dsimp only
 rw [e2,obs,obs]
 by_cases c1 : r = 0
 ·obtain ⟨m,q2,e3,m1,m2⟩ := qfW L T.len T.wf q' s3 (by omega)
  rw [if_pos c1]
  dsimp only
  rw [e3,obs]
  exact fin m1 (by dsimp only; omega) (by omega) (by simp)
 by_cases c2 : r = 1
 ·rw [if_neg c1,if_pos c2]
  dsimp only
  have hl : (([3] : LI) ++ s).length = s.length + 1 := by simp
  rw [if_pos (by rw [List.length_singleton]; omega)]
  by_cases c3 : 3 < ((([3] : LI) ++ s).length : Int)
  ·obtain ⟨v,q2,e3,v0,v1,v2,v3⟩ := T.next 3 (by omega) q' s3 (by omega)
   rw [if_pos c3,if_pos (by omega),show ((3 - 0 : Nat) : Int) = 3 from rfl,e3,obs]
   exact fin v2 (by dsimp only; omega) (by rw [List.drop_zero,List.length_take]; omega) (by simp)
  ·obtain ⟨v,q2,e3,v0,v1,v2,v3⟩ := T.next (([3] : LI) ++ s).length (by omega) q' s3 (by omega)
   rw [if_neg c3,e3,obs]
   exact fin v2 (by dsimp only; omega) (by omega) (by simp)
 rw [if_neg c1,if_neg c2]
 exact fin s3 (by omega) (by dsimp only; omega) (by simp)
set_option maxHeartbeats 1000000 in
theorem qnE {L : LI} (T : Tp L) (S : List LI) (hS : S.length ≤ 100) (hb : ∀ s ∈ S,s.length ≤ 4 ∧ ∀ x ∈ s,0 ≤ x ∧ x ≤ 32) (p : Int) (h0 : 0 ≤ p) (hp : p ≤ 17592183000000) (k : Nat) (hk : 50000 ≤ k) : NodeOK S (p + 200) (qag.f k S L p) := by
 unfold qag.f
 by_cases c0 : (S.length : Int) = 0
 ·rw [if_pos c0]
  obtain ⟨op,i,s,n,h,q',a,g1,g2,g3,g4⟩ := qpn T S p h0 (by omega) k hk
  exact ⟨op,i,s,n,h,q',a,g1,g2,by omega,g4⟩
 rw [if_neg c0]
 obtain ⟨r,q,e1,r0,r1,q0,q1⟩ := T.next 5 (by omega) p h0 (by omega)
 rw [e1,obs]
 dsimp only
 by_cases c1 : r = 0
 ·rw [if_pos c1]
  have hz := qpn T S q q0 (by omega) k hk
  obtain ⟨op,i,s,n,h,q',a,g1,g2,g3,g4⟩ := hz
  unfold nodeG at g1
  exact ⟨op,i,s,n,h,q',a,g1,g2,by omega,g4⟩
 rw [if_neg c1]
 obtain ⟨a,q2,e2,a0,a1,b0,b1⟩ := T.next S.length (by omega) q q0 (by omega)
 rw [e2,obs,if_pos ⟨a0,a1⟩]
 obtain ⟨z,q3,e3,z0,z1,d0,d1⟩ := T.next 12 (by omega) q2 b0 (by omega)
 have hs := hb _ (qan (show a.toNat < S.length by omega) [])
 have hmem : S.getD a.toNat [] ∈ S := qan (show a.toNat < S.length by omega) []
 dsimp only
 rw [e3,obs]
 dsimp only
 generalize S.getD a.toNat [] = s at hs hmem
 obtain ⟨hs4,hs32⟩ := hs
 obtain ⟨sl,es,sl1,sl2,sl3⟩ := qlO S s hS (fun x h => (hb x h).1) k (by omega)
 have sl3 := sl3 hmem
 have slm : ∀ j : Int,0 ≤ j → j < (sl.length : Int) → 0 ≤ sl.getD j.toNat 0 ∧ sl.getD j.toNat 0 < (S.length : Int) := fun j h0 h1 => sl2 _ (qan (by omega) 0)
 have fin : ∀ {op n h q : Int} {i s a : LI},0 ≤ q → q ≤ p + 200 → i.length ≤ 3 → (∀ x ∈ i,0 ≤ x ∧ x < (S.length : Int)) → s.length ≤ 10 → a.length ≤ 100 → NodeOK S (p + 200) (some (op,i,s,n,h,ByteArray.empty,q,a)) := fun h1 h2 h5 h6 h3 h4 => ⟨_,_,_,_,_,_,_,rfl,h1,h2,h5,h4,h3,h6⟩
 have one : ∀ x ∈ [a],0 ≤ x ∧ x < (S.length : Int) := fun x h => by rw [List.mem_singleton] at h; omega
 have two : ∀ {b : Int},(0 ≤ b ∧ b < (S.length : Int)) → ∀ x ∈ [a,b],0 ≤ x ∧ x < (S.length : Int) := fun hb x h => by
  rcases List.mem_cons.1 h with h | h
  ·omega
  ·rw [List.mem_singleton] at h; omega
 have three : ∀ {b c : Int},(0 ≤ b ∧ b < (S.length : Int)) → (0 ≤ c ∧ c < (S.length : Int)) → ∀ x ∈ [a,b,c],0 ≤ x ∧ x < (S.length : Int) := fun hb hc x h => by
  rcases List.mem_cons.1 h with h | h
  ·omega
  rcases List.mem_cons.1 h with h | h
  ·omega
  ·rw [List.mem_singleton] at h; omega
 by_cases k0 : z = 0
 ·obtain ⟨t,q4,e4,t0,t1,f0,f1⟩ := T.next 2 (by omega) q3 d0 (by omega)
  rw [if_pos k0,e4,obs]
  exact fin f0 (by dsimp only; omega) (by simp) one (by simp) (by simp)
 rw [if_neg k0]
 have two' : ∀ (_ : z = 1 ∨ z = 2),NodeOK S (p + 200) ((qbT.f k S s).bind fun t19 => (qac.f 6 L q3).bind fun t20 => (qac.f (t19.length : Int) L t20.2).bind fun t21 => if 0 ≤ t21.1 ∧ t21.1 < (t19.length : Int) then if t21.1.toNat < t19.length then some (IntKind.i64.wrap (6 + t20.1),[a,t19.getD t21.1.toNat 0],[],0,0,ByteArray.empty,t21.2,[]) else none else none) := fun _=>by
  obtain ⟨t,q4,e4,t0,t1,f0,f1⟩ := T.next 6 (by omega) q3 d0 (by omega)
  obtain ⟨u,q5,e5,u0,u1,f0',f1'⟩ := T.next sl.length (by omega) q4 f0 (by omega)
  rw [es,obs,e4,obs]
  dsimp only
  rw [e5,obs,if_pos ⟨u0,u1⟩,if_pos (by dsimp only; omega)]
  exact fin f0' (by dsimp only; omega) (by simp) (two (slm _ u0 u1)) (by simp) (by simp)
 by_cases k1 : z = 1
 ·rw [if_pos k1]; exact two' (.inl k1)
 rw [if_neg k1]
 by_cases k2 : z = 2
 ·rw [if_pos k2]; exact two' (.inr k2)
 rw [if_neg k2]
 by_cases k3 : z = 3
 ·rw [if_pos k3,es,obs]
  obtain ⟨t,q4,e4,t0,t1,f0,f1⟩ := T.next sl.length (by omega) q3 d0 (by omega)
  obtain ⟨u,q5,e5,u0,u1,f0',f1'⟩ := T.next sl.length (by omega) q4 f0 (by omega)
  rw [e4,obs,if_pos ⟨t0,t1⟩,if_pos (by dsimp only; omega)]
  dsimp only
  rw [e5,obs,if_pos ⟨u0,u1⟩,if_pos (by dsimp only; omega)]
  exact fin f0' (by dsimp only; omega) (by simp) (three (slm _ t0 t1) (slm _ u0 u1)) (by simp) (by simp)
 rw [if_neg k3]
 by_cases k4 : z = 4
 ·obtain ⟨q4,l,g1,g2,g3,g4⟩ := qn7 T a s.length hs4 0 0 0 ByteArray.empty (q3 + s.length) (by omega) s.length 0 q3 [] k (by omega) (by omega) d0 (by omega) rfl
  rw [n0] at g1
  rw [if_pos k4,g1,obs]
  exact fin g3 (by dsimp only; omega) (by simp) one (by simp) (by dsimp only; omega)
 rw [if_neg k4]
 by_cases k5 : z = 5
 ·rw [if_pos k5]
  by_cases c : 2 < (s.length : Int)
  ·rw [if_pos c]
   exact fin d0 (by omega) (by simp) one (by simp) (by simp)
  obtain ⟨t,q4,e4,t0,t1,f0,f1⟩ := T.next ((s.length : Int) + 1) (by omega) q3 d0 (by omega)
  obtain ⟨u,q5,e5,u0,u1,f0',f1'⟩ := T.next 4 (by omega) q4 f0 (by omega)
  have hA : (s.take t.toNat ++ [IntKind.i64.wrap (1 + u)] ++ s.drop t.toNat).length = s.length + 1 := by
   rw [List.length_append,List.length_append,List.length_singleton,List.length_take,List.length_drop]; omega
  obtain ⟨l,g1,g2⟩ := qlH a t (s.take t.toNat ++ [IntKind.i64.wrap (1 + u)] ++ s.drop t.toNat).length (by omega) L q5 0 0 0 ByteArray.empty (s.take t.toNat ++ [IntKind.i64.wrap (1 + u)] ++ s.drop t.toNat) _ 0 [] k (Nat.zero_add _).symm (by omega) (Nat.le_refl _)
  rw [n0] at g1
  rw [if_neg c,qal (n := (s.length : Int) + 1) (by omega) (by omega),e4,obs]
  dsimp only
  rw [List.drop_zero,List.take_length,List.nil_append,if_pos (by omega),if_pos (by rw [List.length_take]; omega),e5,obs]
  dsimp only
  rw [if_pos (by rw [List.length_singleton,List.length_take]; omega),if_pos (by omega),if_pos (by rw [List.length_append,List.length_singleton,List.length_take,List.length_drop]; omega),g1,obs]
  exact fin f0' (by omega) (by simp) one (by omega) (by omega)
 rw [if_neg k5]
 by_cases k6 : z = 6
 ·obtain ⟨q4,l,l',g1,g2,g3,g4,g5⟩ := qn6 T a s hs4 hs32 0 0 0 ByteArray.empty (q3 + 2 * s.length) (by omega) s.length 0 q3 [] [] k (by omega) (by omega) d0 (by omega) rfl rfl
  rw [n0] at g1
  rw [if_pos k6,g1,obs,if_pos (by dsimp only; omega)]
  exact fin g4 (by dsimp only; omega) (by simp) one (by simp) (by dsimp only; rw [List.length_append]; omega)
 rw [if_neg k6]
 by_cases k7 : z = 7
 ·obtain ⟨q4,l,l',g1,g2,g3,g4,g5⟩ := qn5 T a s.length hs4 0 0 0 ByteArray.empty (q3 + 2 * s.length) (by omega) s.length 0 q3 [] [] k (by omega) (by omega) d0 (by omega) rfl rfl
  obtain ⟨m,q5,e5,m1,m2⟩ := qfW L T.len T.wf q4 g4 (by omega)
  rw [n0] at g1
  rw [if_pos k7,g1,obs,if_pos (by dsimp only; omega)]
  dsimp only
  rw [e5,obs]
  exact fin m1 (by dsimp only; omega) (by simp) one (by simp) (by rw [List.length_append]; omega)
 rw [if_neg k7]
 by_cases k8 : z = 8
 ·rw [if_pos k8,es,obs]
  by_cases c : (s.length : Int) = 0
  ·rw [if_pos c]
   exact fin d0 (by omega) (by simp) one (by simp) (by simp)
  obtain ⟨t,q4,e4,t0,t1,f0,f1⟩ := T.next sl.length (by omega) q3 d0 (by omega)
  obtain ⟨u,q5,e5,u0,u1,f0',f1'⟩ := T.next 2 (by omega) q4 f0 (by omega)
  obtain ⟨v,q6,e6,v0,v1,f0'',f1''⟩ := T.next s.length (by omega) q5 f0' (by omega)
  rw [if_neg c,e4,obs,if_pos ⟨t0,t1⟩,if_pos (by dsimp only; omega)]
  dsimp only
  rw [e5,obs]
  dsimp only
  rw [qal (n := 2 + u) (by omega) (by omega),if_pos ⟨by omega,by omega,by simp; omega⟩,e6,obs]
  have h3 := three (slm _ t0 t1) (show 0 ≤ a ∧ a < (S.length : Int) from ⟨a0,a1⟩)
  exact fin f0'' (by dsimp only; omega) (by rw [List.drop_zero,List.length_take]; simp; omega) (fun x h => h3 x (by rw [List.drop_zero] at h; exact List.mem_of_mem_take h)) (by simp) (by simp)
 rw [if_neg k8]
 by_cases k9 : z = 9
 ·obtain ⟨q4,l,g1,g2,g3,g4⟩ := qlG T a s.length hs4 0 0 0 ByteArray.empty (q3 + s.length) (by omega) s.length 0 q3 [] k (by omega) (by omega) d0 (by omega) (Nat.le_refl _)
  obtain ⟨u,q5,e5,u0,u1,f0',f1'⟩ := T.next 4 (by omega) q4 g3 (by omega)
  rw [n0] at g1
  rw [if_pos k9,g1,obs]
  dsimp only
  rw [e5,obs]
  exact fin f0' (by dsimp only; omega) (by simp) one (by simp) (by omega)
 rw [if_neg k9]
 by_cases k10 : z = 10
 ·obtain ⟨op,n,h,q4,i,A,g1,g2,g3,g4,g5,g6⟩ := qoD T S hS a a0 a1 q3 d0 (by omega) k hk
  rw [if_pos k10,g1,obs]
  exact fin g2 (by dsimp only; omega) g4 g6 (by simp) g5
 rw [if_neg k10]
 by_cases c : (s.length : Int) = 0
 ·rw [if_pos c]
  exact fin d0 (by omega) (by simp) one (by simp) (by simp)
 obtain ⟨t,q4,e4,t0,t1,f0,f1⟩ := T.next s.length (by omega) q3 d0 (by omega)
 obtain ⟨u,q5,e5,u0,u1,f0',f1'⟩ := T.next 3 (by omega) q4 f0 (by omega)
 obtain ⟨v,q6,e6,v0,v1,f2,f3⟩ := T.next 2 (by omega) q5 f0' (by omega)
 obtain ⟨w,q7,e7,w0,w1,f4,f5⟩ := T.next 4 (by omega) q6 f2 (by omega)
 rw [if_neg c,e4,obs]
 dsimp only
 rw [e5,obs]
 dsimp only
 rw [e6,obs]
 dsimp only
 rw [e7,obs]
 exact fin f4 (by dsimp only; omega) (by simp) one (by simp) (by simp)
end Go.Pf

namespace Go.Pf
open Go Go.Vm
theorem qn8 {l : LI} : ∀ (e i : Nat),nR l e i = true → ∀ j,i ≤ j → j < i + e → nmay (l.getD j 0) = true ∧ l.getD j 0 ∉ l.take j
 | 0,i,_,j,h1,h2 => by omega
 | e + 1,i,h,j,h1,h2 => by
  rw [nR,Bool.and_eq_true,Bool.and_eq_true,Bool.not_eq_true',decide_eq_false_iff_not] at h
  by_cases c : j = i
  ·subst c; exact h.1
  ·exact qn8 e (i + 1) h.2 j (by omega) (by omega)
theorem qjv {l : LI} {n : Int} (h : zNR l n = true) : ((l.length : Int) = n ∧ n ≤ 3) ∧ ∀ j,j < l.length → nmay (l.getD j 0) = true ∧ l.getD j 0 ∉ l.take j := by
 unfold zNR at h
 rw [Bool.and_eq_true,decide_eq_true_eq] at h
 exact ⟨h.1,fun j hj => qn8 l.length 0 h.2 j (by omega) (by omega)⟩
theorem qqP {l : LI} {n : Int} (h : zNR l n = true) {j : Nat} (hj : j < l.length) : fnd l (l.getD j 0) = (j : Int) := by
 obtain ⟨_,hs⟩ := qjv h
 have tk : ∀ i j : Nat,i < j → j < l.length → l.getD i 0 ∈ l.take j := fun i j hij hj => by
  have : (l.take j).getD i 0 = l.getD i 0 := by
   rw [List.getD_eq_getElem?_getD,List.getElem?_take,if_pos hij,List.getD_eq_getElem?_getD]
  rw [← this]
  exact qan (by rw [List.length_take]; omega) _
 rcases qj7 l (l.getD j 0) with ⟨h1,h2⟩ | ⟨i,h1,h2,h3,h4⟩
 ·exact absurd (qan hj _) h2
 ·rw [h1]
  rcases Nat.lt_trichotomy i j with c | c | c
  ·exact absurd (by rw [← h3]; exact tk i j c hj) (hs j hj).2
  ·rw [c]
  ·exact absurd (tk j i c h2) h4
def zTx (nm : LI) (k : Int) : Int := if k < 0 ∨ (nm.length : Int) ≤ k then 46 else nm.getD k.toNat 0
theorem qhZ : ∀ l : LI,(enc l).size ≤ 4 * l.length
 | [] => Nat.le_refl _
 | r :: l => by
  have h := qhZ l
  have : (Utf8.encode r).size ≤ 4 := by
   unfold Utf8.encode
   dsimp only
   generalize (if Utf8.valid r = true then r.toNat else Utf8.runeError) = c
   by_cases c1 : c < 128
   ·rw [if_pos c1]; show 1 ≤ 4; omega
   by_cases c2 : c < 2048
   ·rw [if_neg c1,if_pos c2]; show 2 ≤ 4; omega
   by_cases c3 : c < 65536
   ·rw [if_neg c1,if_neg c2,if_pos c3]; show 3 ≤ 4; omega
   ·rw [if_neg c1,if_neg c2,if_neg c3]; exact Nat.le_refl _
  rw [enc,qdi,List.length_cons]; omega
theorem qop : Utf8.encode 46 = ByteArray.mk #[46] := rfl
theorem qo3 (l : LI) (r : Int) : enc (l ++ [r]) = enc l ++ Utf8.encode r := by
 rw [qoq,enc,enc,qiU]
theorem qlx (nm : ByteArray) (hn : nm.size ≤ 100000) (sp : LI) (hs : sp.length ≤ 1000) (k : Nat) (hk : 200000 ≤ k) : qcm.f k nm sp = some (enc (sp.map (zTx (rs nm)))) := by
 unfold qcm.f
 rw [qeg nm (by omega) k (by omega),obs]
 generalize rs nm = l
 have := iter0 (L := fun n i y => qcm.l0 n sp y sp.length i l) (st := fun i => enc ((sp.take i).map (zTx l))) (fun _=>enc (sp.map (zTx l))) (m := sp.length) 0
  (fun n _ => by rw [qcm.l0,if_neg (by omega),List.take_length])
  (fun i n hi _ ih => by
   have hz := qhZ ((sp.take i).map (zTx l))
   have hz2 := qhZ [zTx l (sp.getD i 0)]
   rw [enc,enc,qiU,List.length_singleton] at hz2
   rw [List.length_map,List.length_take] at hz
   rw [qdl hi,List.map_append,List.map_cons,List.map_nil,qo3] at ih
   rw [qcm.l0,if_pos (by omega),if_pos (by omega),Int.toNat_natCast,qao hi (by omega)]
   by_cases c1 : sp.getD i 0 < 0
   ·have e : zTx l (sp.getD i 0) = 46 := if_pos (.inl c1)
    rw [e,qop] at ih hz2
    rw [if_pos c1,if_pos (by omega),ih]
   by_cases c2 : (l.length : Int) ≤ sp.getD i 0
   ·have e : zTx l (sp.getD i 0) = 46 := if_pos (.inr c2)
    rw [e,qop] at ih hz2
    rw [if_neg c1,if_pos c2,if_pos (by omega),ih]
   ·have e : zTx l (sp.getD i 0) = l.getD (sp.getD i 0).toNat 0 := if_neg (by omega)
    rw [e] at ih hz2
    rw [if_neg c1,if_neg c2,if_pos (by omega),if_pos (by omega),if_pos (by omega),ih]) k (by omega)
 have e0 : enc ((sp.take 0).map (zTx l)) = ByteArray.empty := by rw [List.take_zero,List.map_nil,enc]
 rw [e0] at this
 rw [this,obs]
theorem qn2 {m : Int} {pre : LI} {k : Int} {r : LI} (h : okGo m pre (k :: r) = true) : (-1 ≤ k ∧ k < m) ∧ (k = -1 ∨ k ∉ pre) ∧ okGo m (pre ++ [k]) r = true := by
 simp only [okGo,Bool.and_eq_true,Bool.or_eq_true,decide_eq_true_eq,Bool.not_eq_true',decide_eq_false_iff_not] at h
 exact ⟨h.1.1,h.1.2,h.2⟩
theorem ql6 {nm : LI} {n : Int} (h : zNR nm n = true) : ∀ (sp y : LI),okGo nm.length y sp = true → zNl nm (sp.map (zTx nm)) y = some (y ++ sp)
 | [],y,_ => by rw [List.map_nil,zNl,List.append_nil]
 | k :: r,y,ho => by
  obtain ⟨h1,h2,h3⟩ := qn2 ho
  have ih := ql6 h r (y ++ [k]) h3
  rw [List.map_cons,zNl]
  by_cases c : k < 0
  ·have e : zTx nm k = 46 := if_pos (.inl c)
   have : k = -1 := by omega
   subst this
   rw [e,if_neg (by decide),if_pos rfl,ih,List.append_assoc]; rfl
  ·have e : zTx nm k = nm.getD k.toNat 0 := if_neg (by omega)
   have hk : k.toNat < nm.length := by omega
   have hm := of_decide_eq_true ((qjv h).2 _ hk).1
   rw [e,if_neg (by omega),if_neg (by omega),qqP h hk,show ((k.toNat : Nat) : Int) = k by omega,if_neg (by rintro (h | h); exact c h; exact (h2.resolve_left (by omega)) h),ih,List.append_assoc]; rfl
theorem qnu {nm : LI} (hv : ∀ r ∈ nm,Utf8.valid r = true) (k : Int) : Utf8.valid (zTx nm k) = true := by
 unfold zTx
 split
 ·rfl
 ·exact hv _ (qan (by omega) 0)
theorem qn4 {nm : LI} {n : Int} (h : zNR nm n = true) (hv : ∀ r ∈ nm,Utf8.valid r = true) {sp : LI} (ho : okGo nm.length [] sp = true) (hl : sp.length ≤ 16) : (zNote nm (rs (enc (sp.map (zTx nm)))) sp.length).2.1 = 0 := by
 rw [qpj (fun r hr => by
  obtain ⟨k,_,rfl⟩ := List.mem_map.1 hr
  exact qnu hv k)]
 unfold zNote
 rw [List.length_map,if_neg (by omega),ql6 h sp [] ho,List.nil_append]
 dsimp only
 by_cases c : sp.length = 0
 ·rw [if_pos c]
 ·rw [if_neg c,if_pos rfl]
theorem qnd (nm : LI) (rank : Int) : (zNote nm (rs ByteArray.empty) rank).2.1 = 0 := rfl
structure MeshOK (nm : ByteArray) (s : LI) : Prop where
 size : nm.size ≤ 10
 ms : zMs s (rs nm) = true
 val : ∀ r ∈ rs nm,Utf8.valid r = true
theorem MeshOK.mk' {nm : ByteArray} {s l : LI} (h1 : nm.size ≤ 10) (h2 : nm = enc l) (h3 : l.all Utf8.valid = true) (h4 : zMs s l = true) : MeshOK nm s := by
 have hv : ∀ r ∈ l,Utf8.valid r = true := List.all_eq_true.1 h3
 have e : rs nm = l := by rw [h2,qpj hv]
 exact ⟨h1,by rw [e]; exact h4,by rw [e]; exact hv⟩
theorem MeshOK.right {nm : ByteArray} {s : LI} (h : MeshOK nm s) : mR s = true ∧ zNR (rs nm) s.length = true ∧ (rs nm).length = s.length := by
 have := h.ms
 unfold zMs at this
 rw [Bool.and_eq_true] at this
 exact ⟨this.1,this.2,by have := (qjv this.2).1.1; omega⟩
theorem qqy : (ByteArray.mk #[120]) = enc [120] := rfl
theorem qqx : (ByteArray.mk #[121,195,169]) = enc [121,233] := by decide
theorem qqw : (ByteArray.mk #[97,98,228,184,150]) = enc [97,98,19990] := by decide
end Go.Pf

namespace Go.Pf
open Go Go.Vm
theorem qnF {L : LI} (T : Tp L) : ∃ nm q s,qdb.f L 0 = some (nm,q,s) ∧ 0 ≤ q ∧ q ≤ 1 ∧ MeshOK nm s := by
 obtain ⟨r,q,e,r0,r1,q0,q1⟩ := T.next 10 (by omega) 0 (by omega) (by omega)
 have m0 : MeshOK ByteArray.empty [] := MeshOK.mk' (l := []) (by decide) rfl rfl rfl
 have m1 : ∀ s : LI,zMs s [120] = true → MeshOK (ByteArray.mk #[120]) s := fun s h => MeshOK.mk' (by decide) qqy (by decide) h
 have m2 : ∀ s : LI,zMs s [121,233] = true → MeshOK (ByteArray.mk #[121,195,169]) s := fun s h => MeshOK.mk' (by decide) qqx (by decide) h
 have m3 : ∀ s : LI,zMs s [97,98,19990] = true → MeshOK (ByteArray.mk #[97,98,228,184,150]) s := fun s h => MeshOK.mk' (by decide) qqw (by decide) h
 unfold qdb.f
 rw [e,obs]
 have : r = 0 ∨ r = 1 ∨ r = 2 ∨ r = 3 ∨ r = 4 ∨ r = 5 ∨ r = 6 ∨ r = 7 ∨ r = 8 ∨ r = 9 := by omega
 rcases this with rfl | rfl | rfl | rfl | rfl | rfl | rfl | rfl | rfl | rfl
 ·exact ⟨_,q,[2],rfl,q0,by omega,m1 _ (by decide)⟩
 ·exact ⟨_,q,[3],rfl,q0,by omega,m1 _ (by decide)⟩
 ·exact ⟨_,q,[2,2],rfl,q0,by omega,m2 _ (by decide)⟩
 ·exact ⟨_,q,[4],rfl,q0,by omega,m1 _ (by decide)⟩
 ·exact ⟨_,q,[2,3],rfl,q0,by omega,m2 _ (by decide)⟩
 ·exact ⟨_,q,[],rfl,q0,by omega,m0⟩
 ·exact ⟨_,q,[2,2,2],rfl,q0,by omega,m3 _ (by decide)⟩
 ·exact ⟨_,q,[5],rfl,q0,by omega,m1 _ (by decide)⟩
 ·exact ⟨_,q,[1,3],rfl,q0,by omega,m2 _ (by decide)⟩
 ·exact ⟨_,q,[8],rfl,q0,by omega,m1 _ (by decide)⟩
theorem qjw {out : List LI} : ∀ {l : LI},(∀ x ∈ l,0 ≤ x ∧ x < (out.length : Int)) → zIn out l = some (l.map fun x => out.getD x.toNat [])
 | [],_ => rfl
 | x :: l,h => by
  have := h x (List.mem_cons_self ..)
  rw [zIn,if_neg (by omega),qjw fun y hy => h y (List.mem_cons_of_mem _ hy)]; rfl
theorem qoY (i : LI) (hi : i.length ≤ 10) (S : List LI) (h : ∀ x ∈ i,0 ≤ x ∧ x < (S.length : Int)) (x6 : Int) (y0 : ByteArray) (L : LI) (p : Int) (y2 : ByteArray) (z1 : Int) (z2 z3 : LI) (z4 z5 : Int) (z6 : ByteArray) (y6 : LI) (y7 : List Nd) (y8 : LI) (n : Nat) (hn : 11 ≤ n) :
  qaE.l1 n x6 i i.length 0 y0 L p y2 S z1 z2 z3 z4 z5 z6 [] y6 y7 y8 = some (i.map fun x => S.getD x.toNat []) := by
 have := iter0 (L := fun n j y => qaE.l1 n x6 i i.length j y0 L p y2 S z1 z2 z3 z4 z5 z6 y y6 y7 y8) (st := fun j => (i.take j).map fun x => S.getD x.toNat []) (fun _=>i.map fun x => S.getD x.toNat []) (m := i.length) 0
  (fun n _ => by rw [qaE.l1,if_neg (by omega),List.take_length])
  (fun j n hj _ ih => by
   have hx := h _ (qan hj 0)
   rw [qdl hj,List.map_append,List.map_cons,List.map_nil] at ih
   rw [qaE.l1,if_pos (by omega),if_pos (by omega),Int.toNat_natCast,if_pos hx,if_pos (by omega),if_pos (by rw [List.length_map,List.length_take,List.length_singleton]; omega),qao hj (by omega),ih]) n (by omega)
 rw [List.take_zero,List.map_nil] at this
 exact this
theorem ql9 (nm : LI) (x : Nd) : ∀ (N : List Nd) (o : List LI),(zGo nm N o).1 = 0 → zGo nm (N ++ [x]) o = if (zNd nm (zGo nm N o).2 x).1 = 0 then (0,(zGo nm N o).2 ++ [(zNd nm (zGo nm N o).2 x).2]) else ((zNd nm (zGo nm N o).2 x).1,[])
 | [],o,_ => by
  rw [List.nil_append,zGo,zGo,zGo]
 | y :: N,o,h => by
  rw [zGo] at h
  rw [List.cons_append,zGo,zGo]
  by_cases c : (zNd nm o y).1 = 0
  ·rw [if_pos c] at h
   rw [if_pos c,if_pos c]
   exact ql9 nm x N _ h
  ·rw [if_neg c] at h
   exact absurd h c
def tiN (x : Nd) : Prop := x.2.1.length ≤ 300 ∧ x.2.2.1.length ≤ 300 ∧ x.2.2.2.1.length ≤ 300 ∧ x.2.2.2.2.2.2.size ≤ 300
structure GrOK (nm : LI) (S : List LI) (N : List Nd) : Prop where
 go : zGo nm N [] = (0,S)
 ti : ∀ x ∈ N,tiN x
 sm : ∀ s ∈ S,mSR s = true
theorem GrOK.ok {nm : LI} {S : List LI} {N : List Nd} (h : GrOK nm S N) : ∀ x ∈ N,okN x := fun x hx => by
 obtain ⟨h1,h2,h3,h4⟩ := h.ti x hx
 exact ⟨by omega,by omega,by omega⟩
theorem GrOK.len {nm : LI} {S : List LI} {N : List Nd} (h : GrOK nm S N) : S.length = N.length := by
 have := qfV nm N [] (by rw [h.go])
 rw [h.go] at this
 simpa using this
theorem GrOK.snoc {nm : LI} {S : List LI} {N : List Nd} (h : GrOK nm S N) {x : Nd} {s : LI} (hx : zNd nm S x = (0,s)) (ho : tiN x) (hs : mSR s = true) : GrOK nm (S ++ [s]) (N ++ [x]) where
 go := by
  rw [ql9 nm x N [] (by rw [h.go]),h.go]
  dsimp only
  rw [hx,if_pos rfl]
 ti := fun y hy => by
  rcases List.mem_append.1 hy with hy | hy
  ·exact h.ti y hy
  ·rw [List.mem_singleton] at hy; rw [hy]; exact ho
 sm := fun y hy => by
  rcases List.mem_append.1 hy with hy | hy
  ·exact h.sm y hy
  ·rw [List.mem_singleton] at hy; rw [hy]; exact hs
theorem qmO {L : LI} (T : Tp L) {nm : ByteArray} {sz : LI} (hm : MeshOK nm sz) (y0 : ByteArray) (k : Nat) (hk : 300000 ≤ k) (M : Int) (hM : M ≤ 17592182000000) : ∀ (e : Nat) (p : Int) (S : List LI) (N : List Nd) (n : Nat),e + 100 < n → 0 ≤ p → p ≤ M - 300 * e → S.length + e ≤ 10 → GrOK (rs nm) S N →
  ∃ q S' N',qaE.l0 k n e y0 L p nm S sz N = some (q,S',N') ∧ GrOK (rs nm) S' N' ∧ 0 ≤ q ∧ q ≤ M ∧ S'.length ≤ 10
 | 0,p,S,N,n,hn,h0,hp,hS,hG => by
  obtain ⟨n,rfl⟩ : ∃ q,n = q + 1 := ⟨n - 1,by omega⟩
  rw [qaE.l0,if_neg (by omega)]
  exact ⟨p,S,N,rfl,hG,h0,by omega,by omega⟩
 | e + 1,p,S,N,n,hn,h0,hp,hS,hG => by
  obtain ⟨n,rfl⟩ : ∃ q,n = q + 1 := ⟨n - 1,by omega⟩
  have ih := fun p S N h0 hp hS hG => qmO T hm y0 k hk M hM e p S N n (by omega) h0 hp hS hG
  obtain ⟨hmR,hzR,hln⟩ := hm.right
  have hlen := hG.len
  obtain ⟨op,i,s,v,h,q,a,e1,q0,q1,hi,ha,hs,hx⟩ := qnE T S (by omega) (fun s hs => by have := qah (hG.sm s hs); exact ⟨this.1,this.2.1⟩) p h0 (by omega) k (by omega)
  rw [qaE.l0,if_pos (by omega),e1,obs]
  dsimp only
  rw [qoY i (by omega) S hx _ _ _ _ _ _ _ _ _ _ _ _ _ _ n (by omega),obs,qdO _ _ _ _ _ _ _ _ (by rw [List.length_map]; omega) (by omega) k (by omega),obs,show IntKind.i64.wrap (((e + 1 : Nat) : Int) - 1) = (e : Int) by rw [qal (by omega) (by omega)]; omega]
  have hzN : ∀ nt : ByteArray,zNd (rs nm) S (op,(i,(s,(a,(v,(h,nt)))))) = if (zSh op s a v h (i.map fun x => S.getD x.toNat [])).1 = 0 then ((zNote (rs nm) (rs nt) (zSh op s a v h (i.map fun x => S.getD x.toNat [])).2.length).2.1,(zSh op s a v h (i.map fun x => S.getD x.toNat [])).2) else ((zSh op s a v h (i.map fun x => S.getD x.toNat [])).1,[]) := fun nt => by
   unfold zNd
   dsimp only
   rw [qjw hx]
  generalize hz : zSh op s a v h (i.map fun x => S.getD x.toNat []) = z at hzN
  by_cases c : z.1 = 0
  rotate_left
  ·rw [if_neg c]
   exact ih q S N q0 (by omega) (by omega) hG
  have hR : mSR z.2 = true := by rw [← hz]; exact zSh_R (by rw [hz]; exact c)
  have hb := qah hR
  rw [if_pos c,qdr _ k (by omega),obs]
  by_cases c2 : 400 < zSz z.2
  ·rw [if_pos c2]
   exact ih q S N q0 (by omega) (by omega) hG
  obtain ⟨w,q2,e2,w0,w1,f0,f1⟩ := T.next 3 (by omega) q q0 (by omega)
  rw [if_neg c2,e2,obs]
  dsimp only
  by_cases c3 : w = 0
  ·obtain ⟨q3,sp,e3,p1,p2,p3,p4⟩ := qnG sz (by have := (qis hmR).1; omega) L T.len T.wf z.2.length (by omega) (by omega) q2 f0 (by omega) k (by omega)
   rw [if_pos c3,e3,obs]
   dsimp only
   have hsz := hm.size
   rw [qlx nm (by omega) sp (by omega) k (by omega),obs,if_pos (by rw [List.length_singleton]; omega),if_pos (by rw [List.length_singleton]; omega)]
   have hx := hzN (enc (sp.map (zTx (rs nm))))
   have he := qhZ (sp.map (zTx (rs nm)))
   rw [List.length_map] at he
   rw [if_pos c,← p1,qn4 hzR hm.val (by rw [hln]; exact p2) (by omega)] at hx
   exact ih q3 (S ++ [z.2]) _ p3 (by omega) (by rw [List.length_append,List.length_singleton]; omega) (hG.snoc hx ⟨by dsimp only; omega,by dsimp only; omega,by dsimp only; omega,by dsimp only; omega⟩ hR)
  ·rw [if_neg c3,if_pos (by rw [List.length_singleton]; omega),if_pos (by rw [List.length_singleton]; omega)]
   have hx := hzN ByteArray.empty
   rw [if_pos c,qnd] at hx
   exact ih q2 (S ++ [z.2]) _ f0 (by omega) (by rw [List.length_append,List.length_singleton]; omega) (hG.snoc hx ⟨by dsimp only; omega,by dsimp only; omega,by dsimp only; omega,show ByteArray.empty.size ≤ 300 by decide⟩ hR)
theorem qmN {L : LI} (T : Tp L) (S : List LI) (hS : S.length ≤ 10) (y0 y2 : ByteArray) (y4 : LI) (y5 : List Nd) (M : Int) (hM : M ≤ 17592182000000) : ∀ (e : Nat) (p : Int) (O : LI) (n : Nat),e < n → 0 ≤ p → p ≤ M - 2 * e → O.length + e ≤ 10 → (∀ x ∈ O,0 ≤ x ∧ x < (S.length : Int)) →
  ∃ O',qaE.l2 n e y0 L p y2 S y4 y5 O = some O' ∧ O'.length ≤ 10 ∧ ∀ x ∈ O',0 ≤ x ∧ x < (S.length : Int)
 | 0,p,O,n,hn,h0,hp,hO,hx => by
  obtain ⟨n,rfl⟩ : ∃ q,n = q + 1 := ⟨n - 1,by omega⟩
  rw [qaE.l2,if_neg (by omega)]
  exact ⟨O,rfl,by omega,hx⟩
 | e + 1,p,O,n,hn,h0,hp,hO,hx => by
  obtain ⟨n,rfl⟩ : ∃ q,n = q + 1 := ⟨n - 1,by omega⟩
  rw [qaE.l2,if_pos (by omega),show IntKind.i64.wrap (((e + 1 : Nat) : Int) - 1) = (e : Int) by rw [qal (by omega) (by omega)]; omega]
  by_cases c : 0 < (S.length : Int)
  rotate_left
  ·rw [if_neg c]
   exact ⟨O,rfl,by omega,hx⟩
  obtain ⟨a,q,e1,a0,a1,q0,q1⟩ := T.next S.length (by omega) p h0 (by omega)
  obtain ⟨b,q2,e2,b0,b1,f0,f1⟩ := T.next 2 (by omega) q q0 (by omega)
  rw [if_pos c,e1,obs]
  dsimp only
  rw [e2,obs,qal (n := (S.length : Int) - 1) (by omega) (by omega)]
  dsimp only
  rw [if_pos ⟨b0,by simp; omega⟩,if_pos (by simp; omega),if_pos (by rw [List.length_singleton]; omega)]
  have hb : 0 ≤ [(S.length : Int) - 1,a].getD b.toNat 0 ∧ [(S.length : Int) - 1,a].getD b.toNat 0 < (S.length : Int) := by
   have : b = 0 ∨ b = 1 := by omega
   rcases this with rfl | rfl
   ·show 0 ≤ (S.length : Int) - 1 ∧ (S.length : Int) - 1 < S.length; omega
   ·exact ⟨a0,a1⟩
  exact qmN T S hS y0 y2 y4 y5 M hM e q2 _ n (by omega) f0 (by omega) (by rw [List.length_append,List.length_singleton]; omega) (fun x h => by
   rcases List.mem_append.1 h with h | h
   ·exact hx x h
   ·rw [List.mem_singleton] at h; rw [h]; exact hb)
theorem qfu {L : LI} (T : Tp L) (k : Nat) (hk : 300000 ≤ k) : ∃ nm sz N O S,qaE.f k L = some (nm,sz,N,O) ∧ MeshOK nm sz ∧ GrOK (rs nm) S N ∧ N.length ≤ 10 ∧ O.length ≤ 10 ∧ ∀ x ∈ O,0 ≤ x ∧ x < (N.length : Int) := by
 obtain ⟨nm,q,sz,e1,q0,q1,hm⟩ := qnF T
 obtain ⟨r,q2,e2,r0,r1,f0,f1⟩ := T.next 9 (by omega) q q0 (by omega)
 obtain ⟨q3,S,N,e3,hG,g0,g1,hS⟩ := qmO T hm ByteArray.empty k hk 10000 (by omega) (1 + r).toNat q2 [] [] k (by omega) f0 (by omega) (by simp; omega) ⟨rfl,(fun x h => by cases h),(fun x h => by cases h)⟩
 obtain ⟨w,q4,e4,w0,w1,h0,h1⟩ := T.next 3 (by omega) q3 g0 (by omega)
 have hlen := hG.len
 obtain ⟨O,e5,o1,o2⟩ := qmN T S hS ByteArray.empty nm sz N 20000 (by omega) (1 + w).toNat q4 [] k (by omega) h0 (by omega) (by simp; omega) (fun x h => by cases h)
 refine ⟨nm,sz,N,O,S,?_,hm,hG,by omega,o1,by rw [← hlen]; exact o2⟩
 unfold qaE.f
 rw [e1,obs]
 dsimp only
 rw [e2,obs]
 dsimp only
 rw [qal (n := 1 + r) (by omega) (by omega),show (1 + r : Int) = (((1 + r).toNat : Nat) : Int) by omega,e3,obs]
 dsimp only
 rw [e4,obs]
 dsimp only
 rw [qal (n := 1 + w) (by omega) (by omega),show (1 + w : Int) = (((1 + w).toNat : Nat) : Int) by omega,e5,obs]
end Go.Pf

namespace Go.Pf
open Go Go.Vm
def zPar : Nat → List Nd → LI
 | _,[] => []
 | i,x :: r => if x.1 = 1 then (i : Int) :: zPar (i + 1) r else zPar (i + 1) r
theorem qi1 (s : LI) (nm : ByteArray) (N : List Nd) (O : LI) (hN : N.length ≤ 100000) (k : Nat) (hk : 200000 ≤ k) : qbx.f k s nm N O = some (zPar 0 N) := by
 have : ∀ (e i n : Nat) (y : LI),N.length = i + e → e < n → y.length ≤ i → qbx.l0 n N N.length i y = some (y ++ zPar i (N.drop i)) := by
  intro e
  induction e with
  | zero =>
   intro i n y hi hn hy
   obtain ⟨n,rfl⟩ : ∃ m,n = m + 1 := ⟨n - 1,by omega⟩
   rw [qbx.l0,if_neg (by omega),List.drop_eq_nil_of_le (by omega),zPar,List.append_nil]
  | succ e ih =>
   intro i n y hi hn hy
   obtain ⟨n,rfl⟩ : ∃ m,n = m + 1 := ⟨n - 1,by omega⟩
   rw [qbx.l0,if_pos (by omega),if_pos (by omega),Int.toNat_natCast,qao (show i < N.length by omega) (by omega),qae (show i < N.length by omega) nd0,zPar]
   by_cases c : (N.getD i nd0).1 = 1
   ·rw [if_pos c,if_pos c,if_pos (by rw [List.length_singleton]; omega),ih (i + 1) n _ (by omega) (by omega) (by simp; omega),List.append_assoc]; rfl
   ·rw [if_neg c,if_neg c,ih (i + 1) n _ (by omega) (by omega) (by omega)]
 unfold qbx.f
 have h := this N.length 0 k [] (by omega) (by omega) (Nat.le_refl _)
 rw [n0,List.drop_zero,List.nil_append] at h
 rw [h,obs]
theorem qem (s : LI) (nm : ByteArray) (N : List Nd) (O : LI) (hN : N.length ≤ 100000) (k : Nat) (hk : 200000 ≤ k) : qbl.f k s nm N O = some (zPar 0 N) := by
 have : ∀ (e i n : Nat) (y : LI),N.length = i + e → e < n → y.length ≤ i → qbl.l0 n N N.length i y = some (y ++ zPar i (N.drop i)) := by
  intro e
  induction e with
  | zero =>
   intro i n y hi hn hy
   obtain ⟨n,rfl⟩ : ∃ m,n = m + 1 := ⟨n - 1,by omega⟩
   rw [qbl.l0,if_neg (by omega),List.drop_eq_nil_of_le (by omega),zPar,List.append_nil]
  | succ e ih =>
   intro i n y hi hn hy
   obtain ⟨n,rfl⟩ : ∃ m,n = m + 1 := ⟨n - 1,by omega⟩
   rw [qbl.l0,if_pos (by omega),if_pos (by omega),Int.toNat_natCast,qao (show i < N.length by omega) (by omega),qae (show i < N.length by omega) nd0,zPar]
   by_cases c : (N.getD i nd0).1 = 1
   ·rw [if_pos c,if_pos c,if_pos (by rw [List.length_singleton]; omega),ih (i + 1) n _ (by omega) (by omega) (by simp; omega),List.append_assoc]; rfl
   ·rw [if_neg c,if_neg c,ih (i + 1) n _ (by omega) (by omega) (by omega)]
 unfold qbl.f
 have h := this N.length 0 k [] (by omega) (by omega) (Nat.le_refl _)
 rw [n0,List.drop_zero,List.nil_append] at h
 rw [h,obs]
def smN (x : Nd) : Prop := x.2.1.length ≤ 100000 ∧ x.2.2.1.length ≤ 100000 ∧ x.2.2.2.1.length ≤ 100000
theorem allN2 {P : Nd → Prop} {a b : Nd} (h : P a) (h2 : P b) : ∀ x ∈ [a,b],P x := fun x hx => by
 rcases List.mem_cons.1 hx with hx | hx
 ·rw [hx]; exact h
 ·rw [List.mem_singleton] at hx; rw [hx]; exact h2
theorem GrOK.shs {nm : ByteArray} {sz : LI} {N : List Nd} {S : List LI} (hm : MeshOK nm sz) (hG : GrOK (rs nm) S N) (hN : N.length ≤ 48) {O : LI} (hO : O.length ≤ 48) (hx : ∀ x ∈ O,0 ≤ x ∧ x < (N.length : Int)) : zShs sz nm N O = (0,S) := by
 unfold zShs
 rw [if_pos hm.ms,if_neg (by omega),if_neg (by omega),hG.go,if_pos rfl,if_pos (List.all_eq_true.2 fun x h => decide_eq_true (hx x h))]
theorem qjm {L : LI} (h : Fit (.sl (.int .i64)) L) : Tp L := by
 obtain ⟨f1,f2⟩ := qom h
 exact ⟨by omega,f2⟩
end Go.Pf

namespace Go.Pf
open Go Go.Vm
theorem qlo (nm : LI) : ∀ (N : List Nd) (o T : List LI),zGo nm N o = (0,T) → T.take o.length = o
 | [],o,T,h => by
  rw [zGo] at h
  cases h
  exact List.take_length
 | x :: r,o,T,h => by
  rw [zGo] at h
  by_cases c : (zNd nm o x).1 = 0
  ·rw [if_pos c] at h
   have := qlo nm r _ T h
   have h2 := congrArg (fun l => l.take o.length) this
   rw [List.take_take,List.length_append,List.length_singleton,Nat.min_eq_left (by omega),List.take_left] at h2
   exact h2
  ·rw [if_neg c] at h
   exact absurd (congrArg Prod.fst h) c
theorem qko (nm : LI) : ∀ (N : List Nd) (o T : List LI),zGo nm N o = (0,T) → ∀ i,i < N.length → zNd nm (T.take (o.length + i)) (N.getD i nd0) = (0,T.getD (o.length + i) [])
  | x :: r,o,T,h,i,hi => by
    have hp := qlo nm (x :: r) o T h
    rw [zGo] at h
    by_cases c : (zNd nm o x).1 = 0
    · rw [if_pos c] at h
      cases i with
      | zero =>
        have h2 := qlo nm r _ T h
        have h3 : T.getD o.length [] = (zNd nm o x).2 := by
          have e := congrArg (fun l => l.getD o.length []) h2
          rw [List.length_append,List.length_singleton,List.getD_eq_getElem?_getD,List.getElem?_take,if_pos (by omega),List.getD_eq_getElem?_getD,List.getElem?_append_right (Nat.le_refl _),Nat.sub_self] at e
          rw [List.getD_eq_getElem?_getD,e]; rfl
        rw [Nat.add_zero,hp,h3]
        show zNd nm o x = _
        rw [← c]
      | succ i =>
        have := qko nm r _ T h i (by simpa using hi)
        rw [List.length_append,List.length_singleton,Nat.add_assoc,Nat.add_comm 1 i] at this
        exact this
    · rw [if_neg c] at h
      exact absurd (congrArg Prod.fst h) c
structure Dots (t : ByteArray) (l : LI) (m : Nat) : Prop where
 enc : t = enc l
 val : ∀ r ∈ l,r = 32 ∨ r = 46
 len : l.length ≤ 2 * m
 num : ∀ (nm y : LI),zNl nm l y = some (y ++ List.replicate m (-1))
structure Re (nm : LI) (S : List LI) (i : Nat) (N : List Nd) : Prop where
 ok : GrOK nm (S.take i) N
 fst : 0 < i → ∃ l,Dots (N.getD 0 nd0).2.2.2.2.2.2 l (S.getD 0 []).length
end Go.Pf

namespace Go.Pf
open Go Go.Vm
theorem qig (out : List LI) (l : LI) (hl : l.length ≤ 400) (ho : out.length ≤ 1000) (x31 : List Nd) (x32 x33 : Int) (g1 : LI) (g2 : ByteArray) (g3 : List Nd) (g4 : LI) (x1 : Int) (x2 x3 x4 : LI) (x5 x6 : Int) (x7 : ByteArray) (n : Nat) (hn : 401 ≤ n) :
  qat.l1 n out.length x31 x32 x33 l l.length 0 g1 g2 g3 g4 out x1 x2 x3 x4 x5 x6 x7 [] = some (match zIn out l with | some r => .inl r | none => .inr 23) := by
 have : ∀ (e i n : Nat) (y : List LI),l.length = i + e → e < n → y.length ≤ i → qat.l1 n out.length x31 x32 x33 l l.length i g1 g2 g3 g4 out x1 x2 x3 x4 x5 x6 x7 y = some (match zIn out (l.drop i) with | some r => .inl (y ++ r) | none => .inr 23) := by
  intro e
  induction e with
  | zero =>
   intro i n y hi hn hy
   obtain ⟨n,rfl⟩ : ∃ m,n = m + 1 := ⟨n - 1,by omega⟩
   rw [qat.l1,if_neg (by omega),List.drop_eq_nil_of_le (by omega),zIn]
   simp
  | succ e ih =>
   intro i n y hi hn hy
   obtain ⟨n,rfl⟩ : ∃ m,n = m + 1 := ⟨n - 1,by omega⟩
   rw [qat.l1,if_pos (by omega),if_pos (by omega),Int.toNat_natCast,qae (show i < l.length by omega) 0,zIn]
   by_cases c1 : l.getD i 0 < 0
   ·rw [if_pos c1,if_pos (.inl c1)]
   by_cases c2 : (out.length : Int) ≤ l.getD i 0
   ·rw [if_neg c1,if_pos c2,if_pos (.inr c2)]
   rw [if_neg c1,if_neg c2,if_neg (show ¬ (l.getD i 0 < 0 ∨ (out.length : Int) ≤ l.getD i 0) by omega),if_pos (by omega),if_pos (by omega),if_pos (by rw [List.length_singleton]; omega),qao (show i < l.length by omega) (by omega),ih (i + 1) n _ (by omega) (by omega) (by simp; omega)]
   cases zIn out (l.drop (i + 1)) with
   | none => rfl
   | some r => simp
 have := this l.length 0 n [] (by omega) (by omega) (Nat.le_refl _)
 rw [n0,List.drop_zero] at this
 rw [this]
 cases zIn out l <;> simp
theorem qfa (s : LI) (nm : ByteArray) (N : List Nd) (O : LI) (hn : nm.size ≤ 100000) (hN : ∀ x ∈ N,okN x) (h48 : N.length ≤ 48) (k : Nat) (hk : 200000 ≤ k) : ∀ (e i n : Nat) (out : List LI),N.length = i + e → e + 500 < n → out.length = i →
  qat.l0 k n N N.length i s nm N O out = some (if (zGo (rs nm) (N.drop i) out).1 = 0 then .inl (zGo (rs nm) (N.drop i) out).2 else .inr (zGo (rs nm) (N.drop i) out).1)
 | 0,i,n,out,hi,hn',ho => by
  obtain ⟨n,rfl⟩ : ∃ m,n = m + 1 := ⟨n - 1,by omega⟩
  rw [qat.l0,if_neg (by omega),List.drop_eq_nil_of_le (by omega),zGo,if_pos rfl]
 | e + 1,i,n,out,hi,hn',ho => by
  obtain ⟨n,rfl⟩ : ∃ m,n = m + 1 := ⟨n - 1,by omega⟩
  obtain ⟨h1,h2,h3⟩ := hN _ (qan (show i < N.length by omega) nd0)
  have hl1 := qig out (N.getD i nd0).2.1 h1 (by omega) N N.length i s nm N O (N.getD i nd0).1 (N.getD i nd0).2.1 (N.getD i nd0).2.2.1 (N.getD i nd0).2.2.2.1 (N.getD i nd0).2.2.2.2.1 (N.getD i nd0).2.2.2.2.2.1 (N.getD i nd0).2.2.2.2.2.2 n (by omega)
  rw [ho] at hl1
  rw [qat.l0,if_pos (by omega),if_pos (by omega),Int.toNat_natCast,hl1,obs,qae (show i < N.length by omega) nd0,zGo]
  generalize hx : N.getD i nd0 = x at h1 h2 h3 ⊢
  cases e1 : zIn out x.2.1 with
  | none =>
   have hz : zNd (rs nm) out x = (23,[]) := by unfold zNd; rw [e1]
   rw [hz]; rfl
  | some l =>
   have hl := qln e1
   dsimp only [Sum.elim_inl]
   rw [qdO _ _ _ _ _ _ _ l (by omega) (by omega) k (by omega),obs]
   by_cases c : (zSh x.1 x.2.2.1 x.2.2.2.1 x.2.2.2.2.1 x.2.2.2.2.2.1 l).1 = 0
   ·have hz : zNd (rs nm) out x = ((zNote (rs nm) (rs x.2.2.2.2.2.2) (zSh x.1 x.2.2.1 x.2.2.2.1 x.2.2.2.2.1 x.2.2.2.2.2.1 l).2.length).2.1,(zSh x.1 x.2.2.1 x.2.2.2.1 x.2.2.2.2.1 x.2.2.2.2.2.1 l).2) := by
     unfold zNd; rw [e1]; dsimp only; rw [if_pos c]
    rw [hz,if_pos c,qly _ _ _ (by omega) (by omega) k (by omega) (by omega),obs]
    dsimp only
    by_cases c2 : (zNote (rs nm) (rs x.2.2.2.2.2.2) (zSh x.1 x.2.2.1 x.2.2.2.1 x.2.2.2.2.1 x.2.2.2.2.2.1 l).2.length).2.1 = 0
    ·rw [if_pos c2,if_pos c2,if_pos (by rw [List.length_singleton]; omega),qao (show i < N.length by omega) (by omega),qfa s nm N O hn hN h48 k hk e (i + 1) n _ (by omega) (by omega) (by simp; omega)]
    ·rw [if_neg c2,if_neg c2,if_neg c2]
   ·have hz : zNd (rs nm) out x = ((zSh x.1 x.2.2.1 x.2.2.2.1 x.2.2.2.2.1 x.2.2.2.2.2.1 l).1,[]) := by
     unfold zNd; rw [e1]; dsimp only; rw [if_neg c]
    rw [hz,if_neg c,if_neg c,if_neg c]
theorem qiX (s : LI) (nm : ByteArray) (N : List Nd) (O : LI) (hn : nm.size ≤ 100000) (hN : ∀ x ∈ N,okN x) (k : Nat) (hk : 200000 ≤ k) : qat.f k s nm N O = some (zShs s nm N O) := by
 unfold qat.f zShs
 rw [qkF s nm N O hn k hk,obs]
 by_cases c1 : zMs s (rs nm) = true
 rotate_left
 ·rw [if_neg c1,if_neg c1]
 rw [if_pos c1,if_pos c1]
 by_cases c2 : 48 < N.length
 ·rw [if_pos (by omega),if_pos c2]
 by_cases c3 : 48 < O.length
 ·rw [if_neg (by omega),if_pos (by omega),if_neg c2,if_pos c3]
 have h0 := qfa s nm N O hn hN (by omega) k hk N.length 0 k [] (by omega) (by omega) rfl
 rw [n0,List.drop_zero] at h0
 rw [if_neg (by omega),if_neg (by omega),if_neg c2,if_neg c3,h0,obs]
 by_cases c4 : (zGo (rs nm) N []).1 = 0
 ·have l2 : ∀ T,qat.l2 k O O.length 0 s nm N O T = some (if O.all (fun k => decide (0 ≤ k ∧ k < (N.length : Int))) = true then .inl () else .inr 23) := fun T => by
   have := iter0 (L := fun n i (_ : Unit) => qat.l2 n O O.length i s nm N O T) (st := fun _=>()) (fun i => if (O.drop i).all (fun k => decide (0 ≤ k ∧ k < (N.length : Int))) = true then .inl () else .inr 23) (m := O.length) 0
    (fun n _ => by rw [qat.l2,if_neg (by omega),List.drop_eq_nil_of_le (Nat.le_refl _)]; rfl)
    (fun i n hi _ ih => by
     rw [qat.l2,if_pos (by omega),if_pos (by omega),Int.toNat_natCast,qae hi (0 : Int),List.all_cons]
     by_cases d1 : O.getD i 0 < 0
     ·rw [if_pos d1,decide_eq_false (by omega),Bool.false_and,if_neg Bool.false_ne_true]
     by_cases d2 : (N.length : Int) ≤ O.getD i 0
     ·rw [if_neg d1,if_pos d2,decide_eq_false (by omega),Bool.false_and,if_neg Bool.false_ne_true]
     rw [if_neg d1,if_neg d2,qao hi (by omega),ih,decide_eq_true (by omega),Bool.true_and]) k (by omega)
   rw [List.drop_zero] at this
   exact this
  rw [if_pos c4,if_pos c4,Sum.elim_inl,l2,obs]
  by_cases c5 : O.all (fun k => decide (0 ≤ k ∧ k < (N.length : Int))) = true
  ·rw [if_pos c5,if_pos c5,Sum.elim_inl,← c4]
  ·rw [if_neg c5,if_neg c5]; rfl
 ·rw [if_neg c4,if_neg c4]; rfl
theorem qec : ∀ (N : List Nd) (i : Nat),(zPar i N).length ≤ N.length
 | [],_ => Nat.le_refl _
 | x :: r,i => by
  have := qec r (i + 1)
  rw [zPar]
  split
  ·rw [List.length_cons,List.length_cons]; omega
  ·rw [List.length_cons]; omega
structure GrS (s : LI) (nm : ByteArray) (N : List Nd) (O : LI) : Prop where
 h1 : s.length ≤ 100000
 h2 : nm.size ≤ 100000
 h3 : N.length ≤ 100000
 h4 : O.length ≤ 100000
 ok : ∀ x ∈ N,okN x
 sm : ∀ x ∈ N,smN x
end Go.Pf

namespace Go.Pf
open Go Go.Vm
theorem within20 {a : Int} (ha : -9223372036854775808 ≤ a ∧ a < 9223372036854775808) : ∃ r,qcZ.f a 0 1048576 = some r ∧ 0 ≤ r ∧ r ≤ 1048576 := by
 unfold qcZ.f
 have w1 : (IntKind.i64.wrap ((IntKind.i64.wrap (1048576 - 0)) + 1) : Int) = 1048577 := by decide
 rw [w1]
 have t2 := Int.lt_tmod_of_pos a (show (0 : Int) < 1048577 by omega)
 have t3 := Int.tmod_lt_of_pos a (show (0 : Int) < 1048577 by omega)
 have key : ∃ r,(if (1048577 : Int) ≠ 0 then if a.tmod 1048577 < 0 then some (IntKind.i64.wrap (0 + (IntKind.i64.wrap ((IntKind.i64.wrap ((IntKind.i64.wrap ((a.tmod 1048577) + 1048576)) - 0)) + 1)))) else some (IntKind.i64.wrap (0 + (a.tmod 1048577))) else none) = some r ∧ 0 ≤ r ∧ r ≤ 1048576 := by
  rw [if_pos (by omega)]
  split
  ·rw [qal (n := a.tmod 1048577 + 1048576) (by omega) (by omega),qal (n := a.tmod 1048577 + 1048576 - 0) (by omega) (by omega),qal (n := a.tmod 1048577 + 1048576 - 0 + 1) (by omega) (by omega),qal (by omega) (by omega)]
   exact ⟨_,rfl,by omega,by omega⟩
  ·rw [qal (by omega) (by omega)]
   exact ⟨_,rfl,by omega,by omega⟩
 split
 ·split
  ·exact ⟨_,rfl,by omega,by omega⟩
  ·exact key
 ·exact key
theorem qgA {a n : Int} (ha : -9223372036854775808 ≤ a ∧ a < 9223372036854775808) (hn : 1 ≤ n) : ∃ r,qcR.f a n = some r ∧ 0 ≤ r ∧ r < n := by
 obtain ⟨r,e,r0,r1⟩ := within20 ha
 unfold qcR.f
 rw [e,obs,if_neg (show ¬ n < 1 by omega),if_pos (show n ≠ 0 by omega)]
 exact ⟨_,rfl,Int.tmod_nonneg _ (by omega),Int.tmod_lt_of_pos _ (by omega)⟩
def i64r (a : Int) : Prop := -9223372036854775808 ≤ a ∧ a < 9223372036854775808
theorem qeR (l : LI) (hl : l.length ≤ 1000) (a b c d : Int) (t : ByteArray) (hc : i64r c) : ∃ r,qbZ.f l a b c d t = some r ∧ r.length ≤ l.length + 1 := by
 unfold qbZ.f
 by_cases h : (l.length : Int) = 0
 ·rw [if_pos h]; exact ⟨_,rfl,by rw [List.length_singleton]; omega⟩
 obtain ⟨r,e,r0,r1⟩ := qgA hc (show 1 ≤ (l.length : Int) by omega)
 rw [if_neg h,if_pos (by omega),e,obs,List.nil_append,if_pos ⟨r0,r1⟩,if_pos (by omega)]
 exact ⟨_,rfl,by rw [List.length_set]; omega⟩
end Go.Pf

namespace Go.Pf
open Go Go.Vm
theorem upTo {R : Type} {L : Nat → Int → Option R} {res : R} (lo hi : Int) (N : Nat)
  (hend : ∀ n,N ≤ n → L (n + 1) hi = some res)
  (hstep : ∀ i n,lo ≤ i → i < hi → N ≤ n → L n (i + 1) = some res → L (n + 1) i = some res) : ∀ (e : Nat) (i : Int) (n : Nat),i + e = hi → lo ≤ i → e + N < n → L n i = some res
 | 0,i,n,hi',_,hn => by
  obtain ⟨n,rfl⟩ : ∃ q,n = q + 1 := ⟨n - 1,by omega⟩
  obtain rfl : i = hi := by omega
  exact hend n (by omega)
 | e + 1,i,n,hi',hl,hn => by
  obtain ⟨n,rfl⟩ : ∃ q,n = q + 1 := ⟨n - 1,by omega⟩
  exact hstep i n hl (by omega) (by omega) (upTo lo hi N hend hstep e (i + 1) n (by omega) (by omega) (by omega))
end Go.Pf

namespace Go.Pf
open Go Go.Vm
theorem rep_T {s : LI} (h : mSR s = true) (n : Int) : zT s (List.replicate (zSz s).toNat n) = true := by
 have := qbE fun x hx => ((qah h).2.1 x hx).1
 unfold zT
 rw [List.length_replicate,zSz,if_pos h]
 simp [h]; omega
theorem qli {op : Int} {s a : LI} {n h : Int} {l : List Tn} (hT : ∀ t ∈ l,zT t.1 t.2 = true) (h1 : op ≠ 1) (hF : zF op s.length a.length n h l.length = true) (e : (zWork op s a n h l).1 = 0) : zT (zWork op s a n h l).2.1 (zWork op s a n h l).2.2 = true := by
 have g : ∀ j,j < l.length → zT (l.getD j ([],[])).1 (l.getD j ([],[])).2 = true := fun j hj => hT _ (qan hj _)
 have gR : ∀ j,j < l.length → mSR (l.getD j ([],[])).1 = true := fun j hj => (qaM (g j hj)).1
 have t : ∀ {p : Prop} [Decidable p] {x y : Int × LI × LI},(p → x.1 = 0 → zT x.2.1 x.2.2 = true) → (¬ p → y.1 = 0 → zT y.2.1 y.2.2 = true) → (if p then x else y).1 = 0 → zT (if p then x else y).2.1 (if p then x else y).2.2 = true := fun hx hy => by
  split
  ·rename_i h; exact hx h
  ·rename_i h; exact hy h
 have w : ∀ {x : Int} {p : Prop},x ≠ 0 → p → ((x,[],[]) : Int × LI × LI).1 = 0 → zT ((x,[],[]) : Int × LI × LI).2.1 ((x,[],[]) : Int × LI × LI).2.2 = true := fun h _ hh => absurd hh h
 have z : ∀ {x y : LI} {p : Prop},(p → zT x y = true) → p → ((0,x,y) : Int × LI × LI).1 = 0 → zT ((0,x,y) : Int × LI × LI).2.1 ((0,x,y) : Int × LI × LI).2.2 = true := fun h hp _ => h hp
 have m0 := qi9 hF
 revert e
 unfold zWork
 refine t (fun _=>t (z fun hs => rep_T hs n) (w (by decide))) fun c2 => t (fun _=>t (fun hs => t (z fun _=>qhB hs _) (w (by decide))) (w (by decide))) fun c3 => t (fun c => z (fun _=>qpR (g 0 (by omega)) _) trivial) fun c4 =>
  t (fun c => t (z fun hh => by have := qpR (g 1 (by omega)) (fun i => if (l.getD 0 ([],[])).2.getD i 0 = 0 then (l.getD 2 ([],[])).2.getD i 0 else (l.getD 1 ([],[])).2.getD i 0); rw [hh.1] at this; exact this) (w (by decide))) fun c12 =>
  t (fun c => t (z fun hh => qhB (qil (gR 0 (by omega)) (qey.1 hh)) _) (w (by decide))) fun c13 => t (fun c => t (fun hs => t (z fun _=>qhB hs _) (w (by decide))) (w (by decide))) fun c14 =>
  t (fun c => t (z fun hh => qhB (qkm (gR 0 (by omega)) hh.2) _) (w (by decide))) fun c15 => t (fun c => t (fun hh => t (z fun hs => qhB hs _) (w (by decide))) (w (by decide))) fun c16 =>
  t (fun c => t (fun _=>?_) (w (by decide))) fun c17 => t (fun c => t (fun _=>t (fun _=>t (z fun hs => qqO hs) (w (by decide))) (w (by decide))) (w (by decide))) fun c18 =>
  t (fun c => t (fun _=>t (fun hz _ => ?_) (fun hz he => absurd he hz)) (w (by decide))) fun c19 => t (fun c => t (z fun hh => qhB (qoC (gR 0 (by omega)) (by omega) _ _) _) (w (by decide))) fun c20 => t (z fun hh => qpR (g 0 (by omega)) _) (w (by decide))
 ·unfold zJoin
  exact t (fun _=>t (fun hz => z (fun _=>qhB (qpM hz) _) trivial) fun hz he => absurd he hz) (w (by decide))
 ·have := qkp hz
  dsimp only
  rw [this.1]
  exact qhB this.2.1 _
def zNode (op : Int) (s a : LI) (n h : Int) (l : List Tn) : Int × LI × LI :=
 if l.all (fun t => zT t.1 t.2) = true then
  (if (zSh op s a n h (l.map (·.1))).1 = 0 then (if op = 1 then (22,[],[]) else zWork op s a n h l) else ((zSh op s a n h (l.map (·.1))).1,[],[]))
 else (13,[],[])
end Go.Pf

namespace Go.Pf
open Go Go.Vm
theorem qgx {s : LI} {L : Nat → Int → LI → Option LI} (f : LI → Int) {M : Nat} (hM : M = (pr s).toNat) (N : Nat)
  (hend : ∀ n y,N ≤ n → L (n + 1) (M : Int) y = some y)
  (hstep : ∀ (i n : Nat) (y : LI),i < M → N ≤ n → y.length = M → L (n + 1) (i : Int) y = L n ((i + 1 : Nat) : Int) (y.set i (f (pl s i)))) (c : Int) (n : Nat) (hn : M + N < n) : L n 0 (List.replicate M c) = some (made s f) := by
 have := iter0 (L := L) (st := fun (i : Nat) => (List.range i).map (fun (i : Nat) => f (pl s i)) ++ List.replicate (M - i) c) (fun _=>made s f) (m := M) N
  (fun n hn => by rw [hend n _ hn,Nat.sub_self,List.replicate_zero,List.append_nil,hM]; rfl)
  (fun i n hi hn ih => by
   rw [hstep i n _ hi hn (by simp; omega),qdG (fun (i : Nat) => f (pl s i)) hi,ih]) n (by omega)
 rw [Nat.sub_zero,List.range_zero,List.map_nil,List.nil_append] at this
 exact this
theorem qgs {s : LI} (hs : mSR s = true) : 0 ≤ pr s ∧ pr s ≤ 4096 ∧ zSz s = pr s := by
 have hb := qah hs
 exact ⟨qbE fun x hx => (hb.2.1 x hx).1,hb.2.2,by rw [zSz,if_pos hs]⟩
theorem qjz (s : LI) (n : Int) (k : Nat) (hk : 10000 ≤ k) : qd1.f k s n = some (if mSR s = true then (0,s,List.replicate (zSz s).toNat n) else (13,[],[])) := by
  unfold qd1.f
  rw [qbg _ k (by omega),obs]
  by_cases hs : mSR s = true
  rotate_left
  · rw [if_neg hs,if_neg hs]
  have hb := qah hs
  obtain ⟨h0,h1,h2⟩ := qgs hs
  have e : ∀ M : Nat,M = (pr s).toNat → List.replicate M n = made s fun _=>n := fun M hM => by
    rw [made,← hM]
    refine List.ext_getElem (by simp) fun i h1 h2 => ?_
    simp
  rw [if_pos hs,if_pos hs]
  unfold qar.f
  rw [qaH _ (by omega),obs,qbR _ k (by omega),obs,h2,if_pos (by omega),List.length_replicate,
    qgx (s := s) (L := fun m i y => qar.l0 k m s ((pr s).toNat : Int) i n s y) (fun _=>n) rfl 0 (fun m y _ => by rw [qar.l0,if_neg (by omega)]) (fun i m y hi _ hy => by
      rw [qar.l0,if_pos (by omega),qbH hs (by omega) (by omega) k (by omega),obs,qdL.f,obs,if_pos (by omega),if_pos (by omega),Int.toNat_natCast,qao hi (by omega)]) 0 k (by omega),obs,obs,e _ rfl]
theorem qjy (s : LI) (ax : Int) (k : Nat) (hk : 10000 ≤ k) : qd0.f k s ax = some (if mSR s = true then (if 0 ≤ ax ∧ ax < (s.length : Int) then (0,s,made s fun p => p.getD ax.toNat 0) else (1,[],[])) else (13,[],[])) := by
  unfold qd0.f
  rw [qbg _ k (by omega),obs]
  by_cases hs : mSR s = true
  rotate_left
  · rw [if_neg hs,if_neg hs]
  have hb := qah hs
  obtain ⟨h0,h1,h2⟩ := qgs hs
  rw [if_pos hs,if_pos hs]
  by_cases c1 : ax < 0
  · rw [if_pos c1,if_neg (by omega)]
  by_cases c2 : (s.length : Int) ≤ ax
  · rw [if_neg c1,if_pos c2,if_neg (by omega)]
  rw [if_neg c1,if_neg c2,if_pos (by omega)]
  unfold qaq.f
  rw [qaH _ (by omega),obs,qbR _ k (by omega),obs,h2,if_pos (by omega),List.length_replicate,
    qgx (s := s) (L := fun m i y => qaq.l0 k m s ((pr s).toNat : Int) i ax s y) (fun p => p.getD ax.toNat 0) rfl 0 (fun m y _ => by rw [qaq.l0,if_neg (by omega)]) (fun i m y hi _ hy => by
      have hpl := qco s i
      rw [qaq.l0,if_pos (by omega),qbH hs (by omega) (by omega) k (by omega),obs,qdK.f,if_pos (by omega),obs,if_pos (by omega),if_pos (by omega),Int.toNat_natCast,qao hi (by omega)]) 0 k (by omega),obs,obs]
theorem qoA (d : LI) (h : d.length ≤ 1000000) : qb6.f d = some d := by
 unfold qb6.f
 rw [if_pos (by omega),List.nil_append]
theorem qdM {s d : LI} (h : zT s d = true) : qcT.f s d = some (s,d) := by
 have := qcf h
 unfold qcT.f
 rw [qaH _ (by omega),obs,qoA _ (by omega),obs]
theorem qkM (op a b : Int) : qev.f op a b = some (stp op a b) := by
 unfold qev.f stp qfc.f
 repeat' split
 all_goals first | rfl | simp_all
theorem qij (l : List Tn) (hl : l.length ≤ 1000) (h0 : 0 < l.length) (k : Nat) (hk : 5000 ≤ k) : qeu.f k l = some (l.all fun t => zT t.1 t.2 && decide (t.1 = (l.getD 0 ([],[])).1)) := by
 have h1 : ∀ t : Tn,qd4.f k t.1 t.2 l = some (!(zT t.1 t.2 && decide (t.1 = (l.getD 0 ([],[])).1))) := fun t => by
  unfold qd4.f
  rw [qbj _ _ k (by omega),obs]
  cases c : zT t.1 t.2
  ·rw [if_neg Bool.false_ne_true]; rfl
  ·have := qcf c
   rw [if_pos rfl,if_pos (by omega),qef _ _ (by omega) k (by omega),obs,Bool.true_and]
 have := iter0 (L := fun n i (_ : Unit) => qai.l0 k n l l.length i l) (st := fun _=>()) (fun i => if (l.drop i).all (fun t => zT t.1 t.2 && decide (t.1 = (l.getD 0 ([],[])).1)) = true then .inl () else .inr ((i + ((l.drop i).takeWhile (fun t => zT t.1 t.2 && decide (t.1 = (l.getD 0 ([],[])).1))).length : Nat) : Int)) (m := l.length) 0
  (fun n _ => by rw [qai.l0,if_neg (by omega),List.drop_eq_nil_of_le (Nat.le_refl _)]; rfl)
  (fun i n hi _ ih => by
   rw [qai.l0,if_pos (by omega),if_pos (by omega),Int.toNat_natCast,h1,obs,qae hi (([],[]) : Tn),List.all_cons,List.takeWhile_cons]
   cases c : (zT (l.getD i ([],[])).1 (l.getD i ([],[])).2 && decide ((l.getD i ([],[])).1 = (l.getD 0 ([],[])).1))
   ·rw [if_pos (show (!false) = true from rfl),Bool.false_and,if_neg Bool.false_ne_true,if_neg Bool.false_ne_true]; rfl
   ·rw [if_neg (show ¬ (!true) = true from Bool.false_ne_true),qao hi (by omega),ih,Bool.true_and,if_pos rfl,List.length_cons,Nat.add_assoc i 1,Nat.add_comm 1]) k (by omega)
 rw [List.drop_zero] at this
 unfold qeu.f qaU.f qai.f
 rw [this,obs]
 cases c : l.all (fun t => zT t.1 t.2 && decide (t.1 = (l.getD 0 ([],[])).1))
 ·rw [if_neg Bool.false_ne_true,Sum.elim_inr,obs,obs,decide_eq_true (by omega)]; rfl
 ·rw [if_pos rfl,Sum.elim_inl,obs,obs]; rfl
theorem qk6 (g : Nat → Int) {d : LI} {i : Nat} (h : i < d.length) : ((List.range i).map g ++ d.drop i).set i (g i) = (List.range (i + 1)).map g ++ d.drop (i + 1) := by
 rw [qae h (0 : Int),List.range_succ,List.map_append,List.append_assoc]
 have : ((List.range i).map g ++ d.getD i 0 :: d.drop (i + 1)).set ((List.range i).map g).length (g i) = (List.range i).map g ++ ([i].map g ++ d.drop (i + 1)) := by
  rw [List.set_append_right (h := Nat.le_refl _),Nat.sub_self]; rfl
 rwa [List.length_map,List.length_range] at this
theorem qhz (op : Int) (s a s2 b : LI) (k : Nat) (hk : 10000 ≤ k) : qbV.f k op s a s2 b = some (if zT s a = true ∧ zT s2 b = true ∧ s2 = s then (0,s,tab a.length fun i => stp op (a.getD i 0) (b.getD i 0)) else (13,[],[])) := by
 unfold qbV.f
 rw [qij _ (by simp) (by simp) k (by omega),obs]
 have e : ([(s,a),(s2,b)] : List Tn).all (fun t => zT t.1 t.2 && decide (t.1 = (([(s,a),(s2,b)] : List Tn).getD 0 ([],[])).1)) = decide (zT s a = true ∧ zT s2 b = true ∧ s2 = s) := by
  show ((zT s a && decide (s = s)) && ((zT s2 b && decide (s2 = s)) && true)) = _
  by_cases c1 : zT s a = true
  ·by_cases c2 : zT s2 b = true
   ·simp [c1,c2]
   ·simp [c2]
  ·simp [c1]
 rw [e]
 by_cases c : zT s a = true ∧ zT s2 b = true ∧ s2 = s
 rotate_left
 ·rw [decide_eq_false c,if_neg Bool.false_ne_true,if_neg c]
 obtain ⟨hT,hT2,rfl⟩ := c
 have hs := qcf hT
 obtain ⟨_,hd⟩ := qaM hT
 obtain ⟨_,hd2⟩ := qaM hT2
 have hlen : b.length = a.length := by omega
 rw [decide_eq_true ⟨hT,hT2,rfl⟩,if_pos rfl,if_pos ⟨hT,hT2,rfl⟩,qdM hT,obs]
 have := iter0 (L := fun n i y => qbV.l0 n op b b.length i s2 a s2 y) (st := fun (i : Nat) => (List.range i).map (fun i => stp op (a.getD i 0) (b.getD i 0)) ++ a.drop i) (fun _=>tab a.length fun i => stp op (a.getD i 0) (b.getD i 0)) (m := b.length) 0
  (fun n _ => by rw [qbV.l0,if_neg (by omega),List.drop_eq_nil_of_le (by omega),List.append_nil,hlen]; rfl)
  (fun i n hi _ ih => by
   have hl : ((List.range i).map (fun i => stp op (a.getD i 0) (b.getD i 0)) ++ a.drop i).length = a.length := by simp; omega
   rw [qbV.l0,if_pos (by omega),if_pos (by omega),if_pos (by omega),Int.toNat_natCast,qkM,obs,if_pos (by rw [hl]; omega),if_pos (by rw [hl]; omega),qk6 (fun i => stp op (a.getD i 0) (b.getD i 0)) (show i < a.length by omega),qao hi (by omega),ih]) k (by omega)
 rw [List.range_zero,List.map_nil,List.nil_append,List.drop_zero] at this
 dsimp only
 rw [this,obs]
theorem qik (op : Int) (s a : LI) (k : Nat) (hk : 10000 ≤ k) (ho : op = 4 ∨ op = 5) : qew.f k op s a = some (if zT s a = true then (0,s,zOne op a) else (13,[],[])) := by
 have e : (tab a.length fun i => stp op (a.getD i 0) (a.getD i 0)) = zOne op a := by
  unfold zOne tab
  refine List.map_congr_left fun i _ => ?_
  rcases ho with rfl | rfl <;> rfl
 unfold qew.f
 rw [qhz _ _ _ _ _ k hk,e]
 simp only [eq_self,and_true,and_self]
 rcases ho with rfl | rfl
 ·rw [if_pos rfl,obs]
 ·rw [if_neg (by decide),if_pos rfl,obs]
theorem qlF (op : Int) (s a s2 b : LI) (k : Nat) (hk : 10000 ≤ k) (ho : 6 ≤ op ∧ op ≤ 11) : qfd.f k op s a s2 b = some (if zT s a = true ∧ zT s2 b = true ∧ s2 = s then (0,s,zTwo op a b) else (13,[],[])) := by
 unfold qfd.f
 rw [if_neg (by omega),if_neg (by omega),qhz _ _ _ _ _ k hk,obs]; rfl
theorem qkN (s c s1 a s2 b : LI) (k : Nat) (hk : 10000 ≤ k) : qca.f k s c s1 a s2 b = some (if zT s c = true ∧ (zT s1 a = true ∧ s1 = s) ∧ zT s2 b = true ∧ s2 = s then (0,s,zPick c a b) else (13,[],[])) := by
  unfold qca.f
  rw [qij _ (by simp) (by simp) k (by omega),obs]
  have e : ([(s,c),(s1,a),(s2,b)] : List Tn).all (fun t => zT t.1 t.2 && decide (t.1 = (([(s,c),(s1,a),(s2,b)] : List Tn).getD 0 ([],[])).1)) = decide (zT s c = true ∧ (zT s1 a = true ∧ s1 = s) ∧ zT s2 b = true ∧ s2 = s) := by
    show ((zT s c && decide (s = s)) && ((zT s1 a && decide (s1 = s)) && ((zT s2 b && decide (s2 = s)) && true))) = _
    by_cases c1 : zT s c = true
    · by_cases c2 : zT s1 a = true
      · by_cases c3 : zT s2 b = true
        · simp [c1,c2,c3]
        · simp [c3]
      · simp [c2]
    · simp [c1]
  rw [e]
  by_cases h : zT s c = true ∧ (zT s1 a = true ∧ s1 = s) ∧ zT s2 b = true ∧ s2 = s
  rotate_left
  · rw [decide_eq_false h,if_neg Bool.false_ne_true,if_neg h]
  rw [decide_eq_true h,if_pos rfl,if_pos h]
  obtain ⟨hT,⟨hT1,rfl⟩,hT2,rfl⟩ := h
  have hs := qcf hT
  obtain ⟨_,hd⟩ := qaM hT
  obtain ⟨_,hd1⟩ := qaM hT1
  obtain ⟨_,hd2⟩ := qaM hT2
  have hla : c.length = a.length := by omega
  have hlb : b.length = a.length := by omega
  rw [qdM hT2,obs]
  have := iter0 (L := fun n i y => qca.l0 n c c.length i s2 a s2 y) (st := fun (i : Nat) => (List.range i).map (fun i => if c.getD i 0 = 0 then b.getD i 0 else a.getD i 0) ++ b.drop i) (fun _=>zPick c a b) (m := c.length) 0
    (fun n _ => by rw [qca.l0,if_neg (by omega),List.drop_eq_nil_of_le (by omega),List.append_nil,hla]; rfl)
    (fun i n hi _ ih => by
      have hl : ((List.range i).map (fun i => if c.getD i 0 = 0 then b.getD i 0 else a.getD i 0) ++ b.drop i).length = a.length := by simp; omega
      have hf := qk6 (fun i => if c.getD i 0 = 0 then b.getD i 0 else a.getD i 0) (show i < b.length by omega)
      rw [qca.l0,if_pos (by omega),if_pos (by omega),Int.toNat_natCast,qao hi (by omega)]
      by_cases h0 : c.getD i 0 = 0
      · rw [if_pos h0]
        rw [if_pos h0] at hf
        have hg : ((List.range i).map (fun i => if c.getD i 0 = 0 then b.getD i 0 else a.getD i 0) ++ b.drop i).getD i 0 = b.getD i 0 := by
          rw [List.getD_eq_getElem?_getD,List.getElem?_append_right (by simp),List.length_map,List.length_range,Nat.sub_self,qae (show i < b.length by omega) (0 : Int)]; rfl
        rw [qfv hg.symm] at hf
        rw [hf,ih]
      · rw [if_neg h0,if_pos (by omega),if_pos (by rw [hl]; omega),if_pos (by rw [hl]; omega)]
        rw [if_neg h0] at hf
        rw [hf,ih]) k (by omega)
  rw [List.range_zero,List.map_nil,List.nil_append,List.drop_zero] at this
  dsimp only
  rw [this,obs]
end Go.Pf

namespace Go.Pf
open Go Go.Vm
theorem qiE (how : Int) : qeD.f how = some (zNone how) := by
 unfold qeD.f zNone
 repeat' split
 all_goals rfl
theorem qiD (how a b : Int) : qeC.f how a b = some (put how a b) := by
 unfold qeC.f put
 repeat' split
 all_goals rfl
theorem qny {s p : LI} (hr : mSR s = true) (hp : mIn s p = true) : zIx s p = ix s p := by
 unfold zIx
 rw [if_pos ⟨hr,hp⟩]
theorem qol (how : Int) (s d a : LI) (ha : a.length ≤ 17592186043904) (k : Nat) (hk : a.length + 10000 ≤ k) :
    qdw.f k how s d a = some (if 1 ≤ how ∧ how ≤ 4 then (if zT s d = true then (if zRi s.length (-1) a = true then (if mSR (lef a s) = true then (0,lef a s,zFold how s d a) else (13,[],[])) else (1,[],[])) else (13,[],[])) else (1,[],[])) := by
  unfold qdw.f
  rw [qfl,obs]
  by_cases c0 : 1 ≤ how ∧ how ≤ 4
  rotate_left
  · rw [decide_eq_false c0,if_neg (by decide),if_neg c0]
  rw [decide_eq_true c0,if_pos rfl,if_pos c0,qbj s d k (by omega),obs]
  by_cases hT : zT s d = true
  rotate_left
  · rw [if_neg hT,if_neg hT]
  have hs := qcf hT
  obtain ⟨hr,hd⟩ := qaM hT
  rw [if_pos hT,if_pos hT,qf2 s a (by omega) ha k (by omega),obs]
  by_cases hA : zRi s.length (-1) a = true
  rotate_left
  · rw [if_neg hA,if_neg hA,if_neg (by decide)]
  rw [if_pos hA,if_pos hA,if_pos rfl,qbg _ k (by omega),obs]
  by_cases hR : mSR (lef a s) = true
  rotate_left
  · rw [if_neg hR,if_neg hR]
  have hb := qah hR
  obtain ⟨h0,h1,h2⟩ := qgs hR
  have e0 : made (lef a s) (fun _=>zNone how) = fdA how s d a 0 := by
    rw [made]
    show _ = List.replicate (pr (lef a s)).toNat (zNone how)
    refine List.ext_getElem (by simp) fun i h1 h2 => ?_
    simp
  have hM : qaB.f k (lef a s) how = some (lef a s,fdA how s d a 0) := by
    unfold qaB.f
    rw [qaH _ (by omega),obs,qbR _ k (by omega),obs,h2,if_pos (by omega),List.length_replicate,
      qgx (s := lef a s) (L := fun m i y => qaB.l0 k m ((pr (lef a s)).toNat : Int) i (lef a s) how (lef a s) y) (fun _=>zNone how) rfl 0 (fun m y _ => by rw [qaB.l0,if_neg (by omega)]) (fun i m y hi _ hy => by
        rw [qaB.l0,if_pos (by omega),qbH hR (by omega) (by omega) k (by omega),obs,qgI.f,qiE,obs,obs,if_pos (by omega),if_pos (by omega),Int.toNat_natCast,qao hi (by omega)]) 0 k (by omega),obs,e0]
  rw [if_pos hR,if_pos hR,hM,obs]
  have l1 := iter0 (L := fun n i y => qdw.l0 k n a d d.length i how s d (lef a s) (lef a s) y) (st := fun i => fdA how s d a i) (fun _=>zFold how s d a) (m := d.length) 0
    (fun n _ => by rw [qdw.l0,if_neg (by omega)]; rfl)
    (fun i n hi hn ih => by
      have hpi : mIn s (pl s i) = true := qgt (fun x hx => (qcQ hr (by omega) x hx).1) i
      have hin : mIn (lef a s) (lef a (pl s i)) = true := qj1 a 0 hpi
      have hbb := qgB hin
      have hfl := qj9 how s d a i
      have hpl := qco s i
      rw [qdw.l0,if_pos (by omega),if_pos (by omega),Int.toNat_natCast,qbH hr (by omega) (by omega) k (by omega),obs,qf2 _ a (by omega) ha k (by omega),obs,hpl,if_pos hA,qdN _ _ k (by omega),obs]
      dsimp only
      rw [qny hR hin,if_pos (by rw [hfl]; omega),if_pos (by rw [hfl]; omega),qiD,obs,qao hi (by omega),← qj8,ih]) k (by omega)
  dsimp only
  rw [l1,obs]
theorem qlq (how : Int) (s d : LI) (ax w ap : Int) (k : Nat) (hk : 10000 ≤ k) :
    qe1.f k how s d ax w ap = some (if (1 ≤ how ∧ how ≤ 4) ∧ (1 ≤ w ∧ w ≤ 32) ∧ 1 ≤ ap ∧ ap ≤ 32 then (if zT s d = true then (if 0 ≤ ax ∧ ax < (s.length : Int) then (0,wsh s ax.toNat w ap,zWin how s d ax.toNat w ap) else (1,[],[])) else (13,[],[])) else (1,[],[])) := by
  unfold qe1.f
  rw [qhl,obs]
  by_cases c0 : (1 ≤ how ∧ how ≤ 4) ∧ (1 ≤ w ∧ w ≤ 32) ∧ 1 ≤ ap ∧ ap ≤ 32
  rotate_left
  · rw [decide_eq_false c0,if_neg (by decide),if_neg c0]
  rw [decide_eq_true c0,if_pos rfl,if_pos c0,qbj s d k (by omega),obs]
  by_cases hT : zT s d = true
  rotate_left
  · rw [if_neg hT,if_neg hT]
  have hs := qcf hT
  rw [if_pos hT,if_pos hT]
  by_cases c5 : ax < 0
  · rw [if_pos c5,if_neg (by omega)]
  by_cases c6 : (s.length : Int) ≤ ax
  · rw [if_neg c5,if_pos c6,if_neg (by omega)]
  obtain ⟨X,rfl⟩ : ∃ X : Nat,ax = X := ⟨ax.toNat,by omega⟩
  obtain ⟨hr,hd⟩ := qaM hT
  have hX : X < s.length := by omega
  have hsX := qir hr hX
  have hR := qoC hr hX w ap
  have hb := qah hR
  obtain ⟨h0,h1,h2⟩ := qgs hR
  rw [if_neg c5,if_neg c6,if_pos (show (0 : Int) ≤ X ∧ (X : Int) < s.length by omega),qaH _ (by omega),obs,if_pos (by omega),Int.toNat_natCast,if_pos hX,qhk (by omega) hsX.1 (by omega) (by omega),obs]
  rw [show s.set X (zWn (s.getD X 0) w ap) = wsh s X w ap from rfl]
  have hwl : (wsh s X w ap).length = s.length := by simp [wsh]
  have hone : ∀ p,mIn (wsh s X w ap) p = true → p.length = s.length → ∃ p',qbU.f k p how X ap w s d = some (winS how s d X ap p w.toNat,p') := fun p hpi hpl => by
    have hg := qma hX hpi (j := 0) (by omega) (by omega)
    unfold qbU.f
    rw [qiE,obs,if_pos (by omega),Int.toNat_natCast,if_pos (by omega),qal (n := p.getD X 0 * ap) (by omega) (by omega)]
    have l1 := iter0 (L := fun n j (y : Int × LI) => qbU.l0 k n y.1 (p.getD X 0 * ap) w j y.2 how (X : Int) ap w s d) (st := fun j => (winS how s d X ap p j,if j = 0 then p else p.set X (p.getD X 0 * ap + ((j - 1 : Nat) : Int)))) (fun _=>(winS how s d X ap p w.toNat,if w.toNat = 0 then p else p.set X (p.getD X 0 * ap + ((w.toNat - 1 : Nat) : Int)))) (m := w.toNat) 0
      (fun n _ => by rw [qbU.l0,if_neg (by omega)])
      (fun j n hj _ ih => by
        have hin := qma hX hpi (j := (j : Int)) (by omega) (by omega)
        have hcl : (if j = 0 then p else p.set X (p.getD X 0 * ap + ((j - 1 : Nat) : Int))).length = p.length := by split <;> simp
        have hps : ∀ v,(if j = 0 then p else p.set X (p.getD X 0 * ap + ((j - 1 : Nat) : Int))).set X v = p.set X v := fun v => by split <;> simp
        rw [if_neg (Nat.succ_ne_zero j),Nat.add_sub_cancel] at ih
        rw [qbU.l0,if_pos (by omega),if_pos (by rw [hcl]; omega),Int.toNat_natCast,if_pos (by rw [hcl]; omega),hps,qal (n := p.getD X 0 * ap + (j : Int)) (by omega) (by omega),qe2 hT _ k (by omega),obs,if_pos hin.1,qiD,obs,qao hj (by omega),← qkr,ih]) k (by omega)
    rw [if_pos rfl,show winS how s d X ap p 0 = zNone how from rfl] at l1
    rw [l1,obs]
    exact ⟨_,rfl⟩
  unfold qaw.f
  rw [qaH _ (by omega),obs,qbR _ k (by omega),obs,h2,if_pos (by omega),List.length_replicate,
    qgx (s := wsh s X w ap) (L := fun m i y => qaw.l0 k m ((pr (wsh s X w ap)).toNat : Int) i (wsh s X w ap) how X ap w s d (wsh s X w ap) y) (fun p => winS how s d X ap p w.toNat) rfl 0 (fun m y _ => by rw [qaw.l0,if_neg (by omega)]) (fun i m y hi _ hy => by
      have hpl := qco (wsh s X w ap) i
      obtain ⟨p',hp'⟩ := hone (pl (wsh s X w ap) i) (pl_Z hR (by omega)) (by omega)
      rw [qaw.l0,if_pos (by omega),qbH hR (by omega) (by omega) k (by omega),obs,hp',obs,if_pos (by omega),if_pos (by omega),Int.toNat_natCast,qao hi (by omega)]) 0 k (by omega),obs,obs]
  rfl
end Go.Pf

namespace Go.Pf
open Go Go.Vm
theorem qnl {a A b B : LI} {N : Nat} (hTa : zT a A = true) (hTb : zT b B = true) (hNa : N < a.length) (hNb : N < b.length) (he : a.take N = b.take N) (hl : a.getD (a.length - 1) 0 = b.getD N 0) {p : LI} (hp : mIn (dsh a b N) p = true) (x y : LI) (hx : x.length = a.length) (hy : y.length = b.length) (k : Nat) (hk : 5000 ≤ k) :
  ∃ x' y',qc9.f k p ((a.length : Int) - 1) N a A b B x y = some (dotS a A b B N p (b.getD N 0).toNat,x',y') ∧ x'.length = a.length ∧ y'.length = b.length := by
 have ha := qcf hTa
 have hb := qcf hTb
 obtain ⟨hra,hda⟩ := qaM hTa
 obtain ⟨hrb,hdb⟩ := qaM hTb
 have hbN := qir hrb hNb
 have hpl : p.length = (a.length - 1) + (b.length - (N + 1)) := by
  have := qen hp
  rw [this]
  unfold dsh
  rw [List.length_append,List.length_take,List.length_drop]; omega
 obtain ⟨la,hla⟩ : ∃ la : Nat,la = a.length - 1 := ⟨_,rfl⟩
 have hT1 : (p.take la).length = la := by rw [List.length_take]; omega
 have hT2 : (p.take N).length = N := by rw [List.length_take]; omega
 have hD : (p.drop la).length = b.length - (N + 1) := by rw [List.length_drop]; omega
 have ex : (p.take la).take x.length ++ x.drop (p.take la).length = p.take la ++ [x.getD la 0] := by
  rw [hT1,List.take_of_length_le (by omega),qae (show la < x.length by omega) (0 : Int),List.drop_eq_nil_of_le (by omega)]
 have ey1 : (p.take N).take y.length ++ y.drop (p.take N).length = p.take N ++ y.getD N 0 :: y.drop (N + 1) := by
  rw [hT2,List.take_of_length_le (by omega),qae (show N < y.length by omega) (0 : Int)]
 have ly1 : (p.take N ++ y.getD N 0 :: y.drop (N + 1)).length = b.length := by
  rw [List.length_append,List.length_cons,hT2,List.length_drop]; omega
 have ey2 : (p.take N ++ y.getD N 0 :: y.drop (N + 1)).take (N + 1) ++ (p.drop la).take (b.length - (N + 1)) ++ (p.take N ++ y.getD N 0 :: y.drop (N + 1)).drop (N + 1 + min (p.drop la).length (b.length - (N + 1))) = p.take N ++ y.getD N 0 :: p.drop la := by
  have hdn : (p.take N ++ y.getD N 0 :: y.drop (N + 1)).drop (N + 1 + min (p.drop la).length (b.length - (N + 1))) = [] := List.drop_eq_nil_of_le (by rw [ly1,hD]; omega)
  rw [hdn,List.append_nil,List.take_of_length_le (l := p.drop la) (by omega)]
  have : (p.take N ++ y.getD N 0 :: y.drop (N + 1)).take (N + 1) = p.take N ++ [y.getD N 0] := by
   rw [List.take_append,hT2,List.take_of_length_le (by omega),show N + 1 - N = 1 by omega]; rfl
  rw [this,List.append_assoc]; rfl
 have l0 : ∀ (e j n : Nat) (u v : Int),(b.getD N 0).toNat = j + e → e < n → ∃ u' v',qc9.l0 k n (dotS a A b B N p j) (a.getD la 0) j p (la : Int) N a A b B (p.take la ++ [u]) (p.take N ++ v :: p.drop la) = some (dotS a A b B N p (b.getD N 0).toNat,p.take la ++ [u'],p.take N ++ v' :: p.drop la) := by
  intro e
  induction e with
  | zero =>
   intro j n u v hj hn
   obtain ⟨n,rfl⟩ : ∃ m,n = m + 1 := ⟨n - 1,by omega⟩
   rw [hla] at *
   rw [qc9.l0,if_neg (by omega),hj]
   exact ⟨u,v,rfl⟩
  | succ e ih =>
   intro j n u v hj hn
   obtain ⟨n,rfl⟩ : ∃ m,n = m + 1 := ⟨n - 1,by omega⟩
   have hin := qpE hNa hNb he hl hp (j := (j : Int)) (by omega) (by omega)
   rw [← hla] at hin hl
   have s1 : (p.take la ++ [u]).set la (j : Int) = p.take la ++ [(j : Int)] := by
    rw [List.set_append_right (h := by omega),hT1,Nat.sub_self]; rfl
   have s2 : (p.take N ++ v :: p.drop la).set N (j : Int) = p.take N ++ (j : Int) :: p.drop la := by
    rw [List.set_append_right (h := by omega),hT2,Nat.sub_self]; rfl
   have n1 : (p.take la ++ [u]).length = a.length := by rw [List.length_append,hT1,List.length_singleton]; omega
   have n2 : (p.take N ++ v :: p.drop la).length = b.length := by rw [List.length_append,List.length_cons,hT2,hD]; omega
   have b1 := qgB hin.1
   have b2 := qgB hin.2
   have hs := qla a A b B N p j
   rw [← hla] at hs
   rw [qc9.l0,if_pos (by omega),if_pos (by rw [n1]; omega),Int.toNat_natCast,if_pos (by rw [n1]; omega),if_pos (by rw [n2]; omega),Int.toNat_natCast,if_pos (by rw [n2]; omega),s1,s2,qdN _ _ k (by omega),obs,qny hra hin.1,if_pos (by omega),qdN _ _ k (by omega),obs,qny hrb hin.2,if_pos (by omega),qal (n := (j : Int) + 1) (by omega) (by omega),show (j : Int) + 1 = ((j + 1 : Nat) : Int) by omega,← hs]
   exact ih (j + 1) n _ _ (by omega) (by omega)
 obtain ⟨u',v',e0⟩ := l0 (b.getD N 0).toNat 0 k (x.getD la 0) (y.getD N 0) (by omega) (by omega)
 have d0 : dotS a A b B N p 0 = 0 := rfl
 rw [d0,n0] at e0
 unfold qc9.f
 rw [show (a.length : Int) - 1 = (la : Int) by omega,qal (n := (N : Int) + 1) (by omega) (by omega),show ((N : Int) + 1).toNat = N + 1 by omega,Int.toNat_natCast,Int.toNat_natCast,List.drop_zero,List.drop_zero,List.take_length,ex,ey1,ly1,ey2,if_pos (by omega),if_pos (by omega),if_pos (by omega),if_pos (by omega),if_pos (by omega),e0,obs]
 exact ⟨_,_,rfl,by rw [List.length_append,hT1,List.length_singleton]; omega,by rw [List.length_append,List.length_cons,hT2,hD]; omega⟩
theorem qo5 (a A b B : LI) (n : Int) (k : Nat) (hk : 10000 ≤ k) :
  qk9.f k a A b B n = some (if zT a A = true ∧ zT b B = true then (if (zDS a b n).1 = 0 then (0,(zDS a b n).2,zDot a A b B n.toNat) else ((zDS a b n).1,[],[])) else (13,[],[])) := by
 unfold qk9.f
 rw [qbj _ _ k (by omega),obs]
 by_cases hTa : zT a A = true
 rotate_left
 ·rw [if_neg hTa,if_neg (fun h => hTa h.1)]
 rw [if_pos hTa,qbj _ _ k (by omega),obs]
 by_cases hTb : zT b B = true
 rotate_left
 ·rw [if_neg hTb,if_neg (fun h => hTb h.2)]
 rw [if_pos hTb,if_pos ⟨hTa,hTb⟩,qiI _ _ _ k (by omega),obs]
 by_cases c : (zDS a b n).1 = 0
 rotate_left
 ·rw [if_neg c,if_neg c]
 obtain ⟨e1,hR,n0',n1,n2,he,hl⟩ := qkp c
 have ha := qcf hTa
 have hb := qcf hTb
 have hRb := qah hR
 obtain ⟨h0,h1,h2⟩ := qgs hR
 obtain ⟨N,rfl⟩ : ∃ N : Nat,n = N := ⟨n.toNat,by omega⟩
 rw [Int.toNat_natCast] at *
 have loop : ∀ (M : Nat) (hM : M = (pr (dsh a b N)).toNat) (e i m : Nat) (x y z : LI),M = i + e → e < m → x.length = a.length → y.length = b.length → z = (List.range i).map (fun (i : Nat) => dotS a A b B N (pl (dsh a b N) i) (b.getD N 0).toNat) ++ List.replicate (M - i) 0 →
   ∃ x' y',qaK.l0 k m (M : Int) i (dsh a b N) ((a.length : Int) - 1) N a A b B x y (dsh a b N) z = some (x',y',zDot a A b B N) := by
  intro M hM e
  induction e with
  | zero =>
   intro i m x y z hi hm hx hy hz
   obtain ⟨m,rfl⟩ : ∃ q,m = q + 1 := ⟨m - 1,by omega⟩
   rw [qaK.l0,if_neg (by omega),hz,show M - i = 0 by omega,List.replicate_zero,List.append_nil,show i = (pr (dsh a b N)).toNat by omega]
   exact ⟨x,y,rfl⟩
  | succ e ih =>
   intro i m x y z hi hm hx hy hz
   obtain ⟨m,rfl⟩ : ∃ q,m = q + 1 := ⟨m - 1,by omega⟩
   obtain ⟨x',y',e2,hx',hy'⟩ := qnl hTa hTb n1 n2 he hl (pl_Z hR (i := i) (by omega)) x y hx hy k (by omega)
   have hzl : z.length = M := by rw [hz]; simp; omega
   rw [qaK.l0,if_pos (by omega),qbH hR (by omega) (by omega) k (by omega),obs,e2,obs,if_pos (by omega),if_pos (by omega),Int.toNat_natCast,qao (show i < M by omega) (by omega)]
   exact ih (i + 1) m x' y' _ (by omega) (by omega) hx' hy' (by rw [hz]; exact qdG (fun (i : Nat) => dotS a A b B N (pl (dsh a b N) i) (b.getD N 0).toNat) (show i < M by omega) 0)
 obtain ⟨x',y',e3⟩ := loop _ rfl (pr (dsh a b N)).toNat 0 k (List.replicate a.length 0) (List.replicate b.length 0) (List.replicate (pr (dsh a b N)).toNat 0) (by omega) (by omega) (by simp) (by simp) (by simp)
 rw [n0] at e3
 rw [if_pos c,if_pos c,if_pos (by omega),if_pos (by omega),e1,qal (n := (a.length : Int) - 1) (by omega) (by omega),Int.toNat_natCast,Int.toNat_natCast]
 unfold qaK.f
 rw [qaH _ (by omega),obs,qbR _ k (by omega),obs,h2,if_pos (by omega),List.length_replicate,e3,obs,obs]
end Go.Pf

namespace Go.Pf
open Go Go.Vm
theorem shp_0 {x : Int × LI × LI} : (shp x).1 = 0 ↔ x.1 = 0 := by
 unfold shp
 by_cases c : x.1 = 0
 ·rw [if_pos c]; exact ⟨fun _=>c,fun _=>rfl⟩
 ·rw [if_neg c]
theorem qjt {op : Int} {s a : LI} {n h : Int} {l : List Tn} (hT : l.all (fun t => zT t.1 t.2) = true) (h1 : op ≠ 1) (e : (zSh op s a n h (l.map (·.1))).1 = 0) : zF op s.length a.length n h l.length = true ∧ (zWork op s a n h l).1 = 0 ∧ (zWork op s a n h l).2.1 = (zSh op s a n h (l.map (·.1))).2 := by
 unfold zSh at e ⊢
 rw [List.length_map] at e ⊢
 by_cases hF : zF op s.length a.length n h l.length = true
 rotate_left
 ·rw [if_neg hF] at e; simp at e
 have hA : (l.map (·.1)).all mSR = true := by
  rw [List.all_map]
  exact List.all_eq_true.2 fun t ht => (qaM (List.all_eq_true.1 hT t ht)).1
 rw [if_pos hF,if_pos hA] at e ⊢
 have hs := qkk (List.all_eq_true.1 hT) h1 hF
 rw [← hs] at e ⊢
 have h0 := shp_0.1 e
 refine ⟨hF,h0,?_⟩
 unfold shp
 rw [if_pos h0]
theorem qka (l : List Tn) (hl : l.length ≤ 1000) (k : Nat) (hk : 5000 ≤ k) : qb1.f k l = some (if l.all (fun t => zT t.1 t.2) = true then (true,l.map (·.1)) else (false,[])) := by
 have := iter0 (L := fun n i y => qb1.l0 k n l l.length i y) (st := fun i => (l.take i).map (·.1)) (fun i => if (l.drop i).all (fun t => zT t.1 t.2) = true then .inl (l.map (·.1)) else .inr false) (m := l.length) 0
  (fun n _ => by rw [qb1.l0,if_neg (by omega),List.drop_eq_nil_of_le (Nat.le_refl _),List.take_length]; rfl)
  (fun i n hi _ ih => by
   have ht : (l.take (i + 1)).map (·.1) = (l.take i).map (·.1) ++ [(l.getD i ([],[])).1] := by
    rw [List.take_add_one,List.map_append,List.getD_eq_getElem?_getD,List.getElem?_eq_getElem hi]; rfl
   rw [ht] at ih
   rw [qb1.l0,if_pos (by omega),if_pos (by omega),Int.toNat_natCast,qbj _ _ k (by omega),obs,qae hi (([],[]) : Tn),List.all_cons]
   cases c : zT (l.getD i ([],[])).1 (l.getD i ([],[])).2
   ·rw [if_neg Bool.false_ne_true,Bool.false_and,if_neg Bool.false_ne_true]
   ·rw [if_pos rfl,if_pos (by rw [List.length_map,List.length_take,List.length_singleton]; omega),qao hi (by omega),ih,Bool.true_and]) k (by omega)
 rw [List.drop_zero,List.take_zero,List.map_nil] at this
 unfold qb1.f
 rw [this,obs]
 split <;> rfl
theorem qjT (l : List Tn) (hl : l.length ≤ 1000) (op : Int) (i' s a : LI) (n' h : Int) (nt : ByteArray) (k : Nat) (hk : 5000 ≤ k) : qb9.l0 k k l l l.length 0 op i' s a n' h nt [] = some (if l.all (fun t => zT t.1 t.2) = true then .inl (l.map (·.1)) else .inr 13) := by
 have := iter0 (L := fun n i y => qb9.l0 k n l l l.length i op i' s a n' h nt y) (st := fun i => (l.take i).map (·.1)) (fun i => if (l.drop i).all (fun t => zT t.1 t.2) = true then .inl (l.map (·.1)) else .inr 13) (m := l.length) 0
  (fun n _ => by rw [qb9.l0,if_neg (by omega),List.drop_eq_nil_of_le (Nat.le_refl _),List.take_length]; rfl)
  (fun i n hi _ ih => by
   have ht : (l.take (i + 1)).map (·.1) = (l.take i).map (·.1) ++ [(l.getD i ([],[])).1] := by
    rw [List.take_add_one,List.map_append,List.getD_eq_getElem?_getD,List.getElem?_eq_getElem hi]; rfl
   rw [ht] at ih
   rw [qb9.l0,if_pos (by omega),if_pos (by omega),Int.toNat_natCast,qbz _ _ k (by omega),obs,qae hi (([],[]) : Tn),List.all_cons]
   cases c : zT (l.getD i ([],[])).1 (l.getD i ([],[])).2
   ·rw [if_neg Bool.false_ne_true,Bool.false_and,if_neg Bool.false_ne_true]
   ·rw [if_pos rfl,if_pos (by rw [List.length_map,List.length_take,List.length_singleton]; omega),qao hi (by omega),ih,Bool.true_and]) k (by omega)
 rw [List.drop_zero,List.take_zero,List.map_nil] at this
 exact this
theorem qkI (op : Int) (i s a : LI) (n h : Int) (nt : ByteArray) (l : List Tn) (hl : l.length ≤ 400) (ha : a.length ≤ 17592186043904) (k : Nat) (hk : a.length + 20000 ≤ k) :
  qb9.f k op i s a n h nt l = some (zNode op s a n h l) := by
 unfold qb9.f zNode
 rw [qjT l (by omega) op i s a n h nt k (by omega),obs]
 by_cases hT : l.all (fun t => zT t.1 t.2) = true
 rotate_left
 ·rw [if_neg hT,if_neg hT]; rfl
 rw [if_pos hT,if_pos hT,Sum.elim_inl,qdO _ _ _ _ _ _ _ _ (by rw [List.length_map]; exact hl) ha k hk,obs]
 by_cases c : (zSh op s a n h (l.map (·.1))).1 = 0
 rotate_left
 ·rw [if_neg c,if_neg c]
 rw [if_pos c,if_pos c]
 by_cases h1 : op = 1
 ·rw [if_pos h1,if_pos h1]
 obtain ⟨hF,_⟩ := qjt hT h1 c
 rw [if_neg h1,if_neg h1,qe9 _ _ _ _ _ _ _ _ (List.all_eq_true.1 hT) hl h1 hF ha k hk,obs]
set_option maxHeartbeats 2000000 in
theorem qf3 (op : Int) (i s a : LI) (n h : Int) (nt : ByteArray) (l : List Tn) (hl : l.length ≤ 400) (ha : a.length ≤ 17592186043904) (k : Nat) (hk : a.length + 20000 ≤ k) :
  qd9.f k op i s a n h nt l = some (zNode op s a n h l) := by
 unfold qd9.f zNode
 rw [qka l (by omega) k (by omega),obs]
 by_cases hT : l.all (fun t => zT t.1 t.2) = true
 rotate_left
 ·rw [if_neg hT,if_neg hT]; rfl
 rw [if_pos hT,if_pos hT,if_pos rfl,qgE _ _ _ _ _ _ _ _ (by rw [List.length_map]; exact hl) ha k hk,obs]
 by_cases c : (zSh op s a n h (l.map (·.1))).1 = 0
 rotate_left
 ·rw [if_neg c,if_neg c]
 rw [if_pos c,if_pos c]
 by_cases h1 : op = 1
 ·rw [if_pos h1,if_pos h1]
 obtain ⟨hF,h0,_⟩ := qjt hT h1 c
 rw [if_neg h1,if_neg h1]
 have g : ∀ j,j < l.length → zT (l.getD j ([],[])).1 (l.getD j ([],[])).2 = true := fun j hj => List.all_eq_true.1 hT _ (qan hj _)
 have e3 : ∀ x : Int × LI × LI,(x.1,x.2.1,x.2.2) = x := fun _=>rfl
 rcases qi9 hF with ⟨rfl,m⟩ | ⟨rfl,m⟩ | ⟨rfl,m⟩ | ⟨rfl | rfl,m⟩ | ⟨c',m⟩ | ⟨rfl,m⟩ | ⟨rfl,m⟩ | ⟨rfl,m⟩ | ⟨rfl,m⟩ | ⟨rfl,m⟩ | ⟨rfl,m⟩ | ⟨rfl,m⟩ | ⟨rfl,m⟩ | ⟨rfl,m⟩
 ·exact absurd rfl h1
 ·simp only [zWork,Int.reduceEq,reduceIte]
  rw [qjz _ _ k (by omega),obs]
 ·simp only [zWork,Int.reduceEq,reduceIte] at h0 ⊢
  by_cases hs : mSR s = true
  rotate_left
  ·rw [if_neg hs] at h0; simp at h0
  rw [if_pos hs] at h0 ⊢
  by_cases c2 : a.length = 1 ∧ 0 ≤ a.getD 0 0 ∧ a.getD 0 0 < (s.length : Int)
  rotate_left
  ·rw [if_neg c2] at h0; simp at h0
  rw [if_pos (by omega),qjy _ _ k (by omega),obs,if_pos hs,if_pos c2.2,if_pos c2]
 ·simp only [zWork,Int.reduceEq,reduceIte,true_or]
  rw [if_pos (by omega),qik _ _ _ k (by omega) (.inl rfl),obs,if_pos (g 0 (by omega))]
 ·simp only [zWork,Int.reduceEq,reduceIte,or_true]
  rw [if_pos (by omega),qik _ _ _ k (by omega) (.inr rfl),obs,if_pos (g 0 (by omega))]
 ·have e : zWork op s a n h l = if (l.getD 1 ([],[])).1 = (l.getD 0 ([],[])).1 then (0,(l.getD 0 ([],[])).1,zTwo op (l.getD 0 ([],[])).2 (l.getD 1 ([],[])).2) else (13,[],[]) := by
   unfold zWork
   rw [if_neg (by omega),if_neg (by omega),if_neg (by omega),if_neg (by omega),if_neg (by omega),if_neg (by omega),if_neg (by omega),if_neg (by omega),if_neg (by omega),if_neg (by omega),if_neg (by omega),if_neg (by omega)]
  rw [if_neg (by omega),if_neg (by omega),if_neg (by omega),if_neg (by omega),if_neg (by omega),if_pos (by omega),if_pos (by omega),if_pos (by omega),qlF _ _ _ _ _ k (by omega) c',obs,e]
  by_cases e' : (l.getD 1 ([],[])).1 = (l.getD 0 ([],[])).1
  ·rw [if_pos e',if_pos ⟨g 0 (by omega),g 1 (by omega),e'⟩]
  ·rw [if_neg e',if_neg (fun hh => e' hh.2.2)]
 ·simp only [zWork,Int.reduceEq,reduceIte,or_self]
  rw [if_pos (by omega),if_pos (by omega),if_pos (by omega),qkN _ _ _ _ _ _ k (by omega),obs]
  by_cases e : (l.getD 1 ([],[])).1 = (l.getD 0 ([],[])).1 ∧ (l.getD 2 ([],[])).1 = (l.getD 0 ([],[])).1
  ·rw [if_pos e,if_pos ⟨g 0 (by omega),⟨g 1 (by omega),e.1⟩,g 2 (by omega),e.2⟩]
  ·rw [if_neg e,if_neg (fun hh => e ⟨hh.2.1.2,hh.2.2.2⟩)]
 ·simp only [zWork,qcJ.f,Int.reduceEq,Int.reduceLE,reduceIte,or_self,true_and]
  rw [if_pos (by omega),qlZ _ _ _ k (by omega),obs,obs,if_pos (g 0 (by omega))]
 ·simp only [zWork,qcJ.f,Int.reduceEq,Int.reduceLE,reduceIte,or_self,true_and]
  rw [if_pos (by omega),qkf _ _ _ _ k (by omega),obs,obs,if_pos (g 0 (by omega))]
 ·simp only [zWork,qcJ.f,Int.reduceEq,Int.reduceLE,reduceIte,or_self,true_and] at h0 ⊢
  by_cases c2 : a.length = 2 * (l.getD 0 ([],[])).1.length ∧ zSl (l.getD 0 ([],[])).1 (a.take (l.getD 0 ([],[])).1.length) (a.drop (l.getD 0 ([],[])).1.length) = true
  rotate_left
  ·rw [if_neg c2] at h0; simp at h0
  rw [if_pos (by omega),if_pos (by omega),if_pos (by omega),Int.toNat_natCast,List.drop_zero,List.take_length,qlg _ _ _ _ k (by omega),obs,obs,if_pos (g 0 (by omega)),if_pos c2.2,if_pos c2]
 ·simp only [zWork,qcJ.f,Int.reduceEq,Int.reduceLE,reduceIte,or_self,true_and] at h0 ⊢
  by_cases c2 : a.length = 2 * (l.getD 0 ([],[])).1.length ∧ zMay (l.getD 0 ([],[])).1 (a.take (l.getD 0 ([],[])).1.length) (a.drop (l.getD 0 ([],[])).1.length) = true
  rotate_left
  ·rw [if_neg c2] at h0; simp at h0
  rw [if_pos (by omega),if_pos (by omega),if_pos (by omega),Int.toNat_natCast,List.drop_zero,List.take_length,qnr _ _ _ _ _ k (by omega),obs,obs,if_pos (g 0 (by omega)),if_pos c2.2,if_pos c2]
 ·simp only [zWork,qcJ.f,Int.reduceEq,Int.reduceLE,reduceIte,or_self,true_and] at h0 ⊢
  by_cases c2 : a.length = 1
  rotate_left
  ·rw [if_neg c2] at h0; simp at h0
  rw [if_pos (by omega),if_pos (by omega),ql0 _ _ (by omega) k (by omega),obs,obs,if_pos c2]
 ·simp only [zWork,qcJ.f,Int.reduceEq,Int.reduceLE,reduceIte,or_self,true_and]
  rw [if_pos (by omega),qol _ _ _ _ ha k (by omega),obs,obs,if_pos (g 0 (by omega))]
 ·simp only [zWork,qcJ.f,Int.reduceEq,Int.reduceLE,reduceIte,or_self,true_and] at h0 ⊢
  by_cases c2 : a.length = 1
  rotate_left
  ·rw [if_neg c2] at h0; simp at h0
  rw [if_pos (by omega),if_pos (by omega),if_pos (by omega),qo5 _ _ _ _ _ k (by omega),obs,obs,if_pos ⟨g 0 (by omega),g 1 (by omega)⟩,if_pos c2]
 ·simp only [zWork,qcJ.f,Int.reduceEq,Int.reduceLE,reduceIte,or_self,true_and] at h0 ⊢
  by_cases c2 : a.length = 3 ∧ ((1 ≤ h ∧ h ≤ 4) ∧ (1 ≤ a.getD 1 0 ∧ a.getD 1 0 ≤ 32) ∧ 1 ≤ a.getD 2 0 ∧ a.getD 2 0 ≤ 32) ∧ 0 ≤ a.getD 0 0 ∧ a.getD 0 0 < ((l.getD 0 ([],[])).1.length : Int)
  rotate_left
  ·rw [if_neg c2] at h0; simp at h0
  rw [if_pos (by omega),if_pos (by omega),if_pos (by omega),if_pos (by omega),qlq _ _ _ _ _ _ k (by omega),obs,obs,if_pos c2.2.1,if_pos (g 0 (by omega)),if_pos c2.2.2,if_pos c2]
end Go.Pf

namespace Go.Pf
open Go Go.Vm
abbrev tn0 : Tn := ([],[])
def pS : List Nd → List LI
 | [] => []
 | x :: r => if x.1 = 1 then x.2.2.1 :: pS r else pS r
def zFl : List Tn → List LI → Bool
 | [],[] => true
 | t :: P,s :: Q => zT t.1 t.2 && decide (t.1 = s) && zFl P Q
 | _,_ => false
theorem qe0 : ∀ {P : List Tn} {Q : List LI},zFl P Q = true → P.length = Q.length
 | [],[],_ => rfl
 | _ :: _,_ :: _,h => by
  rw [zFl,Bool.and_eq_true] at h
  rw [List.length_cons,List.length_cons,qe0 h.2]
 | [],_ :: _,h => by simp [zFl] at h
 | _ :: _,[],h => by simp [zFl] at h
def zFit (s : LI) (nm : ByteArray) (N : List Nd) (O : LI) (P : List Tn) : Int :=
 if (zShs s nm N O).1 = 0 then (if zFl P (pS N) = true then 0 else 13) else (zShs s nm N O).1
def ins (out : List Tn) (x : Nd) : List Tn := x.2.1.map fun k => out.getD k.toNat tn0
def zEv : List Nd → List Tn → List Tn → List Tn
 | [],_,out => out
 | x :: r,P,out => if x.1 = 1 then zEv r P.tail (out ++ [P.getD 0 tn0]) else zEv r P (out ++ [(zWork x.1 x.2.2.1 x.2.2.2.1 x.2.2.2.2.1 x.2.2.2.2.2.1 (ins out x)).2])
def zAll (s : LI) (nm : ByteArray) (N : List Nd) (O : LI) (P : List Tn) : Int × List Tn := if zFit s nm N O P = 0 then (0,zEv N P []) else (zFit s nm N O P,[])
def zOut (s : LI) (nm : ByteArray) (N : List Nd) (O : LI) (P : List Tn) : Int × List Tn := if zFit s nm N O P = 0 then (0,O.map fun k => (zEv N P []).getD k.toNat tn0) else (zFit s nm N O P,[])
theorem qkn {s : LI} {nm : ByteArray} {N : List Nd} {O : LI} (h : (zShs s nm N O).1 = 0) : zGo (rs nm) N [] = (0,(zShs s nm N O).2) ∧ N.length ≤ 48 ∧ O.length ≤ 48 ∧ (∀ k ∈ O,0 ≤ k ∧ k < (N.length : Int)) ∧ zMs s (rs nm) = true := by
 unfold zShs at h ⊢
 by_cases c1 : zMs s (rs nm) = true
 rotate_left
 ·rw [if_neg c1] at h; simp at h
 rw [if_pos c1] at h ⊢
 by_cases c2 : 48 < N.length
 ·rw [if_pos c2] at h; simp at h
 rw [if_neg c2] at h ⊢
 by_cases c3 : 48 < O.length
 ·rw [if_pos c3] at h; simp at h
 rw [if_neg c3] at h ⊢
 by_cases c4 : (zGo (rs nm) N []).1 = 0
 rotate_left
 ·rw [if_neg c4] at h; exact absurd h c4
 rw [if_pos c4] at h ⊢
 by_cases c5 : O.all (fun k => decide (0 ≤ k ∧ k < (N.length : Int))) = true
 rotate_left
 ·rw [if_neg c5] at h; simp at h
 rw [if_pos c5]
 exact ⟨Prod.ext c4 rfl,by omega,by omega,fun k hk => of_decide_eq_true (List.all_eq_true.1 c5 k hk),c1⟩
theorem qgb {nm : LI} {o : List LI} {x : Nd} {s : LI} (h : zNd nm o x = (0,s)) (hx : x.1 = 1) : s = x.2.2.1 := by
 unfold zNd at h
 cases e : zIn o x.2.1 with
 | none => rw [e] at h; cases h
 | some l =>
  rw [e] at h
  dsimp only at h
  by_cases c : (zSh x.1 x.2.2.1 x.2.2.2.1 x.2.2.2.2.1 x.2.2.2.2.2.1 l).1 = 0
  rotate_left
  ·rw [if_neg c] at h; exact absurd (congrArg Prod.fst h) c
  rw [if_pos c] at h
  have h2 := congrArg Prod.snd h
  dsimp only at h2
  rw [← h2]
  rw [hx] at c ⊢
  unfold zSh at c ⊢
  split
  ·rename_i c1
   rw [if_pos c1] at c
   split
   ·rename_i c2
    rw [if_pos c2] at c
    simp only [zShape,true_or,if_true] at c ⊢
    split
    ·rfl
    ·rename_i c3
     rw [if_neg c3] at c; simp at c
   ·rename_i c2
    rw [if_neg c2] at c; simp at c
  ·rename_i c1
   rw [if_neg c1] at c; simp at c
theorem ql5 : ∀ (N : List Nd) (i : Nat),(∀ k ∈ zPar i N,(i : Int) ≤ k ∧ k < ((i + N.length : Nat) : Int) ∧ (N.getD (k - (i : Int)).toNat nd0).1 = 1) ∧ (zPar i N).map (fun (k : Int) => (N.getD (k - (i : Int)).toNat nd0).2.2.1) = pS N
  | [],i => ⟨fun k h => (by cases h),rfl⟩
  | x :: r,i => by
    obtain ⟨h1,h2⟩ := ql5 r (i + 1)
    have sh : ∀ k : Int,((i + 1 : Nat) : Int) ≤ k → (x :: r).getD (k - (i : Int)).toNat nd0 = r.getD (k - ((i + 1 : Nat) : Int)).toNat nd0 := fun k hk => by
      rw [show (k - (i : Int)).toNat = (k - ((i + 1 : Nat) : Int)).toNat + 1 by omega]; rfl
    have m : (zPar (i + 1) r).map (fun (k : Int) => ((x :: r).getD (k - (i : Int)).toNat nd0).2.2.1) = pS r := by
      rw [← h2]
      refine List.map_congr_left fun k hk => ?_
      rw [sh k (h1 k hk).1]
    rw [zPar,pS]
    by_cases c : x.1 = 1
    · rw [if_pos c,if_pos c]
      refine ⟨fun k hk => ?_,?_⟩
      · rcases List.mem_cons.1 hk with rfl | hk
        · exact ⟨Int.le_refl _,by rw [List.length_cons]; omega,by rw [Int.sub_self]; exact c⟩
        · have := h1 k hk
          exact ⟨by omega,by rw [List.length_cons]; omega,by rw [sh k this.1]; exact this.2.2⟩
      · rw [List.map_cons,m,Int.sub_self]; rfl
    · rw [if_neg c,if_neg c]
      exact ⟨fun k hk => by
        have := h1 k hk
        exact ⟨by omega,by rw [List.length_cons]; omega,by rw [sh k this.1]; exact this.2.2⟩,m⟩
theorem qdX (N : List Nd) : (∀ k ∈ zPar 0 N,0 ≤ k ∧ k < (N.length : Int) ∧ (N.getD k.toNat nd0).1 = 1) ∧ (zPar 0 N).map (fun k => (N.getD k.toNat nd0).2.2.1) = pS N := by
 have := ql5 N 0
 simp only [Nat.zero_add,Int.natCast_zero,Int.sub_zero] at this
 exact this
theorem qni (s : LI) (nm : ByteArray) (N : List Nd) (O : LI) (P : List Tn) (hn : nm.size ≤ 100000) (hN : ∀ x ∈ N,okN x) (hP : P.length ≤ 100000) (hN' : N.length ≤ 100000) (k : Nat) (hk : 200000 ≤ k) : qc8.f k s nm N O P = some (zFit s nm N O P) := by
 unfold qc8.f zFit
 rw [qi0 s nm N O hn hN k hk,obs]
 by_cases c : (zShs s nm N O).1 = 0
 rotate_left
 ·rw [if_neg c,if_neg c]
 obtain ⟨hgo,h48,_⟩ := qkn c
 obtain ⟨q1,q2⟩ := qdX N
 have hql := qec N 0
 have hS := qfV _ N [] (by rw [hgo])
 rw [hgo,List.length_nil,Nat.zero_add] at hS
 dsimp only at hS
 have hpl : (zPar 0 N).length = (pS N).length := by rw [← q2,List.length_map]
 rw [if_pos c,if_pos c,qi1 s nm N O hN' k hk,obs]
 by_cases cl : (zPar 0 N).length = P.length
 rotate_left
 ·rw [if_neg (by omega),if_neg (fun h => cl (by rw [hpl]; exact (qe0 h).symm))]
 have hsh : ∀ k ∈ zPar 0 N,(zShs s nm N O).2.getD k.toNat [] = (N.getD k.toNat nd0).2.2.1 := fun k hk => by
  obtain ⟨k0,k1,k2⟩ := q1 k hk
  have := qko _ N [] _ hgo k.toNat (by omega)
  rw [List.length_nil,Nat.zero_add] at this
  exact qgb this k2
 have := iter0 (L := fun n i (_ : Unit) => qc8.l0 k n P (zPar 0 N).length i (zShs s nm N O).2 (zPar 0 N)) (st := fun _=>()) (fun i => if zFl (P.drop i) (((zPar 0 N).drop i).map fun k => (N.getD k.toNat nd0).2.2.1) = true then .inl () else .inr 13) (m := (zPar 0 N).length) 0
  (fun n _ => by rw [qc8.l0,if_neg (by omega),List.drop_eq_nil_of_le (by omega),List.drop_eq_nil_of_le (by omega)]; rfl)
  (fun i n hi _ ih => by
   obtain ⟨k0,k1,k2⟩ := q1 _ (qan hi 0)
   rw [qc8.l0,if_pos (by omega),if_pos (by omega),Int.toNat_natCast,if_pos hi,if_pos (by omega),qbj _ _ k (by omega),obs,qae (show i < P.length by omega) tn0,qae hi (0 : Int),List.map_cons,zFl]
   cases cT : zT (P.getD i tn0).1 (P.getD i tn0).2
   ·rw [if_neg Bool.false_ne_true,Bool.false_and,Bool.false_and,if_neg Bool.false_ne_true]
   ·have := qcf cT
    rw [if_pos rfl,if_pos (by omega),if_pos (by omega),qef (P.getD i tn0).1 _ (by omega) k (by omega),obs,hsh _ (qan hi 0),Bool.true_and]
    cases cS : decide ((P.getD i tn0).1 = (N.getD ((zPar 0 N).getD i 0).toNat nd0).2.2.1)
    ·rw [if_neg Bool.false_ne_true,Bool.false_and,if_neg Bool.false_ne_true]
    ·rw [if_pos rfl,Bool.true_and,qao hi (by omega),ih]) k (by omega)
 rw [List.drop_zero,List.drop_zero,q2] at this
 rw [if_pos (by omega),this,obs]
 split <;> rfl
end Go.Pf

namespace Go.Pf
open Go Go.Vm
structure EvI (S : List LI) (i : Nat) (out : List Tn) : Prop where
 T : ∀ t ∈ out,zT t.1 t.2 = true
 sh : out.map (·.1) = S.take i
theorem EvI.len {S : List LI} {i : Nat} {out : List Tn} (h : EvI S i out) (hi : i ≤ S.length) : out.length = i := by
 have := congrArg List.length h.sh
 rw [List.length_map,List.length_take] at this
 omega
theorem qoj (l : List Tn) (j : Nat) : (l.map (·.1)).getD j [] = (l.getD j tn0).1 := by
 rw [List.getD_eq_getElem?_getD,List.getElem?_map,List.getD_eq_getElem?_getD]
 cases l[j]? <;> rfl
theorem ql8 {out : List LI} : ∀ {l : LI} {r : List LI},zIn out l = some r → (∀ x ∈ l,0 ≤ x ∧ x < (out.length : Int)) ∧ r = l.map fun x => out.getD x.toNat []
 | [],r,h => by cases h; exact ⟨fun x h => (by cases h),rfl⟩
 | x :: l,r,h => by
  rw [zIn] at h
  split at h
  ·cases h
  ·rename_i c
   cases e : zIn out l with
   | none => rw [e] at h; cases h
   | some q =>
    rw [e] at h
    cases h
    obtain ⟨h1,h2⟩ := ql8 e
    refine ⟨fun y hy => ?_,by rw [List.map_cons,h2]⟩
    rcases List.mem_cons.1 hy with rfl | hy
    ·omega
    ·exact h1 y hy
theorem qon {nm : LI} {S : List LI} {i : Nat} {out : List Tn} (hI : EvI S i out) {x : Nd} {s : LI} (h : zNd nm (S.take i) x = (0,s)) (h1 : x.1 ≠ 1) :
  (∀ k ∈ x.2.1,0 ≤ k ∧ k < (out.length : Int)) ∧ (∀ t ∈ ins out x,zT t.1 t.2 = true) ∧ zF x.1 x.2.2.1.length x.2.2.2.1.length x.2.2.2.2.1 x.2.2.2.2.2.1 (ins out x).length = true ∧ (zWork x.1 x.2.2.1 x.2.2.2.1 x.2.2.2.2.1 x.2.2.2.2.2.1 (ins out x)).1 = 0 ∧ (zWork x.1 x.2.2.1 x.2.2.2.1 x.2.2.2.2.1 x.2.2.2.2.2.1 (ins out x)).2.1 = s ∧
   zNode x.1 x.2.2.1 x.2.2.2.1 x.2.2.2.2.1 x.2.2.2.2.2.1 (ins out x) = zWork x.1 x.2.2.1 x.2.2.2.1 x.2.2.2.2.1 x.2.2.2.2.2.1 (ins out x) := by
 unfold zNd at h
 cases e : zIn (S.take i) x.2.1 with
 | none => rw [e] at h; cases h
 | some l =>
  rw [e] at h
  dsimp only at h
  obtain ⟨hr,hl⟩ := ql8 e
  have hlen : (S.take i).length = out.length := by rw [← hI.sh,List.length_map]
  rw [hlen] at hr
  have hT : ∀ t ∈ ins out x,zT t.1 t.2 = true := fun t ht => by
   obtain ⟨k,hk,rfl⟩ := List.mem_map.1 ht
   exact hI.T _ (qan (by have := hr k hk; omega) _)
  have hm : (ins out x).map (·.1) = l := by
   rw [hl,← hI.sh,ins,List.map_map]
   refine List.map_congr_left fun k _ => ?_
   rw [qoj]; rfl
  by_cases c : (zSh x.1 x.2.2.1 x.2.2.2.1 x.2.2.2.2.1 x.2.2.2.2.2.1 l).1 = 0
  rotate_left
  ·rw [if_neg c] at h; exact absurd (congrArg Prod.fst h) c
  rw [if_pos c] at h
  have h2 := congrArg Prod.snd h
  dsimp only at h2
  rw [← hm] at c h2
  obtain ⟨w1,w2,w3⟩ := qjt (List.all_eq_true.2 hT) h1 c
  refine ⟨hr,hT,w1,w2,by rw [w3,h2],?_⟩
  unfold zNode
  rw [if_pos (List.all_eq_true.2 hT),if_pos c,if_neg h1]
theorem qqt {S : List LI} {i : Nat} (h : i < S.length) : S.take (i + 1) = S.take i ++ [S.getD i []] := by
 rw [List.take_add_one,List.getD_eq_getElem?_getD,List.getElem?_eq_getElem h]; rfl
theorem EvI.snoc {S : List LI} {i : Nat} {out : List Tn} (h : EvI S i out) (hi : i < S.length) {t : Tn} (hT : zT t.1 t.2 = true) (hs : t.1 = S.getD i []) : EvI S (i + 1) (out ++ [t]) where
 T := fun u hu => by
  rcases List.mem_append.1 hu with hu | hu
  ·exact h.T u hu
  ·rw [List.mem_singleton] at hu; rw [hu]; exact hT
 sh := by rw [List.map_append,h.sh,qqt hi,List.map_cons,List.map_nil,hs]
theorem qlS (out : List Tn) (x : Nd) (hx : ∀ k ∈ x.2.1,0 ≤ k ∧ k < (out.length : Int)) (hl : x.2.1.length ≤ 400) (P : List Tn) (N : List Nd) (x23 x24 : Int) (z1 : Int) (z2 z3 z4 : LI) (z5 z6 : Int) (z7 : ByteArray) (n : Nat) (hn : 401 ≤ n) :
  qbB.l1 n P N x23 x24 x.2.1 x.2.1.length 0 out z1 z2 z3 z4 z5 z6 z7 [] = some (ins out x) := by
 have := iter0 (L := fun n j y => qbB.l1 n P N x23 x24 x.2.1 x.2.1.length j out z1 z2 z3 z4 z5 z6 z7 y) (st := fun j => (x.2.1.take j).map fun k => out.getD k.toNat tn0) (fun _=>ins out x) (m := x.2.1.length) 0
  (fun n _ => by rw [qbB.l1,if_neg (by omega),List.take_length]; rfl)
  (fun j n hj _ ih => by
   have hk := hx _ (qan hj 0)
   rw [qdl hj,List.map_append,List.map_cons,List.map_nil] at ih
   rw [qbB.l1,if_pos (by omega),if_pos (by omega),Int.toNat_natCast,if_pos hk,if_pos (by omega),if_pos (by rw [List.length_map,List.length_take,List.length_singleton]; omega),qao hj (by omega)]
   exact ih) n (by omega)
 rw [List.take_zero,List.map_nil] at this
 exact this
theorem qkJ (out : List Tn) (x : Nd) (hx : ∀ k ∈ x.2.1,0 ≤ k ∧ k < (out.length : Int)) (hl : x.2.1.length ≤ 400) (P : List Tn) (N : List Nd) (x11 x23 x24 : Int) (z1 : Int) (z2 z3 z4 : LI) (z5 z6 : Int) (z7 : ByteArray) (n : Nat) (hn : 401 ≤ n) :
  qaV.l2 n P x11 N x23 x24 x.2.1 x.2.1.length 0 out z1 z2 z3 z4 z5 z6 z7 [] = some (ins out x) := by
 have := iter0 (L := fun n j y => qaV.l2 n P x11 N x23 x24 x.2.1 x.2.1.length j out z1 z2 z3 z4 z5 z6 z7 y) (st := fun j => (x.2.1.take j).map fun k => out.getD k.toNat tn0) (fun _=>ins out x) (m := x.2.1.length) 0
  (fun n _ => by rw [qaV.l2,if_neg (by omega),List.take_length]; rfl)
  (fun j n hj _ ih => by
   have hk := hx _ (qan hj 0)
   rw [qdl hj,List.map_append,List.map_cons,List.map_nil] at ih
   rw [qaV.l2,if_pos (by omega),if_pos (by omega),Int.toNat_natCast,if_pos hk,if_pos (by omega),if_pos (by rw [List.length_map,List.length_take,List.length_singleton]; omega),qao hj (by omega)]
   exact ih) n (by omega)
 rw [List.take_zero,List.map_nil] at this
 exact this
theorem qeU {nm : LI} {S : List LI} {N : List Nd} (hgo : zGo nm N [] = (0,S)) (hN : ∀ x ∈ N,okN x) (h48 : N.length ≤ 48) (k : Nat) (hk : 200000 ≤ k) : ∀ (e i n : Nat) (P out : List Tn),N.length = i + e → e + 500 < n → EvI S i out → zFl P (pS (N.drop i)) = true → P.length ≤ 1000 →
  qbB.l0 k n P N N.length i out = some (.inl (zEv (N.drop i) P out)) ∧ EvI S N.length (zEv (N.drop i) P out)
 | 0,i,n,P,out,hi,hn,hI,hF,hP => by
  obtain ⟨n,rfl⟩ : ∃ m,n = m + 1 := ⟨n - 1,by omega⟩
  rw [qbB.l0,if_neg (by omega),List.drop_eq_nil_of_le (by omega),zEv]
  exact ⟨rfl,by rw [show N.length = i by omega]; exact hI⟩
 | e + 1,i,n,P,out,hi,hn,hI,hF,hP => by
  obtain ⟨n,rfl⟩ : ∃ m,n = m + 1 := ⟨n - 1,by omega⟩
  have hSl : S.length = N.length := by
   have := qfV nm N [] (by rw [hgo])
   rw [hgo] at this
   simpa using this
  have hol := hI.len (by omega)
  have hnd := qko nm N [] S hgo i (by omega)
  rw [List.length_nil,Nat.zero_add] at hnd
  obtain ⟨o1,o2,o3⟩ := hN _ (qan (show i < N.length by omega) nd0)
  rw [qae (show i < N.length by omega) nd0] at hF ⊢
  rw [qbB.l0,if_pos (by omega),if_pos (by omega),Int.toNat_natCast,zEv]
  rw [pS] at hF
  by_cases c : (N.getD i nd0).1 = 1
  ·rw [if_pos c] at hF
   cases P with
   | nil => simp [zFl] at hF
   | cons t P =>
    rw [zFl,Bool.and_eq_true,Bool.and_eq_true,decide_eq_true_eq] at hF
    obtain ⟨⟨f1,f2⟩,f3⟩ := hF
    have hs := qgb hnd c
    have ht : ((t :: P).getD 0 tn0) = t := rfl
    rw [if_pos c,if_pos c,if_pos (show (0 : Int) ≤ 0 ∧ 0 < ((t :: P).length : Int) by rw [List.length_cons]; omega),ht,qdM f1,obs,if_pos (by rw [List.length_singleton]; omega),if_pos (by rw [List.length_cons]; omega),List.take_length,List.drop_one,qao (show i < N.length by omega) (by omega)]
    exact qeU hgo hN h48 k hk e (i + 1) n P (out ++ [t]) (by omega) (by omega) (hI.snoc (by omega) f1 (by rw [f2,hs])) f3 (by rw [List.length_cons] at hP; omega)
  ·rw [if_neg c] at hF
   obtain ⟨g1,g2,g3,g4,g5,g6⟩ := qon hI hnd c
   rw [if_neg c,if_neg c,qlS out (N.getD i nd0) g1 o1 P N _ _ _ _ _ _ _ _ _ n (by omega),obs,qf3 (N.getD i nd0).1 (N.getD i nd0).2.1 (N.getD i nd0).2.2.1 (N.getD i nd0).2.2.2.1 (N.getD i nd0).2.2.2.2.1 (N.getD i nd0).2.2.2.2.2.1 (N.getD i nd0).2.2.2.2.2.2 (ins out (N.getD i nd0)) (by rw [ins,List.length_map]; exact o1) (by omega) k (by omega),obs,g6,if_pos g4,if_pos (by rw [List.length_singleton]; omega),qao (show i < N.length by omega) (by omega)]
   exact qeU hgo hN h48 k hk e (i + 1) n P _ (by omega) (by omega) (hI.snoc (by omega) (qli g2 c g3 g4) g5) hF hP
theorem qqs {s : LI} {nm : ByteArray} {N : List Nd} {O : LI} {P : List Tn} (hN : ∀ x ∈ N,okN x) (h : zFit s nm N O P = 0) : EvI (zShs s nm N O).2 N.length (zEv N P []) ∧ (zShs s nm N O).1 = 0 ∧ zFl P (pS N) = true := by
 unfold zFit at h
 by_cases c : (zShs s nm N O).1 = 0
 rotate_left
 ·rw [if_neg c] at h; exact absurd h c
 rw [if_pos c] at h
 by_cases c2 : zFl P (pS N) = true
 rotate_left
 ·rw [if_neg c2] at h; simp at h
 obtain ⟨hgo,h48,_⟩ := qkn c
 have hP : P.length ≤ 1000 := by
  have h1 := qe0 c2
  have h2 := congrArg List.length (qdX N).2
  have h3 := qec N 0
  rw [List.length_map] at h2; omega
 have := qeU hgo hN h48 200000 (Nat.le_refl _) N.length 0 1000 P [] (by omega) (by omega) ⟨fun t h => (by cases h),rfl⟩ (by rw [List.drop_zero]; exact c2) hP
 rw [List.drop_zero] at this
 exact ⟨this.2,c,c2⟩
theorem qha (s : LI) (nm : ByteArray) (N : List Nd) (O : LI) (P : List Tn) (hn : nm.size ≤ 100000) (hN : ∀ x ∈ N,okN x) (hP : P.length ≤ 100000) (hN' : N.length ≤ 100000) (k : Nat) (hk : 200000 ≤ k) : qbB.f k s nm N O P = some (zAll s nm N O P) := by
 unfold qbB.f zAll
 rw [qni s nm N O P hn hN hP hN' k hk,obs]
 by_cases c : zFit s nm N O P = 0
 rotate_left
 ·rw [if_neg c,if_neg c]
 obtain ⟨_,c1,c2⟩ := qqs hN c
 obtain ⟨hgo,h48,_⟩ := qkn c1
 have hP' : P.length ≤ 1000 := by
  have h1 := qe0 c2
  have h2 := congrArg List.length (qdX N).2
  have h3 := qec N 0
  rw [List.length_map] at h2; omega
 have := (qeU hgo hN h48 k hk N.length 0 k P [] (by omega) (by omega) ⟨fun t h => (by cases h),rfl⟩ (by rw [List.drop_zero]; exact c2) hP').1
 rw [n0,List.drop_zero] at this
 rw [if_pos c,if_pos c,this,obs]; rfl
theorem qkP {s : LI} {nm : ByteArray} {N : List Nd} {O : LI} {P : List Tn} (hN : ∀ x ∈ N,okN x) (h : zFit s nm N O P = 0) : (zEv N P []).length = N.length ∧ (∀ t ∈ zEv N P [],zT t.1 t.2 = true) ∧ O.length ≤ 48 ∧ N.length ≤ 48 ∧ ∀ k ∈ O,0 ≤ k ∧ k < (N.length : Int) := by
 obtain ⟨hI,c1,c2⟩ := qqs hN h
 obtain ⟨hgo,h48,hO,hx,_⟩ := qkn c1
 have hSl := qfV _ N [] (by rw [hgo])
 rw [hgo,List.length_nil,Nat.zero_add] at hSl
 exact ⟨hI.len (by dsimp only at hSl; omega),hI.T,hO,h48,hx⟩
theorem qdx (s : LI) (nm : ByteArray) (N : List Nd) (O : LI) (P : List Tn) (hn : nm.size ≤ 100000) (hN : ∀ x ∈ N,okN x) (hP : P.length ≤ 100000) (hN' : N.length ≤ 100000) (k : Nat) (hk : 200000 ≤ k) : qbL.f k s nm N O P = some (zOut s nm N O P) := by
 unfold qbL.f zOut
 rw [qha s nm N O P hn hN hP hN' k hk,obs]
 unfold zAll
 by_cases c : zFit s nm N O P = 0
 rotate_left
 ·rw [if_neg c,if_neg c,if_neg c]
 obtain ⟨h1,h2,h3,h4,h5⟩ := qkP hN c
 rw [if_pos c,if_pos c,if_pos rfl]
 dsimp only
 have := iter0 (L := fun n i y => qbL.l0 n O O.length i (zEv N P []) y) (st := fun i => (O.take i).map fun k => (zEv N P []).getD k.toNat tn0) (fun _=>O.map fun k => (zEv N P []).getD k.toNat tn0) (m := O.length) 0
  (fun n _ => by rw [qbL.l0,if_neg (by omega),List.take_length])
  (fun i n hi _ ih => by
   have hx := h5 _ (qan hi 0)
   rw [qdl hi,List.map_append,List.map_cons,List.map_nil] at ih
   rw [qbL.l0,if_pos (by omega),if_pos (by omega),Int.toNat_natCast,if_pos (by omega),if_pos (by omega),qdM (h2 _ (qan (by omega) tn0)),obs,if_pos (by rw [List.length_map,List.length_take,List.length_singleton]; omega),qao hi (by omega)]
   exact ih) k (by omega)
 rw [List.take_zero,List.map_nil] at this
 rw [this,obs]
end Go.Pf

namespace Go.Pf
open Go Go.Vm
theorem qjS (s : LI) (nm : ByteArray) (N : List Nd) (O : LI) (hn : nm.size ≤ 100000) (hN : ∀ x ∈ N,okN x) (k : Nat) (hk : 200000 ≤ k) : qd3.f k s nm N O = some (zShs s nm N O).1 := by
 unfold qd3.f
 rw [qiX s nm N O hn hN k hk,obs]
theorem qfb {nm : LI} {S : List LI} {N : List Nd} (hgo : zGo nm N [] = (0,S)) (hN : ∀ x ∈ N,okN x) (h48 : N.length ≤ 48) (P0 : List Tn) (hP : P0.length ≤ 1000) (k : Nat) (hk : 200000 ≤ k) : ∀ (e i j n : Nat) (out : List Tn),N.length = i + e → e + 500 < n → EvI S i out → zFl (P0.drop j) (pS (N.drop i)) = true → j ≤ P0.length →
  qaV.l1 k n P0 j N N.length i out = some (zEv (N.drop i) (P0.drop j) out)
 | 0,i,j,n,out,hi,hn,hI,hF,hj => by
  obtain ⟨n,rfl⟩ : ∃ m,n = m + 1 := ⟨n - 1,by omega⟩
  rw [qaV.l1,if_neg (by omega),List.drop_eq_nil_of_le (as := N) (by omega),zEv]
 | e + 1,i,j,n,out,hi,hn,hI,hF,hj => by
  obtain ⟨n,rfl⟩ : ∃ m,n = m + 1 := ⟨n - 1,by omega⟩
  have hSl : S.length = N.length := by
   have := qfV nm N [] (by rw [hgo])
   rw [hgo] at this
   simpa using this
  have hol := hI.len (by omega)
  have hnd := qko nm N [] S hgo i (by omega)
  rw [List.length_nil,Nat.zero_add] at hnd
  obtain ⟨o1,o2,o3⟩ := hN _ (qan (show i < N.length by omega) nd0)
  rw [qae (show i < N.length by omega) nd0] at hF ⊢
  rw [qaV.l1,if_pos (by omega),if_pos (by omega),Int.toNat_natCast,zEv]
  rw [pS] at hF
  by_cases c : (N.getD i nd0).1 = 1
  ·rw [if_pos c] at hF
   have hj' : j < P0.length := by
    have := qe0 hF
    rw [List.length_cons,List.length_drop] at this; omega
   rw [qae hj' tn0] at hF ⊢
   rw [zFl,Bool.and_eq_true,Bool.and_eq_true,decide_eq_true_eq] at hF
   obtain ⟨⟨f1,f2⟩,f3⟩ := hF
   have hs := qgb hnd c
   have ih := qfb hgo hN h48 P0 hP k hk e (i + 1) (j + 1) n (out ++ [P0.getD j tn0]) (by omega) (by omega) (hI.snoc (by omega) f1 (by rw [f2,hs])) f3 (by omega)
   rw [if_pos c,if_pos c,if_pos (by omega),if_pos (by rw [List.length_singleton]; omega),Int.toNat_natCast,qao hj' (by omega),qao (show i < N.length by omega) (by omega)]
   exact ih
  ·rw [if_neg c] at hF
   obtain ⟨g1,g2,g3,g4,g5,g6⟩ := qon hI hnd c
   have hw := qe9 (N.getD i nd0).1 (N.getD i nd0).2.1 (N.getD i nd0).2.2.1 (N.getD i nd0).2.2.2.1 (N.getD i nd0).2.2.2.2.1 (N.getD i nd0).2.2.2.2.2.1 (N.getD i nd0).2.2.2.2.2.2 (ins out (N.getD i nd0)) g2 (by rw [ins,List.length_map]; exact o1) c g3 (by omega) k (by omega)
   rw [if_neg c,if_neg c,qkJ out (N.getD i nd0) g1 o1 P0 N _ _ _ _ _ _ _ _ _ _ n (by omega),obs,hw,obs,if_pos (by rw [List.length_singleton]; omega),qao (show i < N.length by omega) (by omega)]
   exact qfb hgo hN h48 P0 hP k hk e (i + 1) j n _ (by omega) (by omega) (hI.snoc (by omega) (qli g2 c g3 g4) g5) hF hj
theorem qih (s : LI) (nm : ByteArray) (N : List Nd) (O : LI) (P : List Tn) (hn : nm.size ≤ 100000) (hN : ∀ x ∈ N,okN x) (hP : P.length ≤ 100000) (hN' : N.length ≤ 100000) (k : Nat) (hk : 200000 ≤ k) : qaV.f k s nm N O P = some (zAll s nm N O P) := by
 unfold qaV.f zAll
 rw [qjS s nm N O hn hN k hk,obs]
 by_cases c1 : (zShs s nm N O).1 = 0
 rotate_left
 ·have : zFit s nm N O P = (zShs s nm N O).1 := by unfold zFit; rw [if_neg c1]
  rw [if_neg c1,this,if_neg c1]
 obtain ⟨hgo,h48,_⟩ := qkn c1
 obtain ⟨q1,q2⟩ := qdX N
 have hql := qec N 0
 have hpl : (zPar 0 N).length = (pS N).length := by rw [← q2,List.length_map]
 have hz : zFit s nm N O P = if zFl P (pS N) = true then 0 else 13 := by unfold zFit; rw [if_pos c1]
 rw [if_pos c1,qem s nm N O hN' k hk,obs,hz]
 by_cases cl : (zPar 0 N).length = P.length
 rotate_left
 ·have : ¬ zFl P (pS N) = true := fun h => cl (by rw [hpl]; exact (qe0 h).symm)
  rw [if_neg (by omega),if_neg this,if_neg (by decide)]
 have := iter0 (L := fun n i (_ : Unit) => qaV.l0 k n P (zPar 0 N).length i s nm N O (zPar 0 N)) (st := fun _=>()) (fun i => if zFl (P.drop i) (((zPar 0 N).drop i).map fun k => (N.getD k.toNat nd0).2.2.1) = true then .inl () else .inr 13) (m := (zPar 0 N).length) 0
  (fun n _ => by rw [qaV.l0,if_neg (by omega),List.drop_eq_nil_of_le (by omega),List.drop_eq_nil_of_le (by omega)]; rfl)
  (fun i n hi _ ih => by
   obtain ⟨k0,k1,k2⟩ := q1 _ (qan hi 0)
   rw [qaV.l0,if_pos (by omega),if_pos (by omega),Int.toNat_natCast,if_pos hi,if_pos (by omega),qbz _ _ k (by omega),obs,qae (show i < P.length by omega) tn0,qae hi (0 : Int),List.map_cons,zFl]
   cases cT : zT (P.getD i tn0).1 (P.getD i tn0).2
   ·rw [if_neg Bool.false_ne_true,Bool.false_and,Bool.false_and,if_neg Bool.false_ne_true]
   ·have := qcf cT
    rw [if_pos rfl,if_pos (by omega),qeM (P.getD i tn0).1 _ (by omega) k (by omega),obs,Bool.true_and]
    cases cS : decide ((P.getD i tn0).1 = (N.getD ((zPar 0 N).getD i 0).toNat nd0).2.2.1)
    ·rw [if_neg Bool.false_ne_true,Bool.false_and,if_neg Bool.false_ne_true]
    ·rw [if_pos rfl,Bool.true_and,qao hi (by omega),ih]) k (by omega)
 rw [List.drop_zero,List.drop_zero,q2] at this
 rw [if_pos (by omega),this,obs]
 by_cases c2 : zFl P (pS N) = true
 rotate_left
 ·rw [if_neg c2,if_neg c2,if_neg (by decide)]; rfl
 have h2 := qfb hgo hN h48 P (by omega) k hk N.length 0 0 k [] (by omega) (by omega) ⟨fun t h => (by cases h),rfl⟩ (by rw [List.drop_zero,List.drop_zero]; exact c2) (Nat.zero_le _)
 rw [n0,List.drop_zero,List.drop_zero] at h2
 rw [if_pos c2,if_pos c2,if_pos rfl,Sum.elim_inl,h2,obs]
theorem qkH (s : LI) (nm : ByteArray) (N : List Nd) (O : LI) (P : List Tn) (hn : nm.size ≤ 100000) (hN : ∀ x ∈ N,okN x) (hP : P.length ≤ 100000) (hN' : N.length ≤ 100000) (k : Nat) (hk : 200000 ≤ k) : qci.f k s nm N O P = some (zOut s nm N O P) := by
 unfold qci.f zOut
 rw [qih s nm N O P hn hN hP hN' k hk,obs]
 unfold zAll
 by_cases c : zFit s nm N O P = 0
 rotate_left
 ·rw [if_neg c,if_neg c,if_neg c]
 obtain ⟨h1,h2,h3,h4,h5⟩ := qkP hN c
 rw [if_pos c,if_pos c,if_pos rfl]
 dsimp only
 have := iter0 (L := fun n i y => qci.l0 n O O.length i (zEv N P []) y) (st := fun i => (O.take i).map fun k => (zEv N P []).getD k.toNat tn0) (fun _=>O.map fun k => (zEv N P []).getD k.toNat tn0) (m := O.length) 0
  (fun n _ => by rw [qci.l0,if_neg (by omega),List.take_length])
  (fun i n hi _ ih => by
   have hx := h5 _ (qan hi 0)
   rw [qdl hi,List.map_append,List.map_cons,List.map_nil] at ih
   rw [qci.l0,if_pos (by omega),if_pos (by omega),Int.toNat_natCast,if_pos (by omega),if_pos (by omega),if_pos (by rw [List.length_map,List.length_take,List.length_singleton]; omega),qao hi (by omega)]
   exact ih) k (by omega)
 rw [List.take_zero,List.map_nil] at this
 rw [this,obs]
def smT (l : List Tn) : Prop := l.length ≤ 100000 ∧ ∀ t ∈ l,t.1.length ≤ 100000 ∧ t.2.length ≤ 100000
theorem qc5 (l : List Tn) (h : smT l) (k : Nat) (hk : 200000 ≤ k) : qbf.f k l l = some true := by
 obtain ⟨h1,h2⟩ := h
 unfold qbf.f
 have := iter0 (L := fun n i (_ : Unit) => qbf.l0 k n l l i) (st := fun _=>()) (fun _=>.inl ()) (m := l.length) 0
  (fun n _ => by rw [qbf.l0,if_neg (by omega)])
  (fun i n hi _ ih => by
   obtain ⟨a1,a2⟩ := h2 _ (qan hi tn0)
   rw [qbf.l0,if_pos (by omega),if_pos (by omega),if_pos (by omega),Int.toNat_natCast,qel (l.getD i tn0).1 (l.getD i tn0).2 k (by omega) (by omega) (by omega) (by omega),obs,if_pos rfl,qao hi (by omega),ih]) k (by omega)
 rw [if_pos rfl,this,obs]; rfl
theorem qpi {l : List Tn} (h : l.length ≤ 100000) (hT : ∀ t ∈ l,zT t.1 t.2 = true) : smT l := ⟨h,fun t ht => by have := qcf (hT t ht); exact ⟨by omega,by omega⟩⟩
theorem qpO {s : LI} {nm : ByteArray} {N : List Nd} {O : LI} {P : List Tn} (hN : ∀ x ∈ N,okN x) : smT (zAll s nm N O P).2 := by
 unfold zAll
 by_cases c : zFit s nm N O P = 0
 ·obtain ⟨h1,h2,h3,h4,h5⟩ := qkP hN c
  rw [if_pos c]
  exact qpi (by dsimp only; omega) h2
 ·rw [if_neg c]
  exact ⟨Nat.zero_le _,fun t h => (by cases h)⟩
theorem qll {s : LI} {nm : ByteArray} {N : List Nd} {O : LI} {P : List Tn} (hN : ∀ x ∈ N,okN x) : smT (zOut s nm N O P).2 := by
 unfold zOut
 by_cases c : zFit s nm N O P = 0
 ·obtain ⟨h1,h2,h3,h4,h5⟩ := qkP hN c
  rw [if_pos c]
  refine qpi (by rw [List.length_map]; omega) fun t ht => ?_
  obtain ⟨k,hk,rfl⟩ := List.mem_map.1 ht
  exact h2 _ (qan (by have := h5 k hk; omega) _)
 ·rw [if_neg c]
  exact ⟨Nat.zero_le _,fun t h => (by cases h)⟩
theorem qcV {s : LI} {nm : ByteArray} {N : List Nd} {O : LI} (h : GrS s nm N O) (P : List Tn) (hP : P.length ≤ 100000) (k : Nat) (hk : 200000 ≤ k) : qbY.f k s nm N O P = some true := by
 obtain ⟨h1,h2,h3,h4,h5,h6⟩ := h
 unfold qbY.f
 rw [qha s nm N O P h2 h5 hP h3 k hk,obs,qih s nm N O P h2 h5 hP h3 k hk,obs,qdx s nm N O P h2 h5 hP h3 k hk,obs,qkH s nm N O P h2 h5 hP h3 k hk,obs,if_pos rfl,qc5 _ (qpO h5) k hk,obs,if_pos rfl,if_pos rfl,qc5 _ (qll h5) k hk,obs]
end Go.Pf

namespace Go.Pf
open Go Go.Vm
theorem qph : ∀ {P : List Tn} {Q : List LI},P.length = Q.length → (∀ j,j < P.length → zT (P.getD j tn0).1 (P.getD j tn0).2 = true ∧ (P.getD j tn0).1 = Q.getD j []) → zFl P Q = true
 | [],[],_,_ => rfl
 | t :: P,s :: Q,hl,h => by
  have h0 := h 0 (by simp)
  rw [zFl,Bool.and_eq_true,Bool.and_eq_true,decide_eq_true_eq]
  exact ⟨h0,qph (by simpa using hl) fun j hj => h (j + 1) (by simpa using hj)⟩
 | [],_ :: _,hl,_ => by simp at hl
 | _ :: _,[],hl,_ => by simp at hl
theorem qeJ {L : LI} (T : Tp L) {nm : ByteArray} {sz : LI} {N : List Nd} {O : LI} {S : List LI} (hG : GrOK (rs nm) S N) (hN : N.length ≤ 10) (k : Nat) (hk : 200000 ≤ k) : ∃ P,qbh.f k sz nm N O L = some P ∧ zFl P (pS N) = true := by
 obtain ⟨q1,q2⟩ := qdX N
 have hql := qec N 0
 have hSl := hG.len
 have hsh : ∀ j ∈ zPar 0 N,mSR (N.getD j.toNat nd0).2.2.1 = true := fun j hj => by
  obtain ⟨k0,k1,k2⟩ := q1 j hj
  have := qko _ N [] _ hG.go j.toNat (by omega)
  rw [List.length_nil,Nat.zero_add] at this
  rw [← qgb this k2]
  exact hG.sm _ (qan (by omega) [])
 have loop : ∀ (e i n : Nat) (p : Int) (y : List Tn),(zPar 0 N).length = i + e → e < n → 0 ≤ p → p ≤ 1000000 - 9000 * (e : Int) → y.length = i → (∀ j,j < y.length → zT (y.getD j tn0).1 (y.getD j tn0).2 = true ∧ (y.getD j tn0).1 = (N.getD ((zPar 0 N).getD j 0).toNat nd0).2.2.1) →
   ∃ P,qbh.l0 k n (zPar 0 N).length i sz nm N O L p y (zPar 0 N) = some P ∧ P.length = (zPar 0 N).length ∧ (∀ j,j < P.length → zT (P.getD j tn0).1 (P.getD j tn0).2 = true ∧ (P.getD j tn0).1 = (N.getD ((zPar 0 N).getD j 0).toNat nd0).2.2.1) := by
  intro e
  induction e with
  | zero =>
   intro i n p y hi hn h0 hp hy hI
   obtain ⟨n,rfl⟩ : ∃ m,n = m + 1 := ⟨n - 1,by omega⟩
   rw [qbh.l0,if_neg (by omega)]
   exact ⟨y,rfl,by omega,hI⟩
  | succ e ih =>
   intro i n p y hi hn h0 hp hy hI
   obtain ⟨n,rfl⟩ : ∃ m,n = m + 1 := ⟨n - 1,by omega⟩
   have hm := qan (show i < (zPar 0 N).length by omega) (0 : Int)
   obtain ⟨k0,k1,k2⟩ := q1 _ hm
   have hR := hsh _ hm
   have h4 := qah hR
   obtain ⟨q,d,e1,hd,q0,q9⟩ := qlu L T.len T.wf (N.getD ((zPar 0 N).getD i 0).toNat nd0).2.2.1 (by omega) p h0 (by omega) k (by omega)
   rw [qbh.l0,if_pos (by omega),if_pos (by omega),Int.toNat_natCast,if_pos (by omega),if_pos (by omega),e1,obs,if_pos (by rw [List.length_singleton]; omega),qao (show i < (zPar 0 N).length by omega) (by omega)]
   refine ih (i + 1) n q _ (by omega) (by omega) q0 (by omega) (by rw [List.length_append,List.length_singleton]; omega) fun j hj => ?_
   rw [List.length_append,List.length_singleton] at hj
   by_cases c : j < y.length
   ·rw [List.getD_eq_getElem?_getD,List.getElem?_append_left c,← List.getD_eq_getElem?_getD]
    exact hI j c
   ·have : j = y.length := by omega
    rw [List.getD_eq_getElem?_getD,List.getElem?_append_right (by omega),show j - y.length = 0 by omega]
    refine ⟨?_,by rw [show j = i by omega]; rfl⟩
    show zT (N.getD ((zPar 0 N).getD i 0).toNat nd0).2.2.1 d = true
    unfold zT
    rw [hR,Bool.true_and,decide_eq_true_eq,hd,zSz,if_pos hR]
 obtain ⟨P,e1,e2,e3⟩ := loop (zPar 0 N).length 0 k 0 [] (by omega) (by omega) (by omega) (by omega) rfl (fun j hj => (by simp at hj))
 rw [n0] at e1
 refine ⟨P,?_,?_⟩
 ·unfold qbh.f
  rw [qem sz nm N O (by omega) k (by omega),obs,e1,obs]
 ·rw [← q2]
  refine qph (by rw [List.length_map]; exact e2) fun j hj => ?_
  obtain ⟨a1,a2⟩ := e3 j hj
  refine ⟨a1,?_⟩
  rw [a2,List.getD_eq_getElem?_getD (l := (zPar 0 N).map _),List.getElem?_map,List.getElem?_eq_getElem (show j < (zPar 0 N).length by omega),List.getD_eq_getElem?_getD (l := zPar 0 N),List.getElem?_eq_getElem (show j < (zPar 0 N).length by omega)]; rfl
theorem qjx : ∀ (N : List Nd) (P out : List Tn),∃ r,zEv N P out = out ++ r
 | [],P,out => ⟨[],by rw [zEv,List.append_nil]⟩
 | x :: N,P,out => by
  rw [zEv]
  split
  ·obtain ⟨r,e⟩ := qjx N P.tail (out ++ [P.getD 0 tn0])
   exact ⟨_,by rw [e,List.append_assoc]⟩
  ·obtain ⟨r,e⟩ := qjx N P (out ++ [(zWork x.1 x.2.2.1 x.2.2.2.1 x.2.2.2.2.1 x.2.2.2.2.2.1 (ins out x)).2])
   exact ⟨_,by rw [e,List.append_assoc]⟩
theorem qlp : ∀ (N R : List Nd) (P out : List Tn),∃ P',zEv (N ++ R) P out = zEv R P' (zEv N P out)
 | [],R,P,out => ⟨P,rfl⟩
 | x :: N,R,P,out => by
  rw [List.cons_append,zEv,zEv]
  split
  ·exact qlp N R _ _
  ·exact qlp N R _ _
theorem qm1 {l r : List Tn} {j : Nat} (h : j < l.length) : (l ++ r).getD j tn0 = l.getD j tn0 := by
 rw [List.getD_eq_getElem?_getD,List.getElem?_append_left h,← List.getD_eq_getElem?_getD]
theorem qgY : ∀ (N : List Nd) (i : Nat) (P out : List Tn),out.length = i → zFl P (pS N) = true → (zPar i N).map (fun (k : Int) => (zEv N P out).getD k.toNat tn0) = P
 | [],i,P,out,_,h => by
  have := qe0 h
  rw [zPar,List.map_nil]
  exact (List.length_eq_zero_iff.1 (by simpa [pS] using this)).symm
 | x :: N,i,P,out,ho,h => by
  rw [pS] at h
  rw [zPar,zEv]
  by_cases c : x.1 = 1
  ·rw [if_pos c] at h
   rw [if_pos c,if_pos c]
   cases P with
   | nil => simp [zFl] at h
   | cons t P =>
    rw [zFl,Bool.and_eq_true] at h
    have ih := qgY N (i + 1) P (out ++ [t]) (by rw [List.length_append,List.length_singleton]; omega) h.2
    obtain ⟨r,e⟩ := qjx N P (out ++ [t])
    rw [List.map_cons]
    refine List.cons_eq_cons.2 ⟨?_,ih⟩
    show (zEv N P (out ++ [t])).getD (i : Int).toNat tn0 = t
    rw [e,Int.toNat_natCast,qm1 (by rw [List.length_append,List.length_singleton]; omega),← ho,List.getD_eq_getElem?_getD,List.getElem?_append_right (Nat.le_refl _),Nat.sub_self]; rfl
  ·rw [if_neg c] at h
   rw [if_neg c,if_neg c]
   exact qgY N (i + 1) P _ (by rw [List.length_append,List.length_singleton]; omega) h
theorem qpm : ∀ (N R : List Nd),pS (N ++ R) = pS N ++ pS R
 | [],R => rfl
 | x :: N,R => by
  rw [List.cons_append,pS,pS,qpm N R]
  split <;> rfl
set_option maxRecDepth 20000 in
theorem known11 (k : Nat) (hk : 200000 ≤ k) : qcM.f k = some true := by
 have e : ByteArray.empty.size ≤ 100000 := by decide
 have n1 : okN (1,([],(([2] : LI),([],(0,(0,ByteArray.empty)))))) := ⟨by decide,by decide,by decide⟩
 have n2 : okN (4,(([0] : LI),([],([],(0,(0,ByteArray.empty)))))) := ⟨by decide,by decide,by decide⟩
 unfold qcM.f
 rw [qdx _ _ _ _ _ e (allN2 n1 n2) (by decide) (by decide) k hk,obs,qdx _ _ _ _ _ e (allN2 n1 n2) (by decide) (by decide) k hk,obs,if_pos ⟨by decide,by decide⟩,if_pos (by decide),qf3 _ _ _ _ _ _ _ _ (by decide) (by decide) k (by show 0 + 20000 ≤ k; omega),obs]
 have h1 : zOut [] ByteArray.empty ([(1,([],(([2] : LI),([],(0,(0,ByteArray.empty)))))),(4,(([0] : LI),([],([],(0,(0,ByteArray.empty))))))] : List Nd) [1,1] [([2],[3,-4])] = (0,[([2],[-3,4]),([2],[-3,4])]) := by decide
 have h2 : (zOut [] ByteArray.empty ([(1,([],(([2] : LI),([],(0,(0,ByteArray.empty)))))),(4,(([0] : LI),([],([],(0,(0,ByteArray.empty))))))] : List Nd) [1,1] []).1 = 13 := by decide
 rw [h1,h2]
 decide
theorem qnz {nm : ByteArray} {sz : LI} {N : List Nd} {O : LI} {S : List LI} {P : List Tn} (h : zShs sz nm N O = (0,S)) (hF : zFl P (pS N) = true) : zFit sz nm N O P = 0 := by
 unfold zFit
 rw [h,if_pos rfl,if_pos hF]
theorem qpb {N : List Nd} {P : List Tn} (hF : zFl P (pS N) = true) : P.length ≤ N.length := by
 have h1 := qe0 hF
 have h2 := congrArg List.length (qdX N).2
 have h3 := qec N 0
 rw [List.length_map] at h2; omega
theorem qpH (a0 a1 : LI) (w0 : Fit (.sl (.int .i64)) a0) (w1 : Fit (.sl (.int .i64)) a1) : ∃ k,qcW.f k a0 a1 = some true := by
 refine ⟨400000,?_⟩
 generalize hk' : (400000 : Nat) = k
 have hk : 400000 ≤ k := by omega
 clear hk'
 obtain ⟨nm,sz,N,O,S,e1,hm,hG,hN,hO,hx⟩ := qfu (qjm w0) k (by omega)
 obtain ⟨P,e2,hF⟩ := qeJ (qjm w1) (sz := sz) (O := O) hG hN k (by omega)
 have hsz := hm.size
 have hPl := qpb hF
 have hq := qec N 0
 have hz : zShs sz nm N (zPar 0 N) = (0,S) := GrOK.shs hm hG (by omega) (by omega) (fun x h => by have := (qdX N).1 x h; omega)
 have hf := qnz hz hF
 have ho : zOut sz nm N (zPar 0 N) P = (0,P) := by
  unfold zOut
  rw [if_pos hf,qgY N 0 P [] rfl hF]
 have hsm := qll (s := sz) (nm := nm) (O := zPar 0 N) (P := P) hG.ok
 rw [ho] at hsm
 unfold qcW.f
 rw [e1,obs]
 dsimp only
 rw [e2,obs,qem sz nm N O (by omega) k (by omega),obs,qdx sz nm N _ P (by omega) hG.ok (by omega) (by omega) k (by omega),obs,obs,ho,if_pos rfl,if_pos rfl,qc5 P hsm k (by omega),obs,if_pos rfl,obs,if_pos rfl,known11 k (by omega),obs]
set_option maxHeartbeats 1000000 in
theorem qpJ (a0 a1 : LI) (w0 : Fit (.sl (.int .i64)) a0) (w1 : Fit (.sl (.int .i64)) a1) : ∃ k,qa8.f k a0 a1 = some true := by
 refine ⟨400000,?_⟩
 generalize hk' : (400000 : Nat) = k
 have hk : 400000 ≤ k := by omega
 clear hk'
 obtain ⟨nm,sz,N,O,S,e1,hm,hG,hN,hO,hx⟩ := qfu (qjm w0) k (by omega)
 obtain ⟨P,e2,hF⟩ := qeJ (qjm w1) (sz := sz) (O := O) hG hN k (by omega)
 have hsz := hm.size
 have hlen := hG.len
 have hPl := qpb hF
 have hz : zShs sz nm N O = (0,S) := GrOK.shs hm hG (by omega) (by omega) hx
 have hf := qnz hz hF
 obtain ⟨b1,b2,_⟩ := qkP hG.ok hf
 have ha : zAll sz nm N O P = (0,zEv N P []) := by unfold zAll; rw [if_pos hf]
 have ho : zOut sz nm N O P = (0,O.map fun k => (zEv N P []).getD k.toNat tn0) := by unfold zOut; rw [if_pos hf]
 have hsm := qll (s := sz) (nm := nm) (O := O) (P := P) hG.ok
 rw [ho] at hsm
 -- two nodes more
 have hG1 : GrOK (rs nm) (S ++ [[3]]) (N ++ [(2,([],(([3] : LI),([],(1,(0,ByteArray.empty))))))]) := hG.snoc rfl ⟨by decide,by decide,by decide,by decide⟩ rfl
 have hlast : (S ++ [([3] : LI)]).getD (N.length : Int).toNat [] = [3] := by
  rw [Int.toNat_natCast,← hlen,List.getD_eq_getElem?_getD,List.getElem?_append_right (Nat.le_refl _),Nat.sub_self]; rfl
 have hnd : zNd (rs nm) (S ++ [[3]]) (4,([(N.length : Int)],([],([],(0,(0,ByteArray.empty)))))) = (0,[3]) := by
  unfold zNd
  dsimp only
  rw [qjw (fun x h => by rw [List.mem_singleton] at h; rw [List.length_append,List.length_singleton]; omega)]
  rw [List.map_cons,List.map_nil,hlast]
  rfl
 have hG2 : GrOK (rs nm) ((S ++ [[3]]) ++ [[3]]) ((N ++ [(2,([],(([3] : LI),([],(1,(0,ByteArray.empty))))))]) ++ [(4,([(N.length : Int)],([],([],(0,(0,ByteArray.empty))))))]) := hG1.snoc hnd ⟨by show 1 ≤ 300; omega,Nat.zero_le _,Nat.zero_le _,Nat.zero_le _⟩ rfl
 rw [List.append_assoc (as := N)] at hG2
 have hG2 : GrOK (rs nm) ((S ++ [[3]]) ++ [[3]]) (N ++ ([(2,([],(([3] : LI),([],(1,(0,ByteArray.empty)))))),(4,([(N.length : Int)],([],([],(0,(0,ByteArray.empty))))))] : List Nd)) := hG2
 have hR : pS (N ++ ([(2,([],(([3] : LI),([],(1,(0,ByteArray.empty)))))),(4,([(N.length : Int)],([],([],(0,(0,ByteArray.empty))))))] : List Nd)) = pS N := by
  rw [qpm]
  show pS N ++ [] = _
  rw [List.append_nil]
 have hz2 : zShs sz nm (N ++ ([(2,([],(([3] : LI),([],(1,(0,ByteArray.empty)))))),(4,([(N.length : Int)],([],([],(0,(0,ByteArray.empty))))))] : List Nd)) O = (0,(S ++ [[3]]) ++ [[3]]) := GrOK.shs hm hG2 (by rw [List.length_append]; show N.length + 2 ≤ 48; omega) (by omega) (fun x h => by
  have := hx x h
  rw [List.length_append]
  show 0 ≤ x ∧ x < ((N.length + 2 : Nat) : Int)
  omega)
 have hf2 := qnz (P := P) hz2 (by rw [hR]; exact hF)
 have ho2 : zOut sz nm (N ++ ([(2,([],(([3] : LI),([],(1,(0,ByteArray.empty)))))),(4,([(N.length : Int)],([],([],(0,(0,ByteArray.empty))))))] : List Nd)) O P = (0,O.map fun k => (zEv N P []).getD k.toNat tn0) := by
  unfold zOut
  rw [if_pos hf2]
  refine Prod.ext rfl (List.map_congr_left fun j hj => ?_)
  obtain ⟨P',e3⟩ := qlp N ([(2,([],(([3] : LI),([],(1,(0,ByteArray.empty)))))),(4,([(N.length : Int)],([],([],(0,(0,ByteArray.empty))))))] : List Nd) P []
  obtain ⟨r,e4⟩ := qjx ([(2,([],(([3] : LI),([],(1,(0,ByteArray.empty)))))),(4,([(N.length : Int)],([],([],(0,(0,ByteArray.empty))))))] : List Nd) P' (zEv N P [])
  have := hx j hj
  rw [e3,e4,qm1 (by omega)]
 have loop : qa8.l0 k k (O.length : Int) 0 nm P (zEv N P []) (O.map fun k => (zEv N P []).getD k.toNat tn0) O sz N = some (.inl ()) := by
  have := iter0 (L := fun n i (_ : Unit) => qa8.l0 k n (O.length : Int) i nm P (zEv N P []) (O.map fun k => (zEv N P []).getD k.toNat tn0) O sz N) (st := fun _=>()) (fun _=>.inl ()) (m := O.length) 0
   (fun n _ => by rw [qa8.l0,if_neg (by omega)])
   (fun i n hi _ ih => by
    have hk0 := hx _ (qan hi 0)
    have hT := qcf (b2 _ (qan (show (O.getD i 0).toNat < (zEv N P []).length by omega) tn0))
    have hg : (O.map fun k => (zEv N P []).getD k.toNat tn0).getD i tn0 = (zEv N P []).getD (O.getD i 0).toNat tn0 := by
     rw [List.getD_eq_getElem?_getD,List.getElem?_map,List.getElem?_eq_getElem hi,List.getD_eq_getElem?_getD (l := O),List.getElem?_eq_getElem hi]; rfl
    have hs := qel ((zEv N P []).getD (O.getD i 0).toNat tn0).1 ((zEv N P []).getD (O.getD i 0).toNat tn0).2 k (by omega) (by omega) (by omega) (by omega)
    rw [qa8.l0,if_pos (by omega),if_pos (by omega),if_pos (by rw [List.length_map]; omega),Int.toNat_natCast,if_pos (by rw [List.length_map]; omega),if_pos (by omega),if_pos (by omega),hg,hs,obs,if_pos rfl,qao hi (by omega),ih]) k (by omega)
  exact this
 unfold qa8.f
 rw [e1,obs]
 dsimp only
 rw [e2,obs,qha sz nm N O P (by omega) hG.ok (by omega) (by omega) k (by omega),obs,qdx sz nm N O P (by omega) hG.ok (by omega) (by omega) k (by omega),obs,ha,ho,if_pos rfl,if_pos rfl,if_pos (by dsimp only; omega),if_pos (by dsimp only; rw [List.length_map]),loop,obs,Sum.elim_inl,if_pos (by omega),List.nil_append,if_pos (by show N.length + 2 ≤ _ ∧ (N.length + 2) * 112 ≤ _; omega),
  qdx sz nm _ O P (by omega) hG2.ok (by omega) (by rw [List.length_append]; show N.length + 2 ≤ 100000; omega) k (by omega),obs,ho2,if_pos rfl,qc5 _ hsm k (by omega),obs,if_pos rfl,known11 k (by omega),obs]
end Go.Pf

namespace Go.Pf
open Go Go.Vm
def oddIn (a0_0 : LI) (a0_1 : ByteArray) (a0_2 : List Nd) (a0_3 : LI) (a1_0 a1_1 a1_2 a1_3 : Int) (a1_4 u : ByteArray) : Option (LI × ByteArray × LI × (List Nd)) := if (([] ++ a0_2).length : Int) = 0 then (if 4 ≠ 0 then (qcR.f (IntKind.i64.wrap (a1_0.tdiv 4)) 5).bind fun t8 => if t8 = 0 then (if 0 + a0_0.length ≤ 281474976710656 ∧ (0 + a0_0.length) * 8 ≤ 140737488355328 then if ([] ++ a0_0).length + [a1_3].length ≤ 281474976710656 ∧ (([] ++ a0_0).length + [a1_3].length) * 8 ≤ 140737488355328 then some (([] ++ a0_0) ++ [a1_3],a0_1,a0_3,[] ++ a0_2) else none else none) else if t8 = 1 then (some (a0_0,u,a0_3,[] ++ a0_2)) else if t8 = 2 then (if 0 + a0_3.length ≤ 281474976710656 ∧ (0 + a0_3.length) * 8 ≤ 140737488355328 then if ([] ++ a0_3).length + [a1_3].length ≤ 281474976710656 ∧ (([] ++ a0_3).length + [a1_3].length) * 8 ≤ 140737488355328 then some (a0_0,a0_1,([] ++ a0_3) ++ [a1_3],[] ++ a0_2) else none else none) else if t8 = 3 then (if ([] ++ a0_2).length + ([(a1_3,([],([],([],(0,(0,ByteArray.empty))))))] : List Nd).length ≤ 281474976710656 ∧ (([] ++ a0_2).length + ([(a1_3,([],([],([],(0,(0,ByteArray.empty))))))] : List Nd).length) * 112 ≤ 140737488355328 then some (a0_0,a0_1,a0_3,([] ++ a0_2) ++ ([(a1_3,([],([],([],(0,(0,ByteArray.empty))))))] : List Nd)) else none) else some (a0_0,a0_1,[],[] ++ a0_2) else none) else if 4 ≠ 0 then if a1_0.tmod 4 = 3 then ((qcR.f (IntKind.i64.wrap (a1_0.tdiv 4)) 5).bind fun t9 => if t9 = 0 then (if 0 + a0_0.length ≤ 281474976710656 ∧ (0 + a0_0.length) * 8 ≤ 140737488355328 then if ([] ++ a0_0).length + [a1_3].length ≤ 281474976710656 ∧ (([] ++ a0_0).length + [a1_3].length) * 8 ≤ 140737488355328 then some (([] ++ a0_0) ++ [a1_3],a0_1,a0_3,[] ++ a0_2) else none else none) else if t9 = 1 then (some (a0_0,u,a0_3,[] ++ a0_2)) else if t9 = 2 then (if 0 + a0_3.length ≤ 281474976710656 ∧ (0 + a0_3.length) * 8 ≤ 140737488355328 then if ([] ++ a0_3).length + [a1_3].length ≤ 281474976710656 ∧ (([] ++ a0_3).length + [a1_3].length) * 8 ≤ 140737488355328 then some (a0_0,a0_1,([] ++ a0_3) ++ [a1_3],[] ++ a0_2) else none else none) else if t9 = 3 then (if ([] ++ a0_2).length + ([(a1_3,([],([],([],(0,(0,ByteArray.empty))))))] : List Nd).length ≤ 281474976710656 ∧ (([] ++ a0_2).length + ([(a1_3,([],([],([],(0,(0,ByteArray.empty))))))] : List Nd).length) * 112 ≤ 140737488355328 then some (a0_0,a0_1,a0_3,([] ++ a0_2) ++ ([(a1_3,([],([],([],(0,(0,ByteArray.empty))))))] : List Nd)) else none) else some (a0_0,a0_1,[],[] ++ a0_2)) else (qcR.f a1_1 (([] ++ a0_2).length : Int)).bind fun t10 => if 0 ≤ t10 ∧ t10 < (([] ++ a0_2).length : Int) then if t10.toNat < ([] ++ a0_2).length then (qcR.f (IntKind.i64.wrap (a1_0.tdiv 4)) 9).bind fun t11 => if t11 = 0 then (some (a0_0,a0_1,a0_3,([] ++ a0_2).set t10.toNat (a1_3,((([] ++ a0_2).getD t10.toNat nd0).2.1,((([] ++ a0_2).getD t10.toNat nd0).2.2.1,((([] ++ a0_2).getD t10.toNat nd0).2.2.2.1,((([] ++ a0_2).getD t10.toNat nd0).2.2.2.2.1,((([] ++ a0_2).getD t10.toNat nd0).2.2.2.2.2.1,(([] ++ a0_2).getD t10.toNat nd0).2.2.2.2.2.2)))))))) else if t11 = 1 then ((qbZ.f (([] ++ a0_2).getD t10.toNat nd0).2.1 a1_0 a1_1 a1_2 a1_3 a1_4).bind fun t12 => some (a0_0,a0_1,a0_3,([] ++ a0_2).set t10.toNat ((([] ++ a0_2).getD t10.toNat nd0).1,(t12,((([] ++ a0_2).getD t10.toNat nd0).2.2.1,((([] ++ a0_2).getD t10.toNat nd0).2.2.2.1,((([] ++ a0_2).getD t10.toNat nd0).2.2.2.2.1,((([] ++ a0_2).getD t10.toNat nd0).2.2.2.2.2.1,(([] ++ a0_2).getD t10.toNat nd0).2.2.2.2.2.2)))))))) else if t11 = 2 then ((qbZ.f (([] ++ a0_2).getD t10.toNat nd0).2.2.1 a1_0 a1_1 a1_2 a1_3 a1_4).bind fun t13 => some (a0_0,a0_1,a0_3,([] ++ a0_2).set t10.toNat ((([] ++ a0_2).getD t10.toNat nd0).1,((([] ++ a0_2).getD t10.toNat nd0).2.1,(t13,((([] ++ a0_2).getD t10.toNat nd0).2.2.2.1,((([] ++ a0_2).getD t10.toNat nd0).2.2.2.2.1,((([] ++ a0_2).getD t10.toNat nd0).2.2.2.2.2.1,(([] ++ a0_2).getD t10.toNat nd0).2.2.2.2.2.2)))))))) else if t11 = 3 then ((qbZ.f (([] ++ a0_2).getD t10.toNat nd0).2.2.2.1 a1_0 a1_1 a1_2 a1_3 a1_4).bind fun t14 => some (a0_0,a0_1,a0_3,([] ++ a0_2).set t10.toNat ((([] ++ a0_2).getD t10.toNat nd0).1,((([] ++ a0_2).getD t10.toNat nd0).2.1,((([] ++ a0_2).getD t10.toNat nd0).2.2.1,(t14,((([] ++ a0_2).getD t10.toNat nd0).2.2.2.2.1,((([] ++ a0_2).getD t10.toNat nd0).2.2.2.2.2.1,(([] ++ a0_2).getD t10.toNat nd0).2.2.2.2.2.2)))))))) else if t11 = 4 then (some (a0_0,a0_1,a0_3,([] ++ a0_2).set t10.toNat ((([] ++ a0_2).getD t10.toNat nd0).1,((([] ++ a0_2).getD t10.toNat nd0).2.1,((([] ++ a0_2).getD t10.toNat nd0).2.2.1,((([] ++ a0_2).getD t10.toNat nd0).2.2.2.1,(IntKind.i64.wrap ((([] ++ a0_2).getD t10.toNat nd0).2.2.2.2.1 + 1),((([] ++ a0_2).getD t10.toNat nd0).2.2.2.2.2.1,(([] ++ a0_2).getD t10.toNat nd0).2.2.2.2.2.2)))))))) else if t11 = 5 then (some (a0_0,a0_1,a0_3,([] ++ a0_2).set t10.toNat ((([] ++ a0_2).getD t10.toNat nd0).1,((([] ++ a0_2).getD t10.toNat nd0).2.1,((([] ++ a0_2).getD t10.toNat nd0).2.2.1,((([] ++ a0_2).getD t10.toNat nd0).2.2.2.1,((([] ++ a0_2).getD t10.toNat nd0).2.2.2.2.1,(a1_3,(([] ++ a0_2).getD t10.toNat nd0).2.2.2.2.2.2)))))))) else if t11 = 6 then (some (a0_0,a0_1,a0_3,([] ++ a0_2).set t10.toNat ((([] ++ a0_2).getD t10.toNat nd0).1,((([] ++ a0_2).getD t10.toNat nd0).2.1,((([] ++ a0_2).getD t10.toNat nd0).2.2.1,((([] ++ a0_2).getD t10.toNat nd0).2.2.2.1,((([] ++ a0_2).getD t10.toNat nd0).2.2.2.2.1,((([] ++ a0_2).getD t10.toNat nd0).2.2.2.2.2.1,u)))))))) else if t11 = 7 then (if 0 + (([] ++ a0_2).getD t10.toNat nd0).2.2.2.1.length ≤ 281474976710656 ∧ (0 + (([] ++ a0_2).getD t10.toNat nd0).2.2.2.1.length) * 8 ≤ 140737488355328 then if ([] ++ (([] ++ a0_2).getD t10.toNat nd0).2.2.2.1).length + [a1_3].length ≤ 281474976710656 ∧ (([] ++ (([] ++ a0_2).getD t10.toNat nd0).2.2.2.1).length + [a1_3].length) * 8 ≤ 140737488355328 then some (a0_0,a0_1,a0_3,([] ++ a0_2).set t10.toNat ((([] ++ a0_2).getD t10.toNat nd0).1,((([] ++ a0_2).getD t10.toNat nd0).2.1,((([] ++ a0_2).getD t10.toNat nd0).2.2.1,(([] ++ (([] ++ a0_2).getD t10.toNat nd0).2.2.2.1) ++ [a1_3],((([] ++ a0_2).getD t10.toNat nd0).2.2.2.2.1,((([] ++ a0_2).getD t10.toNat nd0).2.2.2.2.2.1,(([] ++ a0_2).getD t10.toNat nd0).2.2.2.2.2.2))))))) else none else none) else if 0 + (([] ++ a0_2).getD t10.toNat nd0).2.1.length ≤ 281474976710656 ∧ (0 + (([] ++ a0_2).getD t10.toNat nd0).2.1.length) * 8 ≤ 140737488355328 then if ([] ++ (([] ++ a0_2).getD t10.toNat nd0).2.1).length + [a1_3].length ≤ 281474976710656 ∧ (([] ++ (([] ++ a0_2).getD t10.toNat nd0).2.1).length + [a1_3].length) * 8 ≤ 140737488355328 then some (a0_0,a0_1,a0_3,([] ++ a0_2).set t10.toNat ((([] ++ a0_2).getD t10.toNat nd0).1,(([] ++ (([] ++ a0_2).getD t10.toNat nd0).2.1) ++ [a1_3],((([] ++ a0_2).getD t10.toNat nd0).2.2.1,((([] ++ a0_2).getD t10.toNat nd0).2.2.2.1,((([] ++ a0_2).getD t10.toNat nd0).2.2.2.2.1,((([] ++ a0_2).getD t10.toNat nd0).2.2.2.2.2.1,(([] ++ a0_2).getD t10.toNat nd0).2.2.2.2.2.2))))))) else none else none else none else none else none
theorem qlP (s : LI) (nm : ByteArray) (N : List Nd) (O : LI) (hN : N.length ≤ 1000) (w n a v : Int) (t : ByteArray) : ∃ u : ByteArray,u.size ≤ 12 ∧ qgz.f s nm N O w n a v t = oddIn s nm N O w n a v t u := by
 unfold qgz.f
 rw [if_pos (by omega)]
 by_cases c : 12 < (t.size : Int)
 ·rw [if_pos c,if_pos (by omega)]
  exact ⟨t.extract ((0 : Nat) : Int).toNat 12,by rw [ByteArray.size_extract]; omega,rfl⟩
 ·rw [if_neg c]
  exact ⟨t,by omega,rfl⟩
def nB (B : Nat) (x : Nd) : Prop := x.2.1.length ≤ B ∧ x.2.2.1.length ≤ B ∧ x.2.2.2.1.length ≤ B ∧ x.2.2.2.2.2.2.size ≤ B
structure GrB (B : Nat) (s : LI) (nm : ByteArray) (N : List Nd) (O : LI) : Prop where
 h1 : s.length ≤ B
 h2 : nm.size ≤ B
 h3 : N.length ≤ B
 h4 : O.length ≤ B
 nd : ∀ x ∈ N,nB B x
theorem nB.up {B : Nat} {x : Nd} (h : nB B x) : nB (B + 1) x := by
 obtain ⟨h1,h2,h3,h4⟩ := h
 exact ⟨by omega,by omega,by omega,by omega⟩
theorem GrB.s {B : Nat} (hB : B ≤ 400) {s : LI} {nm : ByteArray} {N : List Nd} {O : LI} (h : GrB B s nm N O) : GrS s nm N O := by
 obtain ⟨h1,h2,h3,h4,h5⟩ := h
 exact ⟨by omega,by omega,by omega,by omega,fun x hx => by
  obtain ⟨a1,a2,a3,a4⟩ := h5 x hx
  exact ⟨by omega,by omega,by omega⟩,fun x hx => by
  obtain ⟨a1,a2,a3,a4⟩ := h5 x hx
  exact ⟨by omega,by omega,by omega⟩⟩
set_option maxHeartbeats 1000000 in
theorem qqv {B : Nat} (hB0 : 12 ≤ B) (hB : B ≤ 400) {s : LI} {nm : ByteArray} {N : List Nd} {O : LI} (hG : GrB B s nm N O) (w n a v : Int) (t u : ByteArray) (hw : i64r w) (hn : i64r n) (ha : i64r a) (hu : u.size ≤ 12) :
  ∃ s' nm' O' N',oddIn s nm N O w n a v t u = some (s',nm',O',N') ∧ GrB (B + 1) s' nm' N' O' := by
 obtain ⟨h1,h2,h3,h4,h5⟩ := hG
 have up : ∀ x ∈ N,nB (B + 1) x := fun x hx => (h5 x hx).up
 have hw4 : i64r (IntKind.i64.wrap (w.tdiv 4)) := by
  obtain ⟨a1,a2⟩ := hw
  have b1 : w.tdiv 4 ≤ 9223372036854775807 ∧ -9223372036854775808 ≤ w.tdiv 4 := by
   have := Int.mul_tdiv_add_tmod w 4
   have t2 := Int.lt_tmod_of_pos w (show (0 : Int) < 4 by omega)
   have t3 := Int.tmod_lt_of_pos w (show (0 : Int) < 4 by omega)
   omega
  rw [qal (by omega) (by omega)]
  exact ⟨by omega,by omega⟩
 have g5 : ∃ r,((qcR.f (IntKind.i64.wrap (w.tdiv 4)) 5).bind fun t1 => if t1 = 0 then (if 0 + s.length ≤ 281474976710656 ∧ (0 + s.length) * 8 ≤ 140737488355328 then if ([] ++ s).length + [v].length ≤ 281474976710656 ∧ (([] ++ s).length + [v].length) * 8 ≤ 140737488355328 then some (([] ++ s) ++ [v],nm,O,[] ++ N) else none else none) else if t1 = 1 then (some (s,u,O,[] ++ N)) else if t1 = 2 then (if 0 + O.length ≤ 281474976710656 ∧ (0 + O.length) * 8 ≤ 140737488355328 then if ([] ++ O).length + [v].length ≤ 281474976710656 ∧ (([] ++ O).length + [v].length) * 8 ≤ 140737488355328 then some (s,nm,([] ++ O) ++ [v],[] ++ N) else none else none) else if t1 = 3 then (if ([] ++ N).length + ([(v,([],([],([],(0,(0,ByteArray.empty))))))] : List Nd).length ≤ 281474976710656 ∧ (([] ++ N).length + ([(v,([],([],([],(0,(0,ByteArray.empty))))))] : List Nd).length) * 112 ≤ 140737488355328 then some (s,nm,O,([] ++ N) ++ ([(v,([],([],([],(0,(0,ByteArray.empty))))))] : List Nd)) else none) else some (s,nm,[],[] ++ N)) = some r ∧ GrB (B + 1) r.1 r.2.1 r.2.2.2 r.2.2.1 := by
  obtain ⟨r,e,r0,r1⟩ := qgA hw4 (show (1 : Int) ≤ 5 by omega)
  have hv : nB (B + 1) ((v,([],([],([],(0,(0,ByteArray.empty)))))) : Nd) := ⟨Nat.zero_le _,Nat.zero_le _,Nat.zero_le _,Nat.zero_le _⟩
  rw [e,obs]
  simp only [List.nil_append,Nat.zero_add,List.length_singleton]
  by_cases c0 : r = 0
  ·rw [if_pos c0,if_pos (by omega),if_pos (by omega)]
   exact ⟨_,rfl,by rw [List.length_append,List.length_singleton]; omega,by dsimp only; omega,by dsimp only; omega,by dsimp only; omega,up⟩
  by_cases c1 : r = 1
  ·rw [if_neg c0,if_pos c1]
   exact ⟨_,rfl,by dsimp only; omega,by dsimp only; omega,by dsimp only; omega,by dsimp only; omega,up⟩
  by_cases c2 : r = 2
  ·rw [if_neg c0,if_neg c1,if_pos c2,if_pos (by omega),if_pos (by omega)]
   exact ⟨_,rfl,by dsimp only; omega,by dsimp only; omega,by dsimp only; omega,by rw [List.length_append,List.length_singleton]; omega,up⟩
  by_cases c3 : r = 3
  ·rw [if_neg c0,if_neg c1,if_neg c2,if_pos c3,if_pos (by omega)]
   refine ⟨_,rfl,by dsimp only; omega,by dsimp only; omega,by rw [List.length_append,List.length_singleton]; omega,by dsimp only; omega,fun x hx => ?_⟩
   rcases List.mem_append.1 hx with hx | hx
   ·exact up x hx
   ·rw [List.mem_singleton] at hx; rw [hx]; exact hv
  rw [if_neg c0,if_neg c1,if_neg c2,if_neg c3]
  exact ⟨_,rfl,by dsimp only; omega,by dsimp only; omega,by dsimp only; omega,Nat.zero_le _,up⟩
 obtain ⟨r5,e5,hr5⟩ := g5
 obtain ⟨r5a,r5b,r5c,r5d⟩ := r5
 unfold oddIn
 by_cases c0 : (([] ++ N).length : Int) = 0
 ·rw [if_pos c0,if_pos (by decide)]
  exact ⟨_,_,_,_,e5,hr5⟩
 rw [if_neg c0,if_pos (by decide)]
 by_cases c3 : w.tmod 4 = 3
 ·rw [if_pos c3]
  exact ⟨_,_,_,_,e5,hr5⟩
 rw [List.nil_append] at c0
 obtain ⟨i,e1,i0,i1⟩ := qgA hn (show 1 ≤ (N.length : Int) by omega)
 obtain ⟨r,e2,r0,r1⟩ := qgA hw4 (show (1 : Int) ≤ 9 by omega)
 have hx := h5 _ (qan (show i.toNat < N.length by omega) nd0)
 rw [if_neg c3]
 simp only [List.nil_append,Nat.zero_add,List.length_singleton]
 rw [e1,obs,if_pos ⟨i0,i1⟩,if_pos (by omega),e2,obs]
 generalize hX : N.getD i.toNat nd0 = X at hx ⊢
 obtain ⟨x1,x2,x3,x4⟩ := hx
 obtain ⟨p,i',sh,A,m,h,nt⟩ := X
 dsimp only at x1 x2 x3 x4 ⊢
 have fin : ∀ {Y : Nd},Y.2.1.length ≤ B + 1 → Y.2.2.1.length ≤ B + 1 → Y.2.2.2.1.length ≤ B + 1 → Y.2.2.2.2.2.2.size ≤ B + 1 → ∃ s' nm' O' N',some (s,nm,O,N.set i.toNat Y) = some (s',nm',O',N') ∧ GrB (B + 1) s' nm' N' O' := fun a1 a2 a3 a4 =>
  ⟨_,_,_,_,rfl,by omega,by omega,by rw [List.length_set]; omega,by omega,fun y hy => by
   rcases List.mem_or_eq_of_mem_set hy with hy | hy
   ·exact up y hy
   ·rw [hy]; exact ⟨a1,a2,a3,a4⟩⟩
 obtain ⟨u1,f1,g1⟩ := qeR i' (by omega) w n a v t ha
 obtain ⟨u2,f2,g2⟩ := qeR sh (by omega) w n a v t ha
 obtain ⟨u3,f3,g3⟩ := qeR A (by omega) w n a v t ha
 by_cases d0 : r = 0
 ·rw [if_pos d0]; exact fin (by dsimp only; omega) (by dsimp only; omega) (by dsimp only; omega) (by dsimp only; omega)
 rw [if_neg d0]
 by_cases d1 : r = 1
 ·rw [if_pos d1,f1,obs]; exact fin (by dsimp only; omega) (by dsimp only; omega) (by dsimp only; omega) (by dsimp only; omega)
 rw [if_neg d1]
 by_cases d2 : r = 2
 ·rw [if_pos d2,f2,obs]; exact fin (by dsimp only; omega) (by dsimp only; omega) (by dsimp only; omega) (by dsimp only; omega)
 rw [if_neg d2]
 by_cases d3 : r = 3
 ·rw [if_pos d3,f3,obs]; exact fin (by dsimp only; omega) (by dsimp only; omega) (by dsimp only; omega) (by dsimp only; omega)
 rw [if_neg d3]
 by_cases d4 : r = 4
 ·rw [if_pos d4]; exact fin (by dsimp only; omega) (by dsimp only; omega) (by dsimp only; omega) (by dsimp only; omega)
 rw [if_neg d4]
 by_cases d5 : r = 5
 ·rw [if_pos d5]; exact fin (by dsimp only; omega) (by dsimp only; omega) (by dsimp only; omega) (by dsimp only; omega)
 rw [if_neg d5]
 by_cases d6 : r = 6
 ·rw [if_pos d6]; exact fin (by dsimp only; omega) (by dsimp only; omega) (by dsimp only; omega) (by dsimp only; omega)
 rw [if_neg d6]
 by_cases d7 : r = 7
 ·rw [if_pos d7,if_pos (by omega),if_pos (by omega)]; exact fin (by dsimp only; omega) (by dsimp only; omega) (by rw [List.length_append,List.length_singleton]; omega) (by dsimp only; omega)
 rw [if_neg d7,if_pos (by omega),if_pos (by omega)]
 exact fin (by rw [List.length_append,List.length_singleton]; omega) (by dsimp only; omega) (by dsimp only; omega) (by dsimp only; omega)
abbrev Trn := Int × Int × Int × Int × ByteArray
abbrev trn0 : Trn := (0,(0,(0,(0,ByteArray.empty))))
theorem qiw (l : List Trn) (hl : l.length ≤ 17592186043904) (hw : ∀ x ∈ l,i64r x.1 ∧ i64r x.2.1 ∧ i64r x.2.2.1) (z : ByteArray) : ∀ (e i n : Nat) {B : Nat} {s : LI} {nm : ByteArray} {N : List Nd} {O : LI},i + e = 4 → e < n → 12 ≤ B → B + e ≤ 400 → GrB B s nm N O →
  ∃ s' nm' N' O',qc7.l0 n l i s nm N O z = some (s',nm',N',O') ∧ GrB (B + e) s' nm' N' O'
 | 0,i,n,B,s,nm,N,O,hi,hn,hB,hB4,hG => by
  obtain ⟨n,rfl⟩ : ∃ m,n = m + 1 := ⟨n - 1,by omega⟩
  rw [qc7.l0]
  by_cases c : (i : Int) < (l.length : Int)
  ·rw [if_pos c,if_neg (by omega)]; exact ⟨s,nm,N,O,rfl,hG⟩
  ·rw [if_neg c]; exact ⟨s,nm,N,O,rfl,hG⟩
 | e + 1,i,n,B,s,nm,N,O,hi,hn,hB,hB4,hG => by
  obtain ⟨n,rfl⟩ : ∃ m,n = m + 1 := ⟨n - 1,by omega⟩
  rw [qc7.l0]
  by_cases c : (i : Int) < (l.length : Int)
  rotate_left
  ·rw [if_neg c]
   refine ⟨s,nm,N,O,rfl,?_⟩
   obtain ⟨h1,h2,h3,h4,h5⟩ := hG
   exact ⟨by omega,by omega,by omega,by omega,fun x hx => by
    obtain ⟨a1,a2,a3,a4⟩ := h5 x hx
    exact ⟨by omega,by omega,by omega,by omega⟩⟩
  obtain ⟨x1,x2,x3⟩ := hw _ (qan (show i < l.length by omega) trn0)
  obtain ⟨u,hu,eu⟩ := qlP s nm N O (by have := hG.h3; omega) (l.getD i trn0).1 (l.getD i trn0).2.1 (l.getD i trn0).2.2.1 (l.getD i trn0).2.2.2.1 (l.getD i trn0).2.2.2.2
  obtain ⟨s',nm',O',N',e1,hG'⟩ := qqv hB (by omega) hG (l.getD i trn0).1 (l.getD i trn0).2.1 (l.getD i trn0).2.2.1 (l.getD i trn0).2.2.2.1 (l.getD i trn0).2.2.2.2 u x1 x2 x3 hu
  rw [if_pos c,if_pos (by omega),if_pos ⟨by omega,c⟩,Int.toNat_natCast,eu,e1,obs,qao (show i < 4 by omega) (by omega)]
  obtain ⟨a1,a2,a3,a4,g1,g2⟩ := qiw l hl hw z e (i + 1) n (by omega) (by omega) (show 12 ≤ B + 1 by omega) (by omega) hG'
  exact ⟨a1,a2,a3,a4,g1,by rw [show B + (e + 1) = B + 1 + e by omega]; exact g2⟩
theorem qng (l : List Trn) (hl : l.length ≤ 17592186043904) (hw : ∀ x ∈ l,i64r x.1 ∧ i64r x.2.1 ∧ i64r x.2.2.1) {s : LI} {nm : ByteArray} {N : List Nd} {O : LI} (hG : GrB 300 s nm N O) (k : Nat) (hk : 1000 ≤ k) :
  ∃ s' nm' N' O',qc7.f k s nm N O l = some (s',nm',N',O') ∧ GrS s' nm' N' O' := by
 obtain ⟨s',nm',N',O',e,hG'⟩ := qiw l hl hw ByteArray.empty 4 0 k (by omega) (by omega) (by omega) (by omega) hG
 unfold qc7.f
 rw [n0] at e
 rw [e,obs]
 exact ⟨_,_,_,_,rfl,hG'.s (by omega)⟩
theorem qoB {op : Int} {s a : LI} {n h : Int} {l : List Tn} : (zNode op s a n h l).2.1.length ≤ 1000 ∧ (zNode op s a n h l).2.2.length ≤ 10000 := by
 unfold zNode
 by_cases hT : l.all (fun t => zT t.1 t.2) = true
 rotate_left
 ·rw [if_neg hT]; exact ⟨Nat.zero_le _,Nat.zero_le _⟩
 rw [if_pos hT]
 by_cases c : (zSh op s a n h (l.map (·.1))).1 = 0
 rotate_left
 ·rw [if_neg c]; exact ⟨Nat.zero_le _,Nat.zero_le _⟩
 rw [if_pos c]
 by_cases h1 : op = 1
 ·rw [if_pos h1]; exact ⟨Nat.zero_le _,Nat.zero_le _⟩
 obtain ⟨w1,w2,_⟩ := qjt hT h1 c
 have := qcf (qli (List.all_eq_true.1 hT) h1 w1 w2)
 rw [if_neg h1]
 exact ⟨by omega,by omega⟩
theorem qej (op : Int) (i s a : LI) (n h : Int) (nt : ByteArray) (l : List Tn) (hl : l.length ≤ 400) (ha : a.length ≤ 17592186043904) (k : Nat) (hk : a.length + 20000 ≤ k) : qcO.f k op i s a n h nt l = some true := by
 have := qoB (op := op) (s := s) (a := a) (n := n) (h := h) (l := l)
 unfold qcO.f
 rw [qf3 _ _ _ _ _ _ _ _ hl ha k hk,obs,qkI _ _ _ _ _ _ _ _ hl ha k hk,obs,if_pos rfl,qel _ _ k (by omega) (by omega) (by omega) (by omega),obs]
theorem qpI (a0 : LI) (a1 : LI) (a2 : List Trn) (a3_0 : Int) (a3_1 : LI) (a3_2 : LI) (a3_3 : LI) (a3_4 : Int) (a3_5 : Int) (a3_6 : ByteArray) (a4 : List Tn) (w0 : Fit (.sl (.int .i64)) a0) (w1 : Fit (.sl (.int .i64)) a1) (w2 : Fit (.sl (.pair (.int .i64) (.pair (.int .i64) (.pair (.int .i64) (.pair (.int .i64) .str))))) a2) (w3 : Fit (.pair (.int .i64) (.pair (.sl (.int .i64)) (.pair (.sl (.int .i64)) (.pair (.sl (.int .i64)) (.pair (.int .i64) (.pair (.int .i64) .str)))))) (a3_0,(a3_1,(a3_2,(a3_3,(a3_4,(a3_5,a3_6))))))) (w4 : Fit (.sl (.pair (.sl (.int .i64)) (.sl (.int .i64)))) a4) : ∃ k,qcX.f k a0 a1 a2 a3_0 a3_1 a3_2 a3_3 a3_4 a3_5 a3_6 a4 = some true := by
 refine ⟨400000 + a3_3.length,?_⟩
 generalize hk' : (400000 : Nat) + a3_3.length = k
 have hk : 400000 ≤ k := by omega
 obtain ⟨nm,sz,N,O,S,e1,hm,hG,hN,hO,hx⟩ := qfu (qjm w0) k (by omega)
 obtain ⟨P,e2,hF⟩ := qeJ (qjm w1) (sz := sz) (O := O) hG hN k (by omega)
 have hsz := hm.size
 have hms := (qis hm.right.1).1
 have hPl := qpb hF
 have hB : GrB 300 sz nm N O := ⟨by omega,by omega,by omega,by omega,hG.ti⟩
 have hS := hB.s (by omega)
 have t1 : a2.length ≤ 17592186043904 ∧ ∀ x ∈ a2,i64r x.1 ∧ i64r x.2.1 ∧ i64r x.2.2.1 := by
  obtain ⟨b1,b2⟩ := w2
  refine ⟨?_,fun x hx => ?_⟩
  ·have : a2.length * (Ty.pair (.int .i64) (.pair (.int .i64) (.pair (.int .i64) (.pair (.int .i64) .str)))).bytes ≤ 140737488351232 := b1
   have e : (Ty.pair (.int .i64) (.pair (.int .i64) (.pair (.int .i64) (.pair (.int .i64) .str)))).bytes = 48 := rfl
   rw [e] at this
   omega
  ·obtain ⟨c1,c2,c3,_⟩ := b2 x hx
   exact ⟨qmL c1,qmL c2,qmL c3⟩
 obtain ⟨s',nm',N',O',e3,hS'⟩ := qng a2 t1.1 t1.2 hB k (by omega)
 have h3 : a3_3.length ≤ 17592186043904 := by
  obtain ⟨_,_,_,c4,_⟩ := w3
  exact (qom c4).1
 have fin : ∀ l : List Tn,l.length ≤ 4 → (qbY.f k sz nm N O l = some true ∧ qcO.f k a3_0 a3_1 a3_2 a3_3 a3_4 a3_5 a3_6 l = some true) := fun l hl => ⟨qcV hS l (by omega) k (by omega),qej _ _ _ _ _ _ _ l (by omega) h3 k (by omega)⟩
 unfold qcX.f
 rw [e1,obs]
 dsimp only
 rw [e3,obs,e2]
 simp only [obs,qcV hS P (by omega) k (by omega),qcV hS' P (by omega) k (by omega),if_true]
 by_cases c : 4 < (a4.length : Int)
 ·obtain ⟨f1,f2⟩ := fin ((a4.take 4).drop 0) (by rw [List.drop_zero,List.length_take]; omega)
  rw [if_pos c,if_pos (by omega),f1,obs,if_pos rfl,f2,obs,if_pos rfl,known11 k (by omega),obs]
 ·obtain ⟨f1,f2⟩ := fin a4 (by omega)
  rw [if_neg c,f1,obs,if_pos rfl,f2,obs,if_pos rfl,known11 k (by omega),obs]
end Go.Pf

namespace Go.Pf
open Go Go.Vm
theorem qhC (x : Int) (k : Nat) (hk : 1000 ≤ k) : ∃ L,qcb.f k x = some L ∧ Tp L := by
 have : ∀ (e i n : Nat) (y : LI),200 = i + e → e < n → y.length = i → (∀ x ∈ y,-9223372036854775808 ≤ x ∧ x < 9223372036854775808) → ∃ L,qcb.l0 n x i y = some L ∧ L.length = 200 ∧ ∀ x ∈ L,-9223372036854775808 ≤ x ∧ x < 9223372036854775808 := by
  intro e
  induction e with
  | zero =>
   intro i n y hi hn hy hx
   obtain ⟨n,rfl⟩ : ∃ m,n = m + 1 := ⟨n - 1,by omega⟩
   rw [qcb.l0,if_neg (by omega)]
   exact ⟨y,rfl,by omega,hx⟩
  | succ e ih =>
   intro i n y hi hn hy hx
   obtain ⟨n,rfl⟩ : ∃ m,n = m + 1 := ⟨n - 1,by omega⟩
   rw [qcb.l0,if_pos (by omega),if_pos (by decide),if_pos (by rw [List.length_singleton]; omega),qao (show i < 200 by omega) (by omega)]
   refine ih (i + 1) n _ (by omega) (by omega) (by rw [List.length_append,List.length_singleton]; omega) fun v hv => ?_
   rcases List.mem_append.1 hv with hv | hv
   ·exact hx v hv
   ·rw [List.mem_singleton] at hv
    generalize (IntKind.i64.wrap _ : Int) = u at hv
    have t2 := Int.lt_tmod_of_pos u (show (0 : Int) < 211 by omega)
    have t3 := Int.tmod_lt_of_pos u (show (0 : Int) < 211 by omega)
    omega
 obtain ⟨L,e,hl,hx⟩ := this 200 0 k [] (by omega) (by omega) rfl (fun x h => by cases h)
 rw [n0] at e
 unfold qcb.f
 rw [e,obs]
 exact ⟨L,rfl,by omega,hx⟩
theorem qi4 (op how : Int) (y0 y1 : LI) (l : List LI) (hl : l.length ≤ 100) (h2 : ∀ x ∈ l,x.length ≤ 100) (h0 : 0 ≤ how) (h3 : how ≤ 3) (k : Nat) (hk : 200000 ≤ k) (n : Nat) (hn : 200 ≤ n) : qad.l3 k n op how l.length 0 y0 y1 l = some (.inl ()) := by
 refine upTo (L := fun n i => qad.l3 k n op how l.length i y0 y1 l) 0 l.length 0 (fun n _ => by rw [qad.l3,if_neg (by omega)]) (fun i n i0 i1 _ ih => ?_) l.length 0 n (by omega) (by omega) (by omega)
 have hz := h2 _ (qan (show i.toNat < l.length by omega) [])
 have tk : ∀ l : List Tn,l.length ≤ 3 → ((l.take how.toNat).drop 0).length ≤ 400 := fun l hl => by
  rw [List.drop_zero,List.length_take]; omega
 rw [qad.l3,if_pos i1,if_pos ⟨i0,i1⟩,if_pos (by omega),if_pos ⟨by decide,by omega,by show how ≤ (3 : Int); omega⟩,qej _ _ _ _ _ _ _ _ (tk _ (by simp)) (by omega) k (by omega),obs,if_pos rfl,if_pos ⟨by decide,by omega,by show how ≤ (3 : Int); omega⟩,
  qej _ _ _ _ _ _ _ _ (tk _ (by simp)) (by omega) k (by omega),obs,if_pos rfl,qej _ _ _ _ _ _ _ _ (by simp) (by omega) k (by omega),obs,if_pos rfl,qal (n := i + 1) (by omega) (by omega),ih]
theorem qi5 (op : Int) (y0 y1 : LI) (k : Nat) (hk : 200000 ≤ k) (n : Nat) (hn : 300 ≤ n) : qad.l2 k n op 0 y0 y1 = some (.inl ()) := by
 refine upTo (L := fun n i => qad.l2 k n op i y0 y1) 0 4 200 (fun n _ => by rw [qad.l2,if_neg (by omega)]) (fun i n i0 i1 hn' ih => ?_) 4 0 n (by omega) (by omega) (by omega)
 rw [qad.l2,if_pos i1,qi4 op i y0 y1 _ (by decide) (by decide) i0 (by omega) k hk n hn',obs,Sum.elim_inl,qal (n := i + 1) (by omega) (by omega),ih]
theorem qi6 (y0 y1 : LI) (k : Nat) (hk : 200000 ≤ k) (n : Nat) (hn : 500 ≤ n) : qad.l1 k n (-1) y0 y1 = some (.inl ()) := by
 refine upTo (L := fun n i => qad.l1 k n i y0 y1) (-1) 23 400 (fun n _ => by rw [qad.l1,if_neg (by omega)]) (fun i n i0 i1 hn' ih => ?_) 24 (-1) n (by omega) (by omega) (by omega)
 rw [qad.l1,if_pos i1,qi5 i y0 y1 k hk n (by omega),obs,Sum.elim_inl,qal (n := i + 1) (by omega) (by omega),ih]
theorem qi7 (k : Nat) (hk : 400000 ≤ k) : qad.l0 k k 0 = some (.inl ()) := by
 refine upTo (L := fun n i => qad.l0 k n i) 0 100 200 (fun n _ => by rw [qad.l0,if_neg (by omega)]) (fun i n i0 i1 hn' ih => ?_) 100 0 k (by omega) (by omega) (by omega)
 obtain ⟨L,e1,hT⟩ := qhC i k (by omega)
 obtain ⟨nm,sz,N,O,S,e2,hm,hG,hN,hO,hx⟩ := qfu hT k (by omega)
 obtain ⟨L',e1',hT'⟩ := qhC (i + 7) k (by omega)
 obtain ⟨P,e3,hF⟩ := qeJ hT' (sz := sz) (O := O) hG hN k (by omega)
 have hsz := hm.size
 have hms := (qis hm.right.1).1
 have hPl := qpb hF
 have hB : GrB 300 sz nm N O := ⟨by omega,by omega,by omega,by omega,hG.ti⟩
 have hS := hB.s (by omega)
 rw [qad.l0,if_pos i1,e1,obs,e2,obs,qal (n := i + 7) (by omega) (by omega),e1',obs]
 dsimp only
 rw [e3,obs,qcV hS P (by omega) k (by omega),obs,if_pos rfl,if_pos (by simp; omega),qcV hS _ (by simp; omega) k (by omega),obs,if_pos rfl,qal (n := i + 1) (by omega) (by omega)]
 split
 ·rw [if_pos ⟨by decide,by omega,Int.le_refl _⟩,qcV hS _ (by simp; omega) k (by omega),obs,if_pos rfl,if_pos (by simp; omega),qcV hS _ (by simp; omega) k (by omega),obs,if_pos rfl,ih]
 ·exact ih
theorem qi3 : ∃ k,qad.f k = some true := by
 refine ⟨400000,?_⟩
 generalize hk' : (400000 : Nat) = k
 have hk : 400000 ≤ k := by omega
 clear hk'
 unfold qad.f
 rw [qi7 k hk,obs,Sum.elim_inl,qbu _ _ (by decide) k (by omega),obs,qi6 _ _ k (by omega) k (by omega),obs,Sum.elim_inl,known11 k (by omega),obs]
end Go.Pf
