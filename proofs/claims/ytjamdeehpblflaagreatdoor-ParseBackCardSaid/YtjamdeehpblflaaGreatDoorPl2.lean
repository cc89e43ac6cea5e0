/- Own texts put together: M10m, M10n, M10o .. -/
import Derived.Test.YtjamdeehpblflaaGreatDoorPl1
import Derived.Test.YtjamdeehpblflaaGreatDoorPl0
set_option linter.unusedVariables false
set_option linter.unusedSimpArgs false
namespace Go.Pf
open Go Go.Vm
theorem qoH {nm : LI} {o : List LI} {x : Nd} {s : LI} (h : zNd nm o x = (0,s)) (t : ByteArray) {e : Int} (ht : (zNote nm (rs t) s.length).2.1 = e) : zNd nm o (x.1,x.2.1,x.2.2.1,x.2.2.2.1,x.2.2.2.2.1,x.2.2.2.2.2.1,t) = (e,s) := by
 unfold zNd at h ⊢
 dsimp only
 cases c : zIn o x.2.1 with
 | none => rw [c] at h; cases h
 | some l =>
  rw [c] at h
  dsimp only at h ⊢
  by_cases c2 : (zSh x.1 x.2.2.1 x.2.2.2.1 x.2.2.2.2.1 x.2.2.2.2.2.1 l).1 = 0
  ·rw [if_pos c2] at h ⊢
   have h2 := congrArg Prod.snd h
   dsimp only at h2
   rw [h2,ht]
  ·rw [if_neg c2] at h
   exact absurd (congrArg Prod.fst h) c2
end Go.Pf

namespace Go.Pf
open Go Go.Vm
theorem qhG (out : List LI) (l : LI) (hl : l.length ≤ 100000) (ho : out.length ≤ 1000) (x31 : List Nd) (x32 x33 : Int) (g1 : LI) (g2 : ByteArray) (g3 : List Nd) (g4 : LI) (x1 : Int) (x2 x3 x4 : LI) (x5 x6 : Int) (x7 : ByteArray) (n : Nat) (hn : 100001 ≤ n) :
  qao.l1 n out.length x31 x32 x33 l l.length 0 g1 g2 g3 g4 out x1 x2 x3 x4 x5 x6 x7 [] = some (match zIn out l with | some r => .inl r | none => .inr 23) := by
 have : ∀ (e i n : Nat) (y : List LI),l.length = i + e → e < n → y.length ≤ i → qao.l1 n out.length x31 x32 x33 l l.length i g1 g2 g3 g4 out x1 x2 x3 x4 x5 x6 x7 y = some (match zIn out (l.drop i) with | some r => .inl (y ++ r) | none => .inr 23) := by
  intro e
  induction e with
  | zero =>
   intro i n y hi hn hy
   obtain ⟨n,rfl⟩ := sun (n := n)
   rw [qao.l1,ifq,dNl (by omega),zIn]
   simp
  | succ e ih =>
   intro i n y hi hn hy
   obtain ⟨n,rfl⟩ := sun (n := n)
   rw [qao.l1,ifp,ifp,tNc,qai (show i < l.length by omega) 0,zIn]
   by_cases c1 : l.getD i 0 < 0
   ·rw [if_pos c1,if_pos (.inl c1)]
   by_cases c2 : (out.length : Int) ≤ l.getD i 0
   ·rw [if_neg c1,if_pos c2,if_pos (.inr c2)]
   rw [if_neg c1,if_neg c2,if_neg (show ¬ (l.getD i 0 < 0 ∨ (out.length : Int) ≤ l.getD i 0) by omega),ifp,ifp,if_pos (by rw [lSi]; omega),qas (show i < l.length by omega) (by omega),ih (i + 1) n _ (by omega) (by omega) (by simp; omega)]
   cases zIn out (l.drop (i + 1)) with
   | none => rfl
   | some r => simp
 have := this l.length 0 n [] (by omega) (by omega) (Nat.le_refl _)
 rw [n0,dZr] at this
 rw [this]
 cases zIn out l <;> simp
theorem qez (s : LI) (nm : ByteArray) (N : List Nd) (O : LI) (hn : nm.size ≤ 100000) (hN : ∀ x ∈ N,okN x) (h48 : N.length ≤ 48) (k : Nat) (hk : 300000 ≤ k) : ∀ (e i n : Nat) (out : List LI),N.length = i + e → e + 100500 < n → out.length = i →
  qao.l0 k n N N.length i s nm N O out = some (if (zGo (rs nm) (N.drop i) out).1 = 0 then .inl (zGo (rs nm) (N.drop i) out).2 else .inr (zGo (rs nm) (N.drop i) out).1)
 | 0,i,n,out,hi,hn',ho => by
  obtain ⟨n,rfl⟩ := sun (n := n)
  rw [qao.l0,ifq,dNl (by omega),zGo,if_pos rfl]
 | e + 1,i,n,out,hi,hn',ho => by
  obtain ⟨n,rfl⟩ := sun (n := n)
  obtain ⟨h1,h2,h3⟩ := hN _ (qaj (show i < N.length by omega) nd0)
  have hl1 := qhG out (N.getD i nd0).2.1 h1 (by omega) N N.length i s nm N O (N.getD i nd0).1 (N.getD i nd0).2.1 (N.getD i nd0).2.2.1 (N.getD i nd0).2.2.2.1 (N.getD i nd0).2.2.2.2.1 (N.getD i nd0).2.2.2.2.2.1 (N.getD i nd0).2.2.2.2.2.2 n (by omega)
  rw [ho] at hl1
  rw [qao.l0,ifp,ifp,tNc,hl1,obs,qai (show i < N.length by omega) nd0,zGo]
  generalize hx : N.getD i nd0 = x at h1 h2 h3 ⊢
  cases e1 : zIn out x.2.1 with
  | none =>
   have hz : zNd (rs nm) out x = (23,[]) := by unfold zNd; rw [e1]
   rw [hz]; rfl
  | some l =>
   have hl := qkO e1
   dsimp only [Sum.elim_inl]
   rw [qee _ _ _ _ _ _ _ l (by omega) (by omega) k (by omega),obs]
   by_cases c : (zSh x.1 x.2.2.1 x.2.2.2.1 x.2.2.2.2.1 x.2.2.2.2.2.1 l).1 = 0
   ·have hz : zNd (rs nm) out x = ((zNote (rs nm) (rs x.2.2.2.2.2.2) (zSh x.1 x.2.2.1 x.2.2.2.1 x.2.2.2.2.1 x.2.2.2.2.2.1 l).2.length).2.1,(zSh x.1 x.2.2.1 x.2.2.2.1 x.2.2.2.2.1 x.2.2.2.2.2.1 l).2) := by
     unfold zNd; rw [e1]; dsimp only; rw [if_pos c]
    rw [hz,if_pos c,qhy _ _ _ (by omega) (by omega) k (by omega) (by omega),obs]
    dsimp only
    by_cases c2 : (zNote (rs nm) (rs x.2.2.2.2.2.2) (zSh x.1 x.2.2.1 x.2.2.2.1 x.2.2.2.2.1 x.2.2.2.2.2.1 l).2.length).2.1 = 0
    ·rw [if_pos c2,if_pos c2,if_pos (by rw [lSi]; omega),qas (show i < N.length by omega) (by omega),qez s nm N O hn hN h48 k hk e (i + 1) n _ (by omega) (by omega) (by simp; omega)]
    ·rw [if_neg c2,if_neg c2,if_neg c2]
   ·have hz : zNd (rs nm) out x = ((zSh x.1 x.2.2.1 x.2.2.2.1 x.2.2.2.2.1 x.2.2.2.2.2.1 l).1,[]) := by
     unfold zNd; rw [e1]; dsimp only; rw [if_neg c]
    rw [hz,if_neg c,if_neg c,if_neg c]
theorem qdP (s : LI) (nm : ByteArray) (N : List Nd) (O : LI) (hn : nm.size ≤ 100000) (hN : ∀ x ∈ N,okN x) (k : Nat) (hk : 300000 ≤ k) : qao.f k s nm N O = some (zShs s nm N O) := by
 unfold qao.f zShs
 rw [qka s nm N O hn k hk,obs]
 by_cases c1 : zMs s (rs nm) = true
 rotate_left
 ·rw [if_neg c1,if_neg c1]
 rw [if_pos c1,if_pos c1]
 by_cases c2 : 48 < N.length
 ·rw [ifp,if_pos c2]
 by_cases c3 : 48 < O.length
 ·rw [ifq,ifp,if_neg c2,if_pos c3]
 have h0 := qez s nm N O hn hN (by omega) k hk N.length 0 k [] (by omega) (by omega) rfl
 rw [n0,dZr] at h0
 rw [ifq,ifq,if_neg c2,if_neg c3,h0,obs]
 by_cases c4 : (zGo (rs nm) N []).1 = 0
 ·have l2 : ∀ T,qao.l2 k O O.length 0 s nm N O T = some (if O.all (fun k => decide (0 ≤ k ∧ k < (N.length : Int))) = true then .inl () else .inr 23) := fun T => by
   have := iter0 (L := fun n i (_ : Unit) => qao.l2 n O O.length i s nm N O T) (st := fun _=>()) (fun i => if (O.drop i).all (fun k => decide (0 ≤ k ∧ k < (N.length : Int))) = true then .inl () else .inr 23) (m := O.length) 0
    (fun n _ => by rw [qao.l2,ifq,dNl (Nat.le_refl _)]; rfl)
    (fun i n hi _ ih => by
     rw [qao.l2,ifp,ifp,tNc,qai hi (0 : Int),List.all_cons]
     by_cases d1 : O.getD i 0 < 0
     ·rw [if_pos d1,decide_eq_false (by omega),Bool.false_and,if_neg Bool.false_ne_true]
     by_cases d2 : (N.length : Int) ≤ O.getD i 0
     ·rw [if_neg d1,if_pos d2,decide_eq_false (by omega),Bool.false_and,if_neg Bool.false_ne_true]
     rw [if_neg d1,if_neg d2,qas hi (by omega),ih,decide_eq_true (by omega),Bool.true_and]) k (by omega)
   rw [dZr] at this
   exact this
  rw [if_pos c4,if_pos c4,Sum.elim_inl,l2,obs]
  by_cases c5 : O.all (fun k => decide (0 ≤ k ∧ k < (N.length : Int))) = true
  ·rw [if_pos c5,if_pos c5,Sum.elim_inl,← c4]
  ·rw [if_neg c5,if_neg c5]; rfl
 ·rw [if_neg c4,if_neg c4]; rfl
theorem qhH (s : LI) (nm : ByteArray) (N : List Nd) (O : LI) (h1 : s.length ≤ 100000) (h2 : N.length ≤ 100000) (h3 : O.length ≤ 100000) (h4 : ∀ x ∈ N,smN x) (k : Nat) (hk : 300000 ≤ k) : qbV.f k s nm N O s nm N O = some true := by
 unfold qbV.f
 rw [qct _ _ (by omega) k (by omega),obs,if_pos (decide_eq_true rfl),if_pos (beq_self_eq_true _),if_pos rfl,qct _ _ (by omega) k (by omega),obs,if_pos (decide_eq_true rfl)]
 have := iter0 (L := fun n i (_ : Unit) => qbV.l0 k n N.length i s nm N O s nm N O) (st := fun _=>()) (fun _=>.inl ()) (m := N.length) 0
  (fun n _ => by rw [qbV.l0,ifq])
  (fun i n hi _ ih => by
   obtain ⟨a1,a2,a3⟩ := h4 _ (qaj hi nd0)
   have e : qdy.f k (N.getD i nd0).1 (N.getD i nd0).2.1 (N.getD i nd0).2.2.1 (N.getD i nd0).2.2.2.1 (N.getD i nd0).2.2.2.2.1 (N.getD i nd0).2.2.2.2.2.1 (N.getD i nd0).2.2.2.2.2.2 (N.getD i nd0).1 (N.getD i nd0).2.1 (N.getD i nd0).2.2.1 (N.getD i nd0).2.2.2.1 (N.getD i nd0).2.2.2.2.1 (N.getD i nd0).2.2.2.2.2.1 (N.getD i nd0).2.2.2.2.2.2 = some true := by
    unfold qdy.f
    rw [if_pos rfl,qct _ _ (by omega) k (by omega),obs,if_pos (decide_eq_true rfl),qct _ _ (by omega) k (by omega),obs,if_pos (decide_eq_true rfl),qct _ _ (by omega) k (by omega),obs,if_pos (decide_eq_true rfl),if_pos rfl,if_pos rfl,beq_self_eq_true]
   rw [qbV.l0,ifp,ifp,ifp,tNc,e,obs,if_pos rfl,qas hi (by omega),ih]) k (by omega)
 rw [this,obs]; rfl
structure GrS (s : LI) (nm : ByteArray) (N : List Nd) (O : LI) : Prop where
 h1 : s.length ≤ 100000
 h2 : nm.size ≤ 100000
 h3 : N.length ≤ 100000
 h4 : O.length ≤ 100000
 ok : ∀ x ∈ N,okN x
 sm : ∀ x ∈ N,smN x
end Go.Pf

namespace Go.Pf
open Go Go.Vm
theorem within20 {a : Int} (ha : -9223372036854775808 ≤ a ∧ a < 9223372036854775808) : ∃ r,qcB.f a 0 1048576 = some r ∧ 0 ≤ r ∧ r ≤ 1048576 := by
 unfold qcB.f
 have w1 : (IntKind.i64.wrap ((IntKind.i64.wrap (1048576 - 0)) + 1) : Int) = 1048577 := by decide
 rw [w1]
 have t2 := Int.lt_tmod_of_pos a (show (0 : Int) < 1048577 by omega)
 have t3 := Int.tmod_lt_of_pos a (show (0 : Int) < 1048577 by omega)
 have key : ∃ r,(if (1048577 : Int) ≠ 0 then if a.tmod 1048577 < 0 then some (IntKind.i64.wrap (0 + (IntKind.i64.wrap ((IntKind.i64.wrap ((IntKind.i64.wrap ((a.tmod 1048577) + 1048576)) - 0)) + 1)))) else some (IntKind.i64.wrap (0 + (a.tmod 1048577))) else none) = some r ∧ 0 ≤ r ∧ r ≤ 1048576 := by
  rw [ifp]
  split
  ·rw [qak (n := a.tmod 1048577 + 1048576) (by omega) (by omega),qak (n := a.tmod 1048577 + 1048576 - 0) (by omega) (by omega),qak (n := a.tmod 1048577 + 1048576 - 0 + 1) (by omega) (by omega),qak (by omega) (by omega)]
   exact ⟨_,rfl,by omega,by omega⟩
  ·rw [qak (by omega) (by omega)]
   exact ⟨_,rfl,by omega,by omega⟩
 split
 ·split
  ·exact ⟨_,rfl,by omega,by omega⟩
  ·exact key
 ·exact key
theorem qf1 {a n : Int} (ha : -9223372036854775808 ≤ a ∧ a < 9223372036854775808) (hn : 1 ≤ n) : ∃ r,qck.f a n = some r ∧ 0 ≤ r ∧ r < n := by
 obtain ⟨r,e,r0,r1⟩ := within20 ha
 unfold qck.f
 rw [e,obs,if_neg (show ¬ n < 1 by omega),if_pos (show n ≠ 0 by omega)]
 exact ⟨_,rfl,Int.tmod_nonneg _ (by omega),Int.tmod_lt_of_pos _ (by omega)⟩
def i64r (a : Int) : Prop := -9223372036854775808 ≤ a ∧ a < 9223372036854775808
theorem qej (l : LI) (hl : l.length ≤ 100000) (a b c d : Int) (t : ByteArray) (hc : i64r c) : ∃ r,qbD.f l a b c d t = some r ∧ r.length ≤ l.length + 1 := by
 unfold qbD.f
 by_cases h : (l.length : Int) = 0
 ·rw [if_pos h]; exact ⟨_,rfl,by rw [lSi]; omega⟩
 obtain ⟨r,e,r0,r1⟩ := qf1 hc (show 1 ≤ (l.length : Int) by omega)
 rw [if_neg h,ifp,e,obs,nAp,if_pos ⟨r0,r1⟩,ifp]
 exact ⟨_,rfl,by rw [List.length_set]; omega⟩
end Go.Pf

namespace Go.Pf
open Go Go.Vm
def bA (l : List UInt8) : ByteArray := ⟨l.toArray⟩
theorem qfa (a b : List UInt8) : bA a ++ bA b = bA (a ++ b) := by
 apply ByteArray.ext
 rw [ByteArray.data_append]
 simp [bA]
theorem qbx (a : List UInt8) : (bA a).size = a.length := rfl
theorem qgC (a : List UInt8) : (bA a).data.toList = a := by simp [bA]
theorem qkF (s : ByteArray) : bA s.data.toList = s := by cases s; simp [bA]
theorem qoz {a b : List UInt8} (h : bA a = bA b) : a = b := by
 have := congrArg (fun s : ByteArray => s.data.toList) h
 simpa [bA] using this
def zNum (n : Int) : ByteArray := bA (Lib.itoa n)
theorem qdk {n : Int} (h1 : -9223372036854775808 ≤ n) (h2 : n < 9223372036854775808) : qcn.f n = some (zNum n) := by
 unfold qcn.f strconv_FormatInt.f
 rw [if_pos ⟨rfl,h1,by omega⟩]; rfl
def dig (u : Nat) : List UInt8 := if u = 0 then [] else Lib.decDigits u
theorem qpm {u : Nat} (h : u ≠ 0) : dig u = dig (u / 10) ++ [UInt8.ofNat (48 + u % 10)] := by
 unfold dig
 rw [if_neg h]
 rw [Lib.decDigits]
 by_cases h10 : u < 10
 ·rw [dif_pos h10,ifp,Nat.mod_eq_of_lt h10]; rfl
 ·rw [dif_neg h10,ifq]
theorem qqJ {d : Nat} (h : d < 10) : Utf8.encode (48 + (d : Int)) = bA [UInt8.ofNat (48 + d)] := by
 match d,h with
 | 0,_ | 1,_ | 2,_ | 3,_ | 4,_ | 5,_ | 6,_ | 7,_ | 8,_ | 9,_ => rfl
 | d + 10,h => omega
theorem qey (x0 : Int) : ∀ (e : Nat) (x : Int) (s : ByteArray) (n : Nat),x.natAbs < 10 ^ e → x.natAbs < 9223372036854775809 → e < n → s.size + e ≤ 100000 → qaF.l0 n x0 s x = some (bA (dig x.natAbs) ++ s)
 | 0,x,s,n,h,_,hn,_ => by
  obtain ⟨n,rfl⟩ := sun (n := n)
  have hx : x = 0 := by simp at h; omega
  subst hx
  rw [qaF.l0,if_pos rfl]
  show some s = some (bA [] ++ s)
  congr 1
 | e + 1,x,s,n,h,hb,hn,hs => by
  obtain ⟨n,rfl⟩ := sun (n := n)
  by_cases hx : x = 0
  ·subst hx
   rw [qaF.l0,if_pos rfl]
   show some s = some (bA [] ++ s)
   congr 1
  rw [qaF.l0,if_neg hx,ifp]
  have hdiv : (x.tdiv 10).natAbs = x.natAbs / 10 := by rw [Int.natAbs_tdiv]; rfl
  have hmod : (x.tmod 10).natAbs = x.natAbs % 10 := by rw [Int.natAbs_tmod]; rfl
  have hd : x.natAbs / 10 < 10 ^ e := by rw [Nat.pow_succ] at h; omega
  have hw : IntKind.i64.wrap (x.tdiv 10) = x.tdiv 10 := qak (by omega) (by omega)
  have fin : ∀ c : Int,c = ((x.natAbs % 10 : Nat) : Int) → (if (Utf8.encode (IntKind.i32.wrap (IntKind.i64.wrap (48 + c)))).size + s.size ≤ 9223372036854775807 then qaF.l0 n x0 ((Utf8.encode (IntKind.i32.wrap (IntKind.i64.wrap (48 + c)))) ++ s) (IntKind.i64.wrap (x.tdiv 10)) else none) = some (bA (dig x.natAbs) ++ s) := by
   rintro c rfl
   have hr : x.natAbs % 10 < 10 := Nat.mod_lt _ (by omega)
   have h32 : IntKind.i32.wrap (IntKind.i64.wrap (48 + ((x.natAbs % 10 : Nat) : Int))) = 48 + ((x.natAbs % 10 : Nat) : Int) := by
    rw [qak (by omega) (by omega)]
    generalize x.natAbs % 10 = d at hr
    match d,hr with
    | 0,_ | 1,_ | 2,_ | 3,_ | 4,_ | 5,_ | 6,_ | 7,_ | 8,_ | 9,_ => rfl
    | d + 10,h => omega
   rw [h32,qqJ hr,qbx,if_pos (by simp only [lSi]; omega),hw,qey x0 e _ _ n (by rw [hdiv]; exact hd) (by rw [hdiv]; omega) (by omega) (by rw [qaM,qbx]; simp only [lSi]; omega),hdiv,
    qpm (show x.natAbs ≠ 0 by omega),← qfa,qhh]
  by_cases hneg : x.tmod 10 < 0
  ·rw [if_pos hneg]
   exact fin _ (by rw [qak (by omega) (by omega)]; omega)
  ·rw [if_neg hneg]
   exact fin _ (by omega)
theorem qcJ {n : Int} (h1 : -9223372036854775808 ≤ n) (h2 : n < 9223372036854775808) (k : Nat) (hk : 100 ≤ k) : qaF.f k n = some (zNum n) := by
 unfold qaF.f zNum Lib.itoa
 by_cases h0 : n = 0
 ·subst h0; rw [if_pos rfl,ifq]
  simp only [Int.toNat_zero]
  rw [Lib.decDigits,dif_pos (by omega)]; rfl
 have hl := qey n 19 n ByteArray.empty k (by omega) (by omega) (by omega) (by simp)
 rw [if_neg h0,hl,obs,qeO]
 have hdg : dig n.natAbs = Lib.decDigits n.natAbs := by unfold dig; rw [ifq]
 rw [hdg]
 have hlen : (Lib.decDigits n.natAbs).length ≤ 20 := by
  have key : ∀ e u,u < 10 ^ e → (Lib.decDigits u).length ≤ e + 1 := fun e => by
   induction e with
   | zero => intro u h; rw [Lib.decDigits,dif_pos (by omega)]; simp
   | succ e ih =>
    intro u h
    rw [Lib.decDigits]
    split
    ·simp
    ·rw [lAp]; have := ih (u / 10) (by rw [Nat.pow_succ] at h; omega); simp only [lSi]; omega
  exact key 19 _ (by omega)
 by_cases hn : n < 0
 ·rw [if_pos hn,if_pos hn,qbx,if_pos (by show 1 + _ ≤ _; omega)]
  show some (bA [45] ++ _) = _
  rw [qfa]; rfl
 ·rw [if_neg hn,if_neg hn]
  congr 3; omega
end Go.Pf

namespace Go.Pf
open Go Go.Vm
def rng (n : Int) : Prop := -9223372036854775808 ≤ n ∧ n < 9223372036854775808
theorem qmu : ∀ e u,u < 10 ^ e → (Lib.decDigits u).length ≤ e + 1 := fun e => by
 induction e with
 | zero => intro u h; rw [Lib.decDigits,dif_pos (by omega)]; simp
 | succ e ih =>
  intro u h
  rw [Lib.decDigits]
  split
  ·simp
  ·rw [lAp]; have := ih (u / 10) (by rw [Nat.pow_succ] at h; omega); simp only [lSi]; omega
theorem qhf {n : Int} (h : rng n) : (Lib.itoa n).length ≤ 21 := by
 obtain ⟨h1,h2⟩ := h
 unfold Lib.itoa
 split
 ·have := qmu 19 n.natAbs (by omega); simp only [lCo]; omega
 ·have := qmu 19 n.toNat (by omega); omega
theorem qes {n : Int} (h : rng n) : (zNum n).size ≤ 21 := qhf h
def zTl (l : LI) : List UInt8 := l.flatMap fun n => 32 :: Lib.itoa n
theorem qlw (n : Int) (l : LI) : zTl (n :: l) = 32 :: Lib.itoa n ++ zTl l := rfl
theorem qp6 (a b : LI) : zTl (a ++ b) = zTl a ++ zTl b := List.flatMap_append
theorem qdh : ∀ {l : LI},(∀ n ∈ l,rng n) → (zTl l).length ≤ 22 * l.length
 | [],_ => Nat.le_refl _
 | n :: l,h => by
  have h1 := qhf (h n (List.mem_cons_self ..))
  have h2 := qdh (l := l) fun m hm => h m (mCm _ hm)
  rw [qlw,lAp,lCo,lCo]; omega
theorem qdO (l : LI) (hl : l.length ≤ 1000000) (hr : ∀ n ∈ l,rng n) (k : Nat) (hk : l.length < k) : qa5.f k l = some (l.map zNum) := by
 unfold qa5.f
 have := iter0 (L := fun n i y => qa5.l0 n l l.length i y) (st := fun i => (l.take i).map zNum) (fun _=>l.map zNum) (m := l.length) 0
  (fun n _ => by rw [qa5.l0,ifq,List.take_length])
  (fun i n hi _ ih => by
   have hm := hr _ (qaj hi 0)
   rw [qdd hi,List.map_append,List.map_cons,List.map_nil] at ih
   rw [qa5.l0,ifp,ifp,tNc,qdk hm.1 hm.2,obs,qas hi (by omega),if_pos (by rw [List.length_map,lTk,lSi]; omega)]
   exact ih) k (by omega)
 rw [List.take_zero,List.map_nil] at this
 rw [this]; rfl
theorem qgm (s0 : List UInt8) (L : Nat → ByteArray → Int → Option ByteArray) (l : LI) (hl : l.length ≤ 1000000) (hr : ∀ n ∈ l,rng n) (hs : s0.length ≤ 1000000000000)
  (h0 : ∀ n s,L (n + 1) s l.length = some s)
  (h1 : ∀ (i n : Nat) (s : ByteArray),i < l.length → s.size ≤ 2000000000000 → L (n + 1) s i = L n ((s ++ bA [32]) ++ zNum (l.getD i 0)) ((i + 1 : Nat) : Int)) (k : Nat) (hk : l.length < k) :
  L k (bA s0) 0 = some (bA (s0 ++ zTl l)) := by
 have := iter0 (L := fun n i y => L n y i) (st := fun i => bA (s0 ++ zTl (l.take i))) (fun _=>bA (s0 ++ zTl l)) (m := l.length) 0
  (fun n _ => by rw [h0,List.take_length])
  (fun i n hi _ ih => by
   have hm := qdh (l := l.take i) fun m hm => hr m (List.mem_of_mem_take hm)
   rw [lTk] at hm
   rw [h1 i n _ hi (by rw [qbx,lAp]; omega)]
   rw [qdd hi,qp6,← aAs,qlw] at ih
   have e : zTl ([] : LI) = [] := rfl
   rw [e,List.append_nil] at ih
   rw [zNum,qfa,qfa,aAs (s0 ++ zTl (l.take i)) [32]]
   exact ih) k (by omega)
 rw [List.take_zero] at this
 have e : zTl ([] : LI) = [] := rfl
 rw [e,List.append_nil] at this
 exact this
theorem qex (l : LI) (hl : l.length ≤ 1000000) (hr : ∀ n ∈ l,rng n) (k : Nat) (hk : l.length + 100 < k) : qbf.f k l = some (bA ([32,40] ++ zTl l ++ [32,41])) := by
 unfold qbf.f
 have hz := qdh hr
 have := qgm [32,40] (fun n s i => qbf.l0 k n l s l.length i) l hl hr (by simp)
  (fun n s => by rw [qbf.l0,ifq])
  (fun i n s hi hs => by
   have hm := hr _ (qaj hi 0)
   have hz := qes hm
   rw [qbf.l0,ifp,if_pos (by show _ + 1 ≤ _; omega),ifp,tNc,qcJ hm.1 hm.2 k (by omega),obs,if_pos (by rw [qaM]; show _ + 1 + _ ≤ _; omega),qas hi (by omega)]
   rfl) k (by omega)
 have e : ByteArray.mk #[32,40] = bA [32,40] := rfl
 rw [e,this,obs,if_pos (by rw [qbx,lAp]; show 2 + _ + 2 ≤ _; omega)]
 show some (_ ++ bA [32,41]) = _
 rw [qfa]
def zName (op : Int) : ByteArray := if op < 1 ∨ 20 < op then ByteArray.empty else (qed.f.getD []).getD op.toNat ByteArray.empty
theorem qhm (op : Int) : qdS.f op = some (zName op) := by
 rcases qdK op with rfl | rfl | rfl | rfl | rfl | rfl | rfl | rfl | rfl | rfl | rfl | rfl | rfl | rfl | rfl | rfl | rfl | rfl | rfl | rfl | hout
 iterate 20 rfl
 unfold qdS.f zName
 rw [if_pos hout]
 rcases hout with h | h
 ·rw [if_pos h]
 ·rw [ifq,if_pos h]
theorem qj8 (op : Int) : qdr.f op = some (zName op) := by
 rcases qdK op with rfl | rfl | rfl | rfl | rfl | rfl | rfl | rfl | rfl | rfl | rfl | rfl | rfl | rfl | rfl | rfl | rfl | rfl | rfl | rfl | hout
 iterate 20 rfl
 unfold qdr.f zName
 rw [if_pos hout]
 rcases hout with h | h
 ·rw [if_pos h]
 ·rw [ifq,if_pos h]
theorem qio (op : Int) : (zName op).size ≤ 6 := by
 rcases qdK op with rfl | rfl | rfl | rfl | rfl | rfl | rfl | rfl | rfl | rfl | rfl | rfl | rfl | rfl | rfl | rfl | rfl | rfl | rfl | rfl | hout
 iterate 20 decide
 unfold zName
 rw [if_pos hout]; decide
end Go.Pf

namespace Go.Pf
open Go Go.Vm
theorem qoC (s : ByteArray) : ∀ (e i : Nat) (r : List UInt8),s.size ≤ i + e → ByteArray.toList.loop s i r = r.reverse ++ s.data.toList.drop i
 | 0,i,r,h => by
  rw [ByteArray.toList.loop,ifq,dNl (by rw [Array.length_toList]; show s.size ≤ i; omega),List.append_nil]
 | e + 1,i,r,h => by
  rw [ByteArray.toList.loop]
  by_cases c : i < s.size
  ·have c' : i < s.data.toList.length := by rw [Array.length_toList]; exact c
   rw [if_pos c,qoC s e (i + 1) _ (by omega),List.reverse_cons,aAs,qai c' 0]
   have e : s.get! i = s.data.toList.getD i 0 := by
    show s.data[i]! = _
    rw [Array.getElem!_eq_getD,Array.getD_eq_getD_getElem?,gDg,Array.getElem?_toList]; rfl
   rw [e]; rfl
  ·rw [if_neg c,dNl (by rw [Array.length_toList]; show s.size ≤ i; omega),List.append_nil]
theorem qkJ (s : ByteArray) : s.toList = s.data.toList := by
 show ByteArray.toList.loop s 0 [] = _
 rw [qoC s s.size 0 [] (by omega)]; rfl
theorem qdj (a b : ByteArray) : (a.toList == b.toList) = decide (a = b) := by
 rw [qkJ,qkJ]
 by_cases h : a = b
 ·subst h; simp
 ·have h2 : a.data.toList ≠ b.data.toList := fun e => h (by rw [← qkF a,e,qkF])
  rw [decide_eq_false h]
  exact beq_false_of_ne h2
theorem qeZ (a b : ByteArray) : ((a.toList == b.toList) = true) ↔ a = b := by rw [qdj,decide_eq_true_eq]
theorem qeo (s : ByteArray) : qch.f s = some (if s = ByteArray.empty then bA [45] else s) := by
 unfold qch.f
 by_cases h : s = ByteArray.empty
 ·rw [if_pos ((qeZ _ _).2 h),if_pos h]; rfl
 ·rw [if_neg (fun hh => h ((qeZ _ _).1 hh)),if_neg h]
theorem qnF (l : LI) : runesBytes l = enc l := by
 have key : ∀ (l : LI) (a : ByteArray),l.foldl (fun r n => r ++ Utf8.encode n) a = a ++ enc l := fun l => by
  induction l with
  | nil => intro a; rw [List.foldl_nil,enc,qeO]
  | cons r l ih => intro a; rw [List.foldl_cons,ih,enc,qhh]
 unfold runesBytes
 rw [key,qjG]
def zTxt (nm : ByteArray) (sp : LI) : ByteArray := enc (sp.map (zTx (rs nm)))
theorem qkh (nm : ByteArray) (hn : nm.size ≤ 100000) (sp : LI) (hs : sp.length ≤ 1000) (k : Nat) (hk : 500000 ≤ k) : qbC.f k nm sp = some (zTxt nm sp) := by
  unfold qbC.f zTxt
  rw [qdm nm (by omega) k (by omega),obs]
  generalize rs nm = l
  have := iter0 (L := fun n i y => qbC.l0 n sp sp.length i l y) (st := fun i => (sp.take i).map (zTx l)) (fun _=>sp.map (zTx l)) (m := sp.length) 0
    (fun n _ => by rw [qbC.l0,ifq,List.take_length])
    (fun i n hi _ ih => by
      have hb : ((sp.take i).map (zTx l)).length ≤ 1000 := by rw [List.length_map,lTk]; omega
      rw [qdd hi,List.map_append,List.map_cons,List.map_nil] at ih
      rw [qbC.l0,ifp,ifp,tNc,qas hi (by omega)]
      by_cases c1 : 0 ≤ sp.getD i 0
      · by_cases c2 : sp.getD i 0 < (l.length : Int)
        · have e : zTx l (sp.getD i 0) = l.getD (sp.getD i 0).toNat 0 := ifq
          rw [e] at ih
          rw [if_pos c1,if_pos c2,if_pos ⟨c1,c2⟩,ifp,if_pos (by simp only [lSi]; omega),ih]
        · have e : zTx l (sp.getD i 0) = 46 := ifp
          rw [e] at ih
          rw [if_pos c1,if_neg c2,if_pos (by simp only [lSi]; omega),ih]
      · have e : zTx l (sp.getD i 0) = 46 := ifp
        rw [e] at ih
        rw [if_neg c1,if_pos (by simp only [lSi]; omega),ih]) k (by omega)
  rw [List.take_zero,List.map_nil] at this
  rw [this,obs,qnF]
theorem qmX (r : Int) : 1 ≤ (Utf8.encode r).size := by
 unfold Utf8.encode
 dsimp only
 generalize (if Utf8.valid r = true then r.toNat else Utf8.runeError) = c
 by_cases c1 : c < 128
 ·rw [if_pos c1]; exact Nat.le_refl _
 by_cases c2 : c < 2048
 ·rw [if_neg c1,if_pos c2]; show 1 ≤ 2; omega
 by_cases c3 : c < 65536
 ·rw [if_neg c1,if_neg c2,if_pos c3]; show 1 ≤ 3; omega
 ·rw [if_neg c1,if_neg c2,if_neg c3]; show 1 ≤ 4; omega
def zNW (nm nt : ByteArray) (rank : Int) : ByteArray := if (zNote (rs nm) (rs nt) rank).1 = true then zTxt nm (zNote (rs nm) (rs nt) rank).2.2 else bA [45]
theorem qiR (nm : LI) : ∀ (l y r : LI),zNl nm l y = some r → r.length ≤ y.length + l.length
 | [],y,r,h => by rw [zNl] at h; cases h; simp
 | x :: l,y,r,h => by
  rw [zNl] at h
  split at h
  ·have := qiR nm l y r h; rw [lCo]; omega
  split at h
  ·have := qiR nm l _ r h; rw [lAp] at this; simp only [lCo,List.length_nil] at this ⊢; omega
  split at h
  ·cases h
  ·have := qiR nm l _ r h; rw [lAp] at this; simp only [lCo,List.length_nil] at this ⊢; omega
theorem qfB (nm l : LI) (rank : Int) : (zNote nm l rank).2.2.length ≤ 16 := by
 unfold zNote
 by_cases c : 16 < l.length
 ·rw [if_pos c]; exact Nat.zero_le _
 rw [if_neg c]
 cases h : zNl nm l [] with
 | none => exact Nat.zero_le _
 | some y =>
  have := qiR nm l [] y h
  dsimp only
  by_cases c1 : y.length = 0
  ·rw [if_pos c1]; exact Nat.zero_le _
  by_cases c2 : (y.length : Int) = rank
  ·rw [if_neg c1,if_pos c2]; simp at this; show y.length ≤ 16; omega
  ·rw [if_neg c1,if_neg c2]; exact Nat.zero_le _
theorem qmC (nm l : LI) (rank : Int) : ((zNote nm l rank).1 = true ∧ (zNote nm l rank).2.2 ≠ []) ∨ ((zNote nm l rank).1 = false ∧ (zNote nm l rank).2.2 = []) := by
 unfold zNote
 by_cases c : 16 < l.length
 ·rw [if_pos c]; exact .inr ⟨rfl,rfl⟩
 rw [if_neg c]
 cases h : zNl nm l [] with
 | none => exact .inr ⟨rfl,rfl⟩
 | some y =>
  dsimp only
  by_cases c1 : y.length = 0
  ·rw [if_pos c1]; exact .inr ⟨rfl,rfl⟩
  by_cases c2 : (y.length : Int) = rank
  ·rw [if_neg c1,if_pos c2]; exact .inl ⟨rfl,fun e => by dsimp only at e; subst e; exact c1 rfl⟩
  ·rw [if_neg c1,if_neg c2]; exact .inr ⟨rfl,rfl⟩
theorem qlB (nm nt : ByteArray) (rank : Int) : (zNW nm nt rank).size ≤ 64 := by
 unfold zNW
 split
 ·have h1 := qgb ((zNote (rs nm) (rs nt) rank).2.2.map (zTx (rs nm)))
  have h2 := qfB (rs nm) (rs nt) rank
  rw [List.length_map] at h1
  unfold zTxt; omega
 ·show 1 ≤ 64; omega
theorem qjL (nm nt : ByteArray) (rank : Int) : (if zTxt nm (zNote (rs nm) (rs nt) rank).2.2 = ByteArray.empty then bA [45] else zTxt nm (zNote (rs nm) (rs nt) rank).2.2) = zNW nm nt rank := by
 unfold zNW
 rcases qmC (rs nm) (rs nt) rank with ⟨h1,h2⟩ | ⟨h1,h2⟩
 ·rw [if_pos h1,if_neg]
  intro e
  cases hx : (zNote (rs nm) (rs nt) rank).2.2 with
  | nil => exact h2 hx
  | cons x r =>
   rw [hx] at e
   have hs := congrArg ByteArray.size e
   rw [zTxt,List.map_cons,enc,qaM] at hs
   have := qmX (zTx (rs nm) x)
   rw [show ByteArray.empty.size = 0 from rfl] at hs
   omega
 ·rw [h1,h2]; rfl
theorem qgQ (g1 : LI) (nm : ByteArray) (g3 : List Nd) (g4 : LI) (x1 : Int) (x2 x3 x4 : LI) (x5 x6 : Int) (nt : ByteArray) (rank : Int) (hn : nm.size ≤ 100000) (ht : nt.size ≤ 100000) (k : Nat) (hk : 500000 ≤ k) :
  qc4.f k g1 nm g3 g4 x1 x2 x3 x4 x5 x6 nt rank = some (zNW nm nt rank) := by
 unfold qc4.f zNW
 rw [qhy nm nt rank (by omega) (by omega) k (by omega) (by omega),obs]
 have := qfB (rs nm) (rs nt) rank
 by_cases c : (zNote (rs nm) (rs nt) rank).1 = true
 ·rw [if_pos c,if_pos c,qhx nm hn _ (by omega) k (by omega)]; rfl
 ·rw [if_neg c,if_neg c]; rfl
end Go.Pf

namespace Go.Pf
open Go Go.Vm
theorem qiV {α : Type} {l : List α} {i : Nat} (h : i < l.length) (d : α) : l.take (i + 1) = l.take i ++ [l.getD i d] := by
 rw [List.take_add_one,gDg,List.getElem?_eq_getElem h]; rfl
def lst (l : LI) : List ByteArray := [bA [40]] ++ l.map zNum ++ [bA [41]]
def zWds (nm : ByteArray) (x : Nd) (rank : Int) : List ByteArray :=
 [zName x.1] ++ (lst x.2.1 ++ (lst x.2.2.1 ++ lst x.2.2.2.1)) ++ [zNum x.2.2.2.2.1,zNum x.2.2.2.2.2.1,zNW nm x.2.2.2.2.2.2 rank]
structure wtN (x : Nd) : Prop where
 i : x.2.1.length ≤ 100000
 s : x.2.2.1.length ≤ 100000
 a : x.2.2.2.1.length ≤ 100000
 nt : x.2.2.2.2.2.2.size ≤ 100000
 ri : ∀ n ∈ x.2.1,rng n
 rs : ∀ n ∈ x.2.2.1,rng n
 ra : ∀ n ∈ x.2.2.2.1,rng n
 rn : rng x.2.2.2.2.1
 rh : rng x.2.2.2.2.2.1
theorem wtN.ok {x : Nd} (h : wtN x) : okN x := ⟨h.i,h.a,h.nt⟩
theorem qjM (Y : List LI) (hY : Y.length ≤ 10) (hl : ∀ l ∈ Y,l.length ≤ 100000 ∧ ∀ n ∈ l,rng n) (t : ByteArray) (r : Int) (g1 : LI) (g2 : ByteArray) (g3 : List Nd) (g4 : LI) (x1 : Int) (x2 x3 x4 : LI) (x5 x6 : Int) (x7 : ByteArray) (k : Nat) (hk : 500000 ≤ k) :
    qb1.l0 k k r Y.length 0 g1 g2 g3 g4 x1 x2 x3 x4 x5 x6 x7 [t] Y = some ([t] ++ Y.flatMap lst) := by
  have := iter0 (L := fun n i y => qb1.l0 k n r Y.length i g1 g2 g3 g4 x1 x2 x3 x4 x5 x6 x7 y Y) (st := fun i => [t] ++ (Y.take i).flatMap lst) (fun _=>[t] ++ Y.flatMap lst) (m := Y.length) 0
    (fun n _ => by rw [qb1.l0,ifq,List.take_length])
    (fun i n hi _ ih => by
      obtain ⟨h1,h2⟩ := hl _ (qaj hi [])
      have hb : ((Y.take i).flatMap lst).length ≤ 100002 * i := by
        have key : ∀ (e : Nat) (Z : List LI),Z.length ≤ e → (∀ l ∈ Z,l ∈ Y) → (Z.flatMap lst).length ≤ 100002 * e := fun e => by
          induction e with
          | zero => intro Z hz _; cases Z with
            | nil => simp
            | cons => simp at hz
          | succ e ih =>
            intro Z hz hm
            cases Z with
            | nil => simp
            | cons z Z =>
              have h3 := ih Z (by simpa using hz) fun l hl => hm l (mCm _ hl)
              have h4 := (hl z (hm z (List.mem_cons_self ..))).1
              rw [List.flatMap_cons,lAp]
              have h5 : (lst z).length = z.length + 2 := by simp [lst]
              omega
        exact key i _ (by rw [lTk]; omega) fun l hl => List.mem_of_mem_take hl
      rw [qiV hi ([] : LI),List.flatMap_append,List.flatMap_cons,List.flatMap_nil,List.append_nil,← aAs] at ih
      have hz : (([t] ++ (Y.take i).flatMap lst)).length ≤ 2000000 := by rw [lAp,lSi]; omega
      rw [qb1.l0,ifp,ifp,tNc,if_pos hi,if_pos (by rw [lSi]; omega),qdO _ (by omega) h2 k (by omega),obs,
        if_pos (by clear ih; generalize [t] ++ (Y.take i).flatMap lst = A at hz; simp only [lAp,lSi,List.length_map]; omega),if_pos (by clear ih; generalize [t] ++ (Y.take i).flatMap lst = A at hz; simp only [lAp,lSi,List.length_map]; omega),qas hi (by omega)]
      refine Eq.trans ?_ ih
      congr 1
      simp only [lst,aAs]; rfl) k (by omega)
  rw [List.take_zero,List.flatMap_nil,List.append_nil] at this
  exact this
theorem qkP (g1 : LI) (nm : ByteArray) (g3 : List Nd) (g4 : LI) (x : Nd) (rank : Int) (hn : nm.size ≤ 100000) (hx : wtN x) (k : Nat) (hk : 500000 ≤ k) :
  qb1.f k g1 nm g3 g4 x.1 x.2.1 x.2.2.1 x.2.2.2.1 x.2.2.2.2.1 x.2.2.2.2.2.1 x.2.2.2.2.2.2 rank = some (zWds nm x rank) := by
 have hi := hx.i; have hs := hx.s; have ha := hx.a; have hnt := hx.nt
 unfold qb1.f
 rw [qhm,obs,qjM [x.2.1,x.2.2.1,x.2.2.2.1] (by simp) (fun l hl => by
  rcases List.mem_cons.1 hl with rfl | hl
  ·exact ⟨by omega,hx.ri⟩
  rcases List.mem_cons.1 hl with rfl | hl
  ·exact ⟨by omega,hx.rs⟩
  rw [List.mem_singleton] at hl; subst hl
  exact ⟨by omega,hx.ra⟩) _ _ _ _ _ _ _ _ _ _ _ _ _ k (by omega),obs,qgS nm _ _ (by omega) (by omega) k (by omega) (by omega),obs,qdk hx.rn.1 hx.rn.2,obs,qdk hx.rh.1 hx.rh.2,obs,
  qkh nm hn _ (by have := qfB (rs nm) (rs x.2.2.2.2.2.2) rank; omega) k (by omega),obs,qeo,obs,qjL]
 have hl : ([zName x.1] ++ [x.2.1,x.2.2.1,x.2.2.2.1].flatMap lst).length ≤ 400000 := by
  simp only [lAp,lSi,List.flatMap_cons,List.flatMap_nil,List.length_nil,lst,List.length_map]; omega
 rw [if_pos (by rw [show [zNum x.2.2.2.2.1,zNum x.2.2.2.2.2.1,zNW nm x.2.2.2.2.2.2 rank].length = 3 from rfl]; omega)]
 simp [zWds]
def zLn (ws : List ByteArray) : List UInt8 := Lib.join (ws.map (·.data.toList)) [32] ++ [10]
def tl (ws : List ByteArray) : List UInt8 := ws.flatMap fun w => 32 :: w.data.toList
theorem qfD (w : ByteArray) (ws : List ByteArray) : zLn (w :: ws) = w.data.toList ++ tl ws ++ [10] := by
 unfold zLn tl
 rw [List.map_cons,Lib.join_cons]
 congr 2
 unfold Lib.joinTail
 rw [List.map_map,List.flatMap_def]; rfl
theorem qiq (a b : List ByteArray) : tl (a ++ b) = tl a ++ tl b := List.flatMap_append
theorem qlI (l : LI) : tl (l.map zNum) = zTl l := by
 unfold tl zTl
 rw [List.flatMap_map]
 congr 1
theorem qns (l : LI) : tl (lst l) = [32,40] ++ zTl l ++ [32,41] := by
 unfold lst
 rw [qiq,qiq,qlI]; rfl
theorem qnj (nm : ByteArray) (x : Nd) (rank : Int) : zLn (zWds nm x rank) =
  (zName x.1).data.toList ++ (([32,40] ++ zTl x.2.1 ++ [32,41]) ++ (([32,40] ++ zTl x.2.2.1 ++ [32,41]) ++ ([32,40] ++ zTl x.2.2.2.1 ++ [32,41]))) ++ (32 :: Lib.itoa x.2.2.2.2.1 ++ (32 :: Lib.itoa x.2.2.2.2.2.1 ++ (32 :: (zNW nm x.2.2.2.2.2.2 rank).data.toList ++ [10]))) := by
 unfold zWds
 rw [aAs [zName x.1],List.singleton_append,qfD,qiq,qiq,qiq,qns,qns,qns]
 have e : tl [zNum x.2.2.2.2.1,zNum x.2.2.2.2.2.1,zNW nm x.2.2.2.2.2.2 rank] = 32 :: Lib.itoa x.2.2.2.2.1 ++ (32 :: Lib.itoa x.2.2.2.2.2.1 ++ (32 :: (zNW nm x.2.2.2.2.2.2 rank).data.toList)) := by
  simp [tl,zNum,bA]
 rw [e]
 simp only [aAs]
theorem qfj (nm : ByteArray) (x : Nd) (rank : Int) (hx : wtN x) : (zLn (zWds nm x rank)).length ≤ 150 + 22 * (x.2.1.length + x.2.2.1.length + x.2.2.2.1.length) := by
 have h1 := qdh hx.ri; have h2 := qdh hx.rs; have h3 := qdh hx.ra
 have h4 := qhf hx.rn; have h5 := qhf hx.rh
 have h6 := qio x.1; have h7 := qlB nm x.2.2.2.2.2.2 rank
 have e6 : (zName x.1).data.toList.length = (zName x.1).size := Array.length_toList
 have e7 : (zNW nm x.2.2.2.2.2.2 rank).data.toList.length = (zNW nm x.2.2.2.2.2.2 rank).size := Array.length_toList
 rw [qnj]
 simp only [lAp,lCo,List.length_nil,e6,e7]
 omega
end Go.Pf

namespace Go.Pf
open Go Go.Vm
def zNs (nm : ByteArray) (N : List Nd) (S : List LI) : List (List ByteArray) := List.zipWith (fun x s => zWds nm x (s.length : Int)) N S
theorem qfi {nm : ByteArray} {N : List Nd} {S : List LI} (h : S.length = N.length) : (zNs nm N S).length = N.length := by
 unfold zNs; rw [List.length_zipWith,h,Nat.min_self]
theorem qgh {nm : ByteArray} {N : List Nd} {S : List LI} (h : S.length = N.length) {i : Nat} (hi : i < N.length) : (zNs nm N S).getD i [] = zWds nm (N.getD i nd0) ((S.getD i []).length : Int) := by
 unfold zNs
 simp only [gDg,List.getElem?_zipWith,List.getElem?_eq_getElem hi,List.getElem?_eq_getElem (show i < S.length by omega)]
 rfl
def mesh5 : List UInt8 := [109,101,115,104]
def outs4 : List UInt8 := [111,117,116,115]
def zHd (s : LI) (nm : ByteArray) : List ByteArray := [bA mesh5,if nm = ByteArray.empty then bA [45] else nm] ++ s.map zNum
def zOt (O : LI) : List ByteArray := [bA outs4] ++ O.map zNum
def zLs (s : LI) (nm : ByteArray) (N : List Nd) (O : LI) (S : List LI) : List (List ByteArray) := [zHd s nm] ++ zNs nm N S ++ [zOt O]
def zTB (s : LI) (nm : ByteArray) (N : List Nd) (O : LI) (S : List LI) : List UInt8 := (zLs s nm N O S).flatMap zLn
def zTx2 (s : LI) (nm : ByteArray) (N : List Nd) (O : LI) (S : List LI) : ByteArray × Int := if 65536 < (zTB s nm N O S).length then (ByteArray.empty,3) else (bA (zTB s nm N O S),0)
structure wtG (s : LI) (nm : ByteArray) (N : List Nd) (O : LI) : Prop where
 n : ∀ x ∈ N,wtN x
 nm : nm.size ≤ 100000
 rs : ∀ n ∈ s,rng n
 ro : ∀ n ∈ O,rng n
theorem qnk (s : LI) (nm : ByteArray) : zLn (zHd s nm) = mesh5 ++ (32 :: (if nm = ByteArray.empty then bA [45] else nm).data.toList ++ zTl s) ++ [10] := by
 unfold zHd
 rw [List.cons_append,qfD,List.cons_append,nAp]
 congr 2
 unfold tl
 rw [List.flatMap_cons]
 show _ ++ tl (s.map zNum) = _
 rw [qlI]
theorem qq2 (O : LI) : zLn (zOt O) = outs4 ++ zTl O ++ [10] := by
 unfold zOt
 rw [List.singleton_append,qfD,qlI]; rfl
theorem qjO (s : LI) (nm : ByteArray) (N : List Nd) (O : LI) (S : List LI) (hS : S.length = N.length) (hN : N.length ≤ 100000) (hn : nm.size ≤ 100000) (hw : ∀ x ∈ N,wtN x) (hd : List ByteArray) (k : Nat) (hk : 500000 ≤ k) :
  qa6.l0 k k N N.length 0 s nm N O S [hd] = some ([hd] ++ zNs nm N S) := by
 have := iter0 (L := fun n i y => qa6.l0 k n N N.length i s nm N O S y) (st := fun i => [hd] ++ (zNs nm N S).take i) (fun _=>[hd] ++ zNs nm N S) (m := N.length) 0
  (fun n _ => by rw [qa6.l0,ifq,List.take_of_length_le (by rw [qfi hS]; omega)])
  (fun i n hi _ ih => by
   have hx := hw _ (qaj hi nd0)
   have hl := qfi (nm := nm) hS
   have h0 : ((zNs nm N S).take i).length ≤ 100000 := by rw [lTk,hl]; omega
   rw [qiV (show i < (zNs nm N S).length by rw [hl]; exact hi) ([] : List ByteArray),qgh hS hi,← aAs] at ih
   rw [qa6.l0,ifp,ifp,tNc,if_pos (by rw [hS]; omega),if_pos (by rw [hS]; exact hi),qkP s nm N O (N.getD i nd0) _ hn hx k (by omega),obs,
    if_pos (by clear ih; generalize (zNs nm N S).take i = A at h0; simp only [lAp,lSi]; omega),qas hi (by omega)]
   exact ih) k (by omega)
 rw [List.take_zero,List.append_nil] at this
 exact this
def ints (l : List UInt8) : LI := l.map fun b => (b.toNat : Int)
theorem qme (l : List UInt8) : (ints l).length = l.length := List.length_map _
theorem WS_f (s : ByteArray) (l : List UInt8) (h1 : s.size ≤ 1000000000000) (h2 : l.length ≤ 1000000000000) : qaE.f s (ints l) = some ((s.size : Int),ints (l ++ s.data.toList)) := by
 unfold qaE.f qcI.f
 have e : s.data.toList.length = s.size := Array.length_toList
 rw [obs,if_pos (by rw [qme,List.length_map,e]; omega)]
 unfold ints
 rw [List.map_append]
theorem qf7 {B : Nat} : ∀ {L : List (List ByteArray)},(∀ l ∈ L,(zLn l).length ≤ B) → (L.flatMap zLn).length ≤ B * L.length
 | [],_ => by simp
 | l :: L,h => by
  have h1 := h l (List.mem_cons_self ..)
  have h2 := qf7 (L := L) fun m hm => h m (mCm _ hm)
  rw [List.flatMap_cons,lAp,lCo,Nat.mul_add]; omega
theorem qjN (L : List (List ByteArray)) (hL : L.length ≤ 1000) (hb : ∀ l ∈ L,l.length ≤ 10000000 ∧ (zLn l).length ≤ 100000000) (k : Nat) (hk : 2000 ≤ k) :
  qa6.l1 k L.length 0 L [] = some (ints (L.flatMap zLn)) := by
 have := iter0 (L := fun n i y => qa6.l1 n L.length i L y) (st := fun i => ints ((L.take i).flatMap zLn)) (fun _=>ints (L.flatMap zLn)) (m := L.length) 0
  (fun n _ => by rw [qa6.l1,ifq,List.take_length])
  (fun i n hi _ ih => by
   obtain ⟨h1,h2⟩ := hb _ (qaj hi [])
   have h3 := qf7 (B := 100000000) (L := L.take i) fun l hl => (hb l (List.mem_of_mem_take hl)).2
   rw [lTk] at h3
   have h4 : ((L.take i).flatMap zLn).length ≤ 100000000000 := by
    refine Nat.le_trans h3 ?_
    have : min i L.length ≤ 1000 := by omega
    omega
   have h5 : (Lib.join ((L.getD i []).map (·.data.toList)) [32]).length ≤ 100000000 := by unfold zLn at h2; rw [lAp] at h2; omega
   have hj : strings_Join.f (L.getD i []) (ByteArray.mk #[32]) = some (bA (Lib.join ((L.getD i []).map (·.data.toList)) [32])) := by
    unfold strings_Join.f
    rw [show (ByteArray.mk #[32]).data.toList = [32] from rfl,if_pos ⟨by omega,by omega⟩]; rfl
   rw [qiV hi ([] : List ByteArray),List.flatMap_append,List.flatMap_cons,List.flatMap_nil,List.append_nil] at ih
   rw [qa6.l1,ifp,ifp,tNc,if_pos hi,hj,obs,WS_f _ _ (by rw [qbx]; omega) (by omega),obs]
   dsimp only
   rw [qgC,WS_f _ _ (by decide) (by rw [lAp]; omega),obs]
   dsimp only
   rw [qas hi (by omega),aAs]
   exact ih) k (by omega)
 rw [List.take_zero] at this
 exact this
theorem qqd (l : List UInt8) : u8s (ints l) = l := by
 unfold u8s ints
 rw [List.map_map]
 have : ((fun x : Int => UInt8.ofNat x.toNat) ∘ fun b : UInt8 => (b.toNat : Int)) = id := by
  funext b; simp
 rw [this,List.map_id]
theorem qoN {l : List UInt8} (h : l ≠ []) : strings_Builder_String.f (ints l) = some (bA l) := by
 unfold strings_Builder_String.f
 rw [if_pos ⟨by unfold ints; simpa using h,fun x hx => by
  obtain ⟨b,_,rfl⟩ := List.mem_map.1 hx
  have := b.toNat_lt
  omega⟩,qqd]; rfl
theorem qlC (w : ByteArray) (l : List ByteArray) (m : LI) (hr : ∀ n ∈ m,rng n) (h : ∀ x ∈ l,x.size ≤ 100000) (hw : w.size ≤ 100000) (hl : l.length ≤ 2) : (zLn (w :: (l ++ m.map zNum))).length ≤ 400000 + 22 * m.length := by
 have h1 := qdh hr
 have h2 : (tl l).length ≤ 200002 := by
  match l,hl with
  | [],_ => simp [tl]
  | [a],_ =>
   have := h a (by simp)
   have e : a.data.toList.length = a.size := Array.length_toList
   simp only [tl,List.flatMap_cons,List.flatMap_nil,List.append_nil,lCo,e]; omega
  | [a,b],_ =>
   have h3 := h a (by simp); have h4 := h b (by simp)
   have e : a.data.toList.length = a.size := Array.length_toList
   have e' : b.data.toList.length = b.size := Array.length_toList
   simp only [tl,List.flatMap_cons,List.flatMap_nil,List.append_nil,lCo,lAp,e,e']; omega
 have e : w.data.toList.length = w.size := Array.length_toList
 rw [qfD,qiq,qlI]
 simp only [lAp,lSi,e]; omega
theorem qeP {s : LI} {nm : ByteArray} {N : List Nd} {O : LI} (h : (zShs s nm N O).1 = 0) : s.length ≤ 3 ∧ N.length ≤ 48 ∧ O.length ≤ 48 ∧ (zShs s nm N O).2.length = N.length ∧ zShs s nm N O = zGo (rs nm) N [] ∧ (∀ x ∈ O,0 ≤ x ∧ x < (N.length : Int)) := by
 unfold zShs at h ⊢
 by_cases c1 : zMs s (rs nm) = true
 rotate_left
 ·rw [if_neg c1] at h; cases h
 rw [if_pos c1] at h ⊢
 by_cases c2 : 48 < N.length
 ·rw [if_pos c2] at h; cases h
 rw [if_neg c2] at h ⊢
 by_cases c3 : 48 < O.length
 ·rw [if_pos c3] at h; cases h
 rw [if_neg c3] at h ⊢
 by_cases c4 : (zGo (rs nm) N []).1 = 0
 rotate_left
 ·rw [if_neg c4] at h; exact absurd h c4
 rw [if_pos c4] at h ⊢
 by_cases c5 : O.all (fun k => decide (0 ≤ k ∧ k < (N.length : Int))) = true
 rotate_left
 ·rw [if_neg c5] at h; cases h
 rw [if_pos c5]
 have h6 := qiS (rs nm) N [] c4
 refine ⟨?_,by omega,by omega,by simpa using h6,rfl,fun x hx => by simpa using List.all_eq_true.1 c5 x hx⟩
 unfold zMs zNR at c1
 simp only [bAt,decide_eq_true_eq] at c1
 omega
theorem qq1 {s : LI} {nm : ByteArray} {N : List Nd} {O : LI} (hw : wtG s nm N O) {S : List LI} (hs : s.length ≤ 3) (hN : N.length ≤ 48) (hO : O.length ≤ 48) (hS : S.length = N.length) :
  (zLs s nm N O S).length = N.length + 2 ∧ ∀ l ∈ zLs s nm N O S,l.length ≤ 10000000 ∧ (zLn l).length ≤ 100000000 := by
 have hl := qfi (nm := nm) hS
 refine ⟨by unfold zLs; simp only [lAp,lSi,hl]; omega,fun l h => ?_⟩
 unfold zLs at h
 rcases List.mem_append.1 h with h | h
 ·rcases List.mem_append.1 h with h | h
  ·rw [List.mem_singleton] at h; subst h
   have hnm := hw.nm
   have h5 : (if nm = ByteArray.empty then bA [45] else nm).size ≤ 100000 := by
    by_cases c : nm = ByteArray.empty
    ·rw [if_pos c]; decide
    ·rw [if_neg c]; exact hnm
   refine ⟨by unfold zHd; simp only [lAp,lCo,List.length_nil,List.length_map]; omega,?_⟩
   have := qlC (bA mesh5) [if nm = ByteArray.empty then bA [45] else nm] s hw.rs (fun x hx => by rw [List.mem_singleton] at hx; rw [hx]; exact h5) (by decide) (by simp)
   unfold zHd
   rw [List.cons_append]
   omega
  ·obtain ⟨i,hi,rfl⟩ := List.getElem_of_mem h
   have hi' : i < N.length := by rw [← hl]; exact hi
   have hx := hw.n _ (qaj hi' nd0)
   have e : (zNs nm N S)[i] = zWds nm (N.getD i nd0) ((S.getD i []).length : Int) := by
    rw [← qgh hS hi',gDg,List.getElem?_eq_getElem hi]; rfl
   rw [e]
   have h1 := hx.i; have h2 := hx.s; have h3 := hx.a
   refine ⟨by simp only [zWds,lst,lAp,lCo,List.length_nil,List.length_map]; omega,?_⟩
   have := qfj nm _ ((S.getD i []).length : Int) hx
   omega
 ·rw [List.mem_singleton] at h; subst h
  refine ⟨by unfold zOt; simp only [lAp,lCo,List.length_nil,List.length_map]; omega,?_⟩
  have := qlC (bA outs4) [] O hw.ro (fun x hx => by cases hx) (by decide) (by simp)
  unfold zOt
  rw [nAp] at this
  rw [List.singleton_append]; omega
theorem qkQ {s : LI} {nm : ByteArray} {N : List Nd} {O : LI} (hw : wtG s nm N O) (k : Nat) (hk : 500000 ≤ k) :
  qa6.f k s nm N O = some (if (zShs s nm N O).1 = 0 then zTx2 s nm N O (zShs s nm N O).2 else (ByteArray.empty,(zShs s nm N O).1)) := by
 unfold qa6.f
 rw [qe8 s nm N O hw.nm (fun x hx => (hw.n x hx).ok) k (by omega),obs]
 by_cases h0 : (zShs s nm N O).1 = 0
 rotate_left
 ·rw [if_neg h0,if_neg h0]
 obtain ⟨h1,h2,h3,h4,_,_⟩ := qeP h0
 rw [if_pos h0,if_pos h0]
 generalize (zShs s nm N O).2 = S at h4
 obtain ⟨g1,g2⟩ := qq1 hw h1 h2 h3 h4
 have hl := qfi (nm := nm) h4
 have e5 : (if nm = ByteArray.empty then bA [45] else nm) = (if nm = ByteArray.empty then bA [45] else nm) := rfl
 have hT : (zTB s nm N O S).length ≤ 100000000 * 50 := by
  refine Nat.le_trans (qf7 (B := 100000000) fun l h => (g2 l h).2) ?_
  rw [g1]; omega
 have hne : zTB s nm N O S ≠ [] := by
  unfold zTB zLs
  rw [aAs,List.singleton_append,List.flatMap_cons,qnk]
  simp [mesh5]
 have hd : [(ByteArray.mk #[109,101,115,104]),if nm = ByteArray.empty then bA [45] else nm] ++ s.map zNum = zHd s nm := rfl
 have ho : [(ByteArray.mk #[111,117,116,115])] ++ O.map zNum = zOt O := rfl
 rw [qeo,obs,qdO s (by omega) hw.rs k (by omega),obs,if_pos (by simp only [lCo,List.length_nil,List.length_map]; omega),hd,
  qjO s nm N O S h4 (by omega) hw.nm hw.n _ k (by omega),obs,qdO O (by omega) hw.ro k (by omega),obs,if_pos (by simp only [lCo,List.length_nil,List.length_map]; omega),ho,
  if_pos (by simp only [lAp,lSi,hl]; omega)]
 have hL : [zHd s nm] ++ zNs nm N S ++ [zOt O] = zLs s nm N O S := rfl
 rw [hL,qjN _ (by rw [g1]; omega) g2 k (by omega),obs]
 show (qbB.f (ints (zTB s nm N O S))).bind _ = _
 unfold qbB.f
 rw [obs,qme]
 unfold zTx2
 by_cases c : 65536 < (zTB s nm N O S).length
 ·rw [ifp,if_pos c]
 ·rw [ifq,if_neg c]
  show (strings_Builder_String.f (ints (zTB s nm N O S))).bind _ = _
  rw [qoN hne]; rfl
end Go.Pf

namespace Go.Pf
open Go Go.Vm
theorem qmL (s : List UInt8) (hs : s.length ≤ 100000000000) (nm : ByteArray) (x : Nd) (rank : Int) (hx : wtN x) (F : ByteArray → Option ByteArray) (k : Nat) (hk : 500000 ≤ k) (g1 : LI) (g3 : List Nd) (g4 : LI) (hn : nm.size ≤ 100000) :
    ((qdr.f x.1).bind fun t4 => if (bA s).size + t4.size ≤ 9223372036854775807 then (qbf.f k x.2.1).bind fun t5 => if ((bA s) ++ t4).size + t5.size ≤ 9223372036854775807 then (qbf.f k x.2.2.1).bind fun t6 => if (((bA s) ++ t4) ++ t5).size + t6.size ≤ 9223372036854775807 then (qbf.f k x.2.2.2.1).bind fun t7 => if ((((bA s) ++ t4) ++ t5) ++ t6).size + t7.size ≤ 9223372036854775807 then if (((((bA s) ++ t4) ++ t5) ++ t6) ++ t7).size + (ByteArray.mk #[32]).size ≤ 9223372036854775807 then (qaF.f k x.2.2.2.2.1).bind fun t8 => if ((((((bA s) ++ t4) ++ t5) ++ t6) ++ t7) ++ (ByteArray.mk #[32])).size + t8.size ≤ 9223372036854775807 then if (((((((bA s) ++ t4) ++ t5) ++ t6) ++ t7) ++ (ByteArray.mk #[32])) ++ t8).size + (ByteArray.mk #[32]).size ≤ 9223372036854775807 then (qaF.f k x.2.2.2.2.2.1).bind fun t9 => if ((((((((bA s) ++ t4) ++ t5) ++ t6) ++ t7) ++ (ByteArray.mk #[32])) ++ t8) ++ (ByteArray.mk #[32])).size + t9.size ≤ 9223372036854775807 then if (((((((((bA s) ++ t4) ++ t5) ++ t6) ++ t7) ++ (ByteArray.mk #[32])) ++ t8) ++ (ByteArray.mk #[32])) ++ t9).size + (ByteArray.mk #[32]).size ≤ 9223372036854775807 then (qc4.f k g1 nm g3 g4 x.1 x.2.1 x.2.2.1 x.2.2.2.1 x.2.2.2.2.1 x.2.2.2.2.2.1 x.2.2.2.2.2.2 rank).bind fun t10 => if ((((((((((bA s) ++ t4) ++ t5) ++ t6) ++ t7) ++ (ByteArray.mk #[32])) ++ t8) ++ (ByteArray.mk #[32])) ++ t9) ++ (ByteArray.mk #[32])).size + t10.size ≤ 9223372036854775807 then if (((((((((((bA s) ++ t4) ++ t5) ++ t6) ++ t7) ++ (ByteArray.mk #[32])) ++ t8) ++ (ByteArray.mk #[32])) ++ t9) ++ (ByteArray.mk #[32])) ++ t10).size + (ByteArray.mk #[10]).size ≤ 9223372036854775807 then F ((((((((((((bA s) ++ t4) ++ t5) ++ t6) ++ t7) ++ (ByteArray.mk #[32])) ++ t8) ++ (ByteArray.mk #[32])) ++ t9) ++ (ByteArray.mk #[32])) ++ t10) ++ (ByteArray.mk #[10])) else none else none else none else none else none else none else none else none else none else none else none)
      = F (bA (s ++ zLn (zWds nm x rank))) := by
  have h1 := qdh hx.ri; have h2 := qdh hx.rs; have h3 := qdh hx.ra
  have l1 := hx.i; have l2 := hx.s; have l3 := hx.a
  have h4 := qes hx.rn; have h5 := qes hx.rh
  have h6 := qio x.1; have h7 := qlB nm x.2.2.2.2.2.2 rank
  have s1 : (bA ([32,40] ++ zTl x.2.1 ++ [32,41])).size ≤ 3000000 := by rw [qbx]; simp only [lAp,lCo,List.length_nil]; omega
  have s2 : (bA ([32,40] ++ zTl x.2.2.1 ++ [32,41])).size ≤ 3000000 := by rw [qbx]; simp only [lAp,lCo,List.length_nil]; omega
  have s3 : (bA ([32,40] ++ zTl x.2.2.2.1 ++ [32,41])).size ≤ 3000000 := by rw [qbx]; simp only [lAp,lCo,List.length_nil]; omega
  have s0 : (bA s).size ≤ 100000000000 := hs
  have b32 : (ByteArray.mk #[32]).size = 1 := rfl
  have b10 : (ByteArray.mk #[10]).size = 1 := rfl
  rw [qj8,obs,ifp,qex _ (by omega) hx.ri k (by omega),obs]
  generalize e1 : bA ([32,40] ++ zTl x.2.1 ++ [32,41]) = L1 at s1
  rw [if_pos (by rw [qaM]; omega),qex _ (by omega) hx.rs k (by omega),obs]
  generalize e2 : bA ([32,40] ++ zTl x.2.2.1 ++ [32,41]) = L2 at s2
  rw [if_pos (by rw [qaM,qaM]; omega),qex _ (by omega) hx.ra k (by omega),obs]
  generalize e3 : bA ([32,40] ++ zTl x.2.2.2.1 ++ [32,41]) = L3 at s3
  rw [if_pos (by simp only [qaM]; omega),if_pos (by simp only [qaM]; omega),qcJ hx.rn.1 hx.rn.2 k (by omega),obs,
    if_pos (by simp only [qaM]; omega),if_pos (by simp only [qaM]; omega),qcJ hx.rh.1 hx.rh.2 k (by omega),obs,
    if_pos (by simp only [qaM]; omega),if_pos (by simp only [qaM]; omega),qgQ g1 nm g3 g4 _ _ _ _ _ _ _ _ hn hx.nt k hk,obs,
    if_pos (by simp only [qaM]; omega),if_pos (by simp only [qaM]; omega)]
  congr 1
  rw [qnj,← e1,← e2,← e3]
  have c32 : ByteArray.mk #[32] = bA [32] := rfl
  have c10 : ByteArray.mk #[10] = bA [10] := rfl
  rw [c32,c10,← qkF (zName x.1),← qkF (zNW nm x.2.2.2.2.2.2 rank)]
  simp only [zNum,qfa,qgC]
  congr 1
  simp only [aAs,List.cons_append,nAp,List.singleton_append]
theorem qjc (s : LI) (nm : ByteArray) (N : List Nd) (O : LI) (S : List LI) (hS : S.length = N.length) (hN : N.length ≤ 1000) (hn : nm.size ≤ 100000) (hw : ∀ x ∈ N,wtN x) (s0 : List UInt8) (hs0 : s0.length ≤ 1000000000) (k : Nat) (hk : 500000 ≤ k) :
    qar.l1 k k (bA s0) N N.length 0 s nm N O S = some (bA (s0 ++ (zNs nm N S).flatMap zLn)) := by
  have hl := qfi (nm := nm) hS
  have := iter0 (L := fun n i y => qar.l1 k n y N N.length i s nm N O S) (st := fun i => bA (s0 ++ ((zNs nm N S).take i).flatMap zLn)) (fun _=>bA (s0 ++ (zNs nm N S).flatMap zLn)) (m := N.length) 0
    (fun n _ => by rw [qar.l1,ifq,List.take_of_length_le (by rw [hl]; omega)])
    (fun i n hi _ ih => by
      have hx := hw _ (qaj hi nd0)
      have hb : (((zNs nm N S).take i).flatMap zLn).length ≤ 100000000000 - 1000000000 := by
        have h3 := qf7 (B := 9000000) (L := (zNs nm N S).take i) fun l h => by
          obtain ⟨j,hj,rfl⟩ := List.getElem_of_mem (List.mem_of_mem_take h)
          have hj' : j < N.length := by rw [← hl]; exact hj
          have hy := hw _ (qaj hj' nd0)
          have e : (zNs nm N S)[j] = zWds nm (N.getD j nd0) ((S.getD j []).length : Int) := by
            rw [← qgh hS hj',gDg,List.getElem?_eq_getElem hj]; rfl
          rw [e]
          have h1 := hy.i; have h2 := hy.s; have h3 := hy.a
          have := qfj nm _ ((S.getD j []).length : Int) hy
          omega
        rw [lTk,hl] at h3
        omega
      rw [qiV (show i < (zNs nm N S).length by rw [hl]; exact hi) ([] : List ByteArray),qgh hS hi,List.flatMap_append,List.flatMap_cons,List.flatMap_nil,List.append_nil,← aAs] at ih
      rw [qar.l1,ifp,ifp,tNc,qas hi (by omega)]
      have p1 : 0 ≤ (i : Int) ∧ (i : Int) < (S.length : Int) := by rw [hS]; omega
      have p2 : i < S.length := by rw [hS]; exact hi
      simp only [if_pos p1,if_pos p2]
      refine (qmL _ (by rw [lAp]; omega) nm (N.getD i nd0) ((S.getD i []).length : Int) hx (fun y => qar.l1 k n y N N.length ((i + 1 : Nat) : Int) s nm N O S) k hk s N O hn).trans ?_
      exact ih) k (by omega)
  rw [List.take_zero,List.flatMap_nil,List.append_nil] at this
  exact this
theorem qj7 {s : LI} {nm : ByteArray} {N : List Nd} {O : LI} (hw : wtG s nm N O) (k : Nat) (hk : 500000 ≤ k) :
    qar.f k s nm N O = some (if (zShs s nm N O).1 = 0 then zTx2 s nm N O (zShs s nm N O).2 else (ByteArray.empty,(zShs s nm N O).1)) := by
  unfold qar.f
  rw [qdP s nm N O hw.nm (fun x hx => (hw.n x hx).ok) k (by omega),obs]
  by_cases h0 : (zShs s nm N O).1 = 0
  rotate_left
  · rw [if_neg h0,if_neg h0]
  obtain ⟨h1,h2,h3,h4,_,_⟩ := qeP h0
  rw [if_pos h0,if_pos h0]
  generalize (zShs s nm N O).2 = S at h4
  have hl := qfi (nm := nm) h4
  have hz := qdh hw.rs; have hzo := qdh hw.ro
  have hnm := hw.nm
  -- behind the first line
  have rest : ∀ s0 : List UInt8,s0.length ≤ 1000000 → s0 ++ zTl s ++ [10] = zLn (zHd s nm) →
      ((qar.l0 k k (bA s0) (s.length : Int) 0 s nm N O S).bind fun t14 => if t14.size + (ByteArray.mk #[10]).size ≤ 9223372036854775807 then (qar.l1 k k (t14 ++ (ByteArray.mk #[10])) N (N.length : Int) 0 s nm N O S).bind fun t15 => if t15.size + (ByteArray.mk #[111,117,116,115]).size ≤ 9223372036854775807 then (qar.l2 k k (t15 ++ (ByteArray.mk #[111,117,116,115])) (O.length : Int) 0 s nm N O).bind fun t16 => if t16.size + (ByteArray.mk #[10]).size ≤ 9223372036854775807 then if 65536 < ((t16 ++ (ByteArray.mk #[10])).size : Int) then (some (ByteArray.empty,3)) else some (t16 ++ (ByteArray.mk #[10]),(0 : Int)) else none else none else none)
        = some (zTx2 s nm N O S) := by
    intro s0 hs0 he
    have a1 := qgm s0 (fun n y i => qar.l0 k n y s.length i s nm N O S) s (by omega) hw.rs (by omega)
      (fun n y => by rw [qar.l0,ifq])
      (fun i n y hi hy => by
        have hm := hw.rs _ (qaj hi 0)
        have hz := qes hm
        rw [qar.l0,ifp,if_pos (by show _ + 1 ≤ _; omega),ifp,tNc,qcJ hm.1 hm.2 k (by omega),obs,if_pos (by rw [qaM]; show _ + 1 + _ ≤ _; omega),qas hi (by omega)]
        rfl) k (by omega)
    have c10 : ByteArray.mk #[10] = bA [10] := rfl
    have co : ByteArray.mk #[111,117,116,115] = bA outs4 := rfl
    rw [a1,obs,c10,co,if_pos (by rw [qbx,qbx,lAp]; simp only [lSi]; omega),qfa,he]
    have hlen : (zLn (zHd s nm)).length ≤ 2000000 := by
      rw [← he]; simp only [lAp,lSi]; omega
    have hns : ((zNs nm N S).flatMap zLn).length ≤ 9000000 * 48 := by
      refine Nat.le_trans (qf7 (B := 9000000) fun l h => ?_) (by rw [hl]; omega)
      obtain ⟨j,hj,rfl⟩ := List.getElem_of_mem h
      have hj' : j < N.length := by rw [← hl]; exact hj
      have hy := hw.n _ (qaj hj' nd0)
      have e : (zNs nm N S)[j] = zWds nm (N.getD j nd0) ((S.getD j []).length : Int) := by
        rw [← qgh h4 hj',gDg,List.getElem?_eq_getElem hj]; rfl
      rw [e]
      have h1 := hy.i; have h2 := hy.s; have h3 := hy.a
      have := qfj nm _ ((S.getD j []).length : Int) hy
      omega
    rw [qjc s nm N O S h4 (by omega) hw.nm hw.n _ (by omega) k hk,obs,if_pos (by rw [qbx,qbx,lAp,show outs4.length = 4 from rfl]; omega),qfa]
    have a2 := qgm (zLn (zHd s nm) ++ (zNs nm N S).flatMap zLn ++ outs4) (fun n y i => qar.l2 k n y O.length i s nm N O) O (by omega) hw.ro (by simp only [lAp,show outs4.length = 4 from rfl]; omega)
      (fun n y => by rw [qar.l2,ifq])
      (fun i n y hi hy => by
        have hm := hw.ro _ (qaj hi 0)
        have hz := qes hm
        rw [qar.l2,ifp,if_pos (by show _ + 1 ≤ _; omega),ifp,tNc,qcJ hm.1 hm.2 k (by omega),obs,if_pos (by rw [qaM]; show _ + 1 + _ ≤ _; omega),qas hi (by omega)]
        rfl) k (by omega)
    rw [a2,obs,if_pos (by rw [qbx,qbx]; simp only [lAp,lSi,show outs4.length = 4 from rfl]; omega),qfa,qbx]
    have hT : zLn (zHd s nm) ++ (zNs nm N S).flatMap zLn ++ outs4 ++ zTl O ++ [10] = zTB s nm N O S := by
      unfold zTB zLs
      rw [List.flatMap_append,List.flatMap_append,List.flatMap_cons,List.flatMap_cons,List.flatMap_nil,List.append_nil,List.append_nil,qq2]
      simp only [aAs]
    rw [hT]
    unfold zTx2
    by_cases c : 65536 < (zTB s nm N O S).length
    · rw [ifp,if_pos c]
    · rw [ifq,if_neg c]
  by_cases hne : nm = ByteArray.empty
  · rw [if_pos ((qeZ _ _).2 hne)]
    refine rest [109,101,115,104,32,45] (by decide) ?_
    rw [qnk,if_pos hne]; rfl
  · rw [if_neg (fun h => hne ((qeZ _ _).1 h)),if_pos (by show 5 + _ ≤ _; omega)]
    have e : (ByteArray.mk #[109,101,115,104,32]) ++ nm = bA ([109,101,115,104,32] ++ nm.data.toList) := by rw [← qfa,qkF]; rfl
    have el : nm.data.toList.length = nm.size := Array.length_toList
    rw [e]
    refine rest _ (by simp only [lAp,lCo,List.length_nil,el]; omega) ?_
    rw [qnk,if_neg hne]
    simp [mesh5]
end Go.Pf

namespace Go.Pf
open Go Go.Vm
def sml (l : LI) : Prop := ∀ x ∈ l,0 ≤ x ∧ x ≤ 32
theorem qfk : sml [] := fun x h => by cases h
theorem qnA {l : LI} (h : l.length = 0) : sml l := by rw [List.eq_nil_of_length_eq_zero h]; exact qfk
theorem qkU {l : LI} (h : l.length = 1) (h1 : 0 ≤ l.getD 0 0 ∧ l.getD 0 0 ≤ 32) : sml l := by
 match l,h with
 | [x],_ => intro y hy; rw [List.mem_singleton] at hy; subst hy; exact h1
theorem qnB {s : LI} (h : mSR s = true) : sml s := fun x hx => by have := (qal h).2.1 x hx; omega
theorem qqa {op : Int} {ls la : Nat} {n h m : Int} (hF : zF op ls la n h m = true) : ∃ lo more s a v w,tq op = some (lo,more,s,a,v,w) ∧ (s = false → ls = 0) ∧ (a = false → la = 0) ∧ (v = false → n = 0) ∧ (w = false → h = 0) := by
 unfold zF at hF
 cases ht : tq op with
 | none => rw [ht] at hF; cases hF
 | some t =>
  obtain ⟨lo,more,s,a,v,w⟩ := t
  rw [ht] at hF
  simp only [bAt,Bool.or_eq_true,decide_eq_true_eq] at hF
  obtain ⟨⟨⟨⟨⟨_,_⟩,h1⟩,h2⟩,h3⟩,h4⟩ := hF
  exact ⟨lo,more,s,a,v,w,rfl,fun e => by subst e; simpa using h1,fun e => by subst e; simpa using h2,fun e => by subst e; simpa using h3,fun e => by subst e; simpa using h4⟩
theorem qpw : ∀ {s f z : LI},sml s → zSl s f z = true → sml f ∧ sml z
 | [],[],[],_,_ => ⟨qfk,qfk⟩
 | a :: s,f :: fr,z :: sz,h,hz => by
  obtain ⟨h1,h2⟩ := qbZ.1 hz
  obtain ⟨h3,h4⟩ := qpw (fun x hx => h x (mCm _ hx)) h2
  have := h a (List.mem_cons_self ..)
  exact ⟨fun x hx => (List.mem_cons.1 hx).elim (fun e => by rw [e]; omega) (h3 x),fun x hx => (List.mem_cons.1 hx).elim (fun e => by rw [e]; omega) (h4 x)⟩
 | [],[],_ :: _,_,h | [],_ :: _,[],_,h | [],_ :: _,_ :: _,_,h | _ :: _,[],_,_,h | _ :: _,_ :: _,[],_,h => by cases h
theorem qnh : ∀ {s f z : LI},zMay s f z = true → sml f ∧ sml z
 | [],[],[],_ => ⟨qfk,qfk⟩
 | a :: s,f :: fr,z :: sz,hz => by
  obtain ⟨⟨h1,h5⟩,h2⟩ := qb0.1 hz
  obtain ⟨h3,h4⟩ := qnh h2
  exact ⟨fun x hx => (List.mem_cons.1 hx).elim (fun e => by rw [e]; omega) (h3 x),fun x hx => (List.mem_cons.1 hx).elim (fun e => by rw [e]; omega) (h4 x)⟩
 | [],[],_ :: _,h | [],_ :: _,[],h | [],_ :: _,_ :: _,h | _ :: _,[],_,h | _ :: _,_ :: _,[],h => by cases h
theorem qpv {o : LI} (ho : o.length ≤ 4) : ∀ {l : Int} {s a : LI},-1 ≤ l → zWi o l s a = true → sml a
 | _,[],[],_,_ => qfk
 | l,x :: s,k :: a,hl,h => by
  obtain ⟨h1,h2⟩ := qc8.1 h
  have := qpv ho (show -1 ≤ k by omega) h2
  exact fun y hy => (List.mem_cons.1 hy).elim (fun e => by rw [e]; omega) (this y)
 | _,[],_ :: _,_,h | _,_ :: _,[],_,h => by cases h
theorem qpz {m : Int} (hm : m ≤ 4) : ∀ {l : Int} {a : LI},-1 ≤ l → zRi m l a = true → sml a
 | _,[],_,_ => qfk
 | l,k :: a,hl,h => by
  obtain ⟨h1,h2⟩ := qcl.1 h
  have := qpz hm (show -1 ≤ k by omega) h2
  exact fun y hy => (List.mem_cons.1 hy).elim (fun e => by rw [e]; omega) (this y)
theorem qpF {a : LI} (n : Nat) (h1 : sml (a.take n)) (h2 : sml (a.drop n)) : sml a := fun x hx => by
 rw [← List.take_append_drop n a] at hx
 rcases List.mem_append.1 hx with hx | hx
 ·exact h1 x hx
 ·exact h2 x hx
theorem qnc {op : Int} {s a : LI} {n h : Int} {l : List LI} (e : (zSh op s a n h l).1 = 0) : sml s ∧ sml a ∧ 0 ≤ h ∧ h ≤ 4 := by
 unfold zSh at e
 by_cases hF : zF op s.length a.length n h l.length = true
 rotate_left
 ·rw [if_neg hF] at e; simp at e
 rw [if_pos hF] at e
 by_cases hA : l.all mSR = true
 rotate_left
 ·rw [if_neg hA] at e; simp at e
 rw [if_pos hA] at e
 have hR : mSR (l.getD 0 []) = true := by
  cases l with
  | nil => decide
  | cons x l => exact List.all_eq_true.1 hA x (List.mem_cons_self ..)
 have hl4 := (qal hR).1
 have hsm := qnB hR
 obtain ⟨lo,more,fs,fa,fv,fw,ht,z1,z2,z3,z4⟩ := qqa hF
 have n1 : ∀ {p : Prop} [Decidable p] {x : Int × LI} {c : Int},c ≠ 0 → (if p then x else (c,([] : LI))).1 = 0 → p ∧ x.1 = 0 := fun hc h => by
  split at h
  ·exact ⟨‹_›,h⟩
  ·exact absurd h hc
 unfold zShape at e
 rcases qdK op with rfl | rfl | rfl | rfl | rfl | rfl | rfl | rfl | rfl | rfl | rfl | rfl | rfl | rfl | rfl | rfl | rfl | rfl | rfl | rfl | hout
 case inr.inr.inr.inr.inr.inr.inr.inr.inr.inr.inr.inr.inr.inr.inr.inr.inr.inr.inr.inr => rw [qip hout] at ht; cases ht
 all_goals
  simp only [tq,Int.reduceEq,reduceIte,or_self,or_true,true_or,Int.reduceLE,and_true,and_self,true_and,false_and,and_false,or_false,false_or,Option.some.injEq,Prod.mk.injEq] at ht e
  obtain ⟨_,_,rfl,rfl,rfl,rfl⟩ := ht
 all_goals try (have hs0 := qnA (z1 rfl))
 all_goals try (have ha0 := qnA (z2 rfl))
 all_goals try (have hh0 := z4 rfl)
 all_goals try exact ⟨hs0,ha0,by omega,by omega⟩
 ·exact ⟨qnB (n1 (by decide) e).1,ha0,by omega,by omega⟩
 ·exact ⟨qnB (n1 (by decide) e).1,ha0,by omega,by omega⟩
 ·obtain ⟨h1,h2⟩ := n1 (by decide) e
  have h3 := (n1 (by decide) h2).1
  have := (qal h1).1
  exact ⟨qnB h1,qkU h3.1 (by omega),by omega,by omega⟩
 ·have h1 := qeU.1 (n1 (by decide) e).1
  exact ⟨hs0,fun x hx => by have := h1.mem x hx; omega,by omega,by omega⟩
 ·obtain ⟨h1,h2⟩ := n1 (by decide) e
  have h3 := (n1 (by decide) h2).1
  exact ⟨qnB h1,qpv (qal h1).1 (by omega) h3,by omega,by omega⟩
 ·have h1 := (n1 (by decide) e).1
  obtain ⟨h2,h3⟩ := qpw hsm h1.2
  exact ⟨hs0,qpF _ h2 h3,by omega,by omega⟩
 ·have h1 := (n1 (by decide) e).1
  obtain ⟨h2,h3⟩ := qnh h1.2
  exact ⟨hs0,qpF _ h2 h3,by omega,by omega⟩
 ·obtain ⟨h1,h2⟩ := n1 (by decide) e
  have h3 : 0 ≤ a.getD 0 0 ∧ a.getD 0 0 < ((l.getD 0 []).length : Int) := by
   unfold zJs at h2
   by_cases c : l = [] ∨ a.getD 0 0 < 0 ∨ ((l.getD 0 []).length : Int) ≤ a.getD 0 0
   ·rw [if_pos c] at h2; cases h2
   ·omega
  exact ⟨hs0,qkU h1 (by omega),by omega,by omega⟩
 ·obtain ⟨h1,h2⟩ := n1 (by decide) e
  have h3 := (n1 (by decide) h2).1
  exact ⟨hs0,qpz (by omega) (by omega) h3,by omega,by omega⟩
 ·obtain ⟨h1,h2⟩ := n1 (by decide) e
  have h3 : 0 ≤ a.getD 0 0 ∧ a.getD 0 0 < ((l.getD 0 []).length : Int) := by
   unfold zDS at h2
   by_cases c : a.getD 0 0 < 0 ∨ ((l.getD 0 []).length : Int) ≤ a.getD 0 0 ∨ ((l.getD 1 []).length : Int) ≤ a.getD 0 0
   ·rw [if_pos c] at h2; cases h2
   ·omega
  exact ⟨hs0,qkU h1 (by omega),by omega,by omega⟩
 ·have h1 := (n1 (by decide) e).1
  obtain ⟨h2,⟨h3,h4,h5⟩,h6⟩ := h1
  refine ⟨hs0,?_,by omega,by omega⟩
  match a,h2 with
  | [x,y,z],_ =>
   simp only [List.getD_cons_zero,List.getD_cons_succ] at h4 h5 h6
   intro v hv
   rcases List.mem_cons.1 hv with rfl | hv
   ·omega
   rcases List.mem_cons.1 hv with rfl | hv
   ·omega
   rw [List.mem_singleton] at hv; subst hv; omega
end Go.Pf

namespace Go.Pf
open Go Go.Vm
def Giv {α : Type} (p : α → Prop) (o : Option α) : Prop := ∀ r,o = some r → p r
theorem Giv.none {α : Type} {p : α → Prop} : Giv p none := fun _ h => by cases h
theorem Giv.some {α : Type} {p : α → Prop} {x : α} (h : p x) : Giv p (some x) := fun _ e => by cases e; exact h
theorem Giv.bind {α β : Type} {p : β → Prop} {o : Option α} {f : α → Option β} (h : ∀ x,o = Option.some x → Giv p (f x)) : Giv p (o.bind f) := fun r e => by
 cases ho : o with
 | none => rw [ho] at e; cases e
 | some x => rw [ho] at e; exact h x ho r e
theorem Giv.ite {α : Type} {p : α → Prop} {c : Prop} [Decidable c] {x y : Option α} (h1 : c → Giv p x) (h2 : ¬ c → Giv p y) : Giv p (if c then x else y) := by
 split
 ·exact h1 ‹_›
 ·exact h2 ‹_›
theorem rng0 : rng 0 := by unfold rng; omega
theorem qqu (L : LI) (p : Int) : Giv (fun r => rng r.1) (qa9.f L p) := by
 unfold qa9.f
 refine Giv.bind fun t1 _ => Giv.ite (fun _=>Giv.bind fun t2 _ => Giv.ite (fun h => Giv.ite (fun h' => Giv.some ?_) fun _=>Giv.none) fun _=>Giv.none) fun _=>Giv.ite (fun _=>Giv.some rng0) fun _=>Giv.bind fun t3 _ => Giv.some (qpT _)
 dsimp only
 have hm := qaj h' 0
 generalize List.getD _ _ _ = x at hm
 unfold rng
 simp only [List.mem_cons,List.not_mem_nil,or_false] at hm
 omega
theorem qms (k : Nat) : ∀ (n : Nat) (x1 : List LI) (x2 : Int) (x7 : LI) (x8 x9 x10 : Int) (L : LI) (p y0 y1 y2 : Int) (y3 : ByteArray),Giv (fun r => Sum.elim (fun _=>True) (fun t => rng t.2.1) r) (qan.l1 k n x1 x2 x7 x8 x9 x10 L p y0 y1 y2 y3)
 | 0,_,_,_,_,_,_,_,_,_,_,_,_ => by unfold qan.l1; exact Giv.none
 | n + 1,_,_,_,_,_,_,_,_,_,_,_,_ => by
  unfold qan.l1
  have ih := qms k n
  exact Giv.ite (fun _=>Giv.ite (fun _=>Giv.bind fun t2 _ => Giv.ite (fun _=>Giv.bind fun t3 _ => Giv.ite (fun _=>Giv.some rng0) fun _=>ih _ _ _ _ _ _ _ _ _ _ _ _) fun _=>ih _ _ _ _ _ _ _ _ _ _ _ _) fun _=>Giv.none) fun _=>Giv.some trivial
theorem qmt (k : Nat) : ∀ (n : Nat) (x1 : List LI) (x2 : Int) (x7 : LI) (x8 : Int) (L : LI) (p y0 y1 y2 : Int) (y3 : ByteArray),Giv (fun r => Sum.elim (fun _=>True) (fun t => rng t.2.2.1) r) (qan.l0 k n x1 x2 x7 x8 L p y0 y1 y2 y3)
 | 0,_,_,_,_,_,_,_,_,_,_ => by unfold qan.l0; exact Giv.none
 | n + 1,_,_,_,_,_,_,_,_,_,_ => by
  unfold qan.l0
  have ih := qmt k n
  refine Giv.ite (fun _=>Giv.bind fun t1 _ => Giv.ite (fun _=>Giv.bind fun t4 h4 => ?_) fun _=>Giv.none) fun _=>Giv.some trivial
  have h := qms _ _ _ _ _ _ _ _ _ _ _ _ _ _ _ h4
  cases t4 with
  | inl u => exact ih _ _ _ _ _ _ _ _ _ _
  | inr u => exact Giv.some h
theorem qqK (k : Nat) (S : List LI) (a : Int) (L : LI) (p : Int) : Giv (fun r => rng r.2.1) (qan.f k S a L p) := by
 unfold qan.f
 refine Giv.ite (fun _=>Giv.bind fun t5 h5 => ?_) fun _=>Giv.none
 have h := qmt _ _ _ _ _ _ _ _ _ _ _ _ _ h5
 cases t5 with
 | inl u => exact Giv.some rng0
 | inr u => exact Giv.some h
set_option maxRecDepth 100000 in
theorem qo2 (S : List LI) (L : LI) (p : Int) (k : Nat) : Giv (fun r => rng r.2.2.2.1) (qad.f k S L p) := by
 unfold qad.f
 repeat' first
  | exact Giv.none
  | exact Giv.some rng0
  | (refine Giv.some ?_; dsimp only; exact qqu _ _ _ (by assumption))
  | refine Giv.ite (fun _=>?_) (fun _=>?_)
  | refine Giv.bind fun _ _ => ?_
  | (refine Giv.some ?_; dsimp only; exact qqK _ _ _ _ _ _ (by assumption))
theorem qiD (k : Nat) : ∀ (n : Nat) (x6 : Int) (y0 : ByteArray) (L : LI) (p : Int) (y2 : ByteArray) (S : List LI) (y4 : LI) (N : List Nd),(∀ x ∈ N,rng x.2.2.2.2.1) →
  Giv (fun r => ∀ x ∈ r.2.2,rng x.2.2.2.2.1) (qap.l0 k n x6 y0 L p y2 S y4 N)
 | 0,_,_,_,_,_,_,_,_,_ => by unfold qap.l0; exact Giv.none
 | n + 1,x6,y0,L,p,y2,S,y4,N,h => by
  unfold qap.l0
  have ih := qiD k n
  refine Giv.ite (fun _=>Giv.bind fun t3 h3 => ?_) fun _=>Giv.some h
  have hr : rng t3.2.2.2.1 := qo2 _ _ _ _ _ h3
  have snoc : ∀ (x : Nd),x.2.2.2.2.1 = t3.2.2.2.1 → ∀ y ∈ N ++ [x],rng y.2.2.2.2.1 := fun x e y hy => by
   rcases List.mem_append.1 hy with hy | hy
   ·exact h y hy
   ·rw [List.mem_singleton] at hy; rw [hy,e]; exact hr
  refine Giv.bind fun t4 _ => Giv.bind fun t5 _ => Giv.ite (fun _=>Giv.bind fun t6 _ => Giv.ite (fun _=>ih _ _ _ _ _ _ _ _ h) fun _=>Giv.bind fun t7 _ => Giv.ite (fun _=>Giv.bind fun t8 _ => Giv.bind fun t9 _ => Giv.ite (fun _=>Giv.ite (fun _=>ih _ _ _ _ _ _ _ _ (snoc _ rfl)) fun _=>Giv.none) fun _=>Giv.none)
   fun _=>Giv.ite (fun _=>Giv.ite (fun _=>ih _ _ _ _ _ _ _ _ (snoc _ rfl)) fun _=>Giv.none) fun _=>Giv.none) fun _=>ih _ _ _ _ _ _ _ _ h
theorem qoh (L : LI) (k : Nat) : Giv (fun r => ∀ x ∈ r.2.2.1,rng x.2.2.2.2.1) (qap.f k L) := by
 unfold qap.f
 exact Giv.bind fun t1 _ => Giv.bind fun t2 _ => Giv.bind fun t10 h10 => Giv.bind fun t11 _ => Giv.bind fun t14 _ => Giv.some (qiD _ _ _ _ _ _ _ _ _ _ (fun _ h => by cases h) _ h10)
theorem qi3 {l : LI} (h : sml l) : ∀ n ∈ l,rng n := fun n hn => by have := h n hn; unfold rng; omega
theorem qnm {out : List LI} : ∀ {l : LI} {r : List LI},zIn out l = some r → ∀ x ∈ l,0 ≤ x ∧ x < (out.length : Int)
 | [],_,_,x,hx => by cases hx
 | y :: l,r,h,x,hx => by
  rw [zIn] at h
  split at h
  ·cases h
  ·rename_i hc
   cases e : zIn out l with
   | none => rw [e] at h; cases h
   | some q =>
    rcases List.mem_cons.1 hx with rfl | hx
    ·omega
    ·exact qnm e x hx
theorem qne {nm : LI} {out : List LI} {x : Nd} (h : (zNd nm out x).1 = 0) : (∀ n ∈ x.2.1,0 ≤ n ∧ n < (out.length : Int)) ∧ sml x.2.2.1 ∧ sml x.2.2.2.1 ∧ 0 ≤ x.2.2.2.2.2.1 ∧ x.2.2.2.2.2.1 ≤ 4 := by
 unfold zNd at h
 cases e : zIn out x.2.1 with
 | none => rw [e] at h; cases h
 | some l =>
  rw [e] at h
  dsimp only at h
  by_cases c : (zSh x.1 x.2.2.1 x.2.2.2.1 x.2.2.2.2.1 x.2.2.2.2.2.1 l).1 = 0
  ·exact ⟨qnm e,qnc c⟩
  ·rw [if_neg c] at h; exact absurd h c
theorem qhl {nm : LI} : ∀ {N : List Nd} {out : List LI},(zGo nm N out).1 = 0 → ∀ x ∈ N,(∀ n ∈ x.2.1,0 ≤ n ∧ n < ((out.length + N.length : Nat) : Int)) ∧ sml x.2.2.1 ∧ sml x.2.2.2.1 ∧ 0 ≤ x.2.2.2.2.2.1 ∧ x.2.2.2.2.2.1 ≤ 4
 | [],_,_,x,hx => by cases hx
 | y :: N,out,h,x,hx => by
  rw [zGo] at h
  by_cases c : (zNd nm out y).1 = 0
  ·rw [if_pos c] at h
   rcases List.mem_cons.1 hx with rfl | hx
   ·obtain ⟨h1,h2⟩ := qne c
    exact ⟨fun n hn => by have := h1 n hn; rw [lCo]; omega,h2⟩
   ·obtain ⟨h1,h2⟩ := qhl h x hx
    exact ⟨fun n hn => by have := h1 n hn; rw [lAp,lSi] at this; rw [lCo]; omega,h2⟩
  ·rw [if_neg c] at h; exact absurd h c
theorem qqe {L : LI} (T : Tp L) (k : Nat) (hk : 500000 ≤ k) : ∃ nm sz N O S,qap.f k L = some (nm,sz,N,O) ∧ MeshOK nm sz ∧ GrOK (rs nm) S N ∧ N.length ≤ 10 ∧ O.length ≤ 10 ∧ (∀ x ∈ O,0 ≤ x ∧ x < (N.length : Int)) ∧ wtG sz nm N O ∧ zShs sz nm N O = (0,S) := by
 obtain ⟨nm,sz,N,O,S,e,hm,hG,h1,h2,h3⟩ := qmE T k (by omega)
 have hr := qoh L k _ e
 have hz := GrOK.shs hm hG (by omega) (by omega : O.length ≤ 48) h3
 have h0 : (zGo (rs nm) N []).1 = 0 := by rw [hG.go]
 refine ⟨nm,sz,N,O,S,e,hm,hG,h1,h2,h3,⟨fun x hx => ?_,by have := hm.size; omega,fun n hn => ?_,fun n hn => ?_⟩,hz⟩
 ·obtain ⟨a1,a2,a3,a4⟩ := hG.ti x hx
  obtain ⟨b1,b2,b3,b4,b5⟩ := qhl h0 x hx
  exact ⟨by omega,by omega,by omega,by omega,fun n hn => by have := b1 n hn; rw [List.length_nil] at this; unfold rng; omega,qi3 b2,qi3 b3,hr x hx,by unfold rng; omega⟩
 ·have := hm.right.1
  have h5 := List.all_eq_true.1 (qgo this).2.1 n hn
  unfold okD at h5
  simp only [bAt,decide_eq_true_eq] at h5
  unfold rng; omega
 ·have := h3 n hn; unfold rng; omega
end Go.Pf

namespace Go.Pf
open Go Go.Vm
theorem qoq (u : Nat) : 1 ≤ (Lib.decDigits u).length := by rw [Lib.decDigits_length]; exact Lib.nDigits_pos u
theorem qpc (n : Int) : 1 ≤ (Lib.itoa n).length := by
 unfold Lib.itoa; split
 ·simp
 ·exact qoq _
theorem qgc (d : Nat) (h : d < 10) : (UInt8.ofNat (48 + d)).toNat = 48 + d := by
 rw [UInt8.toNat_ofNat']; omega
theorem qor (u : Nat) : ∀ c ∈ Lib.decDigits u,48 ≤ c.toNat ∧ c.toNat ≤ 57 := by
 induction u using Nat.strongRecOn with
 | _ u ih =>
  intro c hc
  rw [Lib.decDigits] at hc
  split at hc
  ·simp only [List.mem_singleton] at hc; subst hc; rw [qgc _ (by omega)]; omega
  ·rcases List.mem_append.1 hc with hc | hc
   ·exact ih _ (by omega) c hc
   ·simp only [List.mem_singleton] at hc; subst hc; rw [qgc _ (by omega)]; omega
theorem pU_dd (M : Nat) (hM : M < 18446744073709551616) (u : Nat) : ∀ r : List UInt8,u ≤ M → Lib.parseUintM M 0 (Lib.decDigits u ++ r) = Lib.parseUintM M u r := by
 induction u using Nat.strongRecOn with
 | _ u ih =>
  intro r hu
  by_cases h10 : u < 10
  ·rw [Lib.decDigits,dif_pos h10,List.singleton_append,Lib.parseUintM,qgc _ h10,ifp,ifq,ifq]
   congr 1; omega
  ·rw [Lib.decDigits,dif_neg h10,aAs,ih (u / 10) (by omega) _ (by omega),List.singleton_append,Lib.parseUintM,qgc _ (by omega),ifp,ifq,ifq]
   congr 1; omega
theorem qpK {u : Nat} (h : u < 18446744073709551616) : Lib.parseUintB 64 (Lib.decDigits u) = .ok u := by
 unfold Lib.parseUintB
 rw [if_neg (fun h => by have := qoq u; rw [h] at this; simp at this)]
 have := pU_dd (2 ^ 64 - 1) (by decide) u [] (by omega)
 rw [List.append_nil] at this
 rw [this]; rfl
theorem qos (u : Nat) : ∃ c r,Lib.decDigits u = c :: r ∧ 48 ≤ c.toNat ∧ c.toNat ≤ 57 := by
 have h1 := qoq u; have h2 := qor u
 cases h : Lib.decDigits u with
 | nil => rw [h] at h1; simp at h1
 | cons c r => rw [h] at h2; exact ⟨c,r,rfl,h2 c (by simp)⟩
theorem qrc {r : List UInt8} {u : Nat} (h : Lib.parseUintB 64 r = .ok u) (hu : u ≤ 9223372036854775808) : Lib.parseIntB 64 (45 :: r) = .ok (-(u : Int)) := by
 unfold Lib.parseIntB
 dsimp only
 rw [if_pos (show (45 : UInt8).toNat = 43 ∨ (45 : UInt8).toNat = 45 from .inr rfl),h]
 dsimp only
 rw [if_neg (fun h => h.1 rfl),if_neg (fun h => by have := h.2; omega),if_pos (show (45 : UInt8).toNat = 45 from rfl)]
theorem qrb {c : UInt8} {r : List UInt8} {u : Nat} (h1 : 48 ≤ c.toNat) (h2 : c.toNat ≤ 57) (h : Lib.parseUintB 64 (c :: r) = .ok u) (hu : u < 9223372036854775808) : Lib.parseIntB 64 (c :: r) = .ok (u : Int) := by
 unfold Lib.parseIntB
 dsimp only
 rw [if_neg (show ¬ (c.toNat = 43 ∨ c.toNat = 45) by omega),h]
 dsimp only
 rw [if_neg (fun h => by have := h.2; omega),if_neg (fun h => by have := h.1; omega),ifq]
theorem qqr {n : Int} (h : rng n) : Lib.parseIntB 64 (Lib.itoa n) = .ok n := by
 obtain ⟨h1,h2⟩ := h
 unfold Lib.itoa
 by_cases hn : n < 0
 ·rw [if_pos hn,qrc (qpK (u := n.natAbs) (by omega)) (by omega)]
  congr 1; omega
 ·rw [if_neg hn]
  obtain ⟨c,r,e,hc1,hc2⟩ := qos n.toNat
  have hp := qpK (u := n.toNat) (by omega)
  rw [e] at hp ⊢
  rw [qrb hc1 hc2 hp (by omega)]
  congr 1; omega
theorem qpO {l : List UInt8} {v : Int} (h : Lib.parseIntB 64 l = .ok v) : rng v := by
 unfold Lib.parseIntB at h
 split at h
 ·cases h
 ·rename_i c r
  split at h
  ·cases h
  ·cases h
  ·rename_i u _
   simp only at h
   split at h
   ·cases h
   ·split at h
    ·cases h
    ·rename_i h1 h2
     cases h
     unfold rng
     by_cases hc : c.toNat = 45
     ·rw [if_pos hc]; simp [hc] at h2; omega
     ·rw [if_neg hc]; simp [hc] at h1; omega
def zVal (s : ByteArray) : Option Int := match Lib.parseIntB 64 s.data.toList with
 | .ok v => if zNum v = s then some v else none
 | _ => none
theorem qfA {n : Int} (h : rng n) : zVal (zNum n) = some n := by
 unfold zVal zNum
 rw [qgC,qqr h]
 simp
theorem qer {s : ByteArray} {n : Int} (h : zVal s = some n) : s = zNum n ∧ rng n := by
 unfold zVal at h
 split at h
 ·rename_i v hv
  split at h
  ·rename_i he; cases h; exact ⟨he.symm,qpO hv⟩
  ·cases h
 ·cases h
theorem qjI {s : ByteArray} (h : ∀ n,rng n → s ≠ zNum n) : zVal s = none := by
 cases e : zVal s with
 | none => rfl
 | some n => exact absurd (qer e).1 (h n (qer e).2)
def zV2 (s : ByteArray) : Int × Bool := match zVal s with | some n => (n,true) | none => (0,false)
theorem qiT (s : ByteArray) (hs : s.size ≤ 281474976710656) : qdu.f s = some (zV2 s) := by
 unfold qdu.f strconv_ParseInt.f zV2 zVal
 rw [if_pos ⟨rfl,rfl,hs⟩,obs]
 cases h : Lib.parseIntB 64 s.data.toList with
 | ok v =>
  have hr := qpO h
  dsimp only
  rw [if_neg (by decide),qdk hr.1 hr.2,obs,qdj]
  by_cases he : zNum v = s
  ·rw [decide_eq_true he,if_pos rfl,if_pos he]
  ·rw [decide_eq_false he,if_neg (by decide),if_neg he]
 | «syntax» => rfl
 | range => rfl
theorem qcL (s : ByteArray) (hs : s.size ≤ 281474976710656) : qcv.f s = some (zV2 s) := by
 unfold qcv.f; rw [qiT s hs]; rfl
end Go.Pf

namespace Go.Pf
open Go Go.Vm
theorem qoD (s : ByteArray) (i : Nat) : s.get! i = s.data.toList.getD i 0 := by
 rw [gDg]
 simp only [ByteArray.get!,Array.getElem?_toList]
 rw [getElem!_def]
 cases s.data[i]? <;> rfl
theorem qiN (s : ByteArray) (i : Nat) (h : (s.get! i).toNat < 128) : Utf8.decode s i = ((s.get! i).toNat,1) := by
 unfold Utf8.decode
 dsimp only
 rw [if_pos (by simpa using h)]; rfl
theorem qh7 (s : ByteArray) (i c : Nat) (hi : i < s.size) (hc : c < 128) (h : (s.get! i).toNat ≠ c) :
  (Utf8.decode s i).1 ≠ c ∧ ∀ j,j < (Utf8.decode s i).2 → i + j < s.size ∧ (s.get! (i + j)).toNat ≠ c := by
 have one : ∀ j,j < 1 → i + j < s.size ∧ (s.get! (i + j)).toNat ≠ c := fun j hj => by
  have : j = 0 := by omega
  subst this; exact ⟨by omega,by simpa using h⟩
 have cn : ∀ k,(decide (i + k < s.size) && (s.get! (i + k)).toNat / 64 == 2) = true → i + k < s.size ∧ (s.get! (i + k)).toNat ≠ c := fun k hk => by
  simp only [bAt,decide_eq_true_eq,beq_iff_eq] at hk
  exact ⟨hk.1,by omega⟩
 unfold Utf8.decode
 dsimp only
 split
 ·exact ⟨by simpa using h,one⟩
 split
 ·rename_i h2
  split
  ·rename_i h3
   refine ⟨by simp only []; omega,fun j hj => ?_⟩
   simp only [bAt] at h2
   have c1 := cn 1 (by simpa only [bAt] using h2.2)
   rcases (show j = 0 ∨ j = 1 by simp only [] at hj; omega) with rfl | rfl
   ·exact one 0 (by omega)
   ·exact c1
  ·exact ⟨by simp only [Utf8.runeError]; omega,one⟩
 split
 ·rename_i h2
  split
  ·rename_i h3
   simp only [bAt] at h2
   have h3' : 0x800 ≤ (s.get! (i + 0)).toNat % 16 * 4096 + (s.get! (i + 1)).toNat % 64 * 64 + (s.get! (i + 2)).toNat % 64 := by
    simp only [ge_iff_le,bAt,decide_eq_true_eq] at h3; exact h3.1
   refine ⟨by simp only []; omega,fun j hj => ?_⟩
   have c1 := cn 1 (by simpa only [bAt] using h2.1.2)
   have c2 := cn 2 (by simpa only [bAt] using h2.2)
   rcases (show j = 0 ∨ j = 1 ∨ j = 2 by simp only [] at hj; omega) with rfl | rfl | rfl
   ·exact one 0 (by omega)
   ·exact c1
   ·exact c2
  ·exact ⟨by simp only [Utf8.runeError]; omega,one⟩
 split
 ·rename_i h2
  split
  ·rename_i h3
   simp only [bAt] at h2
   have h3' : 0x10000 ≤ (s.get! (i + 0)).toNat % 8 * 262144 + (s.get! (i + 1)).toNat % 64 * 4096 + (s.get! (i + 2)).toNat % 64 * 64 + (s.get! (i + 3)).toNat % 64 := by
    simp only [ge_iff_le,bAt,decide_eq_true_eq] at h3; exact h3.1
   refine ⟨by simp only []; omega,fun j hj => ?_⟩
   have c1 := cn 1 (by simpa only [bAt] using h2.1.1.2)
   have c2 := cn 2 (by simpa only [bAt] using h2.1.2)
   have c3 := cn 3 (by simpa only [bAt] using h2.2)
   rcases (show j = 0 ∨ j = 1 ∨ j = 2 ∨ j = 3 by simp only [] at hj; omega) with rfl | rfl | rfl | rfl
   ·exact one 0 (by omega)
   ·exact c1
   ·exact c2
   ·exact c3
  ·exact ⟨by simp only [Utf8.runeError]; omega,one⟩
 ·exact ⟨by simp only [Utf8.runeError]; omega,one⟩
def sp (c : UInt8) : List UInt8 → List UInt8 → List (List UInt8) × List UInt8
 | cur,[] => ([],cur)
 | cur,x :: r => if x = c then (cur :: (sp c [] r).1,(sp c [] r).2) else sp c (cur ++ [x]) r
theorem qho (c : UInt8) : ∀ (a cur r : List UInt8),(∀ x ∈ a,x ≠ c) → sp c cur (a ++ r) = sp c (cur ++ a) r
 | [],cur,r,_ => by simp
 | x :: a,cur,r,h => by
  rw [List.cons_append,sp,if_neg (h x (by simp)),qho c a _ r (fun y hy => h y (by simp [hy])),aAs]; rfl
theorem qlK (c : UInt8) (cur r : List UInt8) : sp c cur (c :: r) = (cur :: (sp c [] r).1,(sp c [] r).2) := by rw [sp,if_pos rfl]
theorem qiJ (s : ByteArray) (a b : Nat) : s.extract a b = bA ((s.data.toList.drop a).take (b - a)) := by
 rw [← qkF (s.extract a b)]
 congr 1
 rw [ByteArray.data_extract,Array.toList_extract]
theorem qnw {α : Type} (l : List α) {f i : Nat} (h : f ≤ i) (w : Nat) : (l.drop f).take (i + w - f) = (l.drop f).take (i - f) ++ (l.drop i).take w := by
 rw [show i + w - f = (i - f) + w by omega,List.take_add,List.drop_drop,show f + (i - f) = i by omega]
def At (c : UInt8) (s : ByteArray) (f i : Nat) (y : List ByteArray) (r : Option (Int × List ByteArray)) : Prop :=
 ∃ f' : Nat,r = some ((f' : Int),y ++ (sp c ((s.data.toList.drop f).take (i - f)) (s.data.toList.drop i)).1.map bA) ∧ f' ≤ s.size ∧ s.data.toList.drop f' = (sp c ((s.data.toList.drop f).take (i - f)) (s.data.toList.drop i)).2
theorem At.fin {c : UInt8} {s : ByteArray} {f : Nat} (hf : f ≤ s.size) (y : List ByteArray) {i : Nat} (hi : s.size ≤ i) : At c s f i y (some ((f : Int),y)) := by
 have hl : s.data.toList.length = s.size := Array.length_toList
 have hd : s.data.toList.drop i = [] := dNl (by omega)
 refine ⟨f,?_,hf,?_⟩
 ·rw [hd]; simp [sp]
 ·rw [hd]; simp only [sp]
  rw [List.take_of_length_le (by rw [List.length_drop]; omega)]
theorem At.hit {c : UInt8} {s : ByteArray} {f i : Nat} {y : List ByteArray} {r : Option (Int × List ByteArray)} (hi : i < s.size) (hc : s.get! i = c) (h : At c s (i + 1) (i + 1) (y ++ [s.extract f i]) r) : At c s f i y r := by
 have hl : s.data.toList.length = s.size := Array.length_toList
 obtain ⟨f',e,h1,h2⟩ := h
 have hd : s.data.toList.drop i = c :: s.data.toList.drop (i + 1) := by
  rw [qai (by omega) 0,← qoD,hc]
 rw [Nat.sub_self,List.take_zero] at e h2
 refine ⟨f',?_,h1,?_⟩
 ·rw [e,hd,qlK,qiJ,aAs]; rfl
 ·rw [h2,hd,qlK]
theorem At.miss {c : UInt8} {s : ByteArray} {f i w : Nat} {y : List ByteArray} {r : Option (Int × List ByteArray)} (hf : f ≤ i) (hc : ∀ j,j < w → i + j < s.size ∧ s.get! (i + j) ≠ c) (h : At c s f (i + w) y r) : At c s f i y r := by
 have hl : s.data.toList.length = s.size := Array.length_toList
 have hd : s.data.toList.drop i = (s.data.toList.drop i).take w ++ s.data.toList.drop (i + w) := by
  rw [← List.drop_drop,List.take_append_drop]
 have hx : ∀ x ∈ (s.data.toList.drop i).take w,x ≠ c := fun x hx => by
  obtain ⟨j,hj,e⟩ := List.getElem_of_mem hx
  have hjw : j < w := by rw [lTk] at hj; omega
  obtain ⟨h1,h2⟩ := hc j hjw
  rw [qoD,gDg,List.getElem?_eq_getElem (by omega)] at h2
  rw [← e]
  simpa using h2
 have e : sp c ((s.data.toList.drop f).take (i - f)) (s.data.toList.drop i) = sp c ((s.data.toList.drop f).take (i + w - f)) (s.data.toList.drop (i + w)) := by
  rw [hd,qho c _ _ _ hx,qnw _ hf]
 obtain ⟨f',e',h1,h2⟩ := h
 exact ⟨f',by rw [e',e],h1,by rw [h2,e]⟩
theorem u8_eq {a b : UInt8} (h : a.toNat = b.toNat) : a = b := UInt8.toNat_inj.1 h
theorem qhJ (s : ByteArray) (hs : s.size ≤ 100000000000) (c : UInt8) (hc : c.toNat < 128) : ∀ (e i f n : Nat) (y : List ByteArray),s.size ≤ i + e → e < n → f ≤ i → f ≤ s.size → y.length ≤ i → i ≤ s.size →
  At c s f i y (qaV.l0 n s (c.toNat : Int) (f : Int) y s i)
 | e,i,f,0,y,_,hn,_,_,_,_ => by omega
 | 0,i,f,n + 1,y,he,hn,hf,hf',hy,hi => by
  rw [qaV.l0,ifq]
  exact At.fin hf' y (by omega)
 | e + 1,i,f,n + 1,y,he,hn,hf,hf',hy,hi => by
  rw [qaV.l0]
  by_cases hlt : i < s.size
  ·rw [if_pos hlt]
   by_cases hit : (s.get! i).toNat = c.toNat
   ·rw [qiN s i (by omega),if_pos (by rw [hit]),ifp,if_pos (by simp only [lAp,lSi]; omega)]
    refine At.hit hlt (u8_eq hit) ?_
    rw [show IntKind.i64.wrap ((i : Int) + 1) = ((i + 1 : Nat) : Int) by rw [qak (by omega) (by omega)]; omega]
    exact qhJ s hs c hc e (i + 1) (i + 1) n _ (by omega) (by omega) (by omega) (by omega) (by simp only [lAp,lSi]; omega) (by omega)
   ·obtain ⟨h1,h2⟩ := qh7 s i c.toNat hlt hc hit
    have hp := qd5 s i
    rw [ifq]
    refine At.miss hf (w := (Utf8.decode s i).2) (fun j hj => ⟨(h2 j hj).1,fun e => (h2 j hj).2 (by rw [e])⟩) ?_
    have hw := (h2 ((Utf8.decode s i).2 - 1) (by omega)).1
    exact qhJ s hs c hc e _ f n y (by omega) (by omega) (by omega) hf' (by omega) (by omega)
  ·rw [if_neg hlt]
   exact At.fin hf' y (by omega)
def zWd (c : UInt8) (s : ByteArray) : List ByteArray := (sp c [] s.data.toList).1.map bA ++ [bA (sp c [] s.data.toList).2]
theorem qlZ (s : ByteArray) (hs : s.size ≤ 100000000000) (c : UInt8) (hc : c.toNat < 128) (hl : (sp c [] s.data.toList).1.length ≤ 1000000000000) (k : Nat) (hk : s.size < k) : qaV.f k s (c.toNat : Int) = some (zWd c s) := by
 have hsz : s.data.toList.length = s.size := Array.length_toList
 obtain ⟨f',e,h1,h2⟩ := qhJ s hs c hc s.size 0 0 k [] (by omega) hk (by omega) (by omega) (by simp) (by omega)
 unfold qaV.f
 have e0 : qaV.l0 k s (c.toNat : Int) 0 [] s 0 = some ((f' : Int),(sp c [] s.data.toList).1.map bA) := by simpa using e
 have h2' : s.data.toList.drop f' = (sp c [] s.data.toList).2 := by simpa using h2
 rw [e0,obs,if_pos (by simp only []; omega),if_pos (by simp only [lAp,lSi,List.length_map]; omega)]
 unfold zWd
 rw [qiJ,← h2']
 congr 4
 rw [List.take_of_length_le (by simp only [List.length_drop,tNc]; omega)]; rfl
theorem qgD (c : UInt8) : ∀ (l cur : List UInt8),(sp c cur l).1.length ≤ l.length
 | [],_ => by simp [sp]
 | x :: l,cur => by
  rw [sp]
  split
  ·simp only [lCo]; have := qgD c l []; omega
  ·have := qgD c l (cur ++ [x]); simp only [lCo]; omega
theorem qc0 (s : ByteArray) (hs : s.size ≤ 100000000000) (k : Nat) (hk : s.size < k) : qce.f k s = some (zWd 32 s) := by
 have hsz : s.data.toList.length = s.size := Array.length_toList
 have hl := qgD 32 s.data.toList []
 unfold qce.f
 rw [show qaV.f k s 32 = some (zWd 32 s) from qlZ s hs 32 (by decide) (by omega) k hk]; rfl
end Go.Pf

namespace Go.Pf
open Go Go.Vm
def wl (l : List ByteArray) : Prop := l.length ≤ 1000000 ∧ ∀ w ∈ l,w.size ≤ 100000000000
theorem wl.tail {w : ByteArray} {r : List ByteArray} (h : wl (w :: r)) : wl r := ⟨by have := h.1; simp only [lCo] at this; omega,fun x hx => h.2 x (mCm _ hx)⟩
def Rz {α : Type} (p : Option (α × List ByteArray)) (a : α) (l' : List ByteArray) (b' : Bool) : Prop := match p with
 | some x => b' = false ∧ l' = x.2 ∧ a = x.1
 | none => b' = true
def Cz {α : Type} (p : List ByteArray → Option (α × List ByteArray)) (l : List ByteArray) (b : Bool) (a : α) (l' : List ByteArray) (b' : Bool) : Prop :=
 wl l' ∧ (b = true → b' = true) ∧ (b = false → Rz (p l) a l' b')
def seqP {α β : Type} (p : List ByteArray → Option (α × List ByteArray)) (q : List ByteArray → Option (β × List ByteArray)) (l : List ByteArray) : Option ((α × β) × List ByteArray) :=
 (p l).bind fun x => (q x.2).bind fun y => some ((x.1,y.1),y.2)
theorem Cz.seq {α β : Type} {p : List ByteArray → Option (α × List ByteArray)} {q : List ByteArray → Option (β × List ByteArray)} {l : List ByteArray} {b : Bool} {a : α} {l1 : List ByteArray} {b1 : Bool} {a2 : β} {l2 : List ByteArray} {b2 : Bool}
  (h1 : Cz p l b a l1 b1) (h2 : Cz q l1 b1 a2 l2 b2) : Cz (seqP p q) l b (a,a2) l2 b2 := by
 obtain ⟨w1,t1,f1⟩ := h1
 obtain ⟨w2,t2,f2⟩ := h2
 refine ⟨w2,fun hb => t2 (t1 hb),fun hb => ?_⟩
 have f1 := f1 hb
 unfold seqP
 cases hp : p l with
 | none => rw [hp] at f1; exact t2 f1
 | some x =>
  rw [hp] at f1
  obtain ⟨e1,e2,e3⟩ := f1
  have f2 := f2 e1
  rw [e2] at f2
  simp only [obs]
  cases hq : q x.2 with
  | none => rw [hq] at f2; exact f2
  | some y =>
   rw [hq] at f2
   obtain ⟨g1,g2,g3⟩ := f2
   exact ⟨g1,g2,by rw [e3,g3]⟩
theorem qrB : bA [] = ByteArray.empty := rfl
theorem qmz : zVal ByteArray.empty = none := qjI fun n hn e => by
 have := qpc n
 have h : (zNum n).size = (Lib.itoa n).length := rfl
 rw [← e] at h
 have : ByteArray.empty.size = 0 := rfl
 omega
theorem qlu {s : ByteArray} {n : Int} (h : zVal s = some n) : zV2 s = (n,true) := by unfold zV2; rw [h]
theorem qlv {s : ByteArray} (h : zVal s = none) : zV2 s = (0,false) := by unfold zV2; rw [h]
def pN : List ByteArray → Option (Int × List ByteArray)
 | [] => none
 | w :: r => (zVal w).map fun n => (n,r)
def nums : List ByteArray → Option LI
 | [] => some []
 | w :: r => match zVal w with
  | some n => (nums r).map (n :: ·)
  | none => none
def pLt : List ByteArray → Option (LI × List ByteArray)
 | [] => none
 | w :: r => if w = bA [41] then some ([],r) else match zVal w with
  | some n => (pLt r).map fun p => (n :: p.1,p.2)
  | none => none
def pL : List ByteArray → Option (LI × List ByteArray)
 | [] => none
 | w :: r => if w = bA [40] then pLt r else none
def pNm : List ByteArray → Option (ByteArray × List ByteArray)
 | [] => none
 | w :: r => if w = ByteArray.empty then none else some (if w = bA [45] then ByteArray.empty else w,r)
def pMu (a : ByteArray) : List ByteArray → Option (Unit × List ByteArray)
 | [] => none
 | w :: r => if w = a then some ((),r) else none
theorem pN_c (w : ByteArray) (r : List ByteArray) : pN (w :: r) = (zVal w).map fun n => (n,r) := rfl
theorem qnZ (w : ByteArray) (r : List ByteArray) : nums (w :: r) = match zVal w with | some n => (nums r).map (n :: ·) | none => none := rfl
theorem qo0 (w : ByteArray) (r : List ByteArray) : pLt (w :: r) = if w = bA [41] then some ([],r) else match zVal w with | some n => (pLt r).map fun p => (n :: p.1,p.2) | none => none := rfl
theorem pL_c (w : ByteArray) (r : List ByteArray) : pL (w :: r) = if w = bA [40] then pLt r else none := rfl
theorem qmN (w : ByteArray) (r : List ByteArray) : pNm (w :: r) = if w = ByteArray.empty then none else some (if w = bA [45] then ByteArray.empty else w,r) := rfl
theorem qjf (a w : ByteArray) (r : List ByteArray) : pMu a (w :: r) = if w = a then some ((),r) else none := rfl
theorem qdN (b : Bool) : qbh.f [] b = some (ByteArray.empty,[],true) := rfl
theorem qf8 (w : ByteArray) (r : List ByteArray) (b : Bool) (hl : wl (w :: r)) : qbh.f (w :: r) b = some (if w = ByteArray.empty then (ByteArray.empty,w :: r,true) else (w,r,b)) := by
 unfold qbh.f
 have h1 := hl.1
 simp only [lCo] at h1
 rw [if_neg (by simp only [lCo]; omega),if_pos (by simp only [lCo]; omega),qdj]
 simp only [List.getD_cons_zero]
 by_cases h : w = ByteArray.empty
 ·rw [decide_eq_true h,if_pos rfl,if_pos h]
 ·rw [decide_eq_false h,if_neg (by decide),if_pos (by simp only [lCo]; omega),if_neg h]
  simp
theorem qeX {w : ByteArray} (h : w = ByteArray.empty) (r : List ByteArray) (b : Bool) (hl : wl (w :: r)) : qbh.f (w :: r) b = some (ByteArray.empty,w :: r,true) := by rw [qf8 w r b hl,if_pos h]
theorem qeW {w : ByteArray} (h : w ≠ ByteArray.empty) (r : List ByteArray) (b : Bool) (hl : wl (w :: r)) : qbh.f (w :: r) b = some (w,r,b) := by rw [qf8 w r b hl,if_neg h]
theorem qiI (l : List ByteArray) (b : Bool) (hl : wl l) : ∃ a l' b',qcj.f l b = some (a,l',b') ∧ Cz pN l b a l' b' := by
 unfold qcj.f
 cases l with
 | nil =>
  rw [qdN,obs]
  dsimp only
  rw [qcL _ (by decide),obs,if_pos rfl]
  exact ⟨_,_,_,rfl,hl,fun _=>rfl,fun _=>rfl⟩
 | cons w r =>
  by_cases h : w = ByteArray.empty
  ·rw [qeX h r b hl,obs]
   dsimp only
   rw [qcL _ (by decide),obs,if_pos rfl]
   refine ⟨_,_,_,rfl,hl,fun _=>rfl,fun _=>?_⟩
   rw [pN_c,h,qmz]; rfl
  ·rw [qeW h r b hl,obs]
   dsimp only
   have hw := hl.2 w (by simp)
   rw [qcL _ (by omega),obs]
   cases b with
   | true => rw [if_pos rfl]; exact ⟨_,_,_,rfl,hl.tail,fun _=>rfl,fun h => by cases h⟩
   | false =>
    rw [if_neg (by decide)]
    refine ⟨_,_,_,rfl,hl.tail,fun h => (by cases h),fun _=>?_⟩
    rw [pN_c]
    cases hv : zVal w with
    | none => rw [qlv hv]; rfl
    | some n => rw [qlu hv]; exact ⟨rfl,rfl,rfl⟩
theorem qeJ (l : List ByteArray) (b : Bool) (hl : wl l) : ∃ a l' b',qbO.f l b = some (a,l',b') ∧ Cz pN l b a l' b' := by
 obtain ⟨a,l',b',e,h⟩ := qiI l b hl
 unfold qbO.f
 rw [e,obs]
 cases b' with
 | true => exact ⟨_,_,_,rfl,h⟩
 | false => rw [if_neg (fun h : (false : Bool) = true => by cases h),decide_eq_true rfl]; exact ⟨_,_,_,rfl,h⟩
theorem qd4 (w : ByteArray) (hw : w ≠ ByteArray.empty) (l : List ByteArray) (b : Bool) (hl : wl l) : ∃ l' b',qbn.f w l b = some (l',b') ∧ Cz (pMu w) l b () l' b' := by
 unfold qbn.f
 cases l with
 | nil =>
  rw [qdN,obs]
  dsimp only
  rw [qdj,decide_eq_false (fun e => hw e.symm),if_neg (by decide)]
  exact ⟨_,_,rfl,hl,fun _=>rfl,fun _=>rfl⟩
 | cons x r =>
  by_cases h : x = ByteArray.empty
  ·rw [qeX h r b hl,obs]
   dsimp only
   rw [qdj,decide_eq_false (fun e => hw e.symm),if_neg (by decide)]
   refine ⟨_,_,rfl,hl,fun _=>rfl,fun _=>?_⟩
   rw [qjf,if_neg (fun e => hw (e.symm.trans h))]; rfl
  ·rw [qeW h r b hl,obs]
   dsimp only
   rw [qdj]
   by_cases hx : x = w
   ·rw [decide_eq_true hx,if_pos rfl]
    refine ⟨_,_,rfl,hl.tail,fun h => h,fun hb => ?_⟩
    rw [qjf,if_pos hx]; exact ⟨hb,rfl,rfl⟩
   ·rw [decide_eq_false hx,if_neg (by decide)]
    refine ⟨_,_,rfl,hl.tail,fun _=>rfl,fun hb => ?_⟩
    rw [qjf,if_neg hx]; rfl
theorem qiH (l : List ByteArray) (b : Bool) (hl : wl l) : ∃ a l' b',qci.f l b = some (a,l',b') ∧ Cz pNm l b a l' b' := by
 have e45 : ByteArray.mk #[45] = bA [45] := rfl
 have ne : ByteArray.empty ≠ bA [45] := fun h => by have := congrArg ByteArray.size h; simp [qbx] at this
 unfold qci.f
 rw [e45]
 cases l with
 | nil =>
  rw [qdN,obs]
  dsimp only
  rw [qdj,decide_eq_false ne,if_neg (by decide)]
  exact ⟨_,_,_,rfl,hl,fun _=>rfl,fun _=>rfl⟩
 | cons x r =>
  by_cases h : x = ByteArray.empty
  ·rw [qeX h r b hl,obs]
   dsimp only
   rw [qdj,decide_eq_false ne,if_neg (by decide)]
   refine ⟨_,_,_,rfl,hl,fun _=>rfl,fun _=>?_⟩
   rw [qmN,if_pos h]; rfl
  ·rw [qeW h r b hl,obs]
   dsimp only
   rw [qdj]
   by_cases hx : x = bA [45]
   ·rw [decide_eq_true hx,if_pos rfl]
    refine ⟨_,_,_,rfl,hl.tail,fun h => h,fun hb => ?_⟩
    rw [qmN,if_neg h,if_pos hx]; exact ⟨hb,rfl,rfl⟩
   ·rw [decide_eq_false hx,if_neg (by decide)]
    refine ⟨_,_,_,rfl,hl.tail,fun h => h,fun hb => ?_⟩
    rw [qmN,if_neg h,if_neg hx]; exact ⟨hb,rfl,rfl⟩
theorem qh1 : ∀ (l : List ByteArray) (n : Nat) (y : LI),wl l → l.length < n → y.length + l.length ≤ 2000000 → ∃ l' b' y',qaD.l0 n l false y = some (l',b',y') ∧ match nums l with | some ns => b' = false ∧ y' = y ++ ns | none => b' = true
 | [],n,y,hl,hn,hy => by
  obtain ⟨n,rfl⟩ := sun (n := n)
  exact ⟨_,_,_,by rw [qaD.l0,if_neg (by decide)],rfl,by simp⟩
 | w :: r,n,y,hl,hn,hy => by
  obtain ⟨n,rfl⟩ : ∃ m,n = m + 1 := ⟨n - 1,by simp only [lCo] at hn; omega⟩
  simp only [lCo] at hn hy
  obtain ⟨a,l',b',e,hw,_,hf⟩ := qeJ (w :: r) false hl
  have hf := hf rfl
  rw [qaD.l0,if_pos (by simp only [lCo]; omega),if_neg (by decide),e,obs]
  dsimp only
  rw [if_pos (by simp only [lSi]; omega)]
  rw [qnZ]
  rw [pN_c] at hf
  cases hv : zVal w with
  | none =>
   rw [hv] at hf
   have hb : b' = true := hf
   subst hb
   obtain ⟨n,rfl⟩ := sun (n := n)
   rw [qaD.l0]
   by_cases hz : 0 < (l'.length : Int)
   ·rw [if_pos hz,if_pos rfl]; exact ⟨_,_,_,rfl,rfl⟩
   ·rw [if_neg hz]; exact ⟨_,_,_,rfl,rfl⟩
  | some m =>
   rw [hv] at hf
   obtain ⟨hb,hl2,ha⟩ := hf
   have hl2 : l' = r := hl2
   have ha : a = m := ha
   rw [hb,hl2,ha]
   obtain ⟨l2,b2,y2,e2,h2⟩ := qh1 r n (y ++ [m]) hl.tail (by omega) (by simp only [lAp,lSi]; omega)
   refine ⟨l2,b2,y2,e2,?_⟩
   cases hr : nums r with
   | none => rw [hr] at h2; exact h2
   | some ns => rw [hr] at h2; exact ⟨h2.1,by rw [h2.2,aAs]; rfl⟩
theorem qiG (l : List ByteArray) (b : Bool) (hl : wl l) (k : Nat) (hk : 1000010 ≤ k) : ∃ l' b' y',qaD.f k l b = some (l',b',y') ∧ (b = true → b' = true) ∧ (b = false → match nums l with | some ns => b' = false ∧ y' = ns | none => b' = true) := by
 have h1 := hl.1
 unfold qaD.f
 cases b with
 | true =>
  obtain ⟨k,rfl⟩ : ∃ m,k = m + 1 := ⟨k - 1,by omega⟩
  rw [qaD.l0]
  by_cases hz : 0 < (l.length : Int)
  ·rw [if_pos hz,if_pos rfl]; exact ⟨_,_,_,rfl,fun _=>rfl,fun h => by cases h⟩
  ·rw [if_neg hz]; exact ⟨_,_,_,rfl,fun _=>rfl,fun h => by cases h⟩
 | false =>
  obtain ⟨l',b',y',e,h⟩ := qh1 l k [] hl (by omega) (by simp; omega)
  rw [e,obs]
  refine ⟨_,_,_,rfl,fun h => (by cases h),fun _=>?_⟩
  cases hn : nums l with
  | none => rw [hn] at h; exact h
  | some ns => rw [hn] at h; exact ⟨h.1,by simpa using h.2⟩
theorem qh2 : ∀ (l : List ByteArray) (n : Nat) (y : LI),wl l → l.length < n → y.length + l.length ≤ 2000000 → ∃ l' b' y',qaH.l0 n l false y = some (l',b',y') ∧ wl l' ∧ match pLt l with | some x => b' = false ∧ l' = bA [41] :: x.2 ∧ y' = y ++ x.1 | none => b' = true ∨ (b' = false ∧ l' = [])
 | [],n,y,hl,hn,hy => by
  obtain ⟨n,rfl⟩ := sun (n := n)
  exact ⟨_,_,_,by rw [qaH.l0,if_neg (by decide),if_neg (by decide)],hl,.inr ⟨rfl,rfl⟩⟩
 | w :: r,n,y,hl,hn,hy => by
  obtain ⟨n,rfl⟩ : ∃ m,n = m + 1 := ⟨n - 1,by simp only [lCo] at hn; omega⟩
  simp only [lCo] at hn hy
  have e41 : ByteArray.mk #[41] = bA [41] := rfl
  obtain ⟨a,l',b',e,hw,_,hf⟩ := qeJ (w :: r) false hl
  have hf := hf rfl
  rw [qaH.l0,if_neg (by decide),if_pos (by simp only [lCo]; omega),if_pos (by simp only [lCo]; omega),qdj,e41]
  simp only [List.getD_cons_zero]
  rw [qo0]
  by_cases hc : w = bA [41]
  ·rw [decide_eq_true hc,if_pos rfl,if_pos hc]
   exact ⟨_,_,_,rfl,hl,rfl,by rw [hc],by simp⟩
  rw [decide_eq_false hc,if_neg (by decide),if_neg hc,e,obs]
  dsimp only
  rw [if_pos (by simp only [lSi]; omega)]
  rw [pN_c] at hf
  cases hv : zVal w with
  | none =>
   rw [hv] at hf
   have hb : b' = true := hf
   subst hb
   obtain ⟨n,rfl⟩ := sun (n := n)
   rw [qaH.l0,if_pos rfl]
   exact ⟨_,_,_,rfl,hw,.inl rfl⟩
  | some m =>
   rw [hv] at hf
   obtain ⟨hb,hl2,ha⟩ := hf
   have hl2 : l' = r := hl2
   have ha : a = m := ha
   rw [hb,hl2,ha]
   obtain ⟨l2,b2,y2,e2,hw2,h2⟩ := qh2 r n (y ++ [m]) hl.tail (by omega) (by simp only [lAp,lSi]; omega)
   refine ⟨l2,b2,y2,e2,hw2,?_⟩
   cases hr : pLt r with
   | none => rw [hr] at h2; exact h2
   | some x => rw [hr] at h2; exact ⟨h2.1,h2.2.1,by rw [h2.2.2,aAs]; rfl⟩
theorem qgv (l : List ByteArray) (b : Bool) (hl : wl l) (k : Nat) (hk : 1000010 ≤ k) : ∃ l' b' y',qaH.f k l b = some (l',b',y') ∧ Cz pL l b y' l' b' := by
 have e40 : ByteArray.mk #[40] = bA [40] := rfl
 have e41 : ByteArray.mk #[41] = bA [41] := rfl
 have n40 : bA [40] ≠ ByteArray.empty := fun h => by have := congrArg ByteArray.size h; simp [qbx] at this
 have n41 : bA [41] ≠ ByteArray.empty := fun h => by have := congrArg ByteArray.size h; simp [qbx] at this
 unfold qaH.f
 obtain ⟨l1,b1,e1,w1,t1,f1⟩ := qd4 (bA [40]) n40 l b hl
 rw [e40,e1,obs,e41]
 dsimp only
 cases b1 with
 | true =>
  obtain ⟨k,rfl⟩ : ∃ m,k = m + 1 := ⟨k - 1,by omega⟩
  rw [qaH.l0,if_pos rfl,obs]
  dsimp only
  obtain ⟨l2,b2,e2,w2,t2,f2⟩ := qd4 (bA [41]) n41 l1 true w1
  rw [e2,obs]
  refine ⟨_,_,_,rfl,w2,fun _=>t2 rfl,fun hb => ?_⟩
  have f1 := f1 hb
  have hp : pL l = none := by
   cases l with
   | nil => rfl
   | cons w r =>
    rw [qjf] at f1
    by_cases hw : w = bA [40]
    ·rw [if_pos hw] at f1; cases f1.1
    ·rw [pL_c,if_neg hw]
  rw [hp]; exact t2 rfl
 | false =>
  have hb : b = false := by cases b with | false => rfl | true => cases t1 rfl
  have f1 := f1 hb
  cases l with
  | nil => cases f1
  | cons w r =>
   rw [qjf] at f1
   by_cases hw : w = bA [40]
   ·rw [if_pos hw] at f1
    obtain ⟨_,hl1,_⟩ := f1
    have hl1 : l1 = r := hl1
    rw [hl1] at w1 ⊢
    have h1 := w1.1
    obtain ⟨l2,b2,y2,e2,w2,h2⟩ := qh2 r k [] w1 (by omega) (by simp; omega)
    rw [e2,obs]
    dsimp only
    obtain ⟨l3,b3,e3,w3,t3,f3⟩ := qd4 (bA [41]) n41 l2 b2 w2
    rw [e3,obs]
    refine ⟨_,_,_,rfl,w3,fun h => (by rw [hb] at h; cases h),fun _=>?_⟩
    rw [pL_c,if_pos hw]
    cases hp : pLt r with
    | none =>
     rw [hp] at h2
     rcases h2 with h2 | ⟨h2,h2'⟩
     ·exact t3 h2
     ·have := f3 h2; rw [h2'] at this; exact this
    | some x =>
     rw [hp] at h2
     obtain ⟨h2a,h2b,h2c⟩ := h2
     have := f3 h2a
     rw [h2b] at this
     rw [qjf] at this
     rw [if_pos rfl] at this
     exact ⟨this.1,this.2.1,by simpa using h2c⟩
   ·rw [if_neg hw] at f1; cases f1
end Go.Pf

namespace Go.Pf
open Go Go.Vm
def zOpF : Nat → Int → ByteArray → Option Int
 | 0,_,_ => none
 | e + 1,op,w => if zName op = w then some op else zOpF e (op + 1) w
def zOp (w : ByteArray) : Option Int := zOpF 20 1 w
theorem qnd : ∀ (e : Nat) (op : Int) (w : ByteArray) (r : Int),zOpF e op w = some r → op ≤ r ∧ r < op + e ∧ zName r = w
 | 0,_,_,_,h => by cases h
 | e + 1,op,w,r,h => by
  rw [zOpF] at h
  by_cases c : zName op = w
  ·rw [if_pos c] at h; cases h; exact ⟨by omega,by omega,c⟩
  ·rw [if_neg c] at h
   obtain ⟨h1,h2,h3⟩ := qnd e (op + 1) w r h
   exact ⟨by omega,by omega,h3⟩
theorem qoJ (op : Int) (h1 : 1 ≤ op) (h2 : op ≤ 20) : zName op ≠ ByteArray.empty := by
 have : ∀ i : Fin 21,1 ≤ i.val → (zName (i.val : Int)).size ≠ 0 := by decide +kernel
 intro e
 have h := this ⟨op.toNat,by omega⟩ (by show 1 ≤ op.toNat; omega)
 rw [show ((⟨op.toNat,by omega⟩ : Fin 21).val : Int) = op by show (op.toNat : Int) = op; omega,e] at h
 exact h rfl
theorem qhk : zOp ByteArray.empty = none := by
 cases h : zOp ByteArray.empty with
 | none => rfl
 | some r =>
  obtain ⟨h1,h2,h3⟩ := qnd 20 1 _ r h
  exact absurd h3 (qoJ r (by omega) (by omega))
theorem qf9 (w : ByteArray) (y0 : List ByteArray) (y1 : Bool) : ∀ (e : Nat) (op : Int) (n : Nat),op + e = 21 → 1 ≤ op → e < n → qbm.l0 n w op y0 y1 = some (match zOpF e op w with | some r => .inr r | none => .inl ())
 | 0,op,n,h,_,hn => by
  obtain ⟨n,rfl⟩ := sun (n := n)
  rw [qbm.l0,ifq]; rfl
 | e + 1,op,n,h,h1,hn => by
  obtain ⟨n,rfl⟩ := sun (n := n)
  rw [qbm.l0,ifp,qhm,obs,qdj,zOpF]
  by_cases c : zName op = w
  ·rw [decide_eq_true c,if_pos rfl,if_pos c]
  ·rw [decide_eq_false c,if_neg (by decide),if_neg c,qak (by omega) (by omega)]
   exact qf9 w y0 y1 e (op + 1) n (by omega) (by omega) (by omega)
def pOp : List ByteArray → Option (Int × List ByteArray)
 | [] => none
 | w :: r => (zOp w).map fun op => (op,r)
theorem qnT (w : ByteArray) (r : List ByteArray) : pOp (w :: r) = (zOp w).map fun op => (op,r) := rfl
theorem qpf (l : List ByteArray) (b : Bool) (hl : wl l) (k : Nat) (hk : 200 ≤ k) : ∃ a l' b',qbm.f k l b = some (a,l',b') ∧ Cz pOp l b a l' b' := by
 unfold qbm.f
 cases l with
 | nil =>
  rw [qdN,obs]
  dsimp only
  rw [qf9 _ _ _ 20 1 k (by omega) (by omega) (by omega),obs]
  rw [show zOpF 20 1 ByteArray.empty = none from qhk]
  exact ⟨_,_,_,rfl,hl,fun _=>rfl,fun _=>rfl⟩
 | cons w r =>
  by_cases h : w = ByteArray.empty
  ·rw [qeX h r b hl,obs]
   dsimp only
   rw [qf9 _ _ _ 20 1 k (by omega) (by omega) (by omega),obs]
   rw [show zOpF 20 1 ByteArray.empty = none from qhk]
   refine ⟨_,_,_,rfl,hl,fun _=>rfl,fun _=>?_⟩
   rw [qnT,h,qhk]; rfl
  ·rw [qeW h r b hl,obs]
   dsimp only
   rw [qf9 _ _ _ 20 1 k (by omega) (by omega) (by omega),obs]
   rw [show zOpF 20 1 w = zOp w from rfl]
   cases ho : zOp w with
   | none =>
    refine ⟨_,_,_,rfl,hl.tail,fun _=>rfl,fun _=>?_⟩
    rw [qnT,ho]; rfl
   | some op =>
    refine ⟨_,_,_,rfl,hl.tail,fun h => h,fun hb => ?_⟩
    rw [qnT,ho]; exact ⟨hb,rfl,rfl⟩
end Go.Pf

namespace Go.Pf
open Go Go.Vm
def pAll := seqP (seqP (seqP (seqP (seqP (seqP pOp pL) pL) pL) pN) pN) pNm
def toNd (x : (((((Int × LI) × LI) × LI) × Int) × Int) × ByteArray) : Nd := (x.1.1.1.1.1.1,(x.1.1.1.1.1.2,(x.1.1.1.1.2,(x.1.1.1.2,(x.1.1.2,(x.1.2,x.2))))))
def pNd (l : List ByteArray) : Option Nd := match pAll l with
 | some x => if x.2 = [] then some (toNd x.1) else none
 | none => none
theorem qmU (l : List ByteArray) (hl : wl l) (k : Nat) (hk : 1000010 ≤ k) : ∃ o,qcK.f k l false = some o ∧ match pNd l with
  | some x => o.2.2.2.2.2.1 = false ∧ (o.1,(o.2.2.2.2.2.2.1,(o.2.2.2.2.2.2.2.1,(o.2.2.2.2.2.2.2.2,(o.2.1,(o.2.2.1,o.2.2.2.1)))))) = x
  | none => o.2.2.2.2.2.1 = true := by
 unfold qcK.f
 obtain ⟨a1,l1,b1,e1,c1⟩ := qpf l false hl k (by omega)
 rw [e1,obs]; dsimp only
 obtain ⟨l2,b2,a2,e2,c2⟩ := qgv l1 b1 c1.1 k hk
 rw [e2,obs]; dsimp only
 obtain ⟨l3,b3,a3,e3,c3⟩ := qgv l2 b2 c2.1 k hk
 rw [e3,obs]; dsimp only
 obtain ⟨l4,b4,a4,e4,c4⟩ := qgv l3 b3 c3.1 k hk
 rw [e4,obs]; dsimp only
 obtain ⟨a5,l5,b5,e5,c5⟩ := qiI l4 b4 c4.1
 rw [e5,obs]; dsimp only
 obtain ⟨a6,l6,b6,e6,c6⟩ := qeJ l5 b5 c5.1
 rw [e6,obs]; dsimp only
 obtain ⟨a7,l7,b7,e7,c7⟩ := qiH l6 b6 c6.1
 rw [e7,obs]; dsimp only
 have c := ((((((c1.seq c2).seq c3).seq c4).seq c5).seq c6).seq c7).2.2 rfl
 rw [show seqP (seqP (seqP (seqP (seqP (seqP pOp pL) pL) pL) pN) pN) pNm l = pAll l from rfl] at c
 unfold pNd
 cases hp : pAll l with
 | none =>
  rw [hp] at c
  have hb : b7 = true := c
  rw [if_pos hb]; exact ⟨_,rfl,rfl⟩
 | some x =>
  rw [hp] at c
  obtain ⟨hb,hl7,ha⟩ := c
  rw [hb,if_neg (by decide)]
  refine ⟨_,rfl,?_⟩
  dsimp only
  by_cases hx : x.2 = []
  ·rw [if_pos hx]
   have : l7 = [] := hl7.trans hx
   rw [this]
   refine ⟨by simp,?_⟩
   rw [← ha]; rfl
  ·rw [if_neg hx]
   have : l7 ≠ [] := fun e => hx (hl7 ▸ e)
   have h0 : 0 < (l7.length : Int) := by have := List.length_pos_iff.2 this; omega
   exact decide_eq_true h0
def pNds : List ByteArray → Option (List Nd)
 | [] => some []
 | s :: r => match pNd (zWd 32 s) with
  | some x => (pNds r).map (x :: ·)
  | none => none
def ln (M : List ByteArray) : Prop := M.length ≤ 1000000 ∧ ∀ s ∈ M,s.size ≤ 900000
theorem qm9 {s : ByteArray} (h : s.size ≤ 900000) : wl (zWd 32 s) := by
 have hsz : s.data.toList.length = s.size := Array.length_toList
 have h1 := qgD 32 s.data.toList []
 have key : ∀ (l cur : List UInt8),(∀ x ∈ (sp 32 cur l).1,x.length ≤ cur.length + l.length) ∧ (sp 32 cur l).2.length ≤ cur.length + l.length := by
  intro l
  induction l with
  | nil => intro cur; simp [sp]
  | cons x l ih =>
   intro cur
   rw [sp]
   split
   ·obtain ⟨i1,i2⟩ := ih []
    simp only [List.length_nil,lCo] at i1 i2 ⊢
    refine ⟨fun y hy => ?_,by omega⟩
    rcases List.mem_cons.1 hy with rfl | hy
    ·omega
    ·have := i1 y hy; omega
   ·obtain ⟨i1,i2⟩ := ih (cur ++ [x])
    simp only [lAp,lCo,List.length_nil] at i1 i2 ⊢
    exact ⟨fun y hy => by have := i1 y hy; omega,by omega⟩
 obtain ⟨k1,k2⟩ := key s.data.toList []
 simp only [List.length_nil] at k1 k2
 unfold zWd
 refine ⟨by simp only [lAp,List.length_map,lSi]; omega,fun w hw => ?_⟩
 rcases List.mem_append.1 hw with hw | hw
 ·obtain ⟨x,hx,rfl⟩ := List.mem_map.1 hw
  have := k1 x hx; rw [qbx]; omega
 ·rw [List.mem_singleton] at hw; subst hw; rw [qbx]; omega
theorem qk3 (k : Nat) (hk : 1000010 ≤ k) (M : List ByteArray) (hM : ln M) (y0 y1 : ByteArray) (y2 : List ByteArray) (c2 : Bool) (y3 : List ByteArray) (c3 : Bool) (y4 : LI) : ∀ (e i n : Nat) (b : Bool) (y : List Nd),M.length = i + e → e < n → y.length ≤ i →
  ∃ b' y',qbl.l0 k n b M (M.length : Int) (i : Int) y0 y1 y2 c2 y3 c3 y4 y = some (b',y') ∧ (b = true → b' = true) ∧ (b = false → match pNds (M.drop i) with | some ns => b' = false ∧ y' = y ++ ns | none => b' = true)
 | 0,i,n,b,y,hi,hn,hy => by
  obtain ⟨n,rfl⟩ := sun (n := n)
  refine ⟨_,_,by rw [qbl.l0,ifq],fun h => h,fun h => ?_⟩
  rw [dNl (by omega)]
  exact ⟨h,by simp⟩
 | e + 1,i,n,b,y,hi,hn,hy => by
  obtain ⟨n,rfl⟩ := sun (n := n)
  have h1 := hM.1
  have hm := hM.2 _ (qaj (show i < M.length by omega) ByteArray.empty)
  rw [qbl.l0,ifp,ifp,tNc,qc0 _ (by omega) k (by omega),obs]
  obtain ⟨o,eo,ho⟩ := qmU (zWd 32 (M.getD i ByteArray.empty)) (qm9 hm) k hk
  rw [eo,obs,if_pos (by simp only [lSi]; omega),qak (n := (i : Int) + 1) (by omega) (by omega),show (i : Int) + 1 = ((i + 1 : Nat) : Int) by omega,qai (show i < M.length by omega) ByteArray.empty]
  cases b with
  | true =>
   rw [if_pos rfl]
   obtain ⟨b',y',e',t',_⟩ := qk3 k hk M hM y0 y1 y2 c2 y3 c3 y4 e (i + 1) n true (y ++ [_]) (by omega) (by omega) (by simp only [lAp,lSi]; omega)
   exact ⟨b',y',e',t',fun h => by cases h⟩
  | false =>
   rw [if_neg (by decide)]
   obtain ⟨b',y',e',t',f'⟩ := qk3 k hk M hM y0 y1 y2 c2 y3 c3 y4 e (i + 1) n o.2.2.2.2.2.1 (y ++ [(o.1,(o.2.2.2.2.2.2.1,(o.2.2.2.2.2.2.2.1,(o.2.2.2.2.2.2.2.2,(o.2.1,(o.2.2.1,o.2.2.2.1))))))]) (by omega) (by omega) (by simp only [lAp,lSi]; omega)
   refine ⟨b',y',e',fun h => (by cases h),fun _=>?_⟩
   rw [pNds]
   cases hp : pNd (zWd 32 (M.getD i ByteArray.empty)) with
   | none => rw [hp] at ho; exact t' ho
   | some x =>
    rw [hp] at ho
    obtain ⟨h2,h3⟩ := ho
    have f' := f' h2
    rw [h3] at f'
    cases hr : pNds (M.drop (i + 1)) with
    | none => rw [hr] at f'; exact f'
    | some ns => rw [hr] at f'; exact ⟨f'.1,by rw [f'.2,aAs]; rfl⟩
end Go.Pf

namespace Go.Pf
open Go Go.Vm
theorem qq6 (c : UInt8) : ∀ (l cur : List UInt8),(∀ x ∈ (sp c cur l).1,x.length ≤ cur.length + l.length) ∧ (sp c cur l).2.length ≤ cur.length + l.length := by
 intro l
 induction l with
 | nil => intro cur; simp [sp]
 | cons x l ih =>
  intro cur
  rw [sp]
  split
  ·obtain ⟨i1,i2⟩ := ih []
   simp only [List.length_nil,lCo] at i1 i2 ⊢
   refine ⟨fun y hy => ?_,by omega⟩
   rcases List.mem_cons.1 hy with rfl | hy
   ·omega
   ·have := i1 y hy; omega
  ·obtain ⟨i1,i2⟩ := ih (cur ++ [x])
   simp only [lAp,lCo,List.length_nil] at i1 i2 ⊢
   exact ⟨fun y hy => by have := i1 y hy; omega,by omega⟩
def zLi (s : ByteArray) : List ByteArray := (sp 10 [] s.data.toList).1.map bA
theorem qpC {s : ByteArray} (h : s.size ≤ 65536) : ln (zLi s) ∧ ∀ x ∈ zLi s,x.size ≤ 65536 := by
 have hsz : s.data.toList.length = s.size := Array.length_toList
 have h1 := qgD 10 s.data.toList []
 obtain ⟨k1,k2⟩ := qq6 10 s.data.toList []
 simp only [List.length_nil] at k1
 have key : ∀ x ∈ zLi s,x.size ≤ 65536 := fun w hw => by
  obtain ⟨x,hx,rfl⟩ := List.mem_map.1 hw
  have := k1 x hx; rw [qbx]; omega
 exact ⟨⟨by unfold zLi; rw [List.length_map]; omega,fun w hw => by have := key w hw; omega⟩,key⟩
def pMs (ws : List ByteArray) : Option (ByteArray × LI) := match seqP (pMu (bA mesh5)) pNm ws with
 | some x => match nums x.2 with
  | some ns => if x.1.2 = ByteArray.empty ∧ 0 < ns.length then none else some (x.1.2,ns)
  | none => none
 | none => none
def pOu (ws : List ByteArray) : Option LI := match pMu (bA outs4) ws with
 | some x => nums x.2
 | none => none
def rdL (L : List ByteArray) : Option (ByteArray × LI × List Nd × LI) := match pMs (zWd 32 (L.getD 0 ByteArray.empty)) with
 | none => none
 | some m => match pNds ((L.take (L.length - 1)).drop 1) with
  | none => none
  | some N => match pOu (zWd 32 (L.getD (L.length - 1) ByteArray.empty)) with
   | none => none
   | some O => some (m.1,m.2,N,O)
def zRd (s : ByteArray) : Option (ByteArray × LI × List Nd × LI) := if (sp 10 [] s.data.toList).2 = [] ∧ 2 ≤ (zLi s).length then rdL (zLi s) else none
theorem qo3 : bA mesh5 ≠ ByteArray.empty := fun h => by have := congrArg ByteArray.size h; simp [qbx,mesh5] at this
theorem qo1 : bA outs4 ≠ ByteArray.empty := fun h => by have := congrArg ByteArray.size h; simp [qbx,outs4] at this
theorem qp2 (l : List UInt8) : bA l = ByteArray.empty ↔ l = [] := by
 rw [← qrB]
 exact ⟨qoz,fun h => by rw [h]⟩
set_option maxHeartbeats 1000000 in
theorem qke (s : ByteArray) (hs : s.size ≤ 65536) (k : Nat) (hk : 1000010 ≤ k) : ∃ o,qbl.f k s = some o ∧ match zRd s with
    | some z => o = (z.1,true,z.2.1,z.2.2.1,z.2.2.2)
    | none => o.2.1 = false := by
  have hsz : s.data.toList.length = s.size := Array.length_toList
  have hspl := qgD 10 s.data.toList []
  obtain ⟨hln,hsm⟩ := qpC hs
  unfold qbl.f zRd
  rw [show qaV.f k s 10 = some (zWd 10 s) from qlZ s (by omega) 10 (by decide) (by omega) k (by omega),obs]
  have ht : zWd 10 s = zLi s ++ [bA (sp 10 [] s.data.toList).2] := rfl
  rw [ht]
  generalize hL : zLi s = L at hln hsm ⊢
  generalize (sp 10 [] s.data.toList).2 = q
  have hl1 := hln.1
  have hlen : ((L ++ [bA q]).length : Int) = (L.length : Int) + 1 := by rw [lAp,lSi]; omega
  by_cases h3 : L.length < 2
  · rw [ifp,ifq]; exact ⟨_,rfl,rfl⟩
  have hw : IntKind.i64.wrap (((L ++ [bA q]).length : Int) - 1) = (L.length : Int) := by rw [hlen,qak (by omega) (by omega)]; omega
  have hw2 : IntKind.i64.wrap ((L.length : Int) - 1) = ((L.length - 1 : Nat) : Int) := by rw [qak (by omega) (by omega)]; omega
  have htk : (L ++ [bA q]).take L.length = L := by simp
  have hgt : (L ++ [bA q]).getD L.length ByteArray.empty = bA q := by simp
  simp only [hw,tNc,htk,dZr,hw2,hgt]
  rw [ifq,ifp,qdj]
  by_cases hq : q ≠ []
  · rw [decide_eq_false (fun e => hq ((qp2 q).1 e)),if_neg (by decide),if_neg (fun h => hq h.1)]; exact ⟨_,rfl,rfl⟩
  have hq : q = [] := Classical.not_not.1 hq
  rw [decide_eq_true ((qp2 q).2 hq),if_pos rfl,if_pos (show q = [] ∧ 2 ≤ L.length from ⟨hq,by omega⟩),ifp,ifp]
  have m0 := hsm _ (qaj (show 0 < L.length by omega) ByteArray.empty)
  have m1 := hsm _ (qaj (show L.length - 1 < L.length by omega) ByteArray.empty)
  rw [qc0 _ (by omega) k (by omega),obs,ifp,qc0 _ (by omega) k (by omega),obs]
  have w0 := qm9 (s := L.getD 0 ByteArray.empty) (by omega)
  have w1 := qm9 (s := L.getD (L.length - 1) ByteArray.empty) (by omega)
  obtain ⟨l1,b1,e1,c1⟩ := qd4 (bA mesh5) qo3 _ false w0
  rw [show ByteArray.mk #[109,101,115,104] = bA mesh5 from rfl,e1,obs]; dsimp only
  obtain ⟨nm,l2,b2,e2,c2⟩ := qiH l1 b1 c1.1
  rw [e2,obs]; dsimp only
  obtain ⟨l3,b3,sz,e3,t3,f3⟩ := qiG l2 b2 c2.1 k hk
  rw [e3,obs]; dsimp only
  have c12 := (c1.seq c2).2.2 rfl
  -- the rest
  obtain ⟨l4,b4,e4,c4⟩ := qd4 (bA outs4) qo1 _ false w1
  obtain ⟨l5,b5,O,e5,t5,f5⟩ := qiG l4 b4 c4.1 k hk
  have hO : match pOu (zWd 32 (L.getD (L.length - 1) ByteArray.empty)) with | some o => b5 = false ∧ O = o | none => b5 = true := by
    have c4 := c4.2.2 rfl
    unfold pOu
    cases hp : pMu (bA outs4) (zWd 32 (L.getD (L.length - 1) ByteArray.empty)) with
    | none => rw [hp] at c4; exact t5 c4
    | some x =>
      rw [hp] at c4
      obtain ⟨g1,g2,_⟩ := c4
      have f5 := f5 g1
      rw [g2] at f5
      exact f5
  have hMl : ln ((L.take (L.length - 1)).drop 1) := ⟨by rw [List.length_drop,lTk]; omega,fun x hx => by have := hsm x (List.mem_of_mem_take (List.mem_of_mem_drop hx)); omega⟩
  have tail : ∀ b0 : Bool,∃ b9 N,qbl.l0 k k b0 ((L.take (L.length - 1)).drop 1) (((L.take (L.length - 1)).drop 1).length : Int) 0 ByteArray.empty nm l3 b3 (zWd 32 (L.getD (L.length - 1) ByteArray.empty)) false sz [] = some (b9,N) ∧ (b0 = true → b9 = true) ∧ (b0 = false → match pNds ((L.take (L.length - 1)).drop 1) with | some ns => b9 = false ∧ N = ns | none => b9 = true) := fun b0 => by
    obtain ⟨b9,N,e9,t9,f9⟩ := qk3 k hk _ hMl ByteArray.empty nm l3 b3 (zWd 32 (L.getD (L.length - 1) ByteArray.empty)) false sz ((L.take (L.length - 1)).drop 1).length 0 k b0 [] (by omega) (by have := hMl.1; omega) (by simp)
    refine ⟨b9,N,e9,t9,fun h => ?_⟩
    have f9 := f9 h
    rw [dZr] at f9
    cases hN : pNds ((L.take (L.length - 1)).drop 1) with
    | none => rw [hN] at f9; exact f9
    | some ns => rw [hN] at f9; exact ⟨f9.1,by simpa using f9.2⟩
  have fin : ∀ b0 : Bool,b0 = decide (nm = ByteArray.empty ∧ 0 < sz.length) → ∃ o,(qbl.l0 k k b0 ((L.take (L.length - 1)).drop 1) (((L.take (L.length - 1)).drop 1).length : Int) 0 ByteArray.empty nm l3 b3 (zWd 32 (L.getD (L.length - 1) ByteArray.empty)) false sz []).bind (fun t9 => (qbn.f (ByteArray.mk #[111,117,116,115]) (zWd 32 (L.getD (L.length - 1) ByteArray.empty)) false).bind fun t10 => (qaD.f k t10.1 t10.2).bind fun t11 => if t9.1 = true then (some (nm,false,sz,t9.2,t11.2.2)) else if b3 = true then (some (nm,false,sz,t9.2,t11.2.2)) else some (nm,!t11.2.1,sz,t9.2,t11.2.2)) = some o ∧ match rdL L with
      | some z => o = (z.1,true,z.2.1,z.2.2.1,z.2.2.2)
      | none => o.2.1 = false := fun b0 hb0 => by
    obtain ⟨b9,N,e9,t9,f9⟩ := tail b0
    rw [e9,obs,show ByteArray.mk #[111,117,116,115] = bA outs4 from rfl,e4,obs]; dsimp only
    rw [e5,obs]; dsimp only
    have hbad : (b9 = true ∨ b3 = true ∨ b5 = true) → rdL L = none → ∃ o,(if b9 = true then some (nm,false,sz,N,O) else if b3 = true then some (nm,false,sz,N,O) else some (nm,!b5,sz,N,O)) = some o ∧ match rdL L with
      | some z => o = (z.1,true,z.2.1,z.2.2.1,z.2.2.2)
      | none => o.2.1 = false := fun hb hr => by
      rw [hr]
      by_cases h9 : b9 = true
      · rw [if_pos h9]; exact ⟨_,rfl,rfl⟩
      · by_cases h3 : b3 = true
        · rw [if_neg h9,if_pos h3]; exact ⟨_,rfl,rfl⟩
        · rw [if_neg h9,if_neg h3]
          rcases hb with h | h | h
          · exact absurd h h9
          · exact absurd h h3
          · exact ⟨_,rfl,by rw [h]; rfl⟩
    cases hp : seqP (pMu (bA mesh5)) pNm (zWd 32 (L.getD 0 ByteArray.empty)) with
    | none =>
      rw [hp] at c12
      exact hbad (.inr (.inl (t3 c12))) (by unfold rdL pMs; rw [hp])
    | some x =>
      rw [hp] at c12
      obtain ⟨g1,g2,g3⟩ := c12
      have g3 : nm = x.1.2 := congrArg Prod.snd g3
      have f3 := f3 g1
      rw [g2] at f3
      cases hn : nums x.2 with
      | none =>
        rw [hn] at f3
        exact hbad (.inr (.inl f3)) (by unfold rdL pMs; rw [hp]; dsimp only; rw [hn])
      | some ns =>
        rw [hn] at f3
        obtain ⟨g4,g5⟩ := f3
        by_cases hz : nm = ByteArray.empty ∧ 0 < sz.length
        · rw [decide_eq_true hz] at hb0
          exact hbad (.inl (t9 hb0)) (by unfold rdL pMs; rw [hp]; dsimp only; rw [hn]; dsimp only; rw [← g3,← g5,if_pos hz])
        · rw [decide_eq_false hz] at hb0
          have f9 := f9 hb0
          have hms : pMs (zWd 32 (L.getD 0 ByteArray.empty)) = some (nm,sz) := by unfold pMs; rw [hp]; dsimp only; rw [hn]; dsimp only; rw [← g3,← g5,if_neg hz]
          cases hN : pNds ((L.take (L.length - 1)).drop 1) with
          | none =>
            rw [hN] at f9
            exact hbad (.inl f9) (by unfold rdL; rw [hms]; dsimp only; rw [hN])
          | some Ns =>
            rw [hN] at f9
            obtain ⟨g6,g7⟩ := f9
            cases hou : pOu (zWd 32 (L.getD (L.length - 1) ByteArray.empty)) with
            | none =>
              rw [hou] at hO
              exact hbad (.inr (.inr hO)) (by unfold rdL; rw [hms]; dsimp only; rw [hN]; dsimp only; rw [hou])
            | some Os =>
              rw [hou] at hO
              obtain ⟨g8,g9⟩ := hO
              have hr : rdL L = some (nm,sz,Ns,Os) := by unfold rdL; rw [hms]; dsimp only; rw [hN]; dsimp only; rw [hou]
              rw [hr,g6,if_neg (by decide),g4,if_neg (by decide),g8]
              exact ⟨_,rfl,by rw [g7,g9]; rfl⟩
  rw [qdj]
  by_cases hnm : nm = ByteArray.empty
  · rw [decide_eq_true hnm,if_pos rfl,ifp]
    exact fin _ (decide_eq_decide.2 ⟨fun h => ⟨hnm,by omega⟩,fun h => by have := h.2; omega⟩)
  · rw [decide_eq_false hnm,if_neg (by decide),ifp]
    exact fin _ (decide_eq_false (fun h => hnm h.1)).symm
end Go.Pf

namespace Go.Pf
open Go Go.Vm
def Bd (l : List ByteArray) : Prop := l.length ≤ 65537 ∧ ∀ w ∈ l,w.size ≤ 65537
theorem Bd.tail {w : ByteArray} {r : List ByteArray} (h : Bd (w :: r)) : Bd r := ⟨by have := h.1; simp only [lCo] at this; omega,fun x hx => h.2 x (mCm _ hx)⟩
theorem qna {s : ByteArray} (h : s.size ≤ 65536) : Bd (zWd 32 s) := by
 have hsz : s.data.toList.length = s.size := Array.length_toList
 have h1 := qgD 32 s.data.toList []
 obtain ⟨k1,k2⟩ := qq6 32 s.data.toList []
 simp only [List.length_nil] at k1 k2
 unfold zWd
 refine ⟨by simp only [lAp,List.length_map,lSi]; omega,fun w hw => ?_⟩
 rcases List.mem_append.1 hw with hw | hw
 ·obtain ⟨x,hx,rfl⟩ := List.mem_map.1 hw
  have := k1 x hx; rw [qbx]; omega
 ·rw [List.mem_singleton] at hw; subst hw; rw [qbx]; omega
theorem qdv {α β : Type} {p : List ByteArray → Option (α × List ByteArray)} {q : List ByteArray → Option (β × List ByteArray)} {l : List ByteArray} {z : (α × β) × List ByteArray} (h : seqP p q l = some z) : ∃ x y,p l = some x ∧ q x.2 = some y ∧ z = ((x.1,y.1),y.2) := by
 unfold seqP at h
 cases hp : p l with
 | none => rw [hp] at h; cases h
 | some x =>
  rw [hp,obs] at h
  cases hq : q x.2 with
  | none => rw [hq] at h; cases h
  | some y => rw [hq,obs] at h; cases h; exact ⟨x,y,rfl,hq,rfl⟩
theorem qra {l : List ByteArray} (hl : Bd l) {x : Int × List ByteArray} (h : pN l = some x) : rng x.1 ∧ Bd x.2 := by
 cases l with
 | nil => cases h
 | cons w r =>
  rw [pN_c] at h
  cases hv : zVal w with
  | none => rw [hv] at h; cases h
  | some n => rw [hv] at h; cases h; exact ⟨(qer hv).2,hl.tail⟩
theorem qk5 : ∀ {l : List ByteArray} {ns : LI},nums l = some ns → ns.length = l.length ∧ ∀ n ∈ ns,rng n
 | [],ns,h => by cases h; exact ⟨rfl,fun _ h => by cases h⟩
 | w :: r,ns,h => by
  rw [qnZ] at h
  cases hv : zVal w with
  | none => rw [hv] at h; cases h
  | some n =>
   rw [hv] at h
   cases hr : nums r with
   | none => rw [hr] at h; cases h
   | some m =>
    rw [hr] at h; cases h
    obtain ⟨h1,h2⟩ := qk5 hr
    refine ⟨by simp only [lCo]; omega,fun x hx => ?_⟩
    rcases List.mem_cons.1 hx with rfl | hx
    ·exact (qer hv).2
    ·exact h2 x hx
theorem qpN : ∀ {l : List ByteArray} {x : LI × List ByteArray},Bd l → pLt l = some x → x.1.length ≤ l.length ∧ (∀ n ∈ x.1,rng n) ∧ Bd x.2
 | [],x,_,h => by cases h
 | w :: r,x,hl,h => by
  rw [qo0] at h
  by_cases hw : w = bA [41]
  ·rw [if_pos hw] at h; cases h; exact ⟨by simp,fun _ h => (by cases h),hl.tail⟩
  rw [if_neg hw] at h
  cases hv : zVal w with
  | none => rw [hv] at h; cases h
  | some n =>
   rw [hv] at h
   cases hr : pLt r with
   | none => rw [hr] at h; cases h
   | some y =>
    rw [hr] at h; cases h
    obtain ⟨h1,h2,h3⟩ := qpN hl.tail hr
    refine ⟨by simp only [lCo]; omega,fun m hm => ?_,h3⟩
    rcases List.mem_cons.1 hm with rfl | hm
    ·exact (qer hv).2
    ·exact h2 m hm
theorem qqq {l : List ByteArray} {x : LI × List ByteArray} (hl : Bd l) (h : pL l = some x) : x.1.length ≤ 65537 ∧ (∀ n ∈ x.1,rng n) ∧ Bd x.2 := by
 cases l with
 | nil => cases h
 | cons w r =>
  rw [pL_c] at h
  by_cases hw : w = bA [40]
  ·rw [if_pos hw] at h
   obtain ⟨h1,h2,h3⟩ := qpN hl.tail h
   have := hl.tail.1
   exact ⟨by omega,h2,h3⟩
  ·rw [if_neg hw] at h; cases h
theorem qpL {l : List ByteArray} {x : ByteArray × List ByteArray} (hl : Bd l) (h : pNm l = some x) : x.1.size ≤ 65537 ∧ Bd x.2 := by
 cases l with
 | nil => cases h
 | cons w r =>
  rw [qmN] at h
  have hw := hl.2 w (by simp)
  by_cases h1 : w = ByteArray.empty
  ·rw [if_pos h1] at h; cases h
  rw [if_neg h1] at h
  cases h
  refine ⟨?_,hl.tail⟩
  dsimp only
  by_cases h2 : w = bA [45]
  ·rw [if_pos h2]; decide
  ·rw [if_neg h2]; exact hw
theorem qpM {a : ByteArray} {l : List ByteArray} {x : Unit × List ByteArray} (hl : Bd l) (h : pMu a l = some x) : Bd x.2 := by
 cases l with
 | nil => cases h
 | cons w r =>
  rw [qjf] at h
  by_cases hw : w = a
  ·rw [if_pos hw] at h; cases h; exact hl.tail
  ·rw [if_neg hw] at h; cases h
theorem qq9 {l : List ByteArray} (hl : Bd l) {x : Nd} (h : pNd l = some x) : wtN x := by
  unfold pNd at h
  cases hp : pAll l with
  | none => rw [hp] at h; cases h
  | some z =>
    rw [hp] at h
    dsimp only at h
    by_cases hz : z.2 = []
    · rw [if_pos hz] at h
      cases h
      obtain ⟨z6,x7,e6,e7,rfl⟩ := qdv hp
      obtain ⟨z5,x6,e5,f6,rfl⟩ := qdv e6
      obtain ⟨z4,x5,e4,f5,rfl⟩ := qdv e5
      obtain ⟨z3,x4,e3,f4,rfl⟩ := qdv e4
      obtain ⟨z2,x3,e2,f3,rfl⟩ := qdv e3
      obtain ⟨x1,x2,e1,f2,rfl⟩ := qdv e2
      have b1 : Bd x1.2 := by
        cases l with
        | nil => cases e1
        | cons w r =>
          rw [qnT] at e1
          cases ho : zOp w with
          | none => rw [ho] at e1; cases e1
          | some op => rw [ho] at e1; cases e1; exact hl.tail
      obtain ⟨a2,r2,b2⟩ := qqq b1 f2
      obtain ⟨a3,r3,b3⟩ := qqq b2 f3
      obtain ⟨a4,r4,b4⟩ := qqq b3 f4
      obtain ⟨r5,b5⟩ := qra b4 f5
      obtain ⟨r6,b6⟩ := qra b5 f6
      obtain ⟨a7,_⟩ := qpL b6 e7
      exact ⟨by show x2.1.length ≤ _; omega,by show x3.1.length ≤ _; omega,by show x4.1.length ≤ _; omega,by show x7.1.size ≤ _; omega,r2,r3,r4,r5,r6⟩
    · rw [if_neg hz] at h; cases h
theorem qnU : ∀ {M : List ByteArray} {N : List Nd},(∀ s ∈ M,s.size ≤ 65536) → pNds M = some N → N.length = M.length ∧ ∀ x ∈ N,wtN x
 | [],N,_,h => by cases h; exact ⟨rfl,fun _ h => by cases h⟩
 | s :: r,N,hM,h => by
  rw [pNds] at h
  cases hp : pNd (zWd 32 s) with
  | none => rw [hp] at h; cases h
  | some x =>
   rw [hp] at h
   cases hr : pNds r with
   | none => rw [hr] at h; cases h
   | some m =>
    rw [hr] at h; cases h
    obtain ⟨h1,h2⟩ := qnU (fun s hs => hM s (mCm _ hs)) hr
    refine ⟨by simp only [lCo]; omega,fun y hy => ?_⟩
    rcases List.mem_cons.1 hy with rfl | hy
    ·exact qq9 (qna (hM s (by simp))) hp
    ·exact h2 y hy
theorem qpA {s : ByteArray} (hs : s.size ≤ 65536) {z : ByteArray × LI × List Nd × LI} (h : zRd s = some z) : wtG z.2.1 z.1 z.2.2.1 z.2.2.2 ∧ z.2.1.length ≤ 100000 ∧ z.2.2.1.length ≤ 100000 ∧ z.2.2.2.length ≤ 100000 ∧ s ≠ ByteArray.empty := by
  obtain ⟨hln,hsm⟩ := qpC hs
  have hsz : s.data.toList.length = s.size := Array.length_toList
  have hspl := qgD 10 s.data.toList []
  unfold zRd at h
  by_cases hc' : ¬ ((sp 10 [] s.data.toList).2 = [] ∧ 2 ≤ (zLi s).length)
  · rw [if_neg hc'] at h; cases h
  have hc := Classical.not_not.1 hc'
  rw [if_pos hc] at h
  have hne : s ≠ ByteArray.empty := fun e => by
    have h2 := hc.2
    unfold zLi at h2
    rw [List.length_map,e] at h2
    exact absurd h2 (by decide)
  have hlen : (zLi s).length ≤ 65536 := by unfold zLi; rw [List.length_map]; omega
  have m0 := hsm _ (qaj (show 0 < (zLi s).length by omega) ByteArray.empty)
  have m1 := hsm _ (qaj (show (zLi s).length - 1 < (zLi s).length by omega) ByteArray.empty)
  unfold rdL at h
  cases h1 : pMs (zWd 32 ((zLi s).getD 0 ByteArray.empty)) with
  | none => rw [h1] at h; cases h
  | some m =>
    rw [h1] at h
    dsimp only at h
    cases h2 : pNds (((zLi s).take ((zLi s).length - 1)).drop 1) with
    | none => rw [h2] at h; cases h
    | some N =>
      rw [h2] at h
      dsimp only at h
      cases h3 : pOu (zWd 32 ((zLi s).getD ((zLi s).length - 1) ByteArray.empty)) with
      | none => rw [h3] at h; cases h
      | some O =>
        rw [h3] at h
        cases h
        obtain ⟨n1,n2⟩ := qnU (fun x hx => hsm x (List.mem_of_mem_take (List.mem_of_mem_drop hx))) h2
        have b0 := qna m0
        have b1 := qna m1
        have hm : m.1.size ≤ 65537 ∧ m.2.length ≤ 65537 ∧ ∀ n ∈ m.2,rng n := by
          unfold pMs at h1
          cases hp : seqP (pMu (bA mesh5)) pNm (zWd 32 ((zLi s).getD 0 ByteArray.empty)) with
          | none => rw [hp] at h1; cases h1
          | some y =>
            rw [hp] at h1
            dsimp only at h1
            cases hn : nums y.2 with
            | none => rw [hn] at h1; cases h1
            | some ns =>
              rw [hn] at h1
              dsimp only at h1
              obtain ⟨y1,y2,e1,e2,rfl⟩ := qdv hp
              obtain ⟨p1,p2⟩ := qpL (qpM b0 e1) e2
              obtain ⟨q1,q2⟩ := qk5 hn
              by_cases hz : y2.1 = ByteArray.empty ∧ 0 < ns.length
              · rw [if_pos hz] at h1; cases h1
              · rw [if_neg hz] at h1; cases h1
                exact ⟨p1,by have := p2.1; show ns.length ≤ _; rw [q1]; exact this,q2⟩
        have ho : O.length ≤ 65537 ∧ ∀ n ∈ O,rng n := by
          unfold pOu at h3
          cases hp : pMu (bA outs4) (zWd 32 ((zLi s).getD ((zLi s).length - 1) ByteArray.empty)) with
          | none => rw [hp] at h3; cases h3
          | some y =>
            rw [hp] at h3
            obtain ⟨q1,q2⟩ := qk5 h3
            have := (qpM b1 hp).1
            exact ⟨by rw [q1]; exact this,q2⟩
        exact ⟨⟨n2,by show m.1.size ≤ _; omega,hm.2.2,ho.2⟩,by show m.2.length ≤ _; omega,by show N.length ≤ _; rw [n1,List.length_drop,lTk]; omega,by show O.length ≤ _; omega,hne⟩
end Go.Pf

namespace Go.Pf
open Go Go.Vm
def zE (e : Int) : ByteArray × Int × LI × List Nd × LI := (ByteArray.empty,e,[],[],[])
def zGr (s : ByteArray) (z : ByteArray × LI × List Nd × LI) : ByteArray × Int × LI × List Nd × LI :=
 if (zShs z.2.1 z.1 z.2.2.1 z.2.2.2).1 = 0 then (if (zTx2 z.2.1 z.1 z.2.2.1 z.2.2.2 (zShs z.2.1 z.1 z.2.2.1 z.2.2.2).2).1 = s then (z.1,0,z.2.1,z.2.2.1,z.2.2.2) else zE 12) else zE (zShs z.2.1 z.1 z.2.2.1 z.2.2.2).1
def zPa (s : ByteArray) : ByteArray × Int × LI × List Nd × LI := if 65536 < (s.size : Int) then zE 3 else match zRd s with
 | none => zE 12
 | some z => zGr s z
theorem qp5 {s : LI} {nm : ByteArray} {N : List Nd} {O : LI} {S : List LI} {t : ByteArray} (ht : t ≠ ByteArray.empty) : (zTx2 s nm N O S).1 = t → (zTx2 s nm N O S).2 = 0 := by
 unfold zTx2
 by_cases h : 65536 < (zTB s nm N O S).length
 ·rw [if_pos h]; intro e; exact absurd e.symm ht
 ·rw [if_neg h]; intro _; rfl
theorem qef (s : ByteArray) (k : Nat) (hk : 2000000 ≤ k) : qcQ.f k s = some ((zPa s).2.2.1,(zPa s).1,(zPa s).2.2.2.1,(zPa s).2.2.2.2,(zPa s).2.1) := by
 unfold qcQ.f zPa
 by_cases hs : 65536 < (s.size : Int)
 ·rw [if_pos hs,if_pos hs]; rfl
 rw [if_neg hs,if_neg hs]
 obtain ⟨o,eo,ho⟩ := qke s (by omega) k (by omega)
 rw [eo,obs]
 cases hz : zRd s with
 | none =>
  rw [hz] at ho
  rw [ho,if_neg (by decide)]; rfl
 | some z =>
  rw [hz] at ho
  obtain ⟨hg,_,_,_,hne⟩ := qpA (show s.size ≤ 65536 by omega) hz
  rw [ho]
  dsimp only
  rw [if_pos rfl,qju _ _ _ _ hg.nm (fun x hx => (hg.n x hx).ok) k (by omega),obs]
  unfold zGr
  by_cases h0 : (zShs z.2.1 z.1 z.2.2.1 z.2.2.2).1 = 0
  ·rw [if_pos h0,if_pos h0,qkQ hg k (by omega),if_pos h0,obs]
   by_cases ht : (zTx2 z.2.1 z.1 z.2.2.1 z.2.2.2 (zShs z.2.1 z.1 z.2.2.1 z.2.2.2).2).1 = s
   ·rw [if_pos (qp5 hne ht),qdj,decide_eq_true ht,if_pos rfl,if_pos ht]
   ·rw [if_neg ht,qdj,decide_eq_false ht]
    by_cases h2 : (zTx2 z.2.1 z.1 z.2.2.1 z.2.2.2 (zShs z.2.1 z.1 z.2.2.1 z.2.2.2).2).2 = 0
    ·rw [if_pos h2,if_neg (by decide)]; rfl
    ·rw [if_neg h2]; rfl
  ·rw [if_neg h0,if_neg h0]; rfl
theorem qqY (s : ByteArray) : (zPa s).2.2.1.length ≤ 100000 ∧ (zPa s).2.2.2.1.length ≤ 100000 ∧ (zPa s).2.2.2.2.length ≤ 100000 ∧ ∀ x ∈ (zPa s).2.2.2.1,smN x := by
 have e : ∀ n,(zE n).2.2.1.length ≤ 100000 ∧ (zE n).2.2.2.1.length ≤ 100000 ∧ (zE n).2.2.2.2.length ≤ 100000 ∧ ∀ x ∈ (zE n).2.2.2.1,smN x := fun n => ⟨by simp [zE],by simp [zE],by simp [zE],fun x hx => by simp [zE] at hx⟩
 unfold zPa
 by_cases hs : 65536 < (s.size : Int)
 ·rw [if_pos hs]; exact e 3
 rw [if_neg hs]
 cases hz : zRd s with
 | none => exact e 12
 | some z =>
  obtain ⟨hg,h1,h2,h3,_⟩ := qpA (show s.size ≤ 65536 by omega) hz
  dsimp only
  unfold zGr
  split
  ·split
   ·exact ⟨h1,h2,h3,fun x hx => ⟨(hg.n x hx).i,(hg.n x hx).s,(hg.n x hx).a⟩⟩
   ·exact e 12
  ·exact e _
end Go.Pf

namespace Go.Pf
open Go Go.Vm
theorem qqM {u : Nat} (hu : u ≠ 0) : ∀ c r,Lib.decDigits u = c :: r → c.toNat ≠ 48 := by
 induction u using Nat.strongRecOn with
 | _ u ih =>
  intro c r e
  by_cases h : u < 10
  ·rw [Lib.decDigits,dif_pos h] at e
   cases e
   rw [qgc _ h]; omega
  ·rw [Lib.decDigits,dif_neg h] at e
   obtain ⟨c',r',e',_,_⟩ := qos (u / 10)
   rw [e',List.cons_append] at e
   cases e
   exact ih (u / 10) (by omega) (by omega) c r' e'
theorem qmd {n : Int} : ∀ c ∈ Lib.itoa n,c.toNat = 45 ∨ (48 ≤ c.toNat ∧ c.toNat ≤ 57) := by
 intro c hc
 unfold Lib.itoa at hc
 split at hc
 ·rcases List.mem_cons.1 hc with rfl | hc
  ·exact .inl rfl
  ·exact .inr (qor _ c hc)
 ·exact .inr (qor _ c hc)
theorem qqx {n : Int} {r : List UInt8} (h : Lib.itoa n = 48 :: r) : n = 0 ∧ r = [] := by
 unfold Lib.itoa at h
 split at h
 ·cases h
 ·rename_i hn
  by_cases h0 : n.toNat = 0
  ·rw [h0,Lib.decDigits,dif_pos (by omega)] at h
   cases h
   exact ⟨by omega,rfl⟩
  ·exact absurd rfl (qqM h0 48 r h)
theorem qqV {l : List UInt8} (h : ∀ n,Lib.itoa n ≠ l) : zV2 (bA l) = (0,false) :=
 qlv (qjI fun n _ e => h n (qoz e.symm))
def kn : List UInt8 := [109,101,115,104,32,45,10,111,117,116,115,10]
theorem known13 (k : Nat) (hk : 2000000 ≤ k) : qc7.f k = some true := by
 have t1 : zTB [] ByteArray.empty [] [] [] = kn := by decide +kernel
 have hs : (zShs [] ByteArray.empty [] []) = (0,[]) := by decide +kernel
 have z1 : zRd (bA kn) = some (ByteArray.empty,[],[],[]) := by rfl
 have x1 : zTx2 [] ByteArray.empty [] [] [] = (bA kn,0) := by
  unfold zTx2; rw [t1,if_neg (by decide)]
 have p1 : zPa (bA kn) = (ByteArray.empty,0,[],[],[]) := by
  unfold zPa
  rw [if_neg (by decide),z1]
  unfold zGr
  dsimp only
  rw [hs]
  dsimp only
  rw [if_pos rfl,x1,if_pos rfl]
 have p2 : zPa ByteArray.empty = zE 12 := by
  unfold zPa
  rw [if_neg (by decide),show zRd ByteArray.empty = none from rfl]
 have n1 : zV2 (ByteArray.mk #[45,55]) = (-7,true) := by
  have e : ByteArray.mk #[45,55] = zNum (-7) := by
   unfold zNum Lib.itoa
   rw [if_pos (by decide),show (-7 : Int).natAbs = 7 from rfl,Lib.decDigits,dif_pos (by decide)]; rfl
  rw [e,qlu (qfA ⟨by decide,by decide⟩)]
 have n2 : zV2 (ByteArray.mk #[48,49]) = (0,false) := qqV (l := [48,49]) fun n e => by cases (qqx e).2
 unfold qc7.f
 rw [show ByteArray.mk #[109,101,115,104,32,45,10,111,117,116,115,10] = bA kn from rfl,qef _ k hk,obs,qef _ k hk,obs,qcL _ (by decide),obs,qcL _ (by decide),obs,p1,p2,n1,n2]
 dsimp only
 rw [if_pos rfl,if_pos (by decide),if_pos (by decide),if_pos rfl,if_pos rfl,if_neg (by decide),qc0 _ (by decide) k (by show 4 < k; omega),obs,if_pos (by rfl),qc0 _ (by decide) k (by show 0 < k; omega),obs]
 rfl
end Go.Pf

namespace Go.Pf
open Go Go.Vm
def oddIn (a0_0 : LI) (a0_1 : ByteArray) (a0_2 : List Nd) (a0_3 : LI) (a1_0 a1_1 a1_2 a1_3 : Int) (a1_4 u : ByteArray) : Option (LI × ByteArray × LI × (List Nd)) := if (([] ++ a0_2).length : Int) = 0 then (if 4 ≠ 0 then (qck.f (IntKind.i64.wrap (a1_0.tdiv 4)) 5).bind fun t8 => if t8 = 0 then (if 0 + a0_0.length ≤ 281474976710656 ∧ (0 + a0_0.length) * 8 ≤ 140737488355328 then if ([] ++ a0_0).length + [a1_3].length ≤ 281474976710656 ∧ (([] ++ a0_0).length + [a1_3].length) * 8 ≤ 140737488355328 then some (([] ++ a0_0) ++ [a1_3],a0_1,a0_3,[] ++ a0_2) else none else none) else if t8 = 1 then (some (a0_0,u,a0_3,[] ++ a0_2)) else if t8 = 2 then (if 0 + a0_3.length ≤ 281474976710656 ∧ (0 + a0_3.length) * 8 ≤ 140737488355328 then if ([] ++ a0_3).length + [a1_3].length ≤ 281474976710656 ∧ (([] ++ a0_3).length + [a1_3].length) * 8 ≤ 140737488355328 then some (a0_0,a0_1,([] ++ a0_3) ++ [a1_3],[] ++ a0_2) else none else none) else if t8 = 3 then (if ([] ++ a0_2).length + ([(a1_3,([],([],([],(0,(0,ByteArray.empty))))))] : List Nd).length ≤ 281474976710656 ∧ (([] ++ a0_2).length + ([(a1_3,([],([],([],(0,(0,ByteArray.empty))))))] : List Nd).length) * 112 ≤ 140737488355328 then some (a0_0,a0_1,a0_3,([] ++ a0_2) ++ ([(a1_3,([],([],([],(0,(0,ByteArray.empty))))))] : List Nd)) else none) else some (a0_0,a0_1,[],[] ++ a0_2) else none) else if 4 ≠ 0 then if a1_0.tmod 4 = 3 then ((qck.f (IntKind.i64.wrap (a1_0.tdiv 4)) 5).bind fun t9 => if t9 = 0 then (if 0 + a0_0.length ≤ 281474976710656 ∧ (0 + a0_0.length) * 8 ≤ 140737488355328 then if ([] ++ a0_0).length + [a1_3].length ≤ 281474976710656 ∧ (([] ++ a0_0).length + [a1_3].length) * 8 ≤ 140737488355328 then some (([] ++ a0_0) ++ [a1_3],a0_1,a0_3,[] ++ a0_2) else none else none) else if t9 = 1 then (some (a0_0,u,a0_3,[] ++ a0_2)) else if t9 = 2 then (if 0 + a0_3.length ≤ 281474976710656 ∧ (0 + a0_3.length) * 8 ≤ 140737488355328 then if ([] ++ a0_3).length + [a1_3].length ≤ 281474976710656 ∧ (([] ++ a0_3).length + [a1_3].length) * 8 ≤ 140737488355328 then some (a0_0,a0_1,([] ++ a0_3) ++ [a1_3],[] ++ a0_2) else none else none) else if t9 = 3 then (if ([] ++ a0_2).length + ([(a1_3,([],([],([],(0,(0,ByteArray.empty))))))] : List Nd).length ≤ 281474976710656 ∧ (([] ++ a0_2).length + ([(a1_3,([],([],([],(0,(0,ByteArray.empty))))))] : List Nd).length) * 112 ≤ 140737488355328 then some (a0_0,a0_1,a0_3,([] ++ a0_2) ++ ([(a1_3,([],([],([],(0,(0,ByteArray.empty))))))] : List Nd)) else none) else some (a0_0,a0_1,[],[] ++ a0_2)) else (qck.f a1_1 (([] ++ a0_2).length : Int)).bind fun t10 => if 0 ≤ t10 ∧ t10 < (([] ++ a0_2).length : Int) then if t10.toNat < ([] ++ a0_2).length then (qck.f (IntKind.i64.wrap (a1_0.tdiv 4)) 9).bind fun t11 => if t11 = 0 then (some (a0_0,a0_1,a0_3,([] ++ a0_2).set t10.toNat (a1_3,((([] ++ a0_2).getD t10.toNat nd0).2.1,((([] ++ a0_2).getD t10.toNat nd0).2.2.1,((([] ++ a0_2).getD t10.toNat nd0).2.2.2.1,((([] ++ a0_2).getD t10.toNat nd0).2.2.2.2.1,((([] ++ a0_2).getD t10.toNat nd0).2.2.2.2.2.1,(([] ++ a0_2).getD t10.toNat nd0).2.2.2.2.2.2)))))))) else if t11 = 1 then ((qbD.f (([] ++ a0_2).getD t10.toNat nd0).2.1 a1_0 a1_1 a1_2 a1_3 a1_4).bind fun t12 => some (a0_0,a0_1,a0_3,([] ++ a0_2).set t10.toNat ((([] ++ a0_2).getD t10.toNat nd0).1,(t12,((([] ++ a0_2).getD t10.toNat nd0).2.2.1,((([] ++ a0_2).getD t10.toNat nd0).2.2.2.1,((([] ++ a0_2).getD t10.toNat nd0).2.2.2.2.1,((([] ++ a0_2).getD t10.toNat nd0).2.2.2.2.2.1,(([] ++ a0_2).getD t10.toNat nd0).2.2.2.2.2.2)))))))) else if t11 = 2 then ((qbD.f (([] ++ a0_2).getD t10.toNat nd0).2.2.1 a1_0 a1_1 a1_2 a1_3 a1_4).bind fun t13 => some (a0_0,a0_1,a0_3,([] ++ a0_2).set t10.toNat ((([] ++ a0_2).getD t10.toNat nd0).1,((([] ++ a0_2).getD t10.toNat nd0).2.1,(t13,((([] ++ a0_2).getD t10.toNat nd0).2.2.2.1,((([] ++ a0_2).getD t10.toNat nd0).2.2.2.2.1,((([] ++ a0_2).getD t10.toNat nd0).2.2.2.2.2.1,(([] ++ a0_2).getD t10.toNat nd0).2.2.2.2.2.2)))))))) else if t11 = 3 then ((qbD.f (([] ++ a0_2).getD t10.toNat nd0).2.2.2.1 a1_0 a1_1 a1_2 a1_3 a1_4).bind fun t14 => some (a0_0,a0_1,a0_3,([] ++ a0_2).set t10.toNat ((([] ++ a0_2).getD t10.toNat nd0).1,((([] ++ a0_2).getD t10.toNat nd0).2.1,((([] ++ a0_2).getD t10.toNat nd0).2.2.1,(t14,((([] ++ a0_2).getD t10.toNat nd0).2.2.2.2.1,((([] ++ a0_2).getD t10.toNat nd0).2.2.2.2.2.1,(([] ++ a0_2).getD t10.toNat nd0).2.2.2.2.2.2)))))))) else if t11 = 4 then (some (a0_0,a0_1,a0_3,([] ++ a0_2).set t10.toNat ((([] ++ a0_2).getD t10.toNat nd0).1,((([] ++ a0_2).getD t10.toNat nd0).2.1,((([] ++ a0_2).getD t10.toNat nd0).2.2.1,((([] ++ a0_2).getD t10.toNat nd0).2.2.2.1,(IntKind.i64.wrap ((([] ++ a0_2).getD t10.toNat nd0).2.2.2.2.1 + 1),((([] ++ a0_2).getD t10.toNat nd0).2.2.2.2.2.1,(([] ++ a0_2).getD t10.toNat nd0).2.2.2.2.2.2)))))))) else if t11 = 5 then (some (a0_0,a0_1,a0_3,([] ++ a0_2).set t10.toNat ((([] ++ a0_2).getD t10.toNat nd0).1,((([] ++ a0_2).getD t10.toNat nd0).2.1,((([] ++ a0_2).getD t10.toNat nd0).2.2.1,((([] ++ a0_2).getD t10.toNat nd0).2.2.2.1,((([] ++ a0_2).getD t10.toNat nd0).2.2.2.2.1,(a1_3,(([] ++ a0_2).getD t10.toNat nd0).2.2.2.2.2.2)))))))) else if t11 = 6 then (some (a0_0,a0_1,a0_3,([] ++ a0_2).set t10.toNat ((([] ++ a0_2).getD t10.toNat nd0).1,((([] ++ a0_2).getD t10.toNat nd0).2.1,((([] ++ a0_2).getD t10.toNat nd0).2.2.1,((([] ++ a0_2).getD t10.toNat nd0).2.2.2.1,((([] ++ a0_2).getD t10.toNat nd0).2.2.2.2.1,((([] ++ a0_2).getD t10.toNat nd0).2.2.2.2.2.1,u)))))))) else if t11 = 7 then (if 0 + (([] ++ a0_2).getD t10.toNat nd0).2.2.2.1.length ≤ 281474976710656 ∧ (0 + (([] ++ a0_2).getD t10.toNat nd0).2.2.2.1.length) * 8 ≤ 140737488355328 then if ([] ++ (([] ++ a0_2).getD t10.toNat nd0).2.2.2.1).length + [a1_3].length ≤ 281474976710656 ∧ (([] ++ (([] ++ a0_2).getD t10.toNat nd0).2.2.2.1).length + [a1_3].length) * 8 ≤ 140737488355328 then some (a0_0,a0_1,a0_3,([] ++ a0_2).set t10.toNat ((([] ++ a0_2).getD t10.toNat nd0).1,((([] ++ a0_2).getD t10.toNat nd0).2.1,((([] ++ a0_2).getD t10.toNat nd0).2.2.1,(([] ++ (([] ++ a0_2).getD t10.toNat nd0).2.2.2.1) ++ [a1_3],((([] ++ a0_2).getD t10.toNat nd0).2.2.2.2.1,((([] ++ a0_2).getD t10.toNat nd0).2.2.2.2.2.1,(([] ++ a0_2).getD t10.toNat nd0).2.2.2.2.2.2))))))) else none else none) else if 0 + (([] ++ a0_2).getD t10.toNat nd0).2.1.length ≤ 281474976710656 ∧ (0 + (([] ++ a0_2).getD t10.toNat nd0).2.1.length) * 8 ≤ 140737488355328 then if ([] ++ (([] ++ a0_2).getD t10.toNat nd0).2.1).length + [a1_3].length ≤ 281474976710656 ∧ (([] ++ (([] ++ a0_2).getD t10.toNat nd0).2.1).length + [a1_3].length) * 8 ≤ 140737488355328 then some (a0_0,a0_1,a0_3,([] ++ a0_2).set t10.toNat ((([] ++ a0_2).getD t10.toNat nd0).1,(([] ++ (([] ++ a0_2).getD t10.toNat nd0).2.1) ++ [a1_3],((([] ++ a0_2).getD t10.toNat nd0).2.2.1,((([] ++ a0_2).getD t10.toNat nd0).2.2.2.1,((([] ++ a0_2).getD t10.toNat nd0).2.2.2.2.1,((([] ++ a0_2).getD t10.toNat nd0).2.2.2.2.2.1,(([] ++ a0_2).getD t10.toNat nd0).2.2.2.2.2.2))))))) else none else none else none else none else none
theorem qhS (s : LI) (nm : ByteArray) (N : List Nd) (O : LI) (hN : N.length ≤ 1000) (w n a v : Int) (t : ByteArray) : ∃ u : ByteArray,u.size ≤ 12 ∧ qf0.f s nm N O w n a v t = oddIn s nm N O w n a v t u := by
 unfold qf0.f
 rw [ifp]
 by_cases c : 12 < (t.size : Int)
 ·rw [if_pos c,ifp]
  exact ⟨t.extract ((0 : Nat) : Int).toNat 12,by rw [ByteArray.size_extract]; omega,rfl⟩
 ·rw [if_neg c]
  exact ⟨t,by omega,rfl⟩
def nB (B : Nat) (x : Nd) : Prop := x.2.1.length ≤ B ∧ x.2.2.1.length ≤ B ∧ x.2.2.2.1.length ≤ B ∧ x.2.2.2.2.2.2.size ≤ B
structure GrB (B : Nat) (s : LI) (nm : ByteArray) (N : List Nd) (O : LI) : Prop where
 h1 : s.length ≤ B
 h2 : nm.size ≤ B
 h3 : N.length ≤ B
 h4 : O.length ≤ B
 nd : ∀ x ∈ N,nB B x
theorem nB.up {B : Nat} {x : Nd} (h : nB B x) : nB (B + 1) x := by
 obtain ⟨h1,h2,h3,h4⟩ := h
 exact ⟨by omega,by omega,by omega,by omega⟩
theorem GrB.s {B : Nat} (hB : B ≤ 400) {s : LI} {nm : ByteArray} {N : List Nd} {O : LI} (h : GrB B s nm N O) : GrS s nm N O := by
 obtain ⟨h1,h2,h3,h4,h5⟩ := h
 exact ⟨by omega,by omega,by omega,by omega,fun x hx => by
  obtain ⟨a1,a2,a3,a4⟩ := h5 x hx
  exact ⟨by omega,by omega,by omega⟩,fun x hx => by
  obtain ⟨a1,a2,a3,a4⟩ := h5 x hx
  exact ⟨by omega,by omega,by omega⟩⟩
set_option maxHeartbeats 1000000 in
theorem qre {B : Nat} (hB0 : 12 ≤ B) (hB : B ≤ 400) {s : LI} {nm : ByteArray} {N : List Nd} {O : LI} (hG : GrB B s nm N O) (w n a v : Int) (t u : ByteArray) (hw : i64r w) (hn : i64r n) (ha : i64r a) (hu : u.size ≤ 12) :
  ∃ s' nm' O' N',oddIn s nm N O w n a v t u = some (s',nm',O',N') ∧ GrB (B + 1) s' nm' N' O' := by
 obtain ⟨h1,h2,h3,h4,h5⟩ := hG
 have up : ∀ x ∈ N,nB (B + 1) x := fun x hx => (h5 x hx).up
 have hw4 : i64r (IntKind.i64.wrap (w.tdiv 4)) := by
  obtain ⟨a1,a2⟩ := hw
  have b1 : w.tdiv 4 ≤ 9223372036854775807 ∧ -9223372036854775808 ≤ w.tdiv 4 := by
   have := Int.mul_tdiv_add_tmod w 4
   have t2 := Int.lt_tmod_of_pos w (show (0 : Int) < 4 by omega)
   have t3 := Int.tmod_lt_of_pos w (show (0 : Int) < 4 by omega)
   omega
  rw [qak (by omega) (by omega)]
  exact ⟨by omega,by omega⟩
 have g5 : ∃ r,((qck.f (IntKind.i64.wrap (w.tdiv 4)) 5).bind fun t1 => if t1 = 0 then (if 0 + s.length ≤ 281474976710656 ∧ (0 + s.length) * 8 ≤ 140737488355328 then if ([] ++ s).length + [v].length ≤ 281474976710656 ∧ (([] ++ s).length + [v].length) * 8 ≤ 140737488355328 then some (([] ++ s) ++ [v],nm,O,[] ++ N) else none else none) else if t1 = 1 then (some (s,u,O,[] ++ N)) else if t1 = 2 then (if 0 + O.length ≤ 281474976710656 ∧ (0 + O.length) * 8 ≤ 140737488355328 then if ([] ++ O).length + [v].length ≤ 281474976710656 ∧ (([] ++ O).length + [v].length) * 8 ≤ 140737488355328 then some (s,nm,([] ++ O) ++ [v],[] ++ N) else none else none) else if t1 = 3 then (if ([] ++ N).length + ([(v,([],([],([],(0,(0,ByteArray.empty))))))] : List Nd).length ≤ 281474976710656 ∧ (([] ++ N).length + ([(v,([],([],([],(0,(0,ByteArray.empty))))))] : List Nd).length) * 112 ≤ 140737488355328 then some (s,nm,O,([] ++ N) ++ ([(v,([],([],([],(0,(0,ByteArray.empty))))))] : List Nd)) else none) else some (s,nm,[],[] ++ N)) = some r ∧ GrB (B + 1) r.1 r.2.1 r.2.2.2 r.2.2.1 := by
  obtain ⟨r,e,r0,r1⟩ := qf1 hw4 (show (1 : Int) ≤ 5 by omega)
  have hv : nB (B + 1) ((v,([],([],([],(0,(0,ByteArray.empty)))))) : Nd) := ⟨Nat.zero_le _,Nat.zero_le _,Nat.zero_le _,Nat.zero_le _⟩
  rw [e,obs]
  simp only [nAp,Nat.zero_add,lSi]
  by_cases c0 : r = 0
  ·rw [if_pos c0,ifp,ifp]
   exact ⟨_,rfl,by rw [lAp,lSi]; omega,by dsimp only; omega,by dsimp only; omega,by dsimp only; omega,up⟩
  by_cases c1 : r = 1
  ·rw [if_neg c0,if_pos c1]
   exact ⟨_,rfl,by dsimp only; omega,by dsimp only; omega,by dsimp only; omega,by dsimp only; omega,up⟩
  by_cases c2 : r = 2
  ·rw [if_neg c0,if_neg c1,if_pos c2,ifp,ifp]
   exact ⟨_,rfl,by dsimp only; omega,by dsimp only; omega,by dsimp only; omega,by rw [lAp,lSi]; omega,up⟩
  by_cases c3 : r = 3
  ·rw [if_neg c0,if_neg c1,if_neg c2,if_pos c3,ifp]
   refine ⟨_,rfl,by dsimp only; omega,by dsimp only; omega,by rw [lAp,lSi]; omega,by dsimp only; omega,fun x hx => ?_⟩
   rcases List.mem_append.1 hx with hx | hx
   ·exact up x hx
   ·rw [List.mem_singleton] at hx; rw [hx]; exact hv
  rw [if_neg c0,if_neg c1,if_neg c2,if_neg c3]
  exact ⟨_,rfl,by dsimp only; omega,by dsimp only; omega,by dsimp only; omega,Nat.zero_le _,up⟩
 obtain ⟨r5,e5,hr5⟩ := g5
 obtain ⟨r5a,r5b,r5c,r5d⟩ := r5
 unfold oddIn
 by_cases c0 : (([] ++ N).length : Int) = 0
 ·rw [if_pos c0,if_pos (by decide)]
  exact ⟨_,_,_,_,e5,hr5⟩
 rw [if_neg c0,if_pos (by decide)]
 by_cases c3 : w.tmod 4 = 3
 ·rw [if_pos c3]
  exact ⟨_,_,_,_,e5,hr5⟩
 rw [nAp] at c0
 obtain ⟨i,e1,i0,i1⟩ := qf1 hn (show 1 ≤ (N.length : Int) by omega)
 obtain ⟨r,e2,r0,r1⟩ := qf1 hw4 (show (1 : Int) ≤ 9 by omega)
 have hx := h5 _ (qaj (show i.toNat < N.length by omega) nd0)
 rw [if_neg c3]
 simp only [nAp,Nat.zero_add,lSi]
 rw [e1,obs,if_pos ⟨i0,i1⟩,ifp,e2,obs]
 generalize hX : N.getD i.toNat nd0 = X at hx ⊢
 obtain ⟨x1,x2,x3,x4⟩ := hx
 obtain ⟨p,i',sh,A,m,h,nt⟩ := X
 dsimp only at x1 x2 x3 x4 ⊢
 have fin : ∀ {Y : Nd},Y.2.1.length ≤ B + 1 → Y.2.2.1.length ≤ B + 1 → Y.2.2.2.1.length ≤ B + 1 → Y.2.2.2.2.2.2.size ≤ B + 1 → ∃ s' nm' O' N',some (s,nm,O,N.set i.toNat Y) = some (s',nm',O',N') ∧ GrB (B + 1) s' nm' N' O' := fun a1 a2 a3 a4 =>
  ⟨_,_,_,_,rfl,by omega,by omega,by rw [List.length_set]; omega,by omega,fun y hy => by
   rcases List.mem_or_eq_of_mem_set hy with hy | hy
   ·exact up y hy
   ·rw [hy]; exact ⟨a1,a2,a3,a4⟩⟩
 obtain ⟨u1,f1,g1⟩ := qej i' (by omega) w n a v t ha
 obtain ⟨u2,f2,g2⟩ := qej sh (by omega) w n a v t ha
 obtain ⟨u3,f3,g3⟩ := qej A (by omega) w n a v t ha
 by_cases d0 : r = 0
 ·rw [if_pos d0]; exact fin (by dsimp only; omega) (by dsimp only; omega) (by dsimp only; omega) (by dsimp only; omega)
 rw [if_neg d0]
 by_cases d1 : r = 1
 ·rw [if_pos d1,f1,obs]; exact fin (by dsimp only; omega) (by dsimp only; omega) (by dsimp only; omega) (by dsimp only; omega)
 rw [if_neg d1]
 by_cases d2 : r = 2
 ·rw [if_pos d2,f2,obs]; exact fin (by dsimp only; omega) (by dsimp only; omega) (by dsimp only; omega) (by dsimp only; omega)
 rw [if_neg d2]
 by_cases d3 : r = 3
 ·rw [if_pos d3,f3,obs]; exact fin (by dsimp only; omega) (by dsimp only; omega) (by dsimp only; omega) (by dsimp only; omega)
 rw [if_neg d3]
 by_cases d4 : r = 4
 ·rw [if_pos d4]; exact fin (by dsimp only; omega) (by dsimp only; omega) (by dsimp only; omega) (by dsimp only; omega)
 rw [if_neg d4]
 by_cases d5 : r = 5
 ·rw [if_pos d5]; exact fin (by dsimp only; omega) (by dsimp only; omega) (by dsimp only; omega) (by dsimp only; omega)
 rw [if_neg d5]
 by_cases d6 : r = 6
 ·rw [if_pos d6]; exact fin (by dsimp only; omega) (by dsimp only; omega) (by dsimp only; omega) (by dsimp only; omega)
 rw [if_neg d6]
 by_cases d7 : r = 7
 ·rw [if_pos d7,ifp,ifp]; exact fin (by dsimp only; omega) (by dsimp only; omega) (by rw [lAp,lSi]; omega) (by dsimp only; omega)
 rw [if_neg d7,ifp,ifp]
 exact fin (by rw [lAp,lSi]; omega) (by dsimp only; omega) (by dsimp only; omega) (by dsimp only; omega)
abbrev Trn := Int × Int × Int × Int × ByteArray
abbrev trn0 : Trn := (0,(0,(0,(0,ByteArray.empty))))
theorem qhT (l : List Trn) (hl : l.length ≤ 17592186043904) (hw : ∀ x ∈ l,i64r x.1 ∧ i64r x.2.1 ∧ i64r x.2.2.1) (z : ByteArray) : ∀ (e i n : Nat) {B : Nat} {s : LI} {nm : ByteArray} {N : List Nd} {O : LI},i + e = 4 → e < n → 12 ≤ B → B + e ≤ 400 → GrB B s nm N O →
  ∃ s' nm' N' O',qbT.l0 n l i s nm N O z = some (s',nm',N',O') ∧ GrB (B + e) s' nm' N' O'
 | 0,i,n,B,s,nm,N,O,hi,hn,hB,hB4,hG => by
  obtain ⟨n,rfl⟩ := sun (n := n)
  rw [qbT.l0]
  by_cases c : (i : Int) < (l.length : Int)
  ·rw [if_pos c,ifq]; exact ⟨s,nm,N,O,rfl,hG⟩
  ·rw [if_neg c]; exact ⟨s,nm,N,O,rfl,hG⟩
 | e + 1,i,n,B,s,nm,N,O,hi,hn,hB,hB4,hG => by
  obtain ⟨n,rfl⟩ := sun (n := n)
  rw [qbT.l0]
  by_cases c : (i : Int) < (l.length : Int)
  rotate_left
  ·rw [if_neg c]
   refine ⟨s,nm,N,O,rfl,?_⟩
   obtain ⟨h1,h2,h3,h4,h5⟩ := hG
   exact ⟨by omega,by omega,by omega,by omega,fun x hx => by
    obtain ⟨a1,a2,a3,a4⟩ := h5 x hx
    exact ⟨by omega,by omega,by omega,by omega⟩⟩
  obtain ⟨x1,x2,x3⟩ := hw _ (qaj (show i < l.length by omega) trn0)
  obtain ⟨u,hu,eu⟩ := qhS s nm N O (by have := hG.h3; omega) (l.getD i trn0).1 (l.getD i trn0).2.1 (l.getD i trn0).2.2.1 (l.getD i trn0).2.2.2.1 (l.getD i trn0).2.2.2.2
  obtain ⟨s',nm',O',N',e1,hG'⟩ := qre hB (by omega) hG (l.getD i trn0).1 (l.getD i trn0).2.1 (l.getD i trn0).2.2.1 (l.getD i trn0).2.2.2.1 (l.getD i trn0).2.2.2.2 u x1 x2 x3 hu
  rw [if_pos c,ifp,if_pos ⟨by omega,c⟩,tNc,eu,e1,obs,qas (show i < 4 by omega) (by omega)]
  obtain ⟨a1,a2,a3,a4,g1,g2⟩ := qhT l hl hw z e (i + 1) n (by omega) (by omega) (show 12 ≤ B + 1 by omega) (by omega) hG'
  exact ⟨a1,a2,a3,a4,g1,by rw [show B + (e + 1) = B + 1 + e by omega]; exact g2⟩
theorem qmS (l : List Trn) (hl : l.length ≤ 17592186043904) (hw : ∀ x ∈ l,i64r x.1 ∧ i64r x.2.1 ∧ i64r x.2.2.1) {s : LI} {nm : ByteArray} {N : List Nd} {O : LI} (hG : GrB 300 s nm N O) (k : Nat) (hk : 1000 ≤ k) :
  ∃ s' nm' N' O',qbT.f k s nm N O l = some (s',nm',N',O') ∧ GrS s' nm' N' O' := by
 obtain ⟨s',nm',N',O',e,hG'⟩ := qhT l hl hw ByteArray.empty 4 0 k (by omega) (by omega) (by omega) (by omega) hG
 unfold qbT.f
 rw [n0] at e
 rw [e,obs]
 exact ⟨_,_,_,_,rfl,hG'.s (by omega)⟩
end Go.Pf

namespace Go.Pf
open Go Go.Vm
def nr (N : List Nd) : Prop := ∀ x ∈ N,rng x.2.2.2.2.1
theorem qpR {N M : List Nd} (h : nr N) (h2 : nr M) : nr (N ++ M) := fun x hx => by
 rcases List.mem_append.1 hx with hx | hx
 ·exact h x hx
 ·exact h2 x hx
theorem qrg : nr [] := fun _ h => by cases h
theorem qrh {N : List Nd} (h : nr N) (i : Nat) : rng (N.getD i nd0).2.2.2.2.1 := by
 by_cases hi : i < N.length
 ·exact h _ (qaj hi nd0)
 ·rw [gDg,List.getElem?_eq_none (by omega)]; exact rng0
theorem qpQ {N : List Nd} (h : nr N) (i : Nat) {y : Nd} (hy : rng y.2.2.2.2.1) : nr (N.set i y) := fun x hx => by
 rcases List.mem_or_eq_of_mem_set hx with hx | hx
 ·exact h x hx
 ·rw [hx]; exact hy
theorem qrf (a : Int) : nr ([(a,([],([],([],(0,(0,ByteArray.empty))))))] : List Nd) := fun x hx => by
 rw [List.mem_singleton] at hx; rw [hx]; exact rng0
theorem qrd (s : LI) (nm : ByteArray) (N : List Nd) (O : LI) (hN : nr N) (w n a v : Int) (t u : ByteArray) : Giv (fun r => nr r.2.2.2) (oddIn s nm N O w n a v t u) := by
 have h0 : nr ([] ++ N) := qpR qrg hN
 unfold oddIn
 repeat' first
  | exact Giv.none
  | refine Giv.ite (fun _=>?_) (fun _=>?_)
  | refine Giv.bind fun _ _ => ?_
  | refine Giv.some ?_
 all_goals dsimp only
 all_goals first
  | exact h0
  | exact qpR h0 (qrf _)
  | exact qpQ h0 _ (qrh h0 _)
  | exact qpQ h0 _ (qpT _)
theorem qp3 (l : List Trn) (z : ByteArray) : ∀ (e i n : Nat) (s : LI) (nm : ByteArray) (N : List Nd) (O : LI),i + e = 4 → N.length + e ≤ 1000 → (∀ s' nm' N' O' w n' a v t u,N'.length ≤ 1000 → Giv (fun r => r.2.2.2.length ≤ N'.length + 1) (oddIn s' nm' N' O' w n' a v t u)) → nr N → Giv (fun r => nr r.2.2.1) (qbT.l0 n l (i : Int) s nm N O z)
 | _,_,0,_,_,_,_,_,_,_,_ => fun _ h => by cases h
 | 0,i,n + 1,s,nm,N,O,hi,_,_,hN => by
  rw [qbT.l0]
  exact Giv.ite (fun _=>Giv.ite (fun h => absurd h (by omega)) (fun _=>Giv.some hN)) (fun _=>Giv.some hN)
 | e + 1,i,n + 1,s,nm,N,O,hi,hl,hb,hN => by
  rw [qbT.l0]
  refine Giv.ite (fun _=>Giv.ite (fun h4 => Giv.ite (fun _=>Giv.bind fun r hr => ?_) (fun _=>Giv.none)) (fun _=>Giv.some hN)) (fun _=>Giv.some hN)
  obtain ⟨u,_,eu⟩ := qhS s nm N O (by omega) (l.getD (i : Int).toNat (0,(0,(0,(0,ByteArray.empty))))).1 (l.getD (i : Int).toNat (0,(0,(0,(0,ByteArray.empty))))).2.1 (l.getD (i : Int).toNat (0,(0,(0,(0,ByteArray.empty))))).2.2.1 (l.getD (i : Int).toNat (0,(0,(0,(0,ByteArray.empty))))).2.2.2.1 (l.getD (i : Int).toNat (0,(0,(0,(0,ByteArray.empty))))).2.2.2.2
  rw [eu] at hr
  have g1 := qrd _ _ _ _ hN _ _ _ _ _ _ r hr
  have g2 := hb _ _ _ _ _ _ _ _ _ _ (by omega) r hr
  rw [qak (n := (i : Int) + 1) (by omega) (by omega)]
  exact qp3 l z e (i + 1) n _ _ _ _ (by omega) (by omega) hb g1
theorem qqt (s : LI) (nm : ByteArray) (N : List Nd) (O : LI) (w n a v : Int) (t u : ByteArray) : Giv (fun r => r.2.2.2.length ≤ N.length + 1) (oddIn s nm N O w n a v t u) := by
 unfold oddIn
 repeat' first
  | exact Giv.none
  | refine Giv.ite (fun _=>?_) (fun _=>?_)
  | refine Giv.bind fun _ _ => ?_
  | refine Giv.some ?_
 all_goals simp
theorem qlh (l : List Trn) {s : LI} {nm : ByteArray} {N : List Nd} {O : LI} (hl : N.length ≤ 900) (hN : nr N) (k : Nat) : Giv (fun r => nr r.2.2.1) (qbT.f k s nm N O l) := by
 unfold qbT.f
 refine Giv.bind fun r hr => Giv.some ?_
 exact qp3 l _ 4 0 k s nm N O rfl (by omega) (fun _ _ _ _ _ _ _ _ _ _ _ => qqt _ _ _ _ _ _ _ _ _ _) hN r hr
theorem qpP {s : LI} {nm : ByteArray} {N : List Nd} {O : LI} (h : GrS s nm N O) (hN : nr N) (h0 : (zShs s nm N O).1 = 0) : wtG s nm N O := by
 obtain ⟨h1,h2,h3,h4,h5,h6⟩ := qeP h0
 have hz : (zGo (rs nm) N []).1 = 0 := by rw [← h5]; exact h0
 refine ⟨fun x hx => ?_,h.h2,fun n hn => ?_,fun n hn => ?_⟩
 ·obtain ⟨b1,b2,b3,b4,b5⟩ := qhl hz x hx
  obtain ⟨a1,a2,a3⟩ := h.ok x hx
  obtain ⟨c1,c2,c3⟩ := h.sm x hx
  exact ⟨by omega,by omega,by omega,by omega,fun n hn => by have := b1 n hn; rw [List.length_nil] at this; unfold rng; omega,qi3 b2,qi3 b3,hN x hx,by unfold rng; omega⟩
 ·have hm : zMs s (rs nm) = true := by
   unfold zShs at h0
   by_cases c : zMs s (rs nm) = true
   ·exact c
   ·rw [if_neg c] at h0; revert h0; simp
  unfold zMs at hm
  simp only [bAt] at hm
  have h5 := List.all_eq_true.1 (qgo hm.1).2.1 n hn
  unfold okD at h5
  simp only [bAt,decide_eq_true_eq] at h5
  unfold rng; omega
 ·have := h6 n hn; unfold rng; omega
theorem qpt {s : LI} {nm : ByteArray} {N : List Nd} {O : LI} (h : GrS s nm N O) (hN : nr N) (k : Nat) (hk : 500000 ≤ k) : qar.f k s nm N O = some (if (zShs s nm N O).1 = 0 then zTx2 s nm N O (zShs s nm N O).2 else (ByteArray.empty,(zShs s nm N O).1)) := by
 by_cases h0 : (zShs s nm N O).1 = 0
 ·exact qj7 (qpP h hN h0) k hk
 ·unfold qar.f
  rw [qdP s nm N O h.h2 h.ok k (by omega),obs,if_neg h0,if_neg h0]
theorem qqG {l : List Trn} (w : Fit (.sl (.pair (.int .i64) (.pair (.int .i64) (.pair (.int .i64) (.pair (.int .i64) .str))))) l) : l.length ≤ 17592186043904 ∧ ∀ x ∈ l,i64r x.1 ∧ i64r x.2.1 ∧ i64r x.2.2.1 := by
 obtain ⟨b1,b2⟩ := w
 refine ⟨?_,fun x hx => ?_⟩
 ·have : l.length * (Ty.pair (.int .i64) (.pair (.int .i64) (.pair (.int .i64) (.pair (.int .i64) .str)))).bytes ≤ 140737488351232 := b1
  have e : (Ty.pair (.int .i64) (.pair (.int .i64) (.pair (.int .i64) (.pair (.int .i64) .str)))).bytes = 48 := rfl
  rw [e] at this
  omega
 ·obtain ⟨c1,c2,c3,_⟩ := b2 x hx
  exact ⟨qmf c1,qmf c2,qmf c3⟩
theorem qnY (a0 : LI) (a1 : List Trn) (w0 : Fit (.sl (.int .i64)) a0) (w1 : Fit (.sl (.pair (.int .i64) (.pair (.int .i64) (.pair (.int .i64) (.pair (.int .i64) .str))))) a1) (k : Nat) (hk : 500000 ≤ k) :
  ∃ nm sz N O s' nm' N' O',qap.f k a0 = some (nm,sz,N,O) ∧ qbT.f k sz nm N O a1 = some (s',nm',N',O') ∧ GrS s' nm' N' O' ∧ nr N' := by
 obtain ⟨nm,sz,N,O,S,e1,hm,hG,hN,hO,hx,hw,hz⟩ := qqe (qru w0) k hk
 have hsz := hm.size
 have hms := (qgo hm.right.1).1
 have hB : GrB 300 sz nm N O := ⟨by omega,by omega,by omega,by omega,hG.ti⟩
 obtain ⟨t1,t2⟩ := qqG w1
 obtain ⟨s',nm',N',O',e3,hS'⟩ := qmS a1 t1 t2 hB k (by omega)
 exact ⟨nm,sz,N,O,s',nm',N',O',e1,e3,hS',qlh a1 (by omega) (fun x hx => (hw.n x hx).rn) k _ e3⟩
end Go.Pf

namespace Go.Pf
open Go Go.Vm
theorem qkC (s : ByteArray) (i : Nat) : Utf8.valid ((Utf8.decode s i).1 : Int) = true := by
 have hv : ∀ n : Nat,n < 55296 → Utf8.valid (n : Int) = true := fun n hn => by
  unfold Utf8.valid; simp only [Bool.or_eq_true,bAt,decide_eq_true_eq]; exact .inl ⟨by omega,by omega⟩
 have he : Utf8.valid (Utf8.runeError : Int) = true := rfl
 unfold Utf8.decode
 dsimp only
 split
 ·exact hv _ (by omega)
 split
 ·split
  ·exact hv _ (by simp only []; omega)
  ·exact he
 split
 ·split
  ·rename_i h; simp only [bAt] at h; exact h.2
  ·exact he
 split
 ·split
  ·rename_i h; simp only [bAt] at h; exact h.2
  ·exact he
 ·exact he
theorem qj0 (s : ByteArray) : ∀ n i,∀ r ∈ rsx s n i,Utf8.valid r = true
 | 0,_,r,h => by cases h
 | n + 1,i,r,h => by
  rw [rsx] at h
  split at h
  ·rcases List.mem_cons.1 h with rfl | h
   ·exact qkC s i
   ·exact qj0 s n _ r h
  ·cases h
theorem qlO (s : ByteArray) : ∀ r ∈ rs s,Utf8.valid r = true := qj0 s _ _
theorem qnG (s : ByteArray) (c : Nat) (hc : c < 128) : ∀ n i,s.size ≤ i + n → (∀ r ∈ rsx s n i,r ≠ (c : Int)) → ∀ j,i ≤ j → j < s.size → (s.get! j).toNat ≠ c
 | 0,i,h,_,j,h1,h2 => by omega
 | n + 1,i,h,hr,j,h1,h2 => by
  have hi : i < s.size := by omega
  rw [rsx,if_pos hi] at hr
  have h0 := hr _ (List.mem_cons_self ..)
  by_cases hh : (s.get! i).toNat = c
  ·rw [qiN s i (by omega)] at h0
   exact absurd (by show ((s.get! i).toNat : Int) = c; omega) h0
  ·obtain ⟨_,h3⟩ := qh7 s i c hi hc hh
   have hp := qd5 s i
   by_cases hj : j < i + (Utf8.decode s i).2
   ·have := (h3 (j - i) (by omega)).2
    rwa [show i + (j - i) = j by omega] at this
   ·exact qnG s c hc n _ (by omega) (fun r h => hr r (mCm _ h)) j (by omega) h2
theorem qlP {s : ByteArray} {c : Nat} (hc : c < 128) (h : ∀ r ∈ rs s,r ≠ (c : Int)) : ∀ b ∈ s.data.toList,b.toNat ≠ c := fun b hb => by
 obtain ⟨j,hj,e⟩ := List.getElem_of_mem hb
 have hsz : s.data.toList.length = s.size := Array.length_toList
 have := qnG s c hc s.size 0 (by omega) h j (by omega) (by omega)
 rw [qoD,gDg,List.getElem?_eq_getElem hj,e] at this
 exact this
def gw (w : ByteArray) : Prop := ∀ b ∈ w.data.toList,b.toNat ≠ 32 ∧ b.toNat ≠ 10
def body : List ByteArray → List UInt8
 | [] => []
 | w :: r => w.data.toList ++ tl r
theorem qoK {ws : List ByteArray} (h : ws ≠ []) : zLn ws = body ws ++ [10] := by
 cases ws with
 | nil => exact absurd rfl h
 | cons w r => rw [qfD]; rfl
theorem qlt : ∀ {ws : List ByteArray},ws ≠ [] → (∀ w ∈ ws,gw w) → (sp 32 [] (body ws)).1.map bA ++ [bA (sp 32 [] (body ws)).2] = ws
 | [],h,_ => absurd rfl h
 | [w],_,hg => by
  have hw : ∀ x ∈ w.data.toList,x ≠ 32 := fun x hx e => (hg w (by simp) x hx).1 (by rw [e]; rfl)
  have e : body [w] = w.data.toList ++ [] := rfl
  rw [e,qho 32 _ _ _ hw]
  simp [sp,qkF]
 | w :: x :: r,_,hg => by
  have hw : ∀ x ∈ w.data.toList,x ≠ 32 := fun x hx e => (hg w (by simp) x hx).1 (by rw [e]; rfl)
  have e : body (w :: x :: r) = w.data.toList ++ (32 :: body (x :: r)) := rfl
  have ih := qlt (ws := x :: r) (by simp) (fun y hy => hg y (mCm _ hy))
  rw [e,qho 32 _ _ _ hw,qlK,nAp,List.map_cons,List.cons_append,ih,qkF]
theorem qnb {ws : List ByteArray} (h : ws ≠ []) (hg : ∀ w ∈ ws,gw w) : zWd 32 (bA (body ws)) = ws := by
 unfold zWd
 rw [qgC]; exact qlt h hg
theorem qpq : ∀ {ws : List ByteArray},(∀ w ∈ ws,gw w) → ∀ b ∈ body ws,b ≠ 10
 | [],_,b,h => by cases h
 | w :: r,hg,b,h => by
  rcases List.mem_append.1 h with h | h
  ·exact fun e => (hg w (by simp) b h).2 (by rw [e]; rfl)
  ·unfold tl at h
   obtain ⟨x,hx,hb⟩ := List.mem_flatMap.1 h
   rcases List.mem_cons.1 hb with rfl | hb
   ·decide
   ·exact fun e => (hg x (mCm _ hx) b hb).2 (by rw [e]; rfl)
theorem qlJ : ∀ {L : List (List ByteArray)},(∀ ws ∈ L,ws ≠ [] ∧ ∀ w ∈ ws,gw w) → sp 10 [] (L.flatMap zLn) = (L.map body,[])
 | [],_ => rfl
 | ws :: r,h => by
  obtain ⟨h1,h2⟩ := h ws (by simp)
  rw [List.flatMap_cons,qoK h1,aAs,qho 10 _ _ _ (qpq h2),List.singleton_append,qlK,qlJ (fun w hw => h w (mCm _ hw))]; rfl
theorem qjh : ∀ {l : LI},(∀ n ∈ l,rng n) → nums (l.map zNum) = some l
 | [],_ => rfl
 | n :: l,h => by
  rw [List.map_cons,qnZ,qfA (h n (by simp)),qjh (fun m hm => h m (mCm _ hm))]; rfl
theorem qp8 {n : Int} {c : UInt8} (h1 : c.toNat ≠ 45) (h2 : c.toNat < 48) : zNum n ≠ bA [c] := fun e => by
 have := qoz e
 rcases qmd (n := n) c (by rw [this]; simp) with h | h
 ·exact h1 h
 ·omega
theorem qnV : ∀ {l : LI} (r : List ByteArray),(∀ n ∈ l,rng n) → pLt (l.map zNum ++ ([bA [41]] ++ r)) = some (l,r)
 | [],r,_ => by
  show pLt (bA [41] :: r) = _
  rw [qo0,if_pos rfl]
 | n :: l,r,h => by
  rw [List.map_cons,List.cons_append,qo0,if_neg (qp8 (by decide) (by decide)),qfA (h n (by simp)),qnV r (fun m hm => h m (mCm _ hm))]; rfl
theorem qnW {l : LI} (r : List ByteArray) (h : ∀ n ∈ l,rng n) : pL (lst l ++ r) = some (l,r) := by
 unfold lst
 rw [aAs,aAs]
 show pL (bA [40] :: (l.map zNum ++ ([bA [41]] ++ r))) = _
 rw [pL_c,if_pos rfl,qnV r h]
theorem qoG {op : Int} (h1 : 1 ≤ op) (h2 : op ≤ 20) : zOp (zName op) = some op := by
 have : ∀ i : Fin 21,1 ≤ i.val → zOp (zName (i.val : Int)) = some (i.val : Int) := by decide +kernel
 have h := this ⟨op.toNat,by omega⟩ (by show 1 ≤ op.toNat; omega)
 rw [show ((⟨op.toNat,by omega⟩ : Fin 21).val : Int) = op by show (op.toNat : Int) = op; omega] at h
 exact h
def plN (nm : ByteArray) (x : Nd) (rank : Int) : Nd := (x.1,(x.2.1,(x.2.2.1,(x.2.2.2.1,(x.2.2.2.2.1,(x.2.2.2.2.2.1,if zNW nm x.2.2.2.2.2.2 rank = bA [45] then ByteArray.empty else zNW nm x.2.2.2.2.2.2 rank))))))
theorem qqp {nm : ByteArray} {x : Nd} {rank : Int} (hx : wtN x) (h1 : 1 ≤ x.1) (h2 : x.1 ≤ 20) (hw : zNW nm x.2.2.2.2.2.2 rank ≠ ByteArray.empty) : pNd (zWds nm x rank) = some (plN nm x rank) := by
 have e : zWds nm x rank = zName x.1 :: (lst x.2.1 ++ (lst x.2.2.1 ++ (lst x.2.2.2.1 ++ [zNum x.2.2.2.2.1,zNum x.2.2.2.2.2.1,zNW nm x.2.2.2.2.2.2 rank]))) := by
  unfold zWds; simp
 unfold pNd pAll seqP
 rw [e,qnT,qoG h1 h2]
 simp only [Option.map_some,obs]
 rw [qnW _ hx.ri]
 simp only [obs]
 rw [qnW _ hx.rs]
 simp only [obs]
 rw [qnW _ hx.ra]
 simp only [obs]
 rw [pN_c,qfA hx.rn]
 simp only [Option.map_some,obs]
 rw [pN_c,qfA hx.rh]
 simp only [Option.map_some,obs]
 rw [qmN,if_neg hw]
 simp only [obs]
 rfl
theorem qnf {l : LI} {n : Int} (h : zNR l n = true) : ∀ r ∈ l,nmay r = true := fun r hr => by
 obtain ⟨j,hj,e⟩ := List.getElem_of_mem hr
 have := (qfC h).2 j hj
 rw [gDg,List.getElem?_eq_getElem hj,e] at this
 exact this.1
theorem qfX {r : Int} (h : nmay r = true) : 33 ≤ r ∧ r ≠ 46 ∧ r ≠ 45 := by
 unfold nmay at h
 simp only [decide_eq_true_eq] at h
 exact ⟨h.1,h.2.1,h.2.2.1⟩
theorem qmh {nm : ByteArray} {n : Int} (h : zNR (rs nm) n = true) : gw nm ∧ nm ≠ bA [45] := by
 have hm := qnf h
 refine ⟨fun b hb => ⟨qlP (by decide) (fun r hr => ?_) b hb,qlP (by decide) (fun r hr => ?_) b hb⟩,fun e => ?_⟩
 ·have := (qfX (hm r hr)).1; omega
 ·have := (qfX (hm r hr)).1; omega
 ·have := (qfX (hm 45 (by rw [e]; decide))).2.2
  exact this rfl
theorem qpV {nm : ByteArray} {n : Int} (h : zNR (rs nm) n = true) (sp : LI) : gw (zTxt nm sp) ∧ zTxt nm sp ≠ bA [45] := by
 have hm := qnf h
 have hv := qlO nm
 have hx : ∀ k,zTx (rs nm) k = 46 ∨ zTx (rs nm) k ∈ rs nm := fun k => by
  unfold zTx
  by_cases c : k < 0 ∨ ((rs nm).length : Int) ≤ k
  ·rw [if_pos c]; exact .inl rfl
  ·rw [if_neg c]; exact .inr (qaj (by omega) 0)
 have hrs : rs (zTxt nm sp) = sp.map (zTx (rs nm)) := qlR fun r hr => by
  obtain ⟨k,_,rfl⟩ := List.mem_map.1 hr
  exact qhj hv k
 have hb : ∀ r ∈ rs (zTxt nm sp),33 ≤ r ∧ r ≠ 45 := fun r hr => by
  rw [hrs] at hr
  obtain ⟨k,_,rfl⟩ := List.mem_map.1 hr
  rcases hx k with h | h
  ·rw [h]; exact ⟨by decide,by decide⟩
  ·have := qfX (hm _ h); exact ⟨this.1,this.2.2⟩
 refine ⟨fun b hb' => ⟨qlP (by decide) (fun r hr => ?_) b hb',qlP (by decide) (fun r hr => ?_) b hb'⟩,fun e => ?_⟩
 ·have := (hb r hr).1; omega
 ·have := (hb r hr).1; omega
 ·exact (hb 45 (by rw [e]; decide)).2 rfl
end Go.Pf

namespace Go.Pf
open Go Go.Vm
theorem qqX {op : Int} {s a : LI} {n h : Int} {l : List LI} (e : (zSh op s a n h l).1 = 0) : 1 ≤ op ∧ op ≤ 20 := by
 by_cases c : op < 1 ∨ 20 < op
 ·unfold zSh zF at e
  rw [qip c] at e
  cases e
 ·omega
theorem qqZ {nm : LI} {out : List LI} {x : Nd} (h : (zNd nm out x).1 = 0) : 1 ≤ x.1 ∧ x.1 ≤ 20 := by
 unfold zNd at h
 cases e : zIn out x.2.1 with
 | none => rw [e] at h; cases h
 | some l =>
  rw [e] at h
  dsimp only at h
  by_cases c : (zSh x.1 x.2.2.1 x.2.2.2.1 x.2.2.2.2.1 x.2.2.2.2.2.1 l).1 = 0
  ·exact qqX c
  ·rw [if_neg c] at h; exact absurd h c
theorem qoI {nm : LI} {out : List LI} {x : Nd} {s : LI} (h : zNd nm out x = (0,s)) : (zNote nm (rs x.2.2.2.2.2.2) s.length).2.1 = 0 := by
 unfold zNd at h
 cases e : zIn out x.2.1 with
 | none => rw [e] at h; cases h
 | some l =>
  rw [e] at h
  dsimp only at h
  by_cases c : (zSh x.1 x.2.2.1 x.2.2.2.1 x.2.2.2.2.1 x.2.2.2.2.2.1 l).1 = 0
  ·rw [if_pos c] at h
   have h1 := congrArg Prod.fst h
   have h2 := congrArg Prod.snd h
   dsimp only at h1 h2
   rw [h2] at h1; exact h1
  ·rw [if_neg c] at h; exact absurd (congrArg Prod.fst h) c
theorem qjg {m k : Int} : ∀ {y pre : LI},okGo m pre y = true → (-1 ≤ k ∧ k < m) → (k = -1 ∨ k ∉ pre ++ y) → okGo m pre (y ++ [k]) = true
 | [],pre,_,h1,h2 => by
  rw [List.append_nil] at h2
  simp only [nAp,okGo,bAt,Bool.or_eq_true,decide_eq_true_eq,Bool.not_eq_true',decide_eq_false_iff_not]
  exact ⟨⟨⟨h1.1,h1.2⟩,h2⟩,trivial⟩
 | a :: y,pre,h,h1,h2 => by
  have hc := qkf h
  have := qjg (y := y) (pre := pre ++ [a]) hc.2.2 h1 (by rw [aAs]; exact h2)
  rw [List.cons_append]
  simp only [okGo,bAt,Bool.or_eq_true,decide_eq_true_eq,Bool.not_eq_true',decide_eq_false_iff_not]
  exact ⟨⟨⟨hc.1.1,hc.1.2⟩,hc.2.1⟩,this⟩
theorem qlA (nm : LI) : ∀ (l y r : LI),zNl nm l y = some r → okGo nm.length [] y = true → okGo nm.length [] r = true
 | [],y,r,h,ho => by cases h; exact ho
 | c :: l,y,r,h,ho => by
  rw [zNl] at h
  split at h
  ·exact qlA nm l y r h ho
  ·split at h
   ·exact qlA nm l _ r h (qjg ho ⟨by omega,by omega⟩ (.inl rfl))
   ·split at h
    ·cases h
    ·rename_i hc
     refine qlA nm l _ r h (qjg ho ⟨by omega,?_⟩ (.inr ?_))
     ·rcases qjw c nm 0 with ⟨e,_⟩ | ⟨j,e,hj,_⟩
      ·have : fnd nm c = -1 := e
       omega
      ·have : fnd nm c = ((0 + j : Nat) : Int) := e
       omega
     ·rw [nAp]; exact fun hm => hc (.inr hm)
theorem qmB {nm l : LI} {rank : Int} (h : (zNote nm l rank).1 = true) : zNote nm l rank = (true,0,(zNote nm l rank).2.2) ∧ okGo nm.length [] (zNote nm l rank).2.2 = true ∧ ((zNote nm l rank).2.2.length : Int) = rank ∧ (zNote nm l rank).2.2 ≠ [] := by
 unfold zNote at h ⊢
 by_cases c : 16 < l.length
 ·rw [if_pos c] at h; cases h
 rw [if_neg c] at h ⊢
 cases e : zNl nm l [] with
 | none => rw [e] at h; cases h
 | some y =>
  rw [e] at h
  dsimp only at h ⊢
  by_cases c1 : y.length = 0
  ·rw [if_pos c1] at h; cases h
  by_cases c2 : (y.length : Int) = rank
  ·rw [if_neg c1,if_pos c2]
   exact ⟨rfl,qlA nm l [] y e rfl,c2,fun e => c1 (by rw [show y = [] from e]; rfl)⟩
  ·rw [if_neg c1,if_neg c2] at h; cases h
theorem qkN {nm l : LI} {rank : Int} (h : (zNote nm l rank).1 = false) (h0 : (zNote nm l rank).2.1 = 0) : zNote nm l rank = (false,0,[]) := by
 unfold zNote at h h0 ⊢
 by_cases c : 16 < l.length
 ·rw [if_pos c] at h0; cases h0
 rw [if_neg c] at h h0 ⊢
 cases e : zNl nm l [] with
 | none => rw [e] at h0; cases h0
 | some y =>
  rw [e] at h h0
  dsimp only at h h0 ⊢
  by_cases c1 : y.length = 0
  ·rw [if_pos c1]
  by_cases c2 : (y.length : Int) = rank
  ·rw [if_neg c1,if_pos c2] at h; cases h
  ·rw [if_neg c1,if_neg c2] at h0; cases h0
def plT (nm nt : ByteArray) (rank : Int) : ByteArray := if zNW nm nt rank = bA [45] then ByteArray.empty else zNW nm nt rank
theorem qlY {nm nt : ByteArray} {rank n : Int} (hR : zNR (rs nm) n = true) (h0 : (zNote (rs nm) (rs nt) rank).2.1 = 0) : zNote (rs nm) (rs (plT nm nt rank)) rank = zNote (rs nm) (rs nt) rank := by
 cases h : (zNote (rs nm) (rs nt) rank).1 with
 | false =>
  have hw : plT nm nt rank = ByteArray.empty := by
   have : zNW nm nt rank = bA [45] := by unfold zNW; rw [h]; rfl
   unfold plT; rw [this,if_pos rfl]
  rw [hw,qkN h h0]; rfl
 | true =>
  obtain ⟨e1,e2,e3,e4⟩ := qmB h
  have hl := qfB (rs nm) (rs nt) rank
  generalize (zNote (rs nm) (rs nt) rank).2.2 = y at e1 e2 e3 e4 hl
  have hw : plT nm nt rank = zTxt nm y := by
   have : zNW nm nt rank = zTxt nm y := by unfold zNW; rw [if_pos h,e1]
   unfold plT; rw [this,if_neg (qpV hR y).2]
  have hrs : rs (zTxt nm y) = y.map (zTx (rs nm)) := qlR fun r hr => by
   obtain ⟨k,_,rfl⟩ := List.mem_map.1 hr
   exact qhj (qlO nm) k
  rw [hw,hrs,e1]
  unfold zNote
  rw [List.length_map,ifq,qiQ hR y [] e2,nAp]
  dsimp only
  rw [if_neg (fun e => e4 (List.length_eq_zero_iff.1 e)),if_pos e3]
theorem qpJ (nm : ByteArray) (x : Nd) (rank : Int) : plN nm x rank = (x.1,(x.2.1,(x.2.2.1,(x.2.2.2.1,(x.2.2.2.2.1,(x.2.2.2.2.2.1,plT nm x.2.2.2.2.2.2 rank)))))) := rfl
def plNs (nm : ByteArray) (N : List Nd) (S : List LI) : List Nd := List.zipWith (fun x s => plN nm x (s.length : Int)) N S
theorem qp4 {nm : ByteArray} {n : Int} (hR : zNR (rs nm) n = true) {x : Nd} {rank : Int} (h0 : (zNote (rs nm) (rs x.2.2.2.2.2.2) rank).2.1 = 0) : zWds nm (plN nm x rank) rank = zWds nm x rank := by
 have : zNW nm (plT nm x.2.2.2.2.2.2 rank) rank = zNW nm x.2.2.2.2.2.2 rank := by
  have e : ∀ t,zNW nm t rank = if (zNote (rs nm) (rs t) rank).1 = true then zTxt nm (zNote (rs nm) (rs t) rank).2.2 else bA [45] := fun _=>rfl
  rw [e (plT nm x.2.2.2.2.2.2 rank),qlY hR h0,← e]
 rw [qpJ]
 unfold zWds
 dsimp only
 rw [this]
theorem qpD {nm : ByteArray} {n : Int} (hR : zNR (rs nm) n = true) : ∀ (N : List Nd) (out : List LI),(zGo (rs nm) N out).1 = 0 → ∃ S,zGo (rs nm) N out = (0,out ++ S) ∧ S.length = N.length ∧ zGo (rs nm) (plNs nm N S) out = (0,out ++ S) ∧ zNs nm (plNs nm N S) S = zNs nm N S ∧ ∀ x ∈ N,1 ≤ x.1 ∧ x.1 ≤ 20
 | [],out,_ => ⟨[],by simp [zGo],rfl,by simp [zGo,plNs],rfl,fun _ h => by cases h⟩
 | x :: N,out,h => by
  rw [zGo] at h
  by_cases c : (zNd (rs nm) out x).1 = 0
  ·rw [if_pos c] at h
   obtain ⟨S,e1,e2,e3,e4,e5⟩ := qpD hR N _ h
   have hs : zNd (rs nm) out x = (0,(zNd (rs nm) out x).2) := by rw [← c]
   generalize (zNd (rs nm) out x).2 = s at e1 e3 hs
   have h0 := qoI hs
   have hp : zNd (rs nm) out (plN nm x (s.length : Int)) = (0,s) := by
    rw [qpJ]
    exact qoH hs _ (by rw [qlY hR h0]; exact h0)
   refine ⟨s :: S,?_,by simp [e2],?_,?_,?_⟩
   ·rw [zGo,hs,if_pos rfl,e1,aAs]; rfl
   ·show zGo (rs nm) (plN nm x (s.length : Int) :: plNs nm N S) out = _
    rw [zGo,hp,if_pos rfl,e3,aAs]; rfl
   ·show zWds nm (plN nm x (s.length : Int)) (s.length : Int) :: zNs nm (plNs nm N S) S = zWds nm x (s.length : Int) :: zNs nm N S
    rw [qp4 hR h0,e4]
   ·intro y hy
    rcases List.mem_cons.1 hy with rfl | hy
    ·exact qqZ c
    ·exact e5 y hy
  ·rw [if_neg c] at h; exact absurd h c
theorem qhX {w : ByteArray} (h : (w.data.toList.all fun b => b.toNat != 32 && b.toNat != 10) = true) : gw w := fun b hb => by
 have := List.all_eq_true.1 h b hb
 simp only [bAt,bne_iff_ne,ne_eq] at this
 exact this
theorem qoe (n : Int) : gw (zNum n) := fun b hb => by
 rw [show (zNum n).data.toList = Lib.itoa n from qgC _] at hb
 rcases qmd (n := n) b hb with h | h
 ·omega
 ·omega
theorem qqF {op : Int} (h1 : 1 ≤ op) (h2 : op ≤ 20) : gw (zName op) := by
 have : ∀ i : Fin 21,((zName (i.val : Int)).data.toList.all fun b => b.toNat != 32 && b.toNat != 10) = true := by decide +kernel
 have h := this ⟨op.toNat,by omega⟩
 rw [show ((⟨op.toNat,by omega⟩ : Fin 21).val : Int) = op by show (op.toNat : Int) = op; omega] at h
 exact qhX h
theorem qof (l : LI) : ∀ w ∈ l.map zNum,gw w := fun w hw => by
 obtain ⟨n,_,rfl⟩ := List.mem_map.1 hw
 exact qoe n
theorem qog (l : LI) : ∀ w ∈ lst l,gw w := fun w hw => by
 unfold lst at hw
 rcases List.mem_append.1 hw with hw | hw
 ·rcases List.mem_append.1 hw with hw | hw
  ·rw [List.mem_singleton] at hw; subst hw; exact qhX rfl
  ·exact qof l w hw
 ·rw [List.mem_singleton] at hw; subst hw; exact qhX rfl
theorem qrn {nm : ByteArray} {n : Int} (hR : zNR (rs nm) n = true) (nt : ByteArray) (rank : Int) : gw (zNW nm nt rank) := by
 unfold zNW
 split
 ·exact (qpV hR _).1
 ·exact qhX rfl
theorem qpU {nm : ByteArray} {n : Int} (hR : zNR (rs nm) n = true) {x : Nd} (h : 1 ≤ x.1 ∧ x.1 ≤ 20) (rank : Int) : ∀ w ∈ zWds nm x rank,gw w := fun w hw => by
 unfold zWds at hw
 rcases List.mem_append.1 hw with hw | hw
 ·rcases List.mem_append.1 hw with hw | hw
  ·rw [List.mem_singleton] at hw; subst hw; exact qqF h.1 h.2
  ·rcases List.mem_append.1 hw with hw | hw
   ·exact qog _ w hw
   ·rcases List.mem_append.1 hw with hw | hw
    ·exact qog _ w hw
    ·exact qog _ w hw
 ·simp only [List.mem_cons,List.not_mem_nil,or_false] at hw
  rcases hw with rfl | rfl | rfl
  ·exact qoe _
  ·exact qoe _
  ·exact qrn hR _ _
theorem qq0 (nm nt : ByteArray) (rank : Int) : zNW nm nt rank ≠ ByteArray.empty := by
 rw [← qjL]
 split
 ·intro e; have := congrArg ByteArray.size e; simp [qbx] at this
 ·assumption
theorem ql0 {nm : ByteArray} {n : Int} (hR : zNR (rs nm) n = true) : ∀ {N : List Nd} {S : List LI},S.length = N.length → (∀ x ∈ N,wtN x) → (∀ x ∈ N,1 ≤ x.1 ∧ x.1 ≤ 20) → pNds ((zNs nm N S).map fun ws => bA (body ws)) = some (plNs nm N S)
 | [],[],_,_,_ => rfl
 | [],_ :: _,h,_,_ => by cases h
 | _ :: _,[],h,_,_ => by cases h
 | x :: N,s :: S,h,hw,ho => by
  have ih := ql0 hR (N := N) (S := S) (by simpa using h) (fun y hy => hw y (mCm _ hy)) (fun y hy => ho y (mCm _ hy))
  have h1 := ho x (by simp)
  show pNds (bA (body (zWds nm x (s.length : Int))) :: (zNs nm N S).map fun ws => bA (body ws)) = some (plN nm x (s.length : Int) :: plNs nm N S)
  rw [pNds,qnb (by unfold zWds; simp) (qpU hR h1 _),qqp (hw x (by simp)) h1.1 h1.2 (qq0 _ _ _),ih]; rfl
theorem qoF {s : LI} {nm : ByteArray} {N : List Nd} {O : LI} {S : List LI} (hw : wtG s nm N O) (hR : zNR (rs nm) s.length = true) (hS : S.length = N.length) (ho : ∀ x ∈ N,1 ≤ x.1 ∧ x.1 ≤ 20) : zRd (bA (zTB s nm N O S)) = some (nm,s,plNs nm N S,O) := by
  have g45 : gw (bA [45]) := qhX rfl
  have hg : ∀ ws ∈ zLs s nm N O S,ws ≠ [] ∧ ∀ w ∈ ws,gw w := fun ws hws => by
    unfold zLs at hws
    rcases List.mem_append.1 hws with hws | hws
    · rcases List.mem_append.1 hws with hws | hws
      · rw [List.mem_singleton] at hws; subst hws
        unfold zHd
        refine ⟨by simp,fun w hw => ?_⟩
        rcases List.mem_append.1 hw with hw | hw
        · simp only [List.mem_cons,List.not_mem_nil,or_false] at hw
          rcases hw with rfl | rfl
          · exact qhX rfl
          · split
            · exact g45
            · exact (qmh hR).1
        · exact qof s w hw
      · obtain ⟨i,hi,e⟩ := List.getElem_of_mem hws
        have hi' : i < N.length := by rw [← qfi (nm := nm) hS]; exact hi
        have : ws = zWds nm (N.getD i nd0) ((S.getD i []).length : Int) := by
          rw [← qgh hS hi',gDg,List.getElem?_eq_getElem hi,e]; rfl
        subst this
        exact ⟨by unfold zWds; simp,qpU hR (ho _ (qaj hi' nd0)) _⟩
    · rw [List.mem_singleton] at hws; subst hws
      unfold zOt
      refine ⟨by simp,fun w hw => ?_⟩
      rcases List.mem_append.1 hw with hw | hw
      · rw [List.mem_singleton] at hw; subst hw; exact qhX rfl
      · exact qof O w hw
  have hsp : sp 10 [] (bA (zTB s nm N O S)).data.toList = ((zLs s nm N O S).map body,[]) := by
    rw [qgC]; exact qlJ hg
  have hli : zLi (bA (zTB s nm N O S)) = (zLs s nm N O S).map fun ws => bA (body ws) := by
    unfold zLi; rw [hsp,List.map_map]; rfl
  have hcons : (zLs s nm N O S).map (fun ws => bA (body ws)) = bA (body (zHd s nm)) :: ((zNs nm N S).map (fun ws => bA (body ws)) ++ [bA (body (zOt O))]) := by
    unfold zLs; simp
  unfold zRd
  rw [hli,hsp,hcons]
  generalize hM : (zNs nm N S).map (fun ws => bA (body ws)) = M
  have hlen : (bA (body (zHd s nm)) :: (M ++ [bA (body (zOt O))])).length = M.length + 2 := by simp
  rw [if_pos ⟨rfl,by omega⟩]
  unfold rdL
  rw [hlen]
  have hh : zHd s nm = bA mesh5 :: (if nm = ByteArray.empty then bA [45] else nm) :: s.map zNum := rfl
  have hhd := (hg (zHd s nm) (by unfold zLs; simp))
  have hod := (hg (zOt O) (by unfold zLs; simp))
  have h1 : pMs (zWd 32 ((bA (body (zHd s nm)) :: (M ++ [bA (body (zOt O))])).getD 0 ByteArray.empty)) = some (nm,s) := by
    rw [List.getD_cons_zero,qnb hhd.1 hhd.2,hh]
    unfold pMs seqP
    rw [qjf,if_pos rfl]
    simp only [obs]
    by_cases he : nm = ByteArray.empty
    · have hs : s = [] := by
        have := (qfC hR).1.1
        rw [he] at this
        have : s.length = 0 := by have h0 : (rs ByteArray.empty).length = 0 := rfl; omega
        exact List.length_eq_zero_iff.1 this
      subst hs he
      rfl
    · rw [if_neg he,qmN,if_neg he,if_neg (qmh hR).2]
      simp only [obs]
      rw [qjh hw.rs]
      dsimp only
      rw [if_neg (fun h => he h.1)]
  have h2 : pNds (((bA (body (zHd s nm)) :: (M ++ [bA (body (zOt O))])).take (M.length + 2 - 1)).drop 1) = some (plNs nm N S) := by
    have : ((bA (body (zHd s nm)) :: (M ++ [bA (body (zOt O))])).take (M.length + 2 - 1)).drop 1 = M := by
      rw [show M.length + 2 - 1 = M.length + 1 by omega,List.take_succ_cons,List.drop_one,List.tail_cons,List.take_left']
      rfl
    rw [this,← hM]
    exact ql0 hR hS hw.n ho
  have h3 : pOu (zWd 32 ((bA (body (zHd s nm)) :: (M ++ [bA (body (zOt O))])).getD (M.length + 2 - 1) ByteArray.empty)) = some O := by
    rw [show M.length + 2 - 1 = M.length + 1 by omega]
    have : (bA (body (zHd s nm)) :: (M ++ [bA (body (zOt O))])).getD (M.length + 1) ByteArray.empty = bA (body (zOt O)) := by simp
    rw [this,qnb hod.1 hod.2]
    unfold pOu zOt
    rw [List.singleton_append,qjf,if_pos rfl]
    exact qjh hw.ro
  rw [h1]
  dsimp only
  rw [h2]
  dsimp only
  rw [h3]
end Go.Pf

namespace Go.Pf
open Go Go.Vm
theorem qmy (s : LI) (nm : ByteArray) (N : List Nd) (O : LI) (S : List LI) (hS : S.length = N.length) (hN : N.length ≤ 1000) (hn : nm.size ≤ 100000) (hw : ∀ x ∈ N,x.2.2.2.2.2.2.size ≤ 100000) (y1 : ByteArray) (k : Nat) (hk : 500000 ≤ k) : ∀ (e i n : Nat) (y : List Nd),N.length = i + e → e < n → y.length = i →
  qba.l0 k n N (N.length : Int) (i : Int) s nm N O y1 S s nm O y = some (y ++ (plNs nm N S).drop i)
 | 0,i,n,y,hi,hn',hy => by
  obtain ⟨n,rfl⟩ := sun (n := n)
  rw [qba.l0,ifq,dNl (by unfold plNs; rw [List.length_zipWith]; omega),List.append_nil]
 | e + 1,i,n,y,hi,hn',hy => by
  obtain ⟨n,rfl⟩ := sun (n := n)
  have hl : (plNs nm N S).length = N.length := by unfold plNs; rw [List.length_zipWith]; omega
  have hg : (plNs nm N S).getD i nd0 = plN nm (N.getD i nd0) ((S.getD i []).length : Int) := by
   unfold plNs
   simp only [gDg,List.getElem?_zipWith,List.getElem?_eq_getElem (show i < N.length by omega),List.getElem?_eq_getElem (show i < S.length by omega)]
   rfl
  have hx := hw _ (qaj (show i < N.length by omega) nd0)
  have ih := qmy s nm N O S hS hN hn hw y1 k hk e (i + 1) n (y ++ [plN nm (N.getD i nd0) ((S.getD i []).length : Int)]) (by omega) (by omega) (by rw [lAp,lSi]; omega)
  rw [qai (show i < (plNs nm N S).length by omega) nd0,hg]
  rw [aAs] at ih
  rw [qba.l0,ifp,ifp,ifp,ifp,tNc,ifp]
  rw [qgQ _ _ _ _ _ _ _ _ _ _ _ _ hn hx k hk,obs,show ByteArray.mk #[45] = bA [45] from rfl,qdj,qak (n := (i : Int) + 1) (by omega) (by omega),show (i : Int) + 1 = ((i + 1 : Nat) : Int) by omega]
  by_cases c : zNW nm (N.getD i nd0).2.2.2.2.2.2 ((S.getD i []).length : Int) = bA [45]
  ·have hp : plN nm (N.getD i nd0) ((S.getD i []).length : Int) = ((N.getD i nd0).1,((N.getD i nd0).2.1,((N.getD i nd0).2.2.1,((N.getD i nd0).2.2.2.1,((N.getD i nd0).2.2.2.2.1,((N.getD i nd0).2.2.2.2.2.1,ByteArray.empty)))))) := by unfold plN; rw [if_pos c]
   rw [hp] at ih ⊢
   refine (if_pos (decide_eq_true c)).trans ?_
   rw [if_pos (by simp only [lSi]; omega)]
   exact ih
  ·have hp : plN nm (N.getD i nd0) ((S.getD i []).length : Int) = ((N.getD i nd0).1,((N.getD i nd0).2.1,((N.getD i nd0).2.2.1,((N.getD i nd0).2.2.2.1,((N.getD i nd0).2.2.2.2.1,((N.getD i nd0).2.2.2.2.2.1,zNW nm (N.getD i nd0).2.2.2.2.2.2 ((S.getD i []).length : Int))))))) := by unfold plN; rw [if_neg c]
   rw [hp] at ih ⊢
   refine (if_neg (by rw [decide_eq_false c]; decide)).trans ?_
   rw [if_pos (by simp only [lSi]; omega)]
   exact ih
theorem qkI (a0 : LI) (a1 : List Trn) (w0 : Fit (.sl (.int .i64)) a0) (w1 : Fit (.sl (.pair (.int .i64) (.pair (.int .i64) (.pair (.int .i64) (.pair (.int .i64) .str))))) a1) : ∃ k,qcw.f k a0 a1 = some true := by
 refine ⟨2000000,?_⟩
 generalize hk' : (2000000 : Nat) = k
 have hk : 2000000 ≤ k := by omega
 clear hk'
 obtain ⟨nm0,sz0,N0,O0,s,nm,N,O,e1,e2,hG,hr⟩ := qnY a0 a1 w0 w1 k (by omega)
 unfold qcw.f
 rw [e1,obs]
 dsimp only
 rw [e2,obs]
 dsimp only
 rw [qpt hG hr k (by omega),obs]
 by_cases h0 : (zShs s nm N O).1 = 0
 rotate_left
 ·rw [if_neg h0]
  dsimp only
  rw [if_neg h0,known13 k hk]; rfl
 rw [if_pos h0]
 have hwt := qpP hG hr h0
 obtain ⟨h1,h2,h3,h4,h5,h6⟩ := qeP h0
 by_cases ht : 65536 < (zTB s nm N O (zShs s nm N O).2).length
 ·unfold zTx2
  rw [if_pos ht]
  dsimp only
  rw [if_neg (by decide),known13 k hk]; rfl
 have hx2 : zTx2 s nm N O (zShs s nm N O).2 = (bA (zTB s nm N O (zShs s nm N O).2),0) := by unfold zTx2; rw [if_neg ht]
 rw [hx2]
 dsimp only
 rw [if_pos rfl]
 have hm : zMs s (rs nm) = true := by
  unfold zShs at h0
  by_cases c : zMs s (rs nm) = true
  ·exact c
  ·rw [if_neg c] at h0; revert h0; simp
 have hR : zNR (rs nm) s.length = true := by unfold zMs at hm; simp only [bAt] at hm; exact hm.2
 have hz : (zGo (rs nm) N []).1 = 0 := by rw [← h5]; exact h0
 obtain ⟨S,g1,g2,g3,g4,g5⟩ := qpD hR N [] hz
 rw [nAp] at g1 g3
 have hS : zShs s nm N O = (0,S) := by rw [h5,g1]
 rw [hS] at ht hx2 ⊢
 dsimp only at ht hx2 ⊢
 have hpl : (plNs nm N S).length = N.length := by unfold plNs; rw [List.length_zipWith]; omega
 have hSp : zShs s nm (plNs nm N S) O = (0,S) := by
  rw [← hS]
  unfold zShs
  rw [hpl,g1,g3]
 have hxp : zTx2 s nm (plNs nm N S) O S = zTx2 s nm N O S := by
  unfold zTx2 zTB zLs
  rw [g4]
 have hrd := qoF (O := O) hwt hR g2 g5
 have hpa : zPa (bA (zTB s nm N O S)) = (nm,0,s,plNs nm N S,O) := by
  unfold zPa
  rw [if_neg (by rw [qbx]; omega),hrd]
  unfold zGr
  dsimp only
  rw [hSp]
  dsimp only
  rw [if_pos rfl,hxp,hx2]
  dsimp only
  rw [if_pos rfl]
 have hsm := qqY (bA (zTB s nm N O S))
 rw [hpa] at hsm
 dsimp only at hsm
 have hplain : qba.f k s nm N O = some (plNs nm N S) := by
  unfold qba.f
  rw [qdP s nm N O hG.h2 hG.ok k (by omega),obs,hS]
  dsimp only
  have := qmy s nm N O S g2 (by omega) hG.h2 (fun x hx => (hwt.n x hx).nt) ByteArray.empty k (by omega) N.length 0 k [] (by omega) (by omega) rfl
  rw [show qba.l0 k k N (N.length : Int) 0 s nm N O ByteArray.empty S s nm O [] = _ from this,obs,nAp,dZr]
 rw [qef _ k hk,obs,hpa]
 dsimp only
 rw [if_pos rfl,hplain,obs,qhH _ _ _ _ hsm.1 hsm.2.1 hsm.2.2.1 hsm.2.2.2 k (by omega),obs,if_pos rfl,known13 k hk]
 rfl
end Go.Pf
