/- Own texts put together: M10n, M10o, M12a .. -/
import Derived.Test.YtjamdeehpblflaaGreatDoorPl1
import Derived.Test.YtjamdeehpblflaaGreatDoorPl0
open ByteArray renaming empty→vaa, mk→vab, size→van, size_extract→vas, toList→vaC
open Array renaming length_toList→vac, getD_eq_getD_getElem?→vao, getElem?_toList→vaP
open List renaming length_nil→vad, length_map→vae, mem_singleton→vaf, mem_cons→vag, append_nil→vah, flatMap_cons→vai, getElem?_eq_getElem→vaj, singleton_append→vak, flatMap_nil→vam, mem_append→vap, flatMap_append→vaq, mem_of_mem_take→var, take_zero→vau, take_of_length_le→vav, cons_append→vaw, mem_cons_self→vax, take_length→vaz, length_drop→vaA, getElem_of_mem→vaB, all_eq_true→vaD, length_pos_iff→vaF, getD_cons_zero→vaG, map_cons→vaH, mem_map→vaJ, map_nil→vaK, map_append→vaM, mem_or_eq_of_mem_set→vaO, take_append_drop→vaQ, mem_of_mem_drop→vaS, length_set→vaV
open Nat renaming zero_le→vat, strongRecOn→vaE, pow_succ→vaL, le_refl→vaN, le_trans→vaR
open Sum renaming elim_inl→vay
open Int renaming tmod_lt_of_pos→vaI, lt_tmod_of_pos→vaU
open Bool renaming false_ne_true→vaT
open Go.IntKind renaming i64→iW
set_option linter.unusedVariables false
set_option linter.unusedSimpArgs false
namespace Go.Pf
open Go Go.Vm
theorem qh4 (out : List LI) (l : LI) (hl : l.length <= 100000) (ho : out.length <= 1000) (x31 : List Nd) (x32 x33 : Int) (g1 : LI) (g2 : ByteArray) (g3 : List Nd) (g4 : LI) (x1 : Int) (x2 x3 x4 : LI) (x5 x6 : Int) (x7 : ByteArray) (n : Nat) (hn : 100001 <= n) :
  qaq.l1 n out.length x31 x32 x33 l l.length 0 g1 g2 g3 g4 out x1 x2 x3 x4 x5 x6 x7 [] = some (match zIn out l with | some r => .inl r | none => .inr 23) := by
 have : ∀ (e i n : Nat) (y : List LI),l.length = i + e -> e < n -> y.length <= i -> qaq.l1 n out.length x31 x32 x33 l l.length i g1 g2 g3 g4 out x1 x2 x3 x4 x5 x6 x7 y = some (match zIn out (l.drop i) with | some r => .inl (y ++ r) | none => .inr 23) := by
  intro e
  induction e with
  | zero =>
   intro i n y hi hn hy
   obtain ⟨n,rfl⟩ := sun (n := n)
   rw [qaq.l1,ifq,dNl (by omega),zIn]
   simp
  | succ e ih =>
   intro i n y hi hn hy
   obtain ⟨n,rfl⟩ := sun (n := n)
   rw [qaq.l1,ifp,ifp,tNc,qaj (show i < l.length by omega) 0,zIn]
   by_cases c1 : l.getD i 0 < 0
   ·rw [if_pos c1,if_pos (.inl c1)]
   by_cases c2 : (out.length : Int) <= l.getD i 0
   ·rw [if_neg c1,if_pos c2,if_pos (.inr c2)]
   rw [if_neg c1,if_neg c2,if_neg (show ¬ (l.getD i 0 < 0 \/ (out.length : Int) <= l.getD i 0) by omega),ifp,ifp,if_pos (by rw [lSi]; omega),qau (show i < l.length by omega) (by omega),ih (i + 1) n _ (by omega) (by omega) (by simp; omega)]
   cases zIn out (l.drop (i + 1)) with
   | none => rfl
   | some r => simp
 have := this l.length 0 n [] (by omega) (by omega) (vaN _)
 rw [n0,dZr] at this
 rw [this]
 cases zIn out l <;> simp
theorem qeT (s : LI) (nm : ByteArray) (N : List Nd) (O : LI) (hn : nm.size <= 100000) (hN : ∀ x ∈ N,okN x) (h48 : N.length <= 48) (k : Nat) (hk : 300000 <= k) : ∀ (e i n : Nat) (out : List LI),N.length = i + e -> e + 100500 < n -> out.length = i ->
  qaq.l0 k n N N.length i s nm N O out = some (if (zGo (rs nm) (N.drop i) out).1 = 0 then .inl (zGo (rs nm) (N.drop i) out).2 else .inr (zGo (rs nm) (N.drop i) out).1)
 | 0,i,n,out,hi,hn',ho => by
  obtain ⟨n,rfl⟩ := sun (n := n)
  rw [qaq.l0,ifq,dNl (by omega),zGo,if_pos rfl]
 | e + 1,i,n,out,hi,hn',ho => by
  obtain ⟨n,rfl⟩ := sun (n := n)
  obtain ⟨h1,h2,h3⟩ := hN _ (qak (show i < N.length by omega) nd0)
  have hl1 := qh4 out (N.getD i nd0).2.1 h1 (by omega) N N.length i s nm N O (N.getD i nd0).1 (N.getD i nd0).2.1 (N.getD i nd0).2.2.1 (N.getD i nd0).2.2.2.1 (N.getD i nd0).2.2.2.2.1 (N.getD i nd0).2.2.2.2.2.1 (N.getD i nd0).2.2.2.2.2.2 n (by omega)
  rw [ho] at hl1
  rw [qaq.l0,ifp,ifp,tNc,hl1,obs,qaj (show i < N.length by omega) nd0,zGo]
  generalize hx : N.getD i nd0 = x at h1 h2 h3 ⊢
  cases e1 : zIn out x.2.1 with
  | none =>
   have hz : zNd (rs nm) out x = (23,[]) := by unfold zNd; rw [e1]
   rw [hz]; rfl
  | some l =>
   have hl := qk8 e1
   dsimp only [vay]
   rw [qex _ _ _ _ _ _ _ l (by omega) (by omega) k (by omega),obs]
   by_cases c : (zSh x.1 x.2.2.1 x.2.2.2.1 x.2.2.2.2.1 x.2.2.2.2.2.1 l).1 = 0
   ·have hz : zNd (rs nm) out x = ((zNote (rs nm) (rs x.2.2.2.2.2.2) (zSh x.1 x.2.2.1 x.2.2.2.1 x.2.2.2.2.1 x.2.2.2.2.2.1 l).2.length).2.1,(zSh x.1 x.2.2.1 x.2.2.2.1 x.2.2.2.2.1 x.2.2.2.2.2.1 l).2) := by
     unfold zNd; rw [e1]; dsimp only; rw [if_pos c]
    rw [hz,if_pos c,qhV _ _ _ (by omega) (by omega) k (by omega) (by omega),obs]
    dsimp only
    by_cases c2 : (zNote (rs nm) (rs x.2.2.2.2.2.2) (zSh x.1 x.2.2.1 x.2.2.2.1 x.2.2.2.2.1 x.2.2.2.2.2.1 l).2.length).2.1 = 0
    ·rw [if_pos c2,if_pos c2,if_pos (by rw [lSi]; omega),qau (show i < N.length by omega) (by omega),qeT s nm N O hn hN h48 k hk e (i + 1) n _ (by omega) (by omega) (by simp; omega)]
    ·rw [if_neg c2,if_neg c2,if_neg c2]
   ·have hz : zNd (rs nm) out x = ((zSh x.1 x.2.2.1 x.2.2.2.1 x.2.2.2.2.1 x.2.2.2.2.2.1 l).1,[]) := by
     unfold zNd; rw [e1]; dsimp only; rw [if_neg c]
    rw [hz,if_neg c,if_neg c,if_neg c]
theorem qd9 (s : LI) (nm : ByteArray) (N : List Nd) (O : LI) (hn : nm.size <= 100000) (hN : ∀ x ∈ N,okN x) (k : Nat) (hk : 300000 <= k) : qaq.f k s nm N O = some (zShs s nm N O) := by
 unfold qaq.f zShs
 rw [qkw s nm N O hn k hk,obs]
 by_cases c1 : zMs s (rs nm) = true
 rotate_left
 ·rw [if_neg c1,if_neg c1]
 rw [if_pos c1,if_pos c1]
 by_cases c2 : 48 < N.length
 ·rw [ifp,if_pos c2]
 by_cases c3 : 48 < O.length
 ·rw [ifq,ifp,if_neg c2,if_pos c3]
 have h0 := qeT s nm N O hn hN (by omega) k hk N.length 0 k [] (by omega) (by omega) rfl
 rw [n0,dZr] at h0
 rw [ifq,ifq,if_neg c2,if_neg c3,h0,obs]
 by_cases c4 : (zGo (rs nm) N []).1 = 0
 ·have l2 : ∀ T,qaq.l2 k O O.length 0 s nm N O T = some (if O.all (fun k => decide (0 <= k /\ k < (N.length : Int))) = true then .inl () else .inr 23) := fun T => by
   have := iter0 (L := fun n i (_ : Unit) => qaq.l2 n O O.length i s nm N O T) (st := fun _=>()) (fun i => if (O.drop i).all (fun k => decide (0 <= k /\ k < (N.length : Int))) = true then .inl () else .inr 23) (m := O.length) 0
    (fun n _ => by rw [qaq.l2,ifq,dNl (vaN _)]; rfl)
    (fun i n hi _ ih => by
     rw [qaq.l2,ifp,ifp,tNc,qaj hi (0 : Int),List.all_cons]
     by_cases d1 : O.getD i 0 < 0
     ·rw [if_pos d1,decide_eq_false (by omega),Bool.false_and,if_neg vaT]
     by_cases d2 : (N.length : Int) <= O.getD i 0
     ·rw [if_neg d1,if_pos d2,decide_eq_false (by omega),Bool.false_and,if_neg vaT]
     rw [if_neg d1,if_neg d2,qau hi (by omega),ih,decide_eq_true (by omega),Bool.true_and]) k (by omega)
   rw [dZr] at this
   exact this
  rw [if_pos c4,if_pos c4,vay,l2,obs]
  by_cases c5 : O.all (fun k => decide (0 <= k /\ k < (N.length : Int))) = true
  ·rw [if_pos c5,if_pos c5,vay,<- c4]
  ·rw [if_neg c5,if_neg c5]; rfl
 ·rw [if_neg c4,if_neg c4]; rfl
theorem qh5 (s : LI) (nm : ByteArray) (N : List Nd) (O : LI) (h1 : s.length <= 100000) (h2 : N.length <= 100000) (h3 : O.length <= 100000) (h4 : ∀ x ∈ N,smN x) (k : Nat) (hk : 300000 <= k) : qb6.f k s nm N O s nm N O = some true := by
 unfold qb6.f
 rw [qcH _ _ (by omega) k (by omega),obs,if_pos (decide_eq_true rfl),if_pos (beq_self_eq_true _),if_pos rfl,qcH _ _ (by omega) k (by omega),obs,if_pos (decide_eq_true rfl)]
 have := iter0 (L := fun n i (_ : Unit) => qb6.l0 k n N.length i s nm N O s nm N O) (st := fun _=>()) (fun _=>.inl ()) (m := N.length) 0
  (fun n _ => by rw [qb6.l0,ifq])
  (fun i n hi _ ih => by
   obtain ⟨a1,a2,a3⟩ := h4 _ (qak hi nd0)
   have e : qdP.f k (N.getD i nd0).1 (N.getD i nd0).2.1 (N.getD i nd0).2.2.1 (N.getD i nd0).2.2.2.1 (N.getD i nd0).2.2.2.2.1 (N.getD i nd0).2.2.2.2.2.1 (N.getD i nd0).2.2.2.2.2.2 (N.getD i nd0).1 (N.getD i nd0).2.1 (N.getD i nd0).2.2.1 (N.getD i nd0).2.2.2.1 (N.getD i nd0).2.2.2.2.1 (N.getD i nd0).2.2.2.2.2.1 (N.getD i nd0).2.2.2.2.2.2 = some true := by
    unfold qdP.f
    rw [if_pos rfl,qcH _ _ (by omega) k (by omega),obs,if_pos (decide_eq_true rfl),qcH _ _ (by omega) k (by omega),obs,if_pos (decide_eq_true rfl),qcH _ _ (by omega) k (by omega),obs,if_pos (decide_eq_true rfl),if_pos rfl,if_pos rfl,beq_self_eq_true]
   rw [qb6.l0,ifp,ifp,ifp,tNc,e,obs,if_pos rfl,qau hi (by omega),ih]) k (by omega)
 rw [this,obs]; rfl
structure GrS (s : LI) (nm : ByteArray) (N : List Nd) (O : LI) : Prop where
 h1 : s.length <= 100000
 h2 : nm.size <= 100000
 h3 : N.length <= 100000
 h4 : O.length <= 100000
 ok : ∀ x ∈ N,okN x
 sm : ∀ x ∈ N,smN x
end Go.Pf

namespace Go.Pf
open Go Go.Vm
theorem within20 {a : Int} (ha : -9223372036854775808 <= a /\ a < 9223372036854775808) : ∃ r,qbo.f a 0 1048576 = some r /\ 0 <= r /\ r <= 1048576 := by
 unfold qbo.f
 have w1 : (iW.wrap ((iW.wrap (1048576 - 0)) + 1) : Int) = 1048577 := by decide
 rw [w1]
 have t2 := vaU a (show (0 : Int) < 1048577 by omega)
 have t3 := vaI a (show (0 : Int) < 1048577 by omega)
 have key : ∃ r,(if (1048577 : Int) ≠ 0 then if a.tmod 1048577 < 0 then some (iW.wrap (0 + (iW.wrap ((iW.wrap ((iW.wrap ((a.tmod 1048577) + 1048576)) - 0)) + 1)))) else some (iW.wrap (0 + (a.tmod 1048577))) else none) = some r /\ 0 <= r /\ r <= 1048576 := by
  rw [ifp]
  split
  ·rw [qah (n := a.tmod 1048577 + 1048576) (by omega) (by omega),qah (n := a.tmod 1048577 + 1048576 - 0) (by omega) (by omega),qah (n := a.tmod 1048577 + 1048576 - 0 + 1) (by omega) (by omega),qah (by omega) (by omega)]
   exact ⟨_,rfl,by omega,by omega⟩
  ·rw [qah (by omega) (by omega)]
   exact ⟨_,rfl,by omega,by omega⟩
 split
 ·split
  ·exact ⟨_,rfl,by omega,by omega⟩
  ·exact key
 ·exact key
theorem qgj {a n : Int} (ha : -9223372036854775808 <= a /\ a < 9223372036854775808) (hn : 1 <= n) : ∃ r,qcA.f a n = some r /\ 0 <= r /\ r < n := by
 obtain ⟨r,e,r0,r1⟩ := within20 ha
 unfold qcA.f
 rw [e,obs,if_neg (show ¬ n < 1 by omega),if_pos (show n ≠ 0 by omega)]
 exact ⟨_,rfl,Int.tmod_nonneg _ (by omega),vaI _ (by omega)⟩
def i64r (a : Int) : Prop := -9223372036854775808 <= a /\ a < 9223372036854775808
theorem qeC (l : LI) (hl : l.length <= 100000) (a b c d : Int) (t : ByteArray) (hc : i64r c) : ∃ r,qbL.f l a b c d t = some r /\ r.length <= l.length + 1 := by
 unfold qbL.f
 by_cases h : (l.length : Int) = 0
 ·rw [if_pos h]; exact ⟨_,rfl,by rw [lSi]; omega⟩
 obtain ⟨r,e,r0,r1⟩ := qgj hc (show 1 <= (l.length : Int) by omega)
 rw [if_neg h,ifp,e,obs,nAp,if_pos ⟨r0,r1⟩,ifp]
 exact ⟨_,rfl,by rw [vaV]; omega⟩
end Go.Pf

namespace Go.Pf
open Go Go.Vm
def bA (l : List UInt8) : ByteArray := ⟨l.toArray⟩
theorem qfv (a b : List UInt8) : bA a ++ bA b = bA (a ++ b) := by
 apply ByteArray.ext
 rw [ByteArray.data_append]
 simp [bA]
theorem qbp (a : List UInt8) : (bA a).size = a.length := rfl
theorem qjW (a : List UInt8) : (bA a).data.toList = a := by simp [bA]
theorem qnj (s : ByteArray) : bA s.data.toList = s := by cases s; simp [bA]
theorem qp3 {a b : List UInt8} (h : bA a = bA b) : a = b := by
 have := congrArg (fun s : ByteArray => s.data.toList) h
 simpa [bA] using this
def zNum (n : Int) : ByteArray := bA (Lib.itoa n)
theorem qds {n : Int} (h1 : -9223372036854775808 <= n) (h2 : n < 9223372036854775808) : qcE.f n = some (zNum n) := by
 unfold qcE.f strconv_FormatInt.f
 rw [if_pos ⟨rfl,h1,by omega⟩]; rfl
def dig (u : Nat) : List UInt8 := if u = 0 then [] else Lib.decDigits u
theorem qps {u : Nat} (h : u ≠ 0) : dig u = dig (u / 10) ++ [UInt8.ofNat (48 + u % 10)] := by
 unfold dig
 rw [if_neg h]
 rw [Lib.decDigits]
 by_cases h10 : u < 10
 ·rw [dif_pos h10,ifp,Nat.mod_eq_of_lt h10]; rfl
 ·rw [dif_neg h10,ifq]
theorem qqI {d : Nat} (h : d < 10) : Utf8.encode (48 + (d : Int)) = bA [UInt8.ofNat (48 + d)] := by
 match d,h with
 | 0,_ | 1,_ | 2,_ | 3,_ | 4,_ | 5,_ | 6,_ | 7,_ | 8,_ | 9,_ => rfl
 | d + 10,h => omega
theorem qeS (x0 : Int) : ∀ (e : Nat) (x : Int) (s : ByteArray) (n : Nat),x.natAbs < 10 ^ e -> x.natAbs < 9223372036854775809 -> e < n -> s.size + e <= 100000 -> qaD.l0 n x0 s x = some (bA (dig x.natAbs) ++ s)
 | 0,x,s,n,h,_,hn,_ => by
  obtain ⟨n,rfl⟩ := sun (n := n)
  have hx : x = 0 := by simp at h; omega
  subst hx
  rw [qaD.l0,if_pos rfl]
  show some s = some (bA [] ++ s)
  congr 1
 | e + 1,x,s,n,h,hb,hn,hs => by
  obtain ⟨n,rfl⟩ := sun (n := n)
  by_cases hx : x = 0
  ·subst hx
   rw [qaD.l0,if_pos rfl]
   show some s = some (bA [] ++ s)
   congr 1
  rw [qaD.l0,if_neg hx,ifp]
  have hdiv : (x.tdiv 10).natAbs = x.natAbs / 10 := by rw [Int.natAbs_tdiv]; rfl
  have hmod : (x.tmod 10).natAbs = x.natAbs % 10 := by rw [Int.natAbs_tmod]; rfl
  have hd : x.natAbs / 10 < 10 ^ e := by rw [vaL] at h; omega
  have hw : iW.wrap (x.tdiv 10) = x.tdiv 10 := qah (by omega) (by omega)
  have fin : ∀ c : Int,c = ((x.natAbs % 10 : Nat) : Int) -> (if (Utf8.encode (IntKind.i32.wrap (iW.wrap (48 + c)))).size + s.size <= 9223372036854775807 then qaD.l0 n x0 ((Utf8.encode (IntKind.i32.wrap (iW.wrap (48 + c)))) ++ s) (iW.wrap (x.tdiv 10)) else none) = some (bA (dig x.natAbs) ++ s) := by
   rintro c rfl
   have hr : x.natAbs % 10 < 10 := Nat.mod_lt _ (by omega)
   have h32 : IntKind.i32.wrap (iW.wrap (48 + ((x.natAbs % 10 : Nat) : Int))) = 48 + ((x.natAbs % 10 : Nat) : Int) := by
    rw [qah (by omega) (by omega)]
    generalize x.natAbs % 10 = d at hr
    match d,hr with
    | 0,_ | 1,_ | 2,_ | 3,_ | 4,_ | 5,_ | 6,_ | 7,_ | 8,_ | 9,_ => rfl
    | d + 10,h => omega
   rw [h32,qqI hr,qbp,if_pos (by simp only [lSi]; omega),hw,qeS x0 e _ _ n (by rw [hdiv]; exact hd) (by rw [hdiv]; omega) (by omega) (by rw [qaK,qbp]; simp only [lSi]; omega),hdiv,
    qps (show x.natAbs ≠ 0 by omega),<- qfv,qhD]
  by_cases hneg : x.tmod 10 < 0
  ·rw [if_pos hneg]
   exact fin _ (by rw [qah (by omega) (by omega)]; omega)
  ·rw [if_neg hneg]
   exact fin _ (by omega)
theorem qbS {n : Int} (h1 : -9223372036854775808 <= n) (h2 : n < 9223372036854775808) (k : Nat) (hk : 100 <= k) : qaD.f k n = some (zNum n) := by
 unfold qaD.f zNum Lib.itoa
 by_cases h0 : n = 0
 ·subst h0; rw [if_pos rfl,ifq]
  simp only [Int.toNat_zero]
  rw [Lib.decDigits,dif_pos (by omega)]; rfl
 have hl := qeS n 19 n vaa k (by omega) (by omega) (by omega) (by simp)
 rw [if_neg h0,hl,obs,qe8]
 have hdg : dig n.natAbs = Lib.decDigits n.natAbs := by unfold dig; rw [ifq]
 rw [hdg]
 have hlen : (Lib.decDigits n.natAbs).length <= 20 := by
  have key : ∀ e u,u < 10 ^ e -> (Lib.decDigits u).length <= e + 1 := fun e => by
   induction e with
   | zero => intro u h; rw [Lib.decDigits,dif_pos (by omega)]; simp
   | succ e ih =>
    intro u h
    rw [Lib.decDigits]
    split
    ·simp
    ·rw [lAp]; have := ih (u / 10) (by rw [vaL] at h; omega); simp only [lSi]; omega
  exact key 19 _ (by omega)
 by_cases hn : n < 0
 ·rw [if_pos hn,if_pos hn,qbp,if_pos (by show 1 + _ <= _; omega)]
  show some (bA [45] ++ _) = _
  rw [qfv]; rfl
 ·rw [if_neg hn,if_neg hn]
  congr 3; omega
end Go.Pf

namespace Go.Pf
open Go Go.Vm
def rng (n : Int) : Prop := -9223372036854775808 <= n /\ n < 9223372036854775808
theorem qmH : ∀ e u,u < 10 ^ e -> (Lib.decDigits u).length <= e + 1 := fun e => by
 induction e with
 | zero => intro u h; rw [Lib.decDigits,dif_pos (by omega)]; simp
 | succ e ih =>
  intro u h
  rw [Lib.decDigits]
  split
  ·simp
  ·rw [lAp]; have := ih (u / 10) (by rw [vaL] at h; omega); simp only [lSi]; omega
theorem qhB {n : Int} (h : rng n) : (Lib.itoa n).length <= 21 := by
 obtain ⟨h1,h2⟩ := h
 unfold Lib.itoa
 split
 ·have := qmH 19 n.natAbs (by omega); simp only [lCo]; omega
 ·have := qmH 19 n.toNat (by omega); omega
theorem qeM {n : Int} (h : rng n) : (zNum n).size <= 21 := qhB h
def zTl (l : LI) : List UInt8 := l.flatMap fun n => 32 :: Lib.itoa n
theorem qlR (n : Int) (l : LI) : zTl (n :: l) = 32 :: Lib.itoa n ++ zTl l := rfl
theorem qp7 (a b : LI) : zTl (a ++ b) = zTl a ++ zTl b := vaq
theorem qdq : ∀ {l : LI},(∀ n ∈ l,rng n) -> (zTl l).length <= 22 * l.length
 | [],_ => vaN _
 | n :: l,h => by
  have h1 := qhB (h n (vax ..))
  have h2 := qdq (l := l) fun m hm => h m (mCm _ hm)
  rw [qlR,lAp,lCo,lCo]; omega
theorem qd8 (l : LI) (hl : l.length <= 1000000) (hr : ∀ n ∈ l,rng n) (k : Nat) (hk : l.length < k) : qba.f k l = some (l.map zNum) := by
 unfold qba.f
 have := iter0 (L := fun n i y => qba.l0 n l l.length i y) (st := fun i => (l.take i).map zNum) (fun _=>l.map zNum) (m := l.length) 0
  (fun n _ => by rw [qba.l0,ifq,vaz])
  (fun i n hi _ ih => by
   have hm := hr _ (qak hi 0)
   rw [qdl hi,vaM,vaH,vaK] at ih
   rw [qba.l0,ifp,ifp,tNc,qds hm.1 hm.2,obs,qau hi (by omega),if_pos (by rw [vae,lTk,lSi]; omega)]
   exact ih) k (by omega)
 rw [vau,vaK] at this
 rw [this]; rfl
theorem qgE (s0 : List UInt8) (L : Nat -> ByteArray -> Int -> Option ByteArray) (l : LI) (hl : l.length <= 1000000) (hr : ∀ n ∈ l,rng n) (hs : s0.length <= 1000000000000)
  (h0 : ∀ n s,L (n + 1) s l.length = some s)
  (h1 : ∀ (i n : Nat) (s : ByteArray),i < l.length -> s.size <= 2000000000000 -> L (n + 1) s i = L n ((s ++ bA [32]) ++ zNum (l.getD i 0)) ((i + 1 : Nat) : Int)) (k : Nat) (hk : l.length < k) :
  L k (bA s0) 0 = some (bA (s0 ++ zTl l)) := by
 have := iter0 (L := fun n i y => L n y i) (st := fun i => bA (s0 ++ zTl (l.take i))) (fun _=>bA (s0 ++ zTl l)) (m := l.length) 0
  (fun n _ => by rw [h0,vaz])
  (fun i n hi _ ih => by
   have hm := qdq (l := l.take i) fun m hm => hr m (var hm)
   rw [lTk] at hm
   rw [h1 i n _ hi (by rw [qbp,lAp]; omega)]
   rw [qdl hi,qp7,<- aAs,qlR] at ih
   have e : zTl ([] : LI) = [] := rfl
   rw [e,vah] at ih
   rw [zNum,qfv,qfv,aAs (s0 ++ zTl (l.take i)) [32]]
   exact ih) k (by omega)
 rw [vau] at this
 have e : zTl ([] : LI) = [] := rfl
 rw [e,vah] at this
 exact this
theorem qeR (l : LI) (hl : l.length <= 1000000) (hr : ∀ n ∈ l,rng n) (k : Nat) (hk : l.length + 100 < k) : qbi.f k l = some (bA ([32,40] ++ zTl l ++ [32,41])) := by
 unfold qbi.f
 have hz := qdq hr
 have := qgE [32,40] (fun n s i => qbi.l0 k n l s l.length i) l hl hr (by simp)
  (fun n s => by rw [qbi.l0,ifq])
  (fun i n s hi hs => by
   have hm := hr _ (qak hi 0)
   have hz := qeM hm
   rw [qbi.l0,ifp,if_pos (by show _ + 1 <= _; omega),ifp,tNc,qbS hm.1 hm.2 k (by omega),obs,if_pos (by rw [qaK]; show _ + 1 + _ <= _; omega),qau hi (by omega)]
   rfl) k (by omega)
 have e : vab #[32,40] = bA [32,40] := rfl
 rw [e,this,obs,if_pos (by rw [qbp,lAp]; show 2 + _ + 2 <= _; omega)]
 show some (_ ++ bA [32,41]) = _
 rw [qfv]
def zName (op : Int) : ByteArray := if op < 1 \/ 20 < op then vaa else (qcX.f.getD []).getD op.toNat vaa
theorem qhK (op : Int) : qec.f op = some (zName op) := by
 rcases qd3 op with rfl | rfl | rfl | rfl | rfl | rfl | rfl | rfl | rfl | rfl | rfl | rfl | rfl | rfl | rfl | rfl | rfl | rfl | rfl | rfl | hout
 iterate 20 rfl
 unfold qec.f zName
 rw [if_pos hout]
 rcases hout with h | h
 ·rw [if_pos h]
 ·rw [ifq,if_pos h]
theorem qku (op : Int) : qdH.f op = some (zName op) := by
 rcases qd3 op with rfl | rfl | rfl | rfl | rfl | rfl | rfl | rfl | rfl | rfl | rfl | rfl | rfl | rfl | rfl | rfl | rfl | rfl | rfl | rfl | hout
 iterate 20 rfl
 unfold qdH.f zName
 rw [if_pos hout]
 rcases hout with h | h
 ·rw [if_pos h]
 ·rw [ifq,if_pos h]
theorem qiM (op : Int) : (zName op).size <= 6 := by
 rcases qd3 op with rfl | rfl | rfl | rfl | rfl | rfl | rfl | rfl | rfl | rfl | rfl | rfl | rfl | rfl | rfl | rfl | rfl | rfl | rfl | rfl | hout
 iterate 20 decide
 unfold zName
 rw [if_pos hout]; decide
end Go.Pf

namespace Go.Pf
open Go Go.Vm
theorem qoM (s : ByteArray) : ∀ (e i : Nat) (r : List UInt8),s.size <= i + e -> vaC.loop s i r = r.reverse ++ s.data.toList.drop i
 | 0,i,r,h => by
  rw [vaC.loop,ifq,dNl (by rw [vac]; show s.size <= i; omega),vah]
 | e + 1,i,r,h => by
  rw [vaC.loop]
  by_cases c : i < s.size
  ·have c' : i < s.data.toList.length := by rw [vac]; exact c
   rw [if_pos c,qoM s e (i + 1) _ (by omega),List.reverse_cons,aAs,qaj c' 0]
   have e : s.get! i = s.data.toList.getD i 0 := by
    show s.data[i]! = _
    rw [Array.getElem!_eq_getD,vao,gDg,vaP]; rfl
   rw [e]; rfl
  ·rw [if_neg c,dNl (by rw [vac]; show s.size <= i; omega),vah]
theorem qk3 (s : ByteArray) : s.toList = s.data.toList := by
 show vaC.loop s 0 [] = _
 rw [qoM s s.size 0 [] (by omega)]; rfl
theorem qbP (a b : ByteArray) : (a.toList == b.toList) = decide (a = b) := by
 rw [qk3,qk3]
 by_cases h : a = b
 ·subst h; simp
 ·have h2 : a.data.toList ≠ b.data.toList := fun e => h (by rw [<- qnj a,e,qnj])
  rw [decide_eq_false h]
  exact beq_false_of_ne h2
theorem qfj (a b : ByteArray) : ((a.toList == b.toList) = true) ↔ a = b := by rw [qbP,decide_eq_true_eq]
theorem qeH (s : ByteArray) : qcw.f s = some (if s = vaa then bA [45] else s) := by
 unfold qcw.f
 by_cases h : s = vaa
 ·rw [if_pos ((qfj _ _).2 h),if_pos h]; rfl
 ·rw [if_neg (fun hh => h ((qfj _ _).1 hh)),if_neg h]
theorem qnW (l : LI) : runesBytes l = enc l := by
 have key : ∀ (l : LI) (a : ByteArray),l.foldl (fun r n => r ++ Utf8.encode n) a = a ++ enc l := fun l => by
  induction l with
  | nil => intro a; rw [List.foldl_nil,enc,qe8]
  | cons r l ih => intro a; rw [List.foldl_cons,ih,enc,qhD]
 unfold runesBytes
 rw [key,qj4]
def zTxt (nm : ByteArray) (sp : LI) : ByteArray := enc (sp.map (zTx (rs nm)))
theorem qkC (nm : ByteArray) (hn : nm.size ≤ 100000) (sp : LI) (hs : sp.length ≤ 1000) (k : Nat) (hk : 500000 ≤ k) : qbK.f k nm sp = some (zTxt nm sp) := by
  unfold qbK.f zTxt
  rw [qdx nm (by omega) k (by omega),obs]
  generalize rs nm = l
  have := iter0 (L := fun n i y => qbK.l0 n sp sp.length i l y) (st := fun i => (sp.take i).map (zTx l)) (fun _=>sp.map (zTx l)) (m := sp.length) 0
    (fun n _ => by rw [qbK.l0,ifq,vaz])
    (fun i n hi _ ih => by
      have hb : ((sp.take i).map (zTx l)).length ≤ 1000 := by rw [vae,lTk]; omega
      rw [qdl hi,vaM,vaH,vaK] at ih
      rw [qbK.l0,ifp,ifp,tNc,qau hi (by omega)]
      by_cases c1 : 0 ≤ sp.getD i 0
      · by_cases c2 : sp.getD i 0 < (l.length : Int)
        · have e : zTx l (sp.getD i 0) = l.getD (sp.getD i 0).toNat 0 := ifq
          rw [e] at ih
          rw [if_pos c1,if_pos c2,if_pos ⟨c1,c2⟩,ifp,if_pos (by simp only [lSi]; omega),ih]
        · have e : zTx l (sp.getD i 0) = 46 := ifp
          rw [e] at ih
          rw [if_pos c1,if_neg c2,if_pos (by simp only [lSi]; omega),ih]
      · have e : zTx l (sp.getD i 0) = 46 := ifp
        rw [e] at ih
        rw [if_neg c1,if_pos (by simp only [lSi]; omega),ih]) k (by omega)
  rw [vau,vaK] at this
  rw [this,obs,qnW]
theorem qna (r : Int) : 1 <= (Utf8.encode r).size := by
 unfold Utf8.encode
 dsimp only
 generalize (if Utf8.valid r = true then r.toNat else Utf8.runeError) = c
 by_cases c1 : c < 128
 ·rw [if_pos c1]; exact vaN _
 by_cases c2 : c < 2048
 ·rw [if_neg c1,if_pos c2]; show 1 <= 2; omega
 by_cases c3 : c < 65536
 ·rw [if_neg c1,if_neg c2,if_pos c3]; show 1 <= 3; omega
 ·rw [if_neg c1,if_neg c2,if_neg c3]; show 1 <= 4; omega
def zNW (nm nt : ByteArray) (rank : Int) : ByteArray := if (zNote (rs nm) (rs nt) rank).1 = true then zTxt nm (zNote (rs nm) (rs nt) rank).2.2 else bA [45]
theorem qje (nm : LI) : ∀ (l y r : LI),zNl nm l y = some r -> r.length <= y.length + l.length
 | [],y,r,h => by rw [zNl] at h; cases h; simp
 | x :: l,y,r,h => by
  rw [zNl] at h
  split at h
  ·have := qje nm l y r h; rw [lCo]; omega
  split at h
  ·have := qje nm l _ r h; rw [lAp] at this; simp only [lCo,vad] at this ⊢; omega
  split at h
  ·cases h
  ·have := qje nm l _ r h; rw [lAp] at this; simp only [lCo,vad] at this ⊢; omega
theorem qhI (nm l : LI) (rank : Int) : (zNote nm l rank).2.2.length <= 16 := by
 unfold zNote
 by_cases c : 16 < l.length
 ·rw [if_pos c]; exact vat _
 rw [if_neg c]
 cases h : zNl nm l [] with
 | none => exact vat _
 | some y =>
  have := qje nm l [] y h
  dsimp only
  by_cases c1 : y.length = 0
  ·rw [if_pos c1]; exact vat _
  by_cases c2 : (y.length : Int) = rank
  ·rw [if_neg c1,if_pos c2]; simp at this; show y.length <= 16; omega
  ·rw [if_neg c1,if_neg c2]; exact vat _
theorem qmO (nm l : LI) (rank : Int) : ((zNote nm l rank).1 = true /\ (zNote nm l rank).2.2 ≠ []) \/ ((zNote nm l rank).1 = false /\ (zNote nm l rank).2.2 = []) := by
 unfold zNote
 by_cases c : 16 < l.length
 ·rw [if_pos c]; exact .inr ⟨rfl,rfl⟩
 rw [if_neg c]
 cases h : zNl nm l [] with
 | none => exact .inr ⟨rfl,rfl⟩
 | some y =>
  dsimp only
  by_cases c1 : y.length = 0
  ·rw [if_pos c1]; exact .inr ⟨rfl,rfl⟩
  by_cases c2 : (y.length : Int) = rank
  ·rw [if_neg c1,if_pos c2]; exact .inl ⟨rfl,fun e => by dsimp only at e; subst e; exact c1 rfl⟩
  ·rw [if_neg c1,if_neg c2]; exact .inr ⟨rfl,rfl⟩
theorem qlW (nm nt : ByteArray) (rank : Int) : (zNW nm nt rank).size <= 64 := by
 unfold zNW
 split
 ·have h1 := qgt ((zNote (rs nm) (rs nt) rank).2.2.map (zTx (rs nm)))
  have h2 := qhI (rs nm) (rs nt) rank
  rw [vae] at h1
  unfold zTxt; omega
 ·show 1 <= 64; omega
theorem qnD (nm nt : ByteArray) (rank : Int) : (if zTxt nm (zNote (rs nm) (rs nt) rank).2.2 = vaa then bA [45] else zTxt nm (zNote (rs nm) (rs nt) rank).2.2) = zNW nm nt rank := by
 unfold zNW
 rcases qmO (rs nm) (rs nt) rank with ⟨h1,h2⟩ | ⟨h1,h2⟩
 ·rw [if_pos h1,if_neg]
  intro e
  cases hx : (zNote (rs nm) (rs nt) rank).2.2 with
  | nil => exact h2 hx
  | cons x r =>
   rw [hx] at e
   have hs := congrArg van e
   rw [zTxt,vaH,enc,qaK] at hs
   have := qna (zTx (rs nm) x)
   rw [show vaa.size = 0 from rfl] at hs
   omega
 ·rw [h1,h2]; rfl
theorem qkt (g1 : LI) (nm : ByteArray) (g3 : List Nd) (g4 : LI) (x1 : Int) (x2 x3 x4 : LI) (x5 x6 : Int) (nt : ByteArray) (rank : Int) (hn : nm.size <= 100000) (ht : nt.size <= 100000) (k : Nat) (hk : 500000 <= k) :
  qdG.f k g1 nm g3 g4 x1 x2 x3 x4 x5 x6 nt rank = some (zNW nm nt rank) := by
 unfold qdG.f zNW
 rw [qhV nm nt rank (by omega) (by omega) k (by omega) (by omega),obs]
 have := qhI (rs nm) (rs nt) rank
 by_cases c : (zNote (rs nm) (rs nt) rank).1 = true
 ·rw [if_pos c,if_pos c,qhU nm hn _ (by omega) k (by omega)]; rfl
 ·rw [if_neg c,if_neg c]; rfl
end Go.Pf

namespace Go.Pf
open Go Go.Vm
theorem qjj {α : Type} {l : List α} {i : Nat} (h : i < l.length) (d : α) : l.take (i + 1) = l.take i ++ [l.getD i d] := by
 rw [List.take_add_one,gDg,vaj h]; rfl
def lst (l : LI) : List ByteArray := [bA [40]] ++ l.map zNum ++ [bA [41]]
def zWds (nm : ByteArray) (x : Nd) (rank : Int) : List ByteArray :=
 [zName x.1] ++ (lst x.2.1 ++ (lst x.2.2.1 ++ lst x.2.2.2.1)) ++ [zNum x.2.2.2.2.1,zNum x.2.2.2.2.2.1,zNW nm x.2.2.2.2.2.2 rank]
structure wtN (x : Nd) : Prop where
 i : x.2.1.length <= 100000
 s : x.2.2.1.length <= 100000
 a : x.2.2.2.1.length <= 100000
 nt : x.2.2.2.2.2.2.size <= 100000
 ri : ∀ n ∈ x.2.1,rng n
 rs : ∀ n ∈ x.2.2.1,rng n
 ra : ∀ n ∈ x.2.2.2.1,rng n
 rn : rng x.2.2.2.2.1
 rh : rng x.2.2.2.2.2.1
theorem wtN.ok {x : Nd} (h : wtN x) : okN x := ⟨h.i,h.a,h.nt⟩
theorem qj8 (Y : List LI) (hY : Y.length ≤ 10) (hl : ∀ l ∈ Y,l.length ≤ 100000 ∧ ∀ n ∈ l,rng n) (t : ByteArray) (r : Int) (g1 : LI) (g2 : ByteArray) (g3 : List Nd) (g4 : LI) (x1 : Int) (x2 x3 x4 : LI) (x5 x6 : Int) (x7 : ByteArray) (k : Nat) (hk : 500000 ≤ k) :
    qcc.l0 k k r Y.length 0 g1 g2 g3 g4 x1 x2 x3 x4 x5 x6 x7 [t] Y = some ([t] ++ Y.flatMap lst) := by
  have := iter0 (L := fun n i y => qcc.l0 k n r Y.length i g1 g2 g3 g4 x1 x2 x3 x4 x5 x6 x7 y Y) (st := fun i => [t] ++ (Y.take i).flatMap lst) (fun _=>[t] ++ Y.flatMap lst) (m := Y.length) 0
    (fun n _ => by rw [qcc.l0,ifq,vaz])
    (fun i n hi _ ih => by
      obtain ⟨h1,h2⟩ := hl _ (qak hi [])
      have hb : ((Y.take i).flatMap lst).length ≤ 100002 * i := by
        have key : ∀ (e : Nat) (Z : List LI),Z.length ≤ e → (∀ l ∈ Z,l ∈ Y) → (Z.flatMap lst).length ≤ 100002 * e := fun e => by
          induction e with
          | zero => intro Z hz _; cases Z with
            | nil => simp
            | cons => simp at hz
          | succ e ih =>
            intro Z hz hm
            cases Z with
            | nil => simp
            | cons z Z =>
              have h3 := ih Z (by simpa using hz) fun l hl => hm l (mCm _ hl)
              have h4 := (hl z (hm z (vax ..))).1
              rw [vai,lAp]
              have h5 : (lst z).length = z.length + 2 := by simp [lst]
              omega
        exact key i _ (by rw [lTk]; omega) fun l hl => var hl
      rw [qjj hi ([] : LI),vaq,vai,vam,vah,← aAs] at ih
      have hz : (([t] ++ (Y.take i).flatMap lst)).length ≤ 2000000 := by rw [lAp,lSi]; omega
      rw [qcc.l0,ifp,ifp,tNc,if_pos hi,if_pos (by rw [lSi]; omega),qd8 _ (by omega) h2 k (by omega),obs,
        if_pos (by clear ih; generalize [t] ++ (Y.take i).flatMap lst = A at hz; simp only [lAp,lSi,vae]; omega),if_pos (by clear ih; generalize [t] ++ (Y.take i).flatMap lst = A at hz; simp only [lAp,lSi,vae]; omega),qau hi (by omega)]
      refine Eq.trans ?_ ih
      congr 1
      simp only [lst,aAs]; rfl) k (by omega)
  rw [vau,vam,vah] at this
  exact this
theorem qk9 (g1 : LI) (nm : ByteArray) (g3 : List Nd) (g4 : LI) (x : Nd) (rank : Int) (hn : nm.size <= 100000) (hx : wtN x) (k : Nat) (hk : 500000 <= k) :
  qcc.f k g1 nm g3 g4 x.1 x.2.1 x.2.2.1 x.2.2.2.1 x.2.2.2.2.1 x.2.2.2.2.2.1 x.2.2.2.2.2.2 rank = some (zWds nm x rank) := by
 have hi := hx.i; have hs := hx.s; have ha := hx.a; have hnt := hx.nt
 unfold qcc.f
 rw [qhK,obs,qj8 [x.2.1,x.2.2.1,x.2.2.2.1] (by simp) (fun l hl => by
  rcases vag.1 hl with rfl | hl
  ·exact ⟨by omega,hx.ri⟩
  rcases vag.1 hl with rfl | hl
  ·exact ⟨by omega,hx.rs⟩
  rw [vaf] at hl; subst hl
  exact ⟨by omega,hx.ra⟩) _ _ _ _ _ _ _ _ _ _ _ _ _ k (by omega),obs,qhb nm _ _ (by omega) (by omega) k (by omega) (by omega),obs,qds hx.rn.1 hx.rn.2,obs,qds hx.rh.1 hx.rh.2,obs,
  qkC nm hn _ (by have := qhI (rs nm) (rs x.2.2.2.2.2.2) rank; omega) k (by omega),obs,qeH,obs,qnD]
 have hl : ([zName x.1] ++ [x.2.1,x.2.2.1,x.2.2.2.1].flatMap lst).length <= 400000 := by
  simp only [lAp,lSi,vai,vam,vad,lst,vae]; omega
 rw [if_pos (by rw [show [zNum x.2.2.2.2.1,zNum x.2.2.2.2.2.1,zNW nm x.2.2.2.2.2.2 rank].length = 3 from rfl]; omega)]
 simp [zWds]
def zLn (ws : List ByteArray) : List UInt8 := Lib.join (ws.map (·.data.toList)) [32] ++ [10]
def tl (ws : List ByteArray) : List UInt8 := ws.flatMap fun w => 32 :: w.data.toList
theorem qhs (w : ByteArray) (ws : List ByteArray) : zLn (w :: ws) = w.data.toList ++ tl ws ++ [10] := by
 unfold zLn tl
 rw [vaH,Lib.join_cons]
 congr 2
 unfold Lib.joinTail
 rw [List.map_map,List.flatMap_def]; rfl
theorem qiN (a b : List ByteArray) : tl (a ++ b) = tl a ++ tl b := vaq
theorem ql3 (l : LI) : tl (l.map zNum) = zTl l := by
 unfold tl zTl
 rw [List.flatMap_map]
 congr 1
theorem qnI (l : LI) : tl (lst l) = [32,40] ++ zTl l ++ [32,41] := by
 unfold lst
 rw [qiN,qiN,ql3]; rfl
theorem qnx (nm : ByteArray) (x : Nd) (rank : Int) : zLn (zWds nm x rank) =
  (zName x.1).data.toList ++ (([32,40] ++ zTl x.2.1 ++ [32,41]) ++ (([32,40] ++ zTl x.2.2.1 ++ [32,41]) ++ ([32,40] ++ zTl x.2.2.2.1 ++ [32,41]))) ++ (32 :: Lib.itoa x.2.2.2.2.1 ++ (32 :: Lib.itoa x.2.2.2.2.2.1 ++ (32 :: (zNW nm x.2.2.2.2.2.2 rank).data.toList ++ [10]))) := by
 unfold zWds
 rw [aAs [zName x.1],vak,qhs,qiN,qiN,qiN,qnI,qnI,qnI]
 have e : tl [zNum x.2.2.2.2.1,zNum x.2.2.2.2.2.1,zNW nm x.2.2.2.2.2.2 rank] = 32 :: Lib.itoa x.2.2.2.2.1 ++ (32 :: Lib.itoa x.2.2.2.2.2.1 ++ (32 :: (zNW nm x.2.2.2.2.2.2 rank).data.toList)) := by
  simp [tl,zNum,bA]
 rw [e]
 simp only [aAs]
theorem qfD (nm : ByteArray) (x : Nd) (rank : Int) (hx : wtN x) : (zLn (zWds nm x rank)).length <= 150 + 22 * (x.2.1.length + x.2.2.1.length + x.2.2.2.1.length) := by
 have h1 := qdq hx.ri; have h2 := qdq hx.rs; have h3 := qdq hx.ra
 have h4 := qhB hx.rn; have h5 := qhB hx.rh
 have h6 := qiM x.1; have h7 := qlW nm x.2.2.2.2.2.2 rank
 have e6 : (zName x.1).data.toList.length = (zName x.1).size := vac
 have e7 : (zNW nm x.2.2.2.2.2.2 rank).data.toList.length = (zNW nm x.2.2.2.2.2.2 rank).size := vac
 rw [qnx]
 simp only [lAp,lCo,vad,e6,e7]
 omega
end Go.Pf

namespace Go.Pf
open Go Go.Vm
def zNs (nm : ByteArray) (N : List Nd) (S : List LI) : List (List ByteArray) := List.zipWith (fun x s => zWds nm x (s.length : Int)) N S
theorem qgz {nm : ByteArray} {N : List Nd} {S : List LI} (h : S.length = N.length) : (zNs nm N S).length = N.length := by
 unfold zNs; rw [List.length_zipWith,h,Nat.min_self]
theorem qhH {nm : ByteArray} {N : List Nd} {S : List LI} (h : S.length = N.length) {i : Nat} (hi : i < N.length) : (zNs nm N S).getD i [] = zWds nm (N.getD i nd0) ((S.getD i []).length : Int) := by
 unfold zNs
 simp only [gDg,List.getElem?_zipWith,vaj hi,vaj (show i < S.length by omega)]
 rfl
def mesh5 : List UInt8 := [109,101,115,104]
def outs4 : List UInt8 := [111,117,116,115]
def zHd (s : LI) (nm : ByteArray) : List ByteArray := [bA mesh5,if nm = vaa then bA [45] else nm] ++ s.map zNum
def zOt (O : LI) : List ByteArray := [bA outs4] ++ O.map zNum
def zLs (s : LI) (nm : ByteArray) (N : List Nd) (O : LI) (S : List LI) : List (List ByteArray) := [zHd s nm] ++ zNs nm N S ++ [zOt O]
def zTB (s : LI) (nm : ByteArray) (N : List Nd) (O : LI) (S : List LI) : List UInt8 := (zLs s nm N O S).flatMap zLn
def zTx2 (s : LI) (nm : ByteArray) (N : List Nd) (O : LI) (S : List LI) : ByteArray × Int := if 65536 < (zTB s nm N O S).length then (vaa,3) else (bA (zTB s nm N O S),0)
structure wtG (s : LI) (nm : ByteArray) (N : List Nd) (O : LI) : Prop where
 n : ∀ x ∈ N,wtN x
 nm : nm.size <= 100000
 rs : ∀ n ∈ s,rng n
 ro : ∀ n ∈ O,rng n
theorem qny (s : LI) (nm : ByteArray) : zLn (zHd s nm) = mesh5 ++ (32 :: (if nm = vaa then bA [45] else nm).data.toList ++ zTl s) ++ [10] := by
 unfold zHd
 rw [vaw,qhs,vaw,nAp]
 congr 2
 unfold tl
 rw [vai]
 show _ ++ tl (s.map zNum) = _
 rw [ql3]
theorem qqY (O : LI) : zLn (zOt O) = outs4 ++ zTl O ++ [10] := by
 unfold zOt
 rw [vak,qhs,ql3]; rfl
theorem qka (s : LI) (nm : ByteArray) (N : List Nd) (O : LI) (S : List LI) (hS : S.length = N.length) (hN : N.length <= 100000) (hn : nm.size <= 100000) (hw : ∀ x ∈ N,wtN x) (hd : List ByteArray) (k : Nat) (hk : 500000 <= k) :
  qbb.l0 k k N N.length 0 s nm N O S [hd] = some ([hd] ++ zNs nm N S) := by
 have := iter0 (L := fun n i y => qbb.l0 k n N N.length i s nm N O S y) (st := fun i => [hd] ++ (zNs nm N S).take i) (fun _=>[hd] ++ zNs nm N S) (m := N.length) 0
  (fun n _ => by rw [qbb.l0,ifq,vav (by rw [qgz hS]; omega)])
  (fun i n hi _ ih => by
   have hx := hw _ (qak hi nd0)
   have hl := qgz (nm := nm) hS
   have h0 : ((zNs nm N S).take i).length <= 100000 := by rw [lTk,hl]; omega
   rw [qjj (show i < (zNs nm N S).length by rw [hl]; exact hi) ([] : List ByteArray),qhH hS hi,<- aAs] at ih
   rw [qbb.l0,ifp,ifp,tNc,if_pos (by rw [hS]; omega),if_pos (by rw [hS]; exact hi),qk9 s nm N O (N.getD i nd0) _ hn hx k (by omega),obs,
    if_pos (by clear ih; generalize (zNs nm N S).take i = A at h0; simp only [lAp,lSi]; omega),qau hi (by omega)]
   exact ih) k (by omega)
 rw [vau,vah] at this
 exact this
def ints (l : List UInt8) : LI := l.map fun b => (b.toNat : Int)
theorem qms (l : List UInt8) : (ints l).length = l.length := vae _
theorem WS_f (s : ByteArray) (l : List UInt8) (h1 : s.size <= 1000000000000) (h2 : l.length <= 1000000000000) : qaJ.f s (ints l) = some ((s.size : Int),ints (l ++ s.data.toList)) := by
 unfold qaJ.f qcQ.f
 have e : s.data.toList.length = s.size := vac
 rw [obs,if_pos (by rw [qms,vae,e]; omega)]
 unfold ints
 rw [vaM]
theorem qgp {B : Nat} : ∀ {L : List (List ByteArray)},(∀ l ∈ L,(zLn l).length <= B) -> (L.flatMap zLn).length <= B * L.length
 | [],_ => by simp
 | l :: L,h => by
  have h1 := h l (vax ..)
  have h2 := qgp (L := L) fun m hm => h m (mCm _ hm)
  rw [vai,lAp,lCo,Nat.mul_add]; omega
theorem qj9 (L : List (List ByteArray)) (hL : L.length <= 1000) (hb : ∀ l ∈ L,l.length <= 10000000 /\ (zLn l).length <= 100000000) (k : Nat) (hk : 2000 <= k) :
  qbb.l1 k L.length 0 L [] = some (ints (L.flatMap zLn)) := by
 have := iter0 (L := fun n i y => qbb.l1 n L.length i L y) (st := fun i => ints ((L.take i).flatMap zLn)) (fun _=>ints (L.flatMap zLn)) (m := L.length) 0
  (fun n _ => by rw [qbb.l1,ifq,vaz])
  (fun i n hi _ ih => by
   obtain ⟨h1,h2⟩ := hb _ (qak hi [])
   have h3 := qgp (B := 100000000) (L := L.take i) fun l hl => (hb l (var hl)).2
   rw [lTk] at h3
   have h4 : ((L.take i).flatMap zLn).length <= 100000000000 := by
    refine vaR h3 ?_
    have : min i L.length <= 1000 := by omega
    omega
   have h5 : (Lib.join ((L.getD i []).map (·.data.toList)) [32]).length <= 100000000 := by unfold zLn at h2; rw [lAp] at h2; omega
   have hj : strings_Join.f (L.getD i []) (vab #[32]) = some (bA (Lib.join ((L.getD i []).map (·.data.toList)) [32])) := by
    unfold strings_Join.f
    rw [show (vab #[32]).data.toList = [32] from rfl,if_pos ⟨by omega,by omega⟩]; rfl
   rw [qjj hi ([] : List ByteArray),vaq,vai,vam,vah] at ih
   rw [qbb.l1,ifp,ifp,tNc,if_pos hi,hj,obs,WS_f _ _ (by rw [qbp]; omega) (by omega),obs]
   dsimp only
   rw [qjW,WS_f _ _ (by decide) (by rw [lAp]; omega),obs]
   dsimp only
   rw [qau hi (by omega),aAs]
   exact ih) k (by omega)
 rw [vau] at this
 exact this
theorem qqd (l : List UInt8) : u8s (ints l) = l := by
 unfold u8s ints
 rw [List.map_map]
 have : ((fun x : Int => UInt8.ofNat x.toNat) ∘ fun b : UInt8 => (b.toNat : Int)) = id := by
  funext b; simp
 rw [this,List.map_id]
theorem qoT {l : List UInt8} (h : l ≠ []) : strings_Builder_String.f (ints l) = some (bA l) := by
 unfold strings_Builder_String.f
 rw [if_pos ⟨by unfold ints; simpa using h,fun x hx => by
  obtain ⟨b,_,rfl⟩ := vaJ.1 hx
  have := b.toNat_lt
  omega⟩,qqd]; rfl
theorem qlX (w : ByteArray) (l : List ByteArray) (m : LI) (hr : ∀ n ∈ m,rng n) (h : ∀ x ∈ l,x.size <= 100000) (hw : w.size <= 100000) (hl : l.length <= 2) : (zLn (w :: (l ++ m.map zNum))).length <= 400000 + 22 * m.length := by
 have h1 := qdq hr
 have h2 : (tl l).length <= 200002 := by
  match l,hl with
  | [],_ => simp [tl]
  | [a],_ =>
   have := h a (by simp)
   have e : a.data.toList.length = a.size := vac
   simp only [tl,vai,vam,vah,lCo,e]; omega
  | [a,b],_ =>
   have h3 := h a (by simp); have h4 := h b (by simp)
   have e : a.data.toList.length = a.size := vac
   have e' : b.data.toList.length = b.size := vac
   simp only [tl,vai,vam,vah,lCo,lAp,e,e']; omega
 have e : w.data.toList.length = w.size := vac
 rw [qhs,qiN,ql3]
 simp only [lAp,lSi,e]; omega
theorem qgy {s : LI} {nm : ByteArray} {N : List Nd} {O : LI} (h : (zShs s nm N O).1 = 0) : s.length <= 3 /\ N.length <= 48 /\ O.length <= 48 /\ (zShs s nm N O).2.length = N.length /\ zShs s nm N O = zGo (rs nm) N [] /\ (∀ x ∈ O,0 <= x /\ x < (N.length : Int)) := by
 unfold zShs at h ⊢
 by_cases c1 : zMs s (rs nm) = true
 rotate_left
 ·rw [if_neg c1] at h; cases h
 rw [if_pos c1] at h ⊢
 by_cases c2 : 48 < N.length
 ·rw [if_pos c2] at h; cases h
 rw [if_neg c2] at h ⊢
 by_cases c3 : 48 < O.length
 ·rw [if_pos c3] at h; cases h
 rw [if_neg c3] at h ⊢
 by_cases c4 : (zGo (rs nm) N []).1 = 0
 rotate_left
 ·rw [if_neg c4] at h; exact absurd h c4
 rw [if_pos c4] at h ⊢
 by_cases c5 : O.all (fun k => decide (0 <= k /\ k < (N.length : Int))) = true
 rotate_left
 ·rw [if_neg c5] at h; cases h
 rw [if_pos c5]
 have h6 := qjg (rs nm) N [] c4
 refine ⟨?_,by omega,by omega,by simpa using h6,rfl,fun x hx => by simpa using vaD.1 c5 x hx⟩
 unfold zMs zNR at c1
 simp only [bAt,decide_eq_true_eq] at c1
 omega
theorem qqX {s : LI} {nm : ByteArray} {N : List Nd} {O : LI} (hw : wtG s nm N O) {S : List LI} (hs : s.length <= 3) (hN : N.length <= 48) (hO : O.length <= 48) (hS : S.length = N.length) :
  (zLs s nm N O S).length = N.length + 2 /\ ∀ l ∈ zLs s nm N O S,l.length <= 10000000 /\ (zLn l).length <= 100000000 := by
 have hl := qgz (nm := nm) hS
 refine ⟨by unfold zLs; simp only [lAp,lSi,hl]; omega,fun l h => ?_⟩
 unfold zLs at h
 rcases vap.1 h with h | h
 ·rcases vap.1 h with h | h
  ·rw [vaf] at h; subst h
   have hnm := hw.nm
   have h5 : (if nm = vaa then bA [45] else nm).size <= 100000 := by
    by_cases c : nm = vaa
    ·rw [if_pos c]; decide
    ·rw [if_neg c]; exact hnm
   refine ⟨by unfold zHd; simp only [lAp,lCo,vad,vae]; omega,?_⟩
   have := qlX (bA mesh5) [if nm = vaa then bA [45] else nm] s hw.rs (fun x hx => by rw [vaf] at hx; rw [hx]; exact h5) (by decide) (by simp)
   unfold zHd
   rw [vaw]
   omega
  ·obtain ⟨i,hi,rfl⟩ := vaB h
   have hi' : i < N.length := by rw [<- hl]; exact hi
   have hx := hw.n _ (qak hi' nd0)
   have e : (zNs nm N S)[i] = zWds nm (N.getD i nd0) ((S.getD i []).length : Int) := by
    rw [<- qhH hS hi',gDg,vaj hi]; rfl
   rw [e]
   have h1 := hx.i; have h2 := hx.s; have h3 := hx.a
   refine ⟨by simp only [zWds,lst,lAp,lCo,vad,vae]; omega,?_⟩
   have := qfD nm _ ((S.getD i []).length : Int) hx
   omega
 ·rw [vaf] at h; subst h
  refine ⟨by unfold zOt; simp only [lAp,lCo,vad,vae]; omega,?_⟩
  have := qlX (bA outs4) [] O hw.ro (fun x hx => by cases hx) (by decide) (by simp)
  unfold zOt
  rw [nAp] at this
  rw [vak]; omega
theorem qla {s : LI} {nm : ByteArray} {N : List Nd} {O : LI} (hw : wtG s nm N O) (k : Nat) (hk : 500000 <= k) :
  qbb.f k s nm N O = some (if (zShs s nm N O).1 = 0 then zTx2 s nm N O (zShs s nm N O).2 else (vaa,(zShs s nm N O).1)) := by
 unfold qbb.f
 rw [qft s nm N O hw.nm (fun x hx => (hw.n x hx).ok) k (by omega),obs]
 by_cases h0 : (zShs s nm N O).1 = 0
 rotate_left
 ·rw [if_neg h0,if_neg h0]
 obtain ⟨h1,h2,h3,h4,_,_⟩ := qgy h0
 rw [if_pos h0,if_pos h0]
 generalize (zShs s nm N O).2 = S at h4
 obtain ⟨g1,g2⟩ := qqX hw h1 h2 h3 h4
 have hl := qgz (nm := nm) h4
 have e5 : (if nm = vaa then bA [45] else nm) = (if nm = vaa then bA [45] else nm) := rfl
 have hT : (zTB s nm N O S).length <= 100000000 * 50 := by
  refine vaR (qgp (B := 100000000) fun l h => (g2 l h).2) ?_
  rw [g1]; omega
 have hne : zTB s nm N O S ≠ [] := by
  unfold zTB zLs
  rw [aAs,vak,vai,qny]
  simp [mesh5]
 have hd : [(vab #[109,101,115,104]),if nm = vaa then bA [45] else nm] ++ s.map zNum = zHd s nm := rfl
 have ho : [(vab #[111,117,116,115])] ++ O.map zNum = zOt O := rfl
 rw [qeH,obs,qd8 s (by omega) hw.rs k (by omega),obs,if_pos (by simp only [lCo,vad,vae]; omega),hd,
  qka s nm N O S h4 (by omega) hw.nm hw.n _ k (by omega),obs,qd8 O (by omega) hw.ro k (by omega),obs,if_pos (by simp only [lCo,vad,vae]; omega),ho,
  if_pos (by simp only [lAp,lSi,hl]; omega)]
 have hL : [zHd s nm] ++ zNs nm N S ++ [zOt O] = zLs s nm N O S := rfl
 rw [hL,qj9 _ (by rw [g1]; omega) g2 k (by omega),obs]
 show (qbI.f (ints (zTB s nm N O S))).bind _ = _
 unfold qbI.f
 rw [obs,qms]
 unfold zTx2
 by_cases c : 65536 < (zTB s nm N O S).length
 ·rw [ifp,if_pos c]
 ·rw [ifq,if_neg c]
  show (strings_Builder_String.f (ints (zTB s nm N O S))).bind _ = _
  rw [qoT hne]; rfl
end Go.Pf

namespace Go.Pf
open Go Go.Vm
theorem qmX (s : List UInt8) (hs : s.length ≤ 100000000000) (nm : ByteArray) (x : Nd) (rank : Int) (hx : wtN x) (F : ByteArray → Option ByteArray) (k : Nat) (hk : 500000 ≤ k) (g1 : LI) (g3 : List Nd) (g4 : LI) (hn : nm.size ≤ 100000) :
    ((qdH.f x.1).bind fun t4 => if (bA s).size + t4.size ≤ 9223372036854775807 then (qbi.f k x.2.1).bind fun t5 => if ((bA s) ++ t4).size + t5.size ≤ 9223372036854775807 then (qbi.f k x.2.2.1).bind fun t6 => if (((bA s) ++ t4) ++ t5).size + t6.size ≤ 9223372036854775807 then (qbi.f k x.2.2.2.1).bind fun t7 => if ((((bA s) ++ t4) ++ t5) ++ t6).size + t7.size ≤ 9223372036854775807 then if (((((bA s) ++ t4) ++ t5) ++ t6) ++ t7).size + (vab #[32]).size ≤ 9223372036854775807 then (qaD.f k x.2.2.2.2.1).bind fun t8 => if ((((((bA s) ++ t4) ++ t5) ++ t6) ++ t7) ++ (vab #[32])).size + t8.size ≤ 9223372036854775807 then if (((((((bA s) ++ t4) ++ t5) ++ t6) ++ t7) ++ (vab #[32])) ++ t8).size + (vab #[32]).size ≤ 9223372036854775807 then (qaD.f k x.2.2.2.2.2.1).bind fun t9 => if ((((((((bA s) ++ t4) ++ t5) ++ t6) ++ t7) ++ (vab #[32])) ++ t8) ++ (vab #[32])).size + t9.size ≤ 9223372036854775807 then if (((((((((bA s) ++ t4) ++ t5) ++ t6) ++ t7) ++ (vab #[32])) ++ t8) ++ (vab #[32])) ++ t9).size + (vab #[32]).size ≤ 9223372036854775807 then (qdG.f k g1 nm g3 g4 x.1 x.2.1 x.2.2.1 x.2.2.2.1 x.2.2.2.2.1 x.2.2.2.2.2.1 x.2.2.2.2.2.2 rank).bind fun t10 => if ((((((((((bA s) ++ t4) ++ t5) ++ t6) ++ t7) ++ (vab #[32])) ++ t8) ++ (vab #[32])) ++ t9) ++ (vab #[32])).size + t10.size ≤ 9223372036854775807 then if (((((((((((bA s) ++ t4) ++ t5) ++ t6) ++ t7) ++ (vab #[32])) ++ t8) ++ (vab #[32])) ++ t9) ++ (vab #[32])) ++ t10).size + (vab #[10]).size ≤ 9223372036854775807 then F ((((((((((((bA s) ++ t4) ++ t5) ++ t6) ++ t7) ++ (vab #[32])) ++ t8) ++ (vab #[32])) ++ t9) ++ (vab #[32])) ++ t10) ++ (vab #[10])) else none else none else none else none else none else none else none else none else none else none else none)
      = F (bA (s ++ zLn (zWds nm x rank))) := by
  have h1 := qdq hx.ri; have h2 := qdq hx.rs; have h3 := qdq hx.ra
  have l1 := hx.i; have l2 := hx.s; have l3 := hx.a
  have h4 := qeM hx.rn; have h5 := qeM hx.rh
  have h6 := qiM x.1; have h7 := qlW nm x.2.2.2.2.2.2 rank
  have s1 : (bA ([32,40] ++ zTl x.2.1 ++ [32,41])).size ≤ 3000000 := by rw [qbp]; simp only [lAp,lCo,vad]; omega
  have s2 : (bA ([32,40] ++ zTl x.2.2.1 ++ [32,41])).size ≤ 3000000 := by rw [qbp]; simp only [lAp,lCo,vad]; omega
  have s3 : (bA ([32,40] ++ zTl x.2.2.2.1 ++ [32,41])).size ≤ 3000000 := by rw [qbp]; simp only [lAp,lCo,vad]; omega
  have s0 : (bA s).size ≤ 100000000000 := hs
  have b32 : (vab #[32]).size = 1 := rfl
  have b10 : (vab #[10]).size = 1 := rfl
  rw [qku,obs,ifp,qeR _ (by omega) hx.ri k (by omega),obs]
  generalize e1 : bA ([32,40] ++ zTl x.2.1 ++ [32,41]) = L1 at s1
  rw [if_pos (by rw [qaK]; omega),qeR _ (by omega) hx.rs k (by omega),obs]
  generalize e2 : bA ([32,40] ++ zTl x.2.2.1 ++ [32,41]) = L2 at s2
  rw [if_pos (by rw [qaK,qaK]; omega),qeR _ (by omega) hx.ra k (by omega),obs]
  generalize e3 : bA ([32,40] ++ zTl x.2.2.2.1 ++ [32,41]) = L3 at s3
  rw [if_pos (by simp only [qaK]; omega),if_pos (by simp only [qaK]; omega),qbS hx.rn.1 hx.rn.2 k (by omega),obs,
    if_pos (by simp only [qaK]; omega),if_pos (by simp only [qaK]; omega),qbS hx.rh.1 hx.rh.2 k (by omega),obs,
    if_pos (by simp only [qaK]; omega),if_pos (by simp only [qaK]; omega),qkt g1 nm g3 g4 _ _ _ _ _ _ _ _ hn hx.nt k hk,obs,
    if_pos (by simp only [qaK]; omega),if_pos (by simp only [qaK]; omega)]
  congr 1
  rw [qnx,← e1,← e2,← e3]
  have c32 : vab #[32] = bA [32] := rfl
  have c10 : vab #[10] = bA [10] := rfl
  rw [c32,c10,← qnj (zName x.1),← qnj (zNW nm x.2.2.2.2.2.2 rank)]
  simp only [zNum,qfv,qjW]
  congr 1
  simp only [aAs,vaw,nAp,vak]
theorem qjB (s : LI) (nm : ByteArray) (N : List Nd) (O : LI) (S : List LI) (hS : S.length = N.length) (hN : N.length ≤ 1000) (hn : nm.size ≤ 100000) (hw : ∀ x ∈ N,wtN x) (s0 : List UInt8) (hs0 : s0.length ≤ 1000000000) (k : Nat) (hk : 500000 ≤ k) :
    qap.l1 k k (bA s0) N N.length 0 s nm N O S = some (bA (s0 ++ (zNs nm N S).flatMap zLn)) := by
  have hl := qgz (nm := nm) hS
  have := iter0 (L := fun n i y => qap.l1 k n y N N.length i s nm N O S) (st := fun i => bA (s0 ++ ((zNs nm N S).take i).flatMap zLn)) (fun _=>bA (s0 ++ (zNs nm N S).flatMap zLn)) (m := N.length) 0
    (fun n _ => by rw [qap.l1,ifq,vav (by rw [hl]; omega)])
    (fun i n hi _ ih => by
      have hx := hw _ (qak hi nd0)
      have hb : (((zNs nm N S).take i).flatMap zLn).length ≤ 100000000000 - 1000000000 := by
        have h3 := qgp (B := 9000000) (L := (zNs nm N S).take i) fun l h => by
          obtain ⟨j,hj,rfl⟩ := vaB (var h)
          have hj' : j < N.length := by rw [← hl]; exact hj
          have hy := hw _ (qak hj' nd0)
          have e : (zNs nm N S)[j] = zWds nm (N.getD j nd0) ((S.getD j []).length : Int) := by
            rw [← qhH hS hj',gDg,vaj hj]; rfl
          rw [e]
          have h1 := hy.i; have h2 := hy.s; have h3 := hy.a
          have := qfD nm _ ((S.getD j []).length : Int) hy
          omega
        rw [lTk,hl] at h3
        omega
      rw [qjj (show i < (zNs nm N S).length by rw [hl]; exact hi) ([] : List ByteArray),qhH hS hi,vaq,vai,vam,vah,← aAs] at ih
      rw [qap.l1,ifp,ifp,tNc,qau hi (by omega)]
      have p1 : 0 ≤ (i : Int) ∧ (i : Int) < (S.length : Int) := by rw [hS]; omega
      have p2 : i < S.length := by rw [hS]; exact hi
      simp only [if_pos p1,if_pos p2]
      refine (qmX _ (by rw [lAp]; omega) nm (N.getD i nd0) ((S.getD i []).length : Int) hx (fun y => qap.l1 k n y N N.length ((i + 1 : Nat) : Int) s nm N O S) k hk s N O hn).trans ?_
      exact ih) k (by omega)
  rw [vau,vam,vah] at this
  exact this
theorem qg9 {s : LI} {nm : ByteArray} {N : List Nd} {O : LI} (hw : wtG s nm N O) (k : Nat) (hk : 500000 ≤ k) :
    qap.f k s nm N O = some (if (zShs s nm N O).1 = 0 then zTx2 s nm N O (zShs s nm N O).2 else (vaa,(zShs s nm N O).1)) := by
  unfold qap.f
  rw [qd9 s nm N O hw.nm (fun x hx => (hw.n x hx).ok) k (by omega),obs]
  by_cases h0 : (zShs s nm N O).1 = 0
  rotate_left
  · rw [if_neg h0,if_neg h0]
  obtain ⟨h1,h2,h3,h4,_,_⟩ := qgy h0
  rw [if_pos h0,if_pos h0]
  generalize (zShs s nm N O).2 = S at h4
  have hl := qgz (nm := nm) h4
  have hz := qdq hw.rs; have hzo := qdq hw.ro
  have hnm := hw.nm
  -- behind the first line
  have rest : ∀ s0 : List UInt8,s0.length ≤ 1000000 → s0 ++ zTl s ++ [10] = zLn (zHd s nm) →
      ((qap.l0 k k (bA s0) (s.length : Int) 0 s nm N O S).bind fun t14 => if t14.size + (vab #[10]).size ≤ 9223372036854775807 then (qap.l1 k k (t14 ++ (vab #[10])) N (N.length : Int) 0 s nm N O S).bind fun t15 => if t15.size + (vab #[111,117,116,115]).size ≤ 9223372036854775807 then (qap.l2 k k (t15 ++ (vab #[111,117,116,115])) (O.length : Int) 0 s nm N O).bind fun t16 => if t16.size + (vab #[10]).size ≤ 9223372036854775807 then if 65536 < ((t16 ++ (vab #[10])).size : Int) then (some (vaa,3)) else some (t16 ++ (vab #[10]),(0 : Int)) else none else none else none)
        = some (zTx2 s nm N O S) := by
    intro s0 hs0 he
    have a1 := qgE s0 (fun n y i => qap.l0 k n y s.length i s nm N O S) s (by omega) hw.rs (by omega)
      (fun n y => by rw [qap.l0,ifq])
      (fun i n y hi hy => by
        have hm := hw.rs _ (qak hi 0)
        have hz := qeM hm
        rw [qap.l0,ifp,if_pos (by show _ + 1 ≤ _; omega),ifp,tNc,qbS hm.1 hm.2 k (by omega),obs,if_pos (by rw [qaK]; show _ + 1 + _ ≤ _; omega),qau hi (by omega)]
        rfl) k (by omega)
    have c10 : vab #[10] = bA [10] := rfl
    have co : vab #[111,117,116,115] = bA outs4 := rfl
    rw [a1,obs,c10,co,if_pos (by rw [qbp,qbp,lAp]; simp only [lSi]; omega),qfv,he]
    have hlen : (zLn (zHd s nm)).length ≤ 2000000 := by
      rw [← he]; simp only [lAp,lSi]; omega
    have hns : ((zNs nm N S).flatMap zLn).length ≤ 9000000 * 48 := by
      refine vaR (qgp (B := 9000000) fun l h => ?_) (by rw [hl]; omega)
      obtain ⟨j,hj,rfl⟩ := vaB h
      have hj' : j < N.length := by rw [← hl]; exact hj
      have hy := hw.n _ (qak hj' nd0)
      have e : (zNs nm N S)[j] = zWds nm (N.getD j nd0) ((S.getD j []).length : Int) := by
        rw [← qhH h4 hj',gDg,vaj hj]; rfl
      rw [e]
      have h1 := hy.i; have h2 := hy.s; have h3 := hy.a
      have := qfD nm _ ((S.getD j []).length : Int) hy
      omega
    rw [qjB s nm N O S h4 (by omega) hw.nm hw.n _ (by omega) k hk,obs,if_pos (by rw [qbp,qbp,lAp,show outs4.length = 4 from rfl]; omega),qfv]
    have a2 := qgE (zLn (zHd s nm) ++ (zNs nm N S).flatMap zLn ++ outs4) (fun n y i => qap.l2 k n y O.length i s nm N O) O (by omega) hw.ro (by simp only [lAp,show outs4.length = 4 from rfl]; omega)
      (fun n y => by rw [qap.l2,ifq])
      (fun i n y hi hy => by
        have hm := hw.ro _ (qak hi 0)
        have hz := qeM hm
        rw [qap.l2,ifp,if_pos (by show _ + 1 ≤ _; omega),ifp,tNc,qbS hm.1 hm.2 k (by omega),obs,if_pos (by rw [qaK]; show _ + 1 + _ ≤ _; omega),qau hi (by omega)]
        rfl) k (by omega)
    rw [a2,obs,if_pos (by rw [qbp,qbp]; simp only [lAp,lSi,show outs4.length = 4 from rfl]; omega),qfv,qbp]
    have hT : zLn (zHd s nm) ++ (zNs nm N S).flatMap zLn ++ outs4 ++ zTl O ++ [10] = zTB s nm N O S := by
      unfold zTB zLs
      rw [vaq,vaq,vai,vai,vam,vah,vah,qqY]
      simp only [aAs]
    rw [hT]
    unfold zTx2
    by_cases c : 65536 < (zTB s nm N O S).length
    · rw [ifp,if_pos c]
    · rw [ifq,if_neg c]
  by_cases hne : nm = vaa
  · rw [if_pos ((qfj _ _).2 hne)]
    refine rest [109,101,115,104,32,45] (by decide) ?_
    rw [qny,if_pos hne]; rfl
  · rw [if_neg (fun h => hne ((qfj _ _).1 h)),if_pos (by show 5 + _ ≤ _; omega)]
    have e : (vab #[109,101,115,104,32]) ++ nm = bA ([109,101,115,104,32] ++ nm.data.toList) := by rw [← qfv,qnj]; rfl
    have el : nm.data.toList.length = nm.size := vac
    rw [e]
    refine rest _ (by simp only [lAp,lCo,vad,el]; omega) ?_
    rw [qny,if_neg hne]
    simp [mesh5]
end Go.Pf

namespace Go.Pf
open Go Go.Vm
def sml (l : LI) : Prop := ∀ x ∈ l,0 <= x /\ x <= 32
theorem qfE : sml [] := fun x h => by cases h
theorem qnR {l : LI} (h : l.length = 0) : sml l := by rw [List.eq_nil_of_length_eq_zero h]; exact qfE
theorem qle {l : LI} (h : l.length = 1) (h1 : 0 <= l.getD 0 0 /\ l.getD 0 0 <= 32) : sml l := by
 match l,h with
 | [x],_ => intro y hy; rw [vaf] at hy; subst hy; exact h1
theorem qnS {s : LI} (h : mSR s = true) : sml s := fun x hx => by have := (qal h).2.1 x hx; omega
theorem qqa {op : Int} {ls la : Nat} {n h m : Int} (hF : zF op ls la n h m = true) : ∃ lo more s a v w,tq op = some (lo,more,s,a,v,w) /\ (s = false -> ls = 0) /\ (a = false -> la = 0) /\ (v = false -> n = 0) /\ (w = false -> h = 0) := by
 unfold zF at hF
 cases ht : tq op with
 | none => rw [ht] at hF; cases hF
 | some t =>
  obtain ⟨lo,more,s,a,v,w⟩ := t
  rw [ht] at hF
  simp only [bAt,Bool.or_eq_true,decide_eq_true_eq] at hF
  obtain ⟨⟨⟨⟨⟨_,_⟩,h1⟩,h2⟩,h3⟩,h4⟩ := hF
  exact ⟨lo,more,s,a,v,w,rfl,fun e => by subst e; simpa using h1,fun e => by subst e; simpa using h2,fun e => by subst e; simpa using h3,fun e => by subst e; simpa using h4⟩
theorem qpB : ∀ {s f z : LI},sml s -> zSl s f z = true -> sml f /\ sml z
 | [],[],[],_,_ => ⟨qfE,qfE⟩
 | a :: s,f :: fr,z :: sz,h,hz => by
  obtain ⟨h1,h2⟩ := qca.1 hz
  obtain ⟨h3,h4⟩ := qpB (fun x hx => h x (mCm _ hx)) h2
  have := h a (vax ..)
  exact ⟨fun x hx => (vag.1 hx).elim (fun e => by rw [e]; omega) (h3 x),fun x hx => (vag.1 hx).elim (fun e => by rw [e]; omega) (h4 x)⟩
 | [],[],_ :: _,_,h | [],_ :: _,[],_,h | [],_ :: _,_ :: _,_,h | _ :: _,[],_,_,h | _ :: _,_ :: _,[],_,h => by cases h
theorem qnv : ∀ {s f z : LI},zMay s f z = true -> sml f /\ sml z
 | [],[],[],_ => ⟨qfE,qfE⟩
 | a :: s,f :: fr,z :: sz,hz => by
  obtain ⟨⟨h1,h5⟩,h2⟩ := qcb.1 hz
  obtain ⟨h3,h4⟩ := qnv h2
  exact ⟨fun x hx => (vag.1 hx).elim (fun e => by rw [e]; omega) (h3 x),fun x hx => (vag.1 hx).elim (fun e => by rw [e]; omega) (h4 x)⟩
 | [],[],_ :: _,h | [],_ :: _,[],h | [],_ :: _,_ :: _,h | _ :: _,[],_,h | _ :: _,_ :: _,[],h => by cases h
theorem qpA {o : LI} (ho : o.length <= 4) : ∀ {l : Int} {s a : LI},-1 <= l -> zWi o l s a = true -> sml a
 | _,[],[],_,_ => qfE
 | l,x :: s,k :: a,hl,h => by
  obtain ⟨h1,h2⟩ := qdg.1 h
  have := qpA ho (show -1 <= k by omega) h2
  exact fun y hy => (vag.1 hy).elim (fun e => by rw [e]; omega) (this y)
 | _,[],_ :: _,_,h | _,_ :: _,[],_,h => by cases h
theorem qpE {m : Int} (hm : m <= 4) : ∀ {l : Int} {a : LI},-1 <= l -> zRi m l a = true -> sml a
 | _,[],_,_ => qfE
 | l,k :: a,hl,h => by
  obtain ⟨h1,h2⟩ := qcB.1 h
  have := qpE hm (show -1 <= k by omega) h2
  exact fun y hy => (vag.1 hy).elim (fun e => by rw [e]; omega) (this y)
theorem qpI {a : LI} (n : Nat) (h1 : sml (a.take n)) (h2 : sml (a.drop n)) : sml a := fun x hx => by
 rw [<- vaQ n a] at hx
 rcases vap.1 hx with hx | hx
 ·exact h1 x hx
 ·exact h2 x hx
theorem qnr {op : Int} {s a : LI} {n h : Int} {l : List LI} (e : (zSh op s a n h l).1 = 0) : sml s /\ sml a /\ 0 <= h /\ h <= 4 := by
 unfold zSh at e
 by_cases hF : zF op s.length a.length n h l.length = true
 rotate_left
 ·rw [if_neg hF] at e; simp at e
 rw [if_pos hF] at e
 by_cases hA : l.all mSR = true
 rotate_left
 ·rw [if_neg hA] at e; simp at e
 rw [if_pos hA] at e
 have hR : mSR (l.getD 0 []) = true := by
  cases l with
  | nil => decide
  | cons x l => exact vaD.1 hA x (vax ..)
 have hl4 := (qal hR).1
 have hsm := qnS hR
 obtain ⟨lo,more,fs,fa,fv,fw,ht,z1,z2,z3,z4⟩ := qqa hF
 have n1 : ∀ {p : Prop} [Decidable p] {x : Int × LI} {c : Int},c ≠ 0 -> (if p then x else (c,([] : LI))).1 = 0 -> p /\ x.1 = 0 := fun hc h => by
  split at h
  ·exact ⟨‹_›,h⟩
  ·exact absurd h hc
 unfold zShape at e
 rcases qd3 op with rfl | rfl | rfl | rfl | rfl | rfl | rfl | rfl | rfl | rfl | rfl | rfl | rfl | rfl | rfl | rfl | rfl | rfl | rfl | rfl | hout
 case inr.inr.inr.inr.inr.inr.inr.inr.inr.inr.inr.inr.inr.inr.inr.inr.inr.inr.inr.inr => rw [qkf hout] at ht; cases ht
 all_goals
  simp only [tq,Int.reduceEq,reduceIte,or_self,or_true,true_or,Int.reduceLE,and_true,and_self,true_and,false_and,and_false,or_false,false_or,Option.some.injEq,Prod.mk.injEq] at ht e
  obtain ⟨_,_,rfl,rfl,rfl,rfl⟩ := ht
 all_goals try (have hs0 := qnR (z1 rfl))
 all_goals try (have ha0 := qnR (z2 rfl))
 all_goals try (have hh0 := z4 rfl)
 all_goals try exact ⟨hs0,ha0,by omega,by omega⟩
 ·exact ⟨qnS (n1 (by decide) e).1,ha0,by omega,by omega⟩
 ·exact ⟨qnS (n1 (by decide) e).1,ha0,by omega,by omega⟩
 ·obtain ⟨h1,h2⟩ := n1 (by decide) e
  have h3 := (n1 (by decide) h2).1
  have := (qal h1).1
  exact ⟨qnS h1,qle h3.1 (by omega),by omega,by omega⟩
 ·have h1 := qfd.1 (n1 (by decide) e).1
  exact ⟨hs0,fun x hx => by have := h1.mem x hx; omega,by omega,by omega⟩
 ·obtain ⟨h1,h2⟩ := n1 (by decide) e
  have h3 := (n1 (by decide) h2).1
  exact ⟨qnS h1,qpA (qal h1).1 (by omega) h3,by omega,by omega⟩
 ·have h1 := (n1 (by decide) e).1
  obtain ⟨h2,h3⟩ := qpB hsm h1.2
  exact ⟨hs0,qpI _ h2 h3,by omega,by omega⟩
 ·have h1 := (n1 (by decide) e).1
  obtain ⟨h2,h3⟩ := qnv h1.2
  exact ⟨hs0,qpI _ h2 h3,by omega,by omega⟩
 ·obtain ⟨h1,h2⟩ := n1 (by decide) e
  have h3 : 0 <= a.getD 0 0 /\ a.getD 0 0 < ((l.getD 0 []).length : Int) := by
   unfold zJs at h2
   by_cases c : l = [] \/ a.getD 0 0 < 0 \/ ((l.getD 0 []).length : Int) <= a.getD 0 0
   ·rw [if_pos c] at h2; cases h2
   ·omega
  exact ⟨hs0,qle h1 (by omega),by omega,by omega⟩
 ·obtain ⟨h1,h2⟩ := n1 (by decide) e
  have h3 := (n1 (by decide) h2).1
  exact ⟨hs0,qpE (by omega) (by omega) h3,by omega,by omega⟩
 ·obtain ⟨h1,h2⟩ := n1 (by decide) e
  have h3 : 0 <= a.getD 0 0 /\ a.getD 0 0 < ((l.getD 0 []).length : Int) := by
   unfold zDS at h2
   by_cases c : a.getD 0 0 < 0 \/ ((l.getD 0 []).length : Int) <= a.getD 0 0 \/ ((l.getD 1 []).length : Int) <= a.getD 0 0
   ·rw [if_pos c] at h2; cases h2
   ·omega
  exact ⟨hs0,qle h1 (by omega),by omega,by omega⟩
 ·have h1 := (n1 (by decide) e).1
  obtain ⟨h2,⟨h3,h4,h5⟩,h6⟩ := h1
  refine ⟨hs0,?_,by omega,by omega⟩
  match a,h2 with
  | [x,y,z],_ =>
   simp only [vaG,List.getD_cons_succ] at h4 h5 h6
   intro v hv
   rcases vag.1 hv with rfl | hv
   ·omega
   rcases vag.1 hv with rfl | hv
   ·omega
   rw [vaf] at hv; subst hv; omega
end Go.Pf

namespace Go.Pf
open Go Go.Vm
def Giv {α : Type} (p : α -> Prop) (o : Option α) : Prop := ∀ r,o = some r -> p r
theorem Giv.none {α : Type} {p : α -> Prop} : Giv p none := fun _ h => by cases h
theorem Giv.some {α : Type} {p : α -> Prop} {x : α} (h : p x) : Giv p (some x) := fun _ e => by cases e; exact h
theorem Giv.bind {α β : Type} {p : β -> Prop} {o : Option α} {f : α -> Option β} (h : ∀ x,o = Option.some x -> Giv p (f x)) : Giv p (o.bind f) := fun r e => by
 cases ho : o with
 | none => rw [ho] at e; cases e
 | some x => rw [ho] at e; exact h x ho r e
theorem Giv.ite {α : Type} {p : α -> Prop} {c : Prop} [Decidable c] {x y : Option α} (h1 : c -> Giv p x) (h2 : ¬ c -> Giv p y) : Giv p (if c then x else y) := by
 split
 ·exact h1 ‹_›
 ·exact h2 ‹_›
theorem rng0 : rng 0 := by unfold rng; omega
theorem qqu (L : LI) (p : Int) : Giv (fun r => rng r.1) (qbc.f L p) := by
 unfold qbc.f
 refine Giv.bind fun t1 _ => Giv.ite (fun _=>Giv.bind fun t2 _ => Giv.ite (fun h => Giv.ite (fun h' => Giv.some ?_) fun _=>Giv.none) fun _=>Giv.none) fun _=>Giv.ite (fun _=>Giv.some rng0) fun _=>Giv.bind fun t3 _ => Giv.some (qkM _)
 dsimp only
 have hm := qak h' 0
 generalize List.getD _ _ _ = x at hm
 unfold rng
 simp only [vag,List.not_mem_nil,or_false] at hm
 omega
theorem qmF (k : Nat) : ∀ (n : Nat) (x1 : List LI) (x2 : Int) (x7 : LI) (x8 x9 x10 : Int) (L : LI) (p y0 y1 y2 : Int) (y3 : ByteArray),Giv (fun r => Sum.elim (fun _=>True) (fun t => rng t.2.1) r) (qan.l1 k n x1 x2 x7 x8 x9 x10 L p y0 y1 y2 y3)
 | 0,_,_,_,_,_,_,_,_,_,_,_,_ => by unfold qan.l1; exact Giv.none
 | n + 1,_,_,_,_,_,_,_,_,_,_,_,_ => by
  unfold qan.l1
  have ih := qmF k n
  exact Giv.ite (fun _=>Giv.ite (fun _=>Giv.bind fun t2 _ => Giv.ite (fun _=>Giv.bind fun t3 _ => Giv.ite (fun _=>Giv.some rng0) fun _=>ih _ _ _ _ _ _ _ _ _ _ _ _) fun _=>ih _ _ _ _ _ _ _ _ _ _ _ _) fun _=>Giv.none) fun _=>Giv.some trivial
theorem qmG (k : Nat) : ∀ (n : Nat) (x1 : List LI) (x2 : Int) (x7 : LI) (x8 : Int) (L : LI) (p y0 y1 y2 : Int) (y3 : ByteArray),Giv (fun r => Sum.elim (fun _=>True) (fun t => rng t.2.2.1) r) (qan.l0 k n x1 x2 x7 x8 L p y0 y1 y2 y3)
 | 0,_,_,_,_,_,_,_,_,_,_ => by unfold qan.l0; exact Giv.none
 | n + 1,_,_,_,_,_,_,_,_,_,_ => by
  unfold qan.l0
  have ih := qmG k n
  refine Giv.ite (fun _=>Giv.bind fun t1 _ => Giv.ite (fun _=>Giv.bind fun t4 h4 => ?_) fun _=>Giv.none) fun _=>Giv.some trivial
  have h := qmF _ _ _ _ _ _ _ _ _ _ _ _ _ _ _ h4
  cases t4 with
  | inl u => exact ih _ _ _ _ _ _ _ _ _ _
  | inr u => exact Giv.some h
theorem qqJ (k : Nat) (S : List LI) (a : Int) (L : LI) (p : Int) : Giv (fun r => rng r.2.1) (qan.f k S a L p) := by
 unfold qan.f
 refine Giv.ite (fun _=>Giv.bind fun t5 h5 => ?_) fun _=>Giv.none
 have h := qmG _ _ _ _ _ _ _ _ _ _ _ _ _ h5
 cases t5 with
 | inl u => exact Giv.some rng0
 | inr u => exact Giv.some h
set_option maxRecDepth 100000 in
theorem qo9 (S : List LI) (L : LI) (p : Int) (k : Nat) : Giv (fun r => rng r.2.2.2.1) (qad.f k S L p) := by
 unfold qad.f
 repeat' first
  | exact Giv.none
  | exact Giv.some rng0
  | (refine Giv.some ?_; dsimp only; exact qqu _ _ _ (by assumption))
  | refine Giv.ite (fun _=>?_) (fun _=>?_)
  | refine Giv.bind fun _ _ => ?_
  | (refine Giv.some ?_; dsimp only; exact qqJ _ _ _ _ _ _ (by assumption))
theorem qi2 (k : Nat) : ∀ (n : Nat) (x6 : Int) (y0 : ByteArray) (L : LI) (p : Int) (y2 : ByteArray) (S : List LI) (y4 : LI) (N : List Nd),(∀ x ∈ N,rng x.2.2.2.2.1) ->
  Giv (fun r => ∀ x ∈ r.2.2,rng x.2.2.2.2.1) (qar.l0 k n x6 y0 L p y2 S y4 N)
 | 0,_,_,_,_,_,_,_,_,_ => by unfold qar.l0; exact Giv.none
 | n + 1,x6,y0,L,p,y2,S,y4,N,h => by
  unfold qar.l0
  have ih := qi2 k n
  refine Giv.ite (fun _=>Giv.bind fun t3 h3 => ?_) fun _=>Giv.some h
  have hr : rng t3.2.2.2.1 := qo9 _ _ _ _ _ h3
  have snoc : ∀ (x : Nd),x.2.2.2.2.1 = t3.2.2.2.1 -> ∀ y ∈ N ++ [x],rng y.2.2.2.2.1 := fun x e y hy => by
   rcases vap.1 hy with hy | hy
   ·exact h y hy
   ·rw [vaf] at hy; rw [hy,e]; exact hr
  refine Giv.bind fun t4 _ => Giv.bind fun t5 _ => Giv.ite (fun _=>Giv.bind fun t6 _ => Giv.ite (fun _=>ih _ _ _ _ _ _ _ _ h) fun _=>Giv.bind fun t7 _ => Giv.ite (fun _=>Giv.bind fun t8 _ => Giv.bind fun t9 _ => Giv.ite (fun _=>Giv.ite (fun _=>ih _ _ _ _ _ _ _ _ (snoc _ rfl)) fun _=>Giv.none) fun _=>Giv.none)
   fun _=>Giv.ite (fun _=>Giv.ite (fun _=>ih _ _ _ _ _ _ _ _ (snoc _ rfl)) fun _=>Giv.none) fun _=>Giv.none) fun _=>ih _ _ _ _ _ _ _ _ h
theorem qou (L : LI) (k : Nat) : Giv (fun r => ∀ x ∈ r.2.2.1,rng x.2.2.2.2.1) (qar.f k L) := by
 unfold qar.f
 exact Giv.bind fun t1 _ => Giv.bind fun t2 _ => Giv.bind fun t10 h10 => Giv.bind fun t11 _ => Giv.bind fun t14 _ => Giv.some (qi2 _ _ _ _ _ _ _ _ _ _ (fun _ h => by cases h) _ h10)
theorem qjr {l : LI} (h : sml l) : ∀ n ∈ l,rng n := fun n hn => by have := h n hn; unfold rng; omega
theorem qnB {out : List LI} : ∀ {l : LI} {r : List LI},zIn out l = some r -> ∀ x ∈ l,0 <= x /\ x < (out.length : Int)
 | [],_,_,x,hx => by cases hx
 | y :: l,r,h,x,hx => by
  rw [zIn] at h
  split at h
  ·cases h
  ·rename_i hc
   cases e : zIn out l with
   | none => rw [e] at h; cases h
   | some q =>
    rcases vag.1 hx with rfl | hx
    ·omega
    ·exact qnB e x hx
theorem qnt {nm : LI} {out : List LI} {x : Nd} (h : (zNd nm out x).1 = 0) : (∀ n ∈ x.2.1,0 <= n /\ n < (out.length : Int)) /\ sml x.2.2.1 /\ sml x.2.2.2.1 /\ 0 <= x.2.2.2.2.2.1 /\ x.2.2.2.2.2.1 <= 4 := by
 unfold zNd at h
 cases e : zIn out x.2.1 with
 | none => rw [e] at h; cases h
 | some l =>
  rw [e] at h
  dsimp only at h
  by_cases c : (zSh x.1 x.2.2.1 x.2.2.2.1 x.2.2.2.2.1 x.2.2.2.2.2.1 l).1 = 0
  ·exact ⟨qnB e,qnr c⟩
  ·rw [if_neg c] at h; exact absurd h c
theorem qhJ {nm : LI} : ∀ {N : List Nd} {out : List LI},(zGo nm N out).1 = 0 -> ∀ x ∈ N,(∀ n ∈ x.2.1,0 <= n /\ n < ((out.length + N.length : Nat) : Int)) /\ sml x.2.2.1 /\ sml x.2.2.2.1 /\ 0 <= x.2.2.2.2.2.1 /\ x.2.2.2.2.2.1 <= 4
 | [],_,_,x,hx => by cases hx
 | y :: N,out,h,x,hx => by
  rw [zGo] at h
  by_cases c : (zNd nm out y).1 = 0
  ·rw [if_pos c] at h
   rcases vag.1 hx with rfl | hx
   ·obtain ⟨h1,h2⟩ := qnt c
    exact ⟨fun n hn => by have := h1 n hn; rw [lCo]; omega,h2⟩
   ·obtain ⟨h1,h2⟩ := qhJ h x hx
    exact ⟨fun n hn => by have := h1 n hn; rw [lAp,lSi] at this; rw [lCo]; omega,h2⟩
  ·rw [if_neg c] at h; exact absurd h c
theorem qqe {L : LI} (T : Tp L) (k : Nat) (hk : 500000 <= k) : ∃ nm sz N O S,qar.f k L = some (nm,sz,N,O) /\ MeshOK nm sz /\ GrOK (rs nm) S N /\ N.length <= 10 /\ O.length <= 10 /\ (∀ x ∈ O,0 <= x /\ x < (N.length : Int)) /\ wtG sz nm N O /\ zShs sz nm N O = (0,S) := by
 obtain ⟨nm,sz,N,O,S,e,hm,hG,h1,h2,h3⟩ := qmQ T k (by omega)
 have hr := qou L k _ e
 have hz := GrOK.shs hm hG (by omega) (by omega : O.length <= 48) h3
 have h0 : (zGo (rs nm) N []).1 = 0 := by rw [hG.go]
 refine ⟨nm,sz,N,O,S,e,hm,hG,h1,h2,h3,⟨fun x hx => ?_,by have := hm.size; omega,fun n hn => ?_,fun n hn => ?_⟩,hz⟩
 ·obtain ⟨a1,a2,a3,a4⟩ := hG.ti x hx
  obtain ⟨b1,b2,b3,b4,b5⟩ := qhJ h0 x hx
  exact ⟨by omega,by omega,by omega,by omega,fun n hn => by have := b1 n hn; rw [vad] at this; unfold rng; omega,qjr b2,qjr b3,hr x hx,by unfold rng; omega⟩
 ·have := hm.right.1
  have h5 := vaD.1 (qgH this).2.1 n hn
  unfold okD at h5
  simp only [bAt,decide_eq_true_eq] at h5
  unfold rng; omega
 ·have := h3 n hn; unfold rng; omega
end Go.Pf

namespace Go.Pf
open Go Go.Vm
theorem qp1 {e : Nat} (he : 1 <= e) {u : Nat} (h : u < 10 ^ e) : (Lib.decDigits u).length <= e := by
 rw [Lib.decDigits_length]
 induction e generalizing u with
 | zero => omega
 | succ e ih =>
  by_cases h10 : u < 10
  ·rw [Lib.nDigits_small h10]; omega
  ·rw [Lib.nDigits_big h10]
   have he' : 1 <= e := by rcases e with _ | e; (· simp at h; omega); omega
   have := ih he' (u := u / 10) (by rw [vaL] at h; omega); omega
theorem qoD (u : Nat) : 1 <= (Lib.decDigits u).length := by rw [Lib.decDigits_length]; exact Lib.nDigits_pos u
theorem qgK {n : Int} (h : rng n) : (Lib.itoa n).length <= 20 := by
 obtain ⟨h1,h2⟩ := h
 unfold Lib.itoa
 split
 ·have := qp1 (e := 19) (by omega) (u := n.natAbs) (by omega); simp only [lCo]; omega
 ·have := qp1 (e := 19) (by omega) (u := n.toNat) (by omega); omega
theorem qmr (n : Int) : 1 <= (Lib.itoa n).length := by
 unfold Lib.itoa; split
 ·simp
 ·exact qoD _
theorem qd7 (d : Nat) (h : d < 10) : (UInt8.ofNat (48 + d)).toNat = 48 + d := by
 rw [UInt8.toNat_ofNat']; omega
theorem qrv (u : Nat) : ∀ c ∈ Lib.decDigits u,48 <= c.toNat /\ c.toNat <= 57 := by
 induction u using vaE with
 | _ u ih =>
  intro c hc
  rw [Lib.decDigits] at hc
  split at hc
  ·simp only [vaf] at hc; subst hc; rw [qd7 _ (by omega)]; omega
  ·rcases vap.1 hc with hc | hc
   ·exact ih _ (by omega) c hc
   ·simp only [vaf] at hc; subst hc; rw [qd7 _ (by omega)]; omega
theorem pU_dd (M : Nat) (hM : M < 18446744073709551616) (u : Nat) : ∀ r : List UInt8,u <= M -> Lib.parseUintM M 0 (Lib.decDigits u ++ r) = Lib.parseUintM M u r := by
 induction u using vaE with
 | _ u ih =>
  intro r hu
  by_cases h10 : u < 10
  ·rw [Lib.decDigits,dif_pos h10,vak,Lib.parseUintM,qd7 _ h10,ifp,ifq,ifq]
   congr 1; omega
  ·rw [Lib.decDigits,dif_neg h10,aAs,ih (u / 10) (by omega) _ (by omega),vak,Lib.parseUintM,qd7 _ (by omega),ifp,ifq,ifq]
   congr 1; omega
theorem qpO {u : Nat} (h : u < 18446744073709551616) : Lib.parseUintB 64 (Lib.decDigits u) = .ok u := by
 unfold Lib.parseUintB
 rw [if_neg (fun h => by have := qoD u; rw [h] at this; simp at this)]
 have := pU_dd (2 ^ 64 - 1) (by decide) u [] (by omega)
 rw [vah] at this
 rw [this]; rfl
theorem qlL (u : Nat) : ∃ c r,Lib.decDigits u = c :: r /\ 48 <= c.toNat /\ c.toNat <= 57 := by
 have h1 := qoD u; have h2 := qrv u
 cases h : Lib.decDigits u with
 | nil => rw [h] at h1; simp at h1
 | cons c r => rw [h] at h2; exact ⟨c,r,rfl,h2 c (by simp)⟩
theorem qra {r : List UInt8} {u : Nat} (h : Lib.parseUintB 64 r = .ok u) (hu : u <= 9223372036854775808) : Lib.parseIntB 64 (45 :: r) = .ok (-(u : Int)) := by
 unfold Lib.parseIntB
 dsimp only
 rw [if_pos (show (45 : UInt8).toNat = 43 \/ (45 : UInt8).toNat = 45 from .inr rfl),h]
 dsimp only
 rw [if_neg (fun h => h.1 rfl),if_neg (fun h => by have := h.2; omega),if_pos (show (45 : UInt8).toNat = 45 from rfl)]
theorem qq9 {c : UInt8} {r : List UInt8} {u : Nat} (h1 : 48 <= c.toNat) (h2 : c.toNat <= 57) (h : Lib.parseUintB 64 (c :: r) = .ok u) (hu : u < 9223372036854775808) : Lib.parseIntB 64 (c :: r) = .ok (u : Int) := by
 unfold Lib.parseIntB
 dsimp only
 rw [if_neg (show ¬ (c.toNat = 43 \/ c.toNat = 45) by omega),h]
 dsimp only
 rw [if_neg (fun h => by have := h.2; omega),if_neg (fun h => by have := h.1; omega),ifq]
theorem qqr {n : Int} (h : rng n) : Lib.parseIntB 64 (Lib.itoa n) = .ok n := by
 obtain ⟨h1,h2⟩ := h
 unfold Lib.itoa
 by_cases hn : n < 0
 ·rw [if_pos hn,qra (qpO (u := n.natAbs) (by omega)) (by omega)]
  congr 1; omega
 ·rw [if_neg hn]
  obtain ⟨c,r,e,hc1,hc2⟩ := qlL n.toNat
  have hp := qpO (u := n.toNat) (by omega)
  rw [e] at hp ⊢
  rw [qq9 hc1 hc2 hp (by omega)]
  congr 1; omega
theorem qpS {l : List UInt8} {v : Int} (h : Lib.parseIntB 64 l = .ok v) : rng v := by
 unfold Lib.parseIntB at h
 split at h
 ·cases h
 ·rename_i c r
  split at h
  ·cases h
  ·cases h
  ·rename_i u _
   simp only at h
   split at h
   ·cases h
   ·split at h
    ·cases h
    ·rename_i h1 h2
     cases h
     unfold rng
     by_cases hc : c.toNat = 45
     ·rw [if_pos hc]; simp [hc] at h2; omega
     ·rw [if_neg hc]; simp [hc] at h1; omega
def zVal (s : ByteArray) : Option Int := match Lib.parseIntB 64 s.data.toList with
 | .ok v => if zNum v = s then some v else none
 | _ => none
theorem qlQ {n : Int} (h : rng n) : zVal (zNum n) = some n := by
 unfold zVal zNum
 rw [qjW,qqr h]
 simp
theorem qeK {s : ByteArray} {n : Int} (h : zVal s = some n) : s = zNum n /\ rng n := by
 unfold zVal at h
 split at h
 ·rename_i v hv
  split at h
  ·rename_i he; cases h; exact ⟨he.symm,qpS hv⟩
  ·cases h
 ·cases h
theorem qeL {s : ByteArray} (h : ∀ n,rng n -> s ≠ zNum n) : zVal s = none := by
 cases e : zVal s with
 | none => rfl
 | some n => exact absurd (qeK e).1 (h n (qeK e).2)
def zV2 (s : ByteArray) : Int × Bool := match zVal s with | some n => (n,true) | none => (0,false)
theorem qjh (s : ByteArray) (hs : s.size <= 281474976710656) : qdK.f s = some (zV2 s) := by
 unfold qdK.f strconv_ParseInt.f zV2 zVal
 rw [if_pos ⟨rfl,rfl,hs⟩,obs]
 cases h : Lib.parseIntB 64 s.data.toList with
 | ok v =>
  have hr := qpS h
  dsimp only
  rw [if_neg (by decide),qds hr.1 hr.2,obs,qbP]
  by_cases he : zNum v = s
  ·rw [decide_eq_true he,if_pos rfl,if_pos he]
  ·rw [decide_eq_false he,if_neg (by decide),if_neg he]
 | «syntax» => rfl
 | range => rfl
theorem qcz (s : ByteArray) (hs : s.size <= 281474976710656) : qcq.f s = some (zV2 s) := by
 unfold qcq.f; rw [qjh s hs]; rfl
theorem qn5 (s : ByteArray) (x : Int) (i n : Nat) (d : Nat) (hd : d < 10) (hi : i < s.size) (hb : s.size <= 100000) (hc : s.data.toList.getD i 0 = UInt8.ofNat (48 + d)) :
  qaz.l0 (n + 1) s x (i : Int) = qaz.l0 n s (iW.wrap (iW.wrap (x * 10) - (d : Int))) ((i + 1 : Nat) : Int) := by
 have hc' : (s.data.getD (i : Int).toNat 0) = UInt8.ofNat (48 + d) := by
  rw [<- hc]; simp [vao,gDg]
 have hw : iW.wrap (IntKind.u8.wrap (((48 + d : Nat) : Int) - 48)) = (d : Int) := by
  match d,hd with
  | 0,_ | 1,_ | 2,_ | 3,_ | 4,_ | 5,_ | 6,_ | 7,_ | 8,_ | 9,_ => rfl
  | d + 10,h => omega
 have hi1 : iW.wrap ((i : Int) + 1) = ((i + 1 : Nat) : Int) := by rw [qah (by omega) (by omega)]; omega
 rw [qaz.l0,ifp]
 by_cases h0 : (i : Int) = 0
 ·have h00 : i = 0 := by omega
  subst h00
  have hc0 : s.data.getD 0 0 = UInt8.ofNat (48 + d) := hc'
  rw [if_pos h0,ifp,hc0,qd7 _ hd,ifq,ifp]
  rw [show s.data.getD ((0 : Nat) : Int).toNat 0 = UInt8.ofNat (48 + d) from hc0,qd7 _ hd,ifq,ifq,hw,hi1]
 ·rw [if_neg h0,ifp,hc',qd7 _ hd,ifq,ifq,hw,hi1]
theorem qq4 (s : ByteArray) (hb : s.size <= 100000) (u : Nat) : ∀ (p r : List UInt8) (n : Nat),u <= 9223372036854775808 -> s.data.toList = p ++ (Lib.decDigits u ++ r) ->
  qaz.l0 (n + (Lib.decDigits u).length) s 0 (p.length : Int) = qaz.l0 n s (-(u : Int)) ((p.length + (Lib.decDigits u).length : Nat) : Int) := by
 induction u using vaE with
 | _ u ih =>
  intro p r n hu he
  have hsz : s.size = s.data.toList.length := (vac (xs := s.data)).symm
  by_cases h10 : u < 10
  ·rw [Lib.decDigits,dif_pos h10] at he ⊢
   rw [lSi,qn5 s 0 p.length n u h10 (by rw [hsz,he]; simp) hb (by rw [he]; simp [gDg])]
   congr 1
   rw [qah (n := 0 * 10) (by omega) (by omega),qah (by omega) (by omega)]; omega
  ·rw [Lib.decDigits,dif_neg h10] at he ⊢
   rw [aAs] at he
   rw [lAp,lSi,show n + ((Lib.decDigits (u / 10)).length + 1) = (n + 1) + (Lib.decDigits (u / 10)).length by omega,ih (u / 10) (by omega) p _ (n + 1) (by omega) he,
    qn5 s _ _ n (u % 10) (by omega) (by rw [hsz,he]; simp) hb (by rw [he,<- aAs]; simp [gDg,List.getElem?_append])]
   congr 1
   rw [qah (n := -((u / 10 : Nat) : Int) * 10) (by omega) (by omega),qah (by omega) (by omega)]; omega
theorem qpM (s : ByteArray) (hb : s.size ≤ 100000) : ∀ (e i n : Nat) (x : Int),s.size = i + e → e < n → rng x → ∃ r,qaz.l0 n s x (i : Int) = some r ∧ (r = .inr (0,false) ∨ ∃ t,r = .inl t ∧ rng t)
  | 0,i,n,x,he,hn,hx => by
    obtain ⟨n,rfl⟩ := sun (n := n)
    rw [qaz.l0,ifq]
    exact ⟨_,rfl,.inr ⟨_,rfl,hx⟩⟩
  | e + 1,i,n,x,he,hn,hx => by
    obtain ⟨n,rfl⟩ := sun (n := n)
    have hi1 : iW.wrap ((i : Int) + 1) = ((i + 1 : Nat) : Int) := by rw [qah (by omega) (by omega)]; omega
    have ih : ∀ x,rng x → ∃ r,qaz.l0 n s x ((i + 1 : Nat) : Int) = some r ∧ (r = .inr (0,false) ∨ ∃ t,r = .inl t ∧ rng t) := fun x hx => qpM s hb e (i + 1) n x (by omega) (by omega) hx
    rw [qaz.l0,ifp,hi1]
    split
    · rw [ifp]
      split
      · exact ih _ hx
      · rw [ifp]
        split
        · exact ⟨_,rfl,.inl rfl⟩
        · split
          · exact ⟨_,rfl,.inl rfl⟩
          · exact ih _ (qkM _)
    · rw [ifp]
      split
      · exact ⟨_,rfl,.inl rfl⟩
      · split
        · exact ⟨_,rfl,.inl rfl⟩
        · exact ih _ (qkM _)
theorem qc8 (s : ByteArray) (k : Nat) (hk : 200 <= k) : qaz.f k s = some (zV2 s) := by
 unfold qaz.f
 have hsz : s.size = s.data.toList.length := (vac (xs := s.data)).symm
 by_cases h1 : (s.size : Int) < 1
 ·rw [if_pos h1]
  unfold zV2
  rw [qeL (fun n hn e => by rw [e] at h1; have : (zNum n).size = (Lib.itoa n).length := rfl; have := qmr n; omega)]
 rw [if_neg h1]
 by_cases h2 : 20 < (s.size : Int)
 ·rw [if_pos h2]
  unfold zV2
  rw [qeL (fun n hn e => by rw [e] at h2; have : (zNum n).size = (Lib.itoa n).length := rfl; have := qgK hn; omega)]
 rw [if_neg h2]
 by_cases hv : ∃ n,rng n /\ s = zNum n
 ·obtain ⟨n,hn,rfl⟩ := hv
  obtain ⟨b1,b2⟩ := hn
  unfold zV2; rw [qlQ ⟨b1,b2⟩]
  have hl : (zNum n).data.toList = Lib.itoa n := qjW _
  have hsz' : (zNum n).size = (Lib.itoa n).length := rfl
  by_cases hneg : n < 0
  ·have hi : Lib.itoa n = 45 :: Lib.decDigits n.natAbs := by unfold Lib.itoa; rw [if_pos hneg]
   have hg : (zNum n).data.getD 0 0 = 45 := by
    rw [show (zNum n).data.getD 0 0 = (zNum n).data.toList.getD 0 0 by simp [vao,gDg],hl,hi]; rfl
   have hL : qaz.l0 k (zNum n) 0 0 = some (.inl n) := by
    obtain ⟨m,rfl⟩ : ∃ m,k = (m + 1 + (Lib.decDigits n.natAbs).length) + 1 := ⟨k - 2 - (Lib.decDigits n.natAbs).length,by have := qgK ⟨b1,b2⟩; rw [hi] at this; simp only [lCo] at this; omega⟩
    rw [qaz.l0,ifp,if_pos rfl,ifp,hg,if_pos (by decide),qah (n := 0 + 1) (by omega) (by omega)]
    have := qq4 (zNum n) (by omega) n.natAbs [45] [] (m + 1) (by omega) (by rw [hl,hi]; simp)
    rw [show (0 : Int) + 1 = (([45] : List UInt8).length : Int) from rfl,this,qaz.l0,if_neg (by rw [hsz',hi]; simp only [lCo,vad]; omega)]
    congr 2; omega
   rw [hL,obs]
   simp only [vay]
   rw [ifp,hg,if_pos (by decide),qbS b1 b2 k (by omega),obs,qbP,decide_eq_true rfl,if_pos rfl]
  ·have hi : Lib.itoa n = Lib.decDigits n.toNat := by unfold Lib.itoa; rw [if_neg hneg]
   obtain ⟨c,r,ec,hc1,hc2⟩ := qlL n.toNat
   have hg : (zNum n).data.getD 0 0 = c := by
    rw [show (zNum n).data.getD 0 0 = (zNum n).data.toList.getD 0 0 by simp [vao,gDg],hl,hi,ec]; rfl
   have hL : qaz.l0 k (zNum n) 0 0 = some (.inl (-n)) := by
    obtain ⟨m,rfl⟩ : ∃ m,k = (m + 1) + (Lib.decDigits n.toNat).length := ⟨k - 1 - (Lib.decDigits n.toNat).length,by have := qgK ⟨b1,b2⟩; rw [hi] at this; omega⟩
    have := qq4 (zNum n) (by omega) n.toNat [] [] (m + 1) (by omega) (by rw [hl,hi]; simp)
    show qaz.l0 (m + 1 + (Lib.decDigits n.toNat).length) (zNum n) 0 ((([] : List UInt8).length : Nat) : Int) = _
    rw [this,qaz.l0,if_neg (by rw [hsz',hi]; simp only [vad]; omega)]
    congr 2; omega
   rw [hL,obs]
   simp only [vay]
   rw [ifp,hg,ifq,show iW.wrap (0 - -n) = n by rw [qah (by omega) (by omega)]; omega,qbS b1 b2 k (by omega),obs,qbP,decide_eq_true rfl,if_pos rfl]
 ·have hz : zVal s = none := qeL (fun n hn e => hv ⟨n,hn,e⟩)
  unfold zV2; rw [hz]
  obtain ⟨r,hr,h⟩ := qpM s (by omega) s.size 0 k 0 (by omega) (by omega) ⟨by omega,by omega⟩
  rw [show qaz.l0 k s 0 0 = some r from hr,obs]
  rcases h with rfl | ⟨t,rfl,ht⟩
  ·rfl
  ·simp only [vay]
   rw [ifp]
   have hw := qkM (0 - t)
   split
   ·rw [qbS ht.1 ht.2 k (by omega),obs,qbP,decide_eq_false (fun e => hv ⟨t,ht,e.symm⟩),if_neg (by decide)]
   ·rw [qbS hw.1 hw.2 k (by omega),obs,qbP,decide_eq_false (fun e => hv ⟨_,hw,e.symm⟩),if_neg (by decide)]
end Go.Pf

namespace Go.Pf
open Go Go.Vm
theorem qoN (s : ByteArray) (i : Nat) : s.get! i = s.data.toList.getD i 0 := by
 rw [gDg]
 simp only [ByteArray.get!,vaP]
 rw [getElem!_def]
 cases s.data[i]? <;> rfl
theorem qnc (s : ByteArray) (i : Nat) (h : (s.get! i).toNat < 128) : Utf8.decode s i = ((s.get! i).toNat,1) := by
 unfold Utf8.decode
 dsimp only
 rw [if_pos (by simpa using h)]; rfl
theorem qlK (s : ByteArray) (i c : Nat) (hi : i < s.size) (hc : c < 128) (h : (s.get! i).toNat ≠ c) :
  (Utf8.decode s i).1 ≠ c /\ ∀ j,j < (Utf8.decode s i).2 -> i + j < s.size /\ (s.get! (i + j)).toNat ≠ c := by
 have one : ∀ j,j < 1 -> i + j < s.size /\ (s.get! (i + j)).toNat ≠ c := fun j hj => by
  have : j = 0 := by omega
  subst this; exact ⟨by omega,by simpa using h⟩
 have cn : ∀ k,(decide (i + k < s.size) && (s.get! (i + k)).toNat / 64 == 2) = true -> i + k < s.size /\ (s.get! (i + k)).toNat ≠ c := fun k hk => by
  simp only [bAt,decide_eq_true_eq,beq_iff_eq] at hk
  exact ⟨hk.1,by omega⟩
 unfold Utf8.decode
 dsimp only
 split
 ·exact ⟨by simpa using h,one⟩
 split
 ·rename_i h2
  split
  ·rename_i h3
   refine ⟨by simp only []; omega,fun j hj => ?_⟩
   simp only [bAt] at h2
   have c1 := cn 1 (by simpa only [bAt] using h2.2)
   rcases (show j = 0 \/ j = 1 by simp only [] at hj; omega) with rfl | rfl
   ·exact one 0 (by omega)
   ·exact c1
  ·exact ⟨by simp only [Utf8.runeError]; omega,one⟩
 split
 ·rename_i h2
  split
  ·rename_i h3
   simp only [bAt] at h2
   have h3' : 0x800 <= (s.get! (i + 0)).toNat % 16 * 4096 + (s.get! (i + 1)).toNat % 64 * 64 + (s.get! (i + 2)).toNat % 64 := by
    simp only [ge_iff_le,bAt,decide_eq_true_eq] at h3; exact h3.1
   refine ⟨by simp only []; omega,fun j hj => ?_⟩
   have c1 := cn 1 (by simpa only [bAt] using h2.1.2)
   have c2 := cn 2 (by simpa only [bAt] using h2.2)
   rcases (show j = 0 \/ j = 1 \/ j = 2 by simp only [] at hj; omega) with rfl | rfl | rfl
   ·exact one 0 (by omega)
   ·exact c1
   ·exact c2
  ·exact ⟨by simp only [Utf8.runeError]; omega,one⟩
 split
 ·rename_i h2
  split
  ·rename_i h3
   simp only [bAt] at h2
   have h3' : 0x10000 <= (s.get! (i + 0)).toNat % 8 * 262144 + (s.get! (i + 1)).toNat % 64 * 4096 + (s.get! (i + 2)).toNat % 64 * 64 + (s.get! (i + 3)).toNat % 64 := by
    simp only [ge_iff_le,bAt,decide_eq_true_eq] at h3; exact h3.1
   refine ⟨by simp only []; omega,fun j hj => ?_⟩
   have c1 := cn 1 (by simpa only [bAt] using h2.1.1.2)
   have c2 := cn 2 (by simpa only [bAt] using h2.1.2)
   have c3 := cn 3 (by simpa only [bAt] using h2.2)
   rcases (show j = 0 \/ j = 1 \/ j = 2 \/ j = 3 by simp only [] at hj; omega) with rfl | rfl | rfl | rfl
   ·exact one 0 (by omega)
   ·exact c1
   ·exact c2
   ·exact c3
  ·exact ⟨by simp only [Utf8.runeError]; omega,one⟩
 ·exact ⟨by simp only [Utf8.runeError]; omega,one⟩
def sp (c : UInt8) : List UInt8 -> List UInt8 -> List (List UInt8) × List UInt8
 | cur,[] => ([],cur)
 | cur,x :: r => if x = c then (cur :: (sp c [] r).1,(sp c [] r).2) else sp c (cur ++ [x]) r
theorem qnO (c : UInt8) : ∀ (a cur r : List UInt8),(∀ x ∈ a,x ≠ c) -> sp c cur (a ++ r) = sp c (cur ++ a) r
 | [],cur,r,_ => by simp
 | x :: a,cur,r,h => by
  rw [vaw,sp,if_neg (h x (by simp)),qnO c a _ r (fun y hy => h y (by simp [hy])),aAs]; rfl
theorem qpH (c : UInt8) (cur r : List UInt8) : sp c cur (c :: r) = (cur :: (sp c [] r).1,(sp c [] r).2) := by rw [sp,if_pos rfl]
theorem qgQ (s : ByteArray) (a b : Nat) : s.extract a b = bA ((s.data.toList.drop a).take (b - a)) := by
 rw [<- qnj (s.extract a b)]
 congr 1
 rw [ByteArray.data_extract,Array.toList_extract]
theorem qnM {α : Type} (l : List α) {f i : Nat} (h : f <= i) (w : Nat) : (l.drop f).take (i + w - f) = (l.drop f).take (i - f) ++ (l.drop i).take w := by
 rw [show i + w - f = (i - f) + w by omega,List.take_add,List.drop_drop,show f + (i - f) = i by omega]
def At (c : UInt8) (s : ByteArray) (f i : Nat) (y : List ByteArray) (r : Option (Int × List ByteArray)) : Prop :=
 ∃ f' : Nat,r = some ((f' : Int),y ++ (sp c ((s.data.toList.drop f).take (i - f)) (s.data.toList.drop i)).1.map bA) /\ f' <= s.size /\ s.data.toList.drop f' = (sp c ((s.data.toList.drop f).take (i - f)) (s.data.toList.drop i)).2
theorem At.fin {c : UInt8} {s : ByteArray} {f : Nat} (hf : f <= s.size) (y : List ByteArray) {i : Nat} (hi : s.size <= i) : At c s f i y (some ((f : Int),y)) := by
 have hl : s.data.toList.length = s.size := vac
 have hd : s.data.toList.drop i = [] := dNl (by omega)
 refine ⟨f,?_,hf,?_⟩
 ·rw [hd]; simp [sp]
 ·rw [hd]; simp only [sp]
  rw [vav (by rw [vaA]; omega)]
theorem At.hit {c : UInt8} {s : ByteArray} {f i : Nat} {y : List ByteArray} {r : Option (Int × List ByteArray)} (hi : i < s.size) (hc : s.get! i = c) (h : At c s (i + 1) (i + 1) (y ++ [s.extract f i]) r) : At c s f i y r := by
 have hl : s.data.toList.length = s.size := vac
 obtain ⟨f',e,h1,h2⟩ := h
 have hd : s.data.toList.drop i = c :: s.data.toList.drop (i + 1) := by
  rw [qaj (by omega) 0,<- qoN,hc]
 rw [Nat.sub_self,vau] at e h2
 refine ⟨f',?_,h1,?_⟩
 ·rw [e,hd,qpH,qgQ,aAs]; rfl
 ·rw [h2,hd,qpH]
theorem At.miss {c : UInt8} {s : ByteArray} {f i w : Nat} {y : List ByteArray} {r : Option (Int × List ByteArray)} (hf : f <= i) (hc : ∀ j,j < w -> i + j < s.size /\ s.get! (i + j) ≠ c) (h : At c s f (i + w) y r) : At c s f i y r := by
 have hl : s.data.toList.length = s.size := vac
 have hd : s.data.toList.drop i = (s.data.toList.drop i).take w ++ s.data.toList.drop (i + w) := by
  rw [<- List.drop_drop,vaQ]
 have hx : ∀ x ∈ (s.data.toList.drop i).take w,x ≠ c := fun x hx => by
  obtain ⟨j,hj,e⟩ := vaB hx
  have hjw : j < w := by rw [lTk] at hj; omega
  obtain ⟨h1,h2⟩ := hc j hjw
  rw [qoN,gDg,vaj (by omega)] at h2
  rw [<- e]
  simpa using h2
 have e : sp c ((s.data.toList.drop f).take (i - f)) (s.data.toList.drop i) = sp c ((s.data.toList.drop f).take (i + w - f)) (s.data.toList.drop (i + w)) := by
  rw [hd,qnO c _ _ _ hx,qnM _ hf]
 obtain ⟨f',e',h1,h2⟩ := h
 exact ⟨f',by rw [e',e],h1,by rw [h2,e]⟩
theorem qq2 {a b : UInt8} (h : a.toNat = b.toNat) : a = b := UInt8.toNat_inj.1 h
theorem qh9 (s : ByteArray) (hs : s.size <= 100000000000) (c : UInt8) (hc : c.toNat < 128) : ∀ (e i f n : Nat) (y : List ByteArray),s.size <= i + e -> e < n -> f <= i -> f <= s.size -> y.length <= i -> i <= s.size ->
  At c s f i y (qaY.l0 n s (c.toNat : Int) (f : Int) y s i)
 | e,i,f,0,y,_,hn,_,_,_,_ => by omega
 | 0,i,f,n + 1,y,he,hn,hf,hf',hy,hi => by
  rw [qaY.l0,ifq]
  exact At.fin hf' y (by omega)
 | e + 1,i,f,n + 1,y,he,hn,hf,hf',hy,hi => by
  rw [qaY.l0]
  by_cases hlt : i < s.size
  ·rw [if_pos hlt]
   by_cases hit : (s.get! i).toNat = c.toNat
   ·rw [qnc s i (by omega),if_pos (by rw [hit]),ifp,if_pos (by simp only [lAp,lSi]; omega)]
    refine At.hit hlt (qq2 hit) ?_
    rw [show iW.wrap ((i : Int) + 1) = ((i + 1 : Nat) : Int) by rw [qah (by omega) (by omega)]; omega]
    exact qh9 s hs c hc e (i + 1) (i + 1) n _ (by omega) (by omega) (by omega) (by omega) (by simp only [lAp,lSi]; omega) (by omega)
   ·obtain ⟨h1,h2⟩ := qlK s i c.toNat hlt hc hit
    have hp := qfh s i
    rw [ifq]
    refine At.miss hf (w := (Utf8.decode s i).2) (fun j hj => ⟨(h2 j hj).1,fun e => (h2 j hj).2 (by rw [e])⟩) ?_
    have hw := (h2 ((Utf8.decode s i).2 - 1) (by omega)).1
    exact qh9 s hs c hc e _ f n y (by omega) (by omega) (by omega) hf' (by omega) (by omega)
  ·rw [if_neg hlt]
   exact At.fin hf' y (by omega)
def zWd (c : UInt8) (s : ByteArray) : List ByteArray := (sp c [] s.data.toList).1.map bA ++ [bA (sp c [] s.data.toList).2]
theorem qme (s : ByteArray) (hs : s.size <= 100000000000) (c : UInt8) (hc : c.toNat < 128) (hl : (sp c [] s.data.toList).1.length <= 1000000000000) (k : Nat) (hk : s.size < k) : qaY.f k s (c.toNat : Int) = some (zWd c s) := by
 have hsz : s.data.toList.length = s.size := vac
 obtain ⟨f',e,h1,h2⟩ := qh9 s hs c hc s.size 0 0 k [] (by omega) hk (by omega) (by omega) (by simp) (by omega)
 unfold qaY.f
 have e0 : qaY.l0 k s (c.toNat : Int) 0 [] s 0 = some ((f' : Int),(sp c [] s.data.toList).1.map bA) := by simpa using e
 have h2' : s.data.toList.drop f' = (sp c [] s.data.toList).2 := by simpa using h2
 rw [e0,obs,if_pos (by simp only []; omega),if_pos (by simp only [lAp,lSi,vae]; omega)]
 unfold zWd
 rw [qgQ,<- h2']
 congr 4
 rw [vav (by simp only [vaA,tNc]; omega)]; rfl
theorem qo5 (s : ByteArray) (hs : s.size <= 100000000000) (c : UInt8) (L : Nat -> ByteArray -> Int -> Int -> List ByteArray -> Option (Int × List ByteArray))
  (hL : ∀ n x0 x4 x5 y0,L (n + 1) x0 x4 x5 y0 = if x5 < (x0.size : Int) then (if 0 <= x5 /\ x5 < (x0.size : Int) then if ((x0.data.getD x5.toNat 0).toNat : Int) = (c.toNat : Int) then (if 0 <= x4 /\ x4 <= x5 /\ x5 <= (x0.size : Int) then if y0.length + [x0.extract x4.toNat x5.toNat].length <= 281474976710656 /\ (y0.length + [x0.extract x4.toNat x5.toNat].length) * 16 <= 140737488355328 then L n x0 (iW.wrap (x5 + 1)) (iW.wrap (x5 + 1)) (y0 ++ [x0.extract x4.toNat x5.toNat]) else none else none) else L n x0 x4 (iW.wrap (x5 + 1)) y0 else none) else some (x4,y0)) :
  ∀ (e i f n : Nat) (y : List ByteArray),s.size <= i + e -> e < n -> f <= i -> f <= s.size -> y.length <= i -> i <= s.size -> At c s f i y (L n s (f : Int) (i : Int) y)
 | e,i,f,0,y,_,hn,_,_,_,_ => by omega
 | 0,i,f,n + 1,y,he,hn,hf,hf',hy,hi => by
  rw [hL,ifq]
  exact At.fin hf' y (by omega)
 | e + 1,i,f,n + 1,y,he,hn,hf,hf',hy,hi => by
  rw [hL]
  by_cases hlt : i < s.size
  ·have hg : s.data.getD (i : Int).toNat 0 = s.get! i := by
    rw [qoN]; simp [vao,gDg]
   rw [ifp,ifp,hg,show iW.wrap ((i : Int) + 1) = ((i + 1 : Nat) : Int) by rw [qah (by omega) (by omega)]; omega]
   by_cases hit : (s.get! i).toNat = c.toNat
   ·rw [ifp,ifp,if_pos (by simp only [lAp,lSi]; omega)]
    refine At.hit hlt (qq2 hit) ?_
    exact qo5 s hs c L hL e (i + 1) (i + 1) n _ (by omega) (by omega) (by omega) (by omega) (by simp only [lAp,lSi]; omega) (by omega)
   ·rw [ifq]
    refine At.miss hf (w := 1) (fun j hj => ⟨by omega,fun e => hit (by rw [show i + j = i by omega] at e; rw [e])⟩) ?_
    exact qo5 s hs c L hL e (i + 1) f n y (by omega) (by omega) (by omega) hf' (by omega) (by omega)
  ·rw [ifq]
   exact At.fin hf' y (by omega)
theorem qfW (c : UInt8) : ∀ (l cur : List UInt8),(sp c cur l).1.length <= l.length
 | [],_ => by simp [sp]
 | x :: l,cur => by
  rw [sp]
  split
  ·simp only [lCo]; have := qfW c l []; omega
  ·have := qfW c l (cur ++ [x]); simp only [lCo]; omega
theorem qdv (s : ByteArray) (hs : s.size <= 100000000000) (k : Nat) (hk : s.size < k) : qa6.f k s = some (zWd 32 s) := by
 have hsz : s.data.toList.length = s.size := vac
 have hl := qfW 32 s.data.toList []
 obtain ⟨f',e,h1,h2⟩ := qo5 s hs 32 qa6.l0 (fun _ _ _ _ _ => rfl) s.size 0 0 k [] (by omega) hk (by omega) (by omega) (by simp) (by omega)
 unfold qa6.f
 have e0 : qa6.l0 k s 0 0 [] = some ((f' : Int),(sp 32 [] s.data.toList).1.map bA) := by simpa using e
 have h2' : s.data.toList.drop f' = (sp 32 [] s.data.toList).2 := by simpa using h2
 rw [e0,obs,if_pos (by simp only []; omega),if_pos (by simp only [lAp,lSi,vae]; omega)]
 unfold zWd
 rw [qgQ,<- h2']
 congr 4
 rw [vav (by simp only [vaA,tNc]; omega)]; rfl
theorem qcO (s : ByteArray) (hs : s.size <= 100000000000) (k : Nat) (hk : s.size < k) : qcj.f k s = some (zWd 32 s) := by
 have hsz : s.data.toList.length = s.size := vac
 have hl := qfW 32 s.data.toList []
 unfold qcj.f
 rw [show qaY.f k s 32 = some (zWd 32 s) from qme s hs 32 (by decide) (by omega) k hk]; rfl
theorem qjA (s : ByteArray) (hs : s.size <= 100000000000) (k : Nat) (hk : s.size < k) : qbJ.f k s = some (decide ((sp 10 [] s.data.toList).2 = []),(sp 10 [] s.data.toList).1.map bA) := by
 have hsz : s.data.toList.length = s.size := vac
 obtain ⟨f',e,h1,h2⟩ := qo5 s hs 10 qbJ.l0 (fun _ _ _ _ _ => rfl) s.size 0 0 k [] (by omega) hk (by omega) (by omega) (by simp) (by omega)
 unfold qbJ.f
 have e0 : qbJ.l0 k s 0 0 [] = some ((f' : Int),(sp 10 [] s.data.toList).1.map bA) := by simpa using e
 have h2' : s.data.toList.drop f' = (sp 10 [] s.data.toList).2 := by simpa using h2
 rw [e0,obs,<- h2']
 congr 2
 refine decide_eq_decide.2 ?_
 rw [List.drop_eq_nil_iff]
 simp only []
 omega
end Go.Pf

namespace Go.Pf
open Go Go.Vm
def wl (l : List ByteArray) : Prop := l.length <= 1000000 /\ ∀ w ∈ l,w.size <= 100000000000
theorem wl.tail {w : ByteArray} {r : List ByteArray} (h : wl (w :: r)) : wl r := ⟨by have := h.1; simp only [lCo] at this; omega,fun x hx => h.2 x (mCm _ hx)⟩
theorem wl.nil : wl [] := ⟨by simp,fun _ h => by cases h⟩
def Rz {α : Type} (p : Option (α × List ByteArray)) (a : α) (l' : List ByteArray) (b' : Bool) : Prop := match p with
 | some x => b' = false /\ l' = x.2 /\ a = x.1
 | none => b' = true
def Cz {α : Type} (p : List ByteArray -> Option (α × List ByteArray)) (l : List ByteArray) (b : Bool) (a : α) (l' : List ByteArray) (b' : Bool) : Prop :=
 wl l' /\ (b = true -> b' = true) /\ (b = false -> Rz (p l) a l' b')
def seqP {α β : Type} (p : List ByteArray -> Option (α × List ByteArray)) (q : List ByteArray -> Option (β × List ByteArray)) (l : List ByteArray) : Option ((α × β) × List ByteArray) :=
 (p l).bind fun x => (q x.2).bind fun y => some ((x.1,y.1),y.2)
theorem Cz.seq {α β : Type} {p : List ByteArray -> Option (α × List ByteArray)} {q : List ByteArray -> Option (β × List ByteArray)} {l : List ByteArray} {b : Bool} {a : α} {l1 : List ByteArray} {b1 : Bool} {a2 : β} {l2 : List ByteArray} {b2 : Bool}
  (h1 : Cz p l b a l1 b1) (h2 : Cz q l1 b1 a2 l2 b2) : Cz (seqP p q) l b (a,a2) l2 b2 := by
 obtain ⟨w1,t1,f1⟩ := h1
 obtain ⟨w2,t2,f2⟩ := h2
 refine ⟨w2,fun hb => t2 (t1 hb),fun hb => ?_⟩
 have f1 := f1 hb
 unfold seqP
 cases hp : p l with
 | none => rw [hp] at f1; exact t2 f1
 | some x =>
  rw [hp] at f1
  obtain ⟨e1,e2,e3⟩ := f1
  have f2 := f2 e1
  rw [e2] at f2
  simp only [obs]
  cases hq : q x.2 with
  | none => rw [hq] at f2; exact f2
  | some y =>
   rw [hq] at f2
   obtain ⟨g1,g2,g3⟩ := f2
   exact ⟨g1,g2,by rw [e3,g3]⟩
theorem qrA : bA [] = vaa := rfl
theorem qmM : zVal vaa = none := qeL fun n hn e => by
 have := qmr n
 have h : (zNum n).size = (Lib.itoa n).length := rfl
 rw [<- e] at h
 have : vaa.size = 0 := rfl
 omega
theorem qhq {s : ByteArray} {n : Int} (h : zVal s = some n) : zV2 s = (n,true) := by unfold zV2; rw [h]
theorem qhr {s : ByteArray} (h : zVal s = none) : zV2 s = (0,false) := by unfold zV2; rw [h]
def pN : List ByteArray -> Option (Int × List ByteArray)
 | [] => none
 | w :: r => (zVal w).map fun n => (n,r)
def nums : List ByteArray -> Option LI
 | [] => some []
 | w :: r => match zVal w with
  | some n => (nums r).map (n :: ·)
  | none => none
def pLt : List ByteArray -> Option (LI × List ByteArray)
 | [] => none
 | w :: r => if w = bA [41] then some ([],r) else match zVal w with
  | some n => (pLt r).map fun p => (n :: p.1,p.2)
  | none => none
def pL : List ByteArray -> Option (LI × List ByteArray)
 | [] => none
 | w :: r => if w = bA [40] then pLt r else none
def pNm : List ByteArray -> Option (ByteArray × List ByteArray)
 | [] => none
 | w :: r => if w = vaa then none else some (if w = bA [45] then vaa else w,r)
def pMu (a : ByteArray) : List ByteArray -> Option (Unit × List ByteArray)
 | [] => none
 | w :: r => if w = a then some ((),r) else none
theorem pN_c (w : ByteArray) (r : List ByteArray) : pN (w :: r) = (zVal w).map fun n => (n,r) := rfl
theorem qof (w : ByteArray) (r : List ByteArray) : nums (w :: r) = match zVal w with | some n => (nums r).map (n :: ·) | none => none := rfl
theorem qqp (w : ByteArray) (r : List ByteArray) : pLt (w :: r) = if w = bA [41] then some ([],r) else match zVal w with | some n => (pLt r).map fun p => (n :: p.1,p.2) | none => none := rfl
theorem pL_c (w : ByteArray) (r : List ByteArray) : pL (w :: r) = if w = bA [40] then pLt r else none := rfl
theorem qlp (w : ByteArray) (r : List ByteArray) : pNm (w :: r) = if w = vaa then none else some (if w = bA [45] then vaa else w,r) := rfl
theorem qgF (a w : ByteArray) (r : List ByteArray) : pMu a (w :: r) = if w = a then some ((),r) else none := rfl
theorem qd6 (b : Bool) : qbk.f [] b = some (vaa,[],true) := rfl
theorem qgq (w : ByteArray) (r : List ByteArray) (b : Bool) (hl : wl (w :: r)) : qbk.f (w :: r) b = some (if w = vaa then (vaa,w :: r,true) else (w,r,b)) := by
 unfold qbk.f
 have h1 := hl.1
 simp only [lCo] at h1
 rw [if_neg (by simp only [lCo]; omega),if_pos (by simp only [lCo]; omega),qbP]
 simp only [vaG]
 by_cases h : w = vaa
 ·rw [decide_eq_true h,if_pos rfl,if_pos h]
 ·rw [decide_eq_false h,if_neg (by decide),if_pos (by simp only [lCo]; omega),if_neg h]
  simp
theorem qfg {w : ByteArray} (h : w = vaa) (r : List ByteArray) (b : Bool) (hl : wl (w :: r)) : qbk.f (w :: r) b = some (vaa,w :: r,true) := by rw [qgq w r b hl,if_pos h]
theorem qff {w : ByteArray} (h : w ≠ vaa) (r : List ByteArray) (b : Bool) (hl : wl (w :: r)) : qbk.f (w :: r) b = some (w,r,b) := by rw [qgq w r b hl,if_neg h]
theorem qi7 (l : List ByteArray) (b : Bool) (hl : wl l) : ∃ a l' b',qcy.f l b = some (a,l',b') /\ Cz pN l b a l' b' := by
 unfold qcy.f
 cases l with
 | nil =>
  rw [qd6,obs]
  dsimp only
  rw [qcz _ (by decide),obs,if_pos rfl]
  exact ⟨_,_,_,rfl,hl,fun _=>rfl,fun _=>rfl⟩
 | cons w r =>
  by_cases h : w = vaa
  ·rw [qfg h r b hl,obs]
   dsimp only
   rw [qcz _ (by decide),obs,if_pos rfl]
   refine ⟨_,_,_,rfl,hl,fun _=>rfl,fun _=>?_⟩
   rw [pN_c,h,qmM]; rfl
  ·rw [qff h r b hl,obs]
   dsimp only
   have hw := hl.2 w (by simp)
   rw [qcz _ (by omega),obs]
   cases b with
   | true => rw [if_pos rfl]; exact ⟨_,_,_,rfl,hl.tail,fun _=>rfl,fun h => by cases h⟩
   | false =>
    rw [if_neg (by decide)]
    refine ⟨_,_,_,rfl,hl.tail,fun h => (by cases h),fun _=>?_⟩
    rw [pN_c]
    cases hv : zVal w with
    | none => rw [qhr hv]; rfl
    | some n => rw [qhq hv]; exact ⟨rfl,rfl,rfl⟩
theorem qe3 (l : List ByteArray) (b : Bool) (hl : wl l) : ∃ a l' b',qbX.f l b = some (a,l',b') /\ Cz pN l b a l' b' := by
 obtain ⟨a,l',b',e,h⟩ := qi7 l b hl
 unfold qbX.f
 rw [e,obs]
 cases b' with
 | true => exact ⟨_,_,_,rfl,h⟩
 | false => rw [if_neg (fun h : (false : Bool) = true => by cases h),decide_eq_true rfl]; exact ⟨_,_,_,rfl,h⟩
theorem qep (w : ByteArray) (hw : w ≠ vaa) (l : List ByteArray) (b : Bool) (hl : wl l) : ∃ l' b',qbv.f w l b = some (l',b') /\ Cz (pMu w) l b () l' b' := by
 unfold qbv.f
 cases l with
 | nil =>
  rw [qd6,obs]
  dsimp only
  rw [qbP,decide_eq_false (fun e => hw e.symm),if_neg (by decide)]
  exact ⟨_,_,rfl,hl,fun _=>rfl,fun _=>rfl⟩
 | cons x r =>
  by_cases h : x = vaa
  ·rw [qfg h r b hl,obs]
   dsimp only
   rw [qbP,decide_eq_false (fun e => hw e.symm),if_neg (by decide)]
   refine ⟨_,_,rfl,hl,fun _=>rfl,fun _=>?_⟩
   rw [qgF,if_neg (fun e => hw (e.symm.trans h))]; rfl
  ·rw [qff h r b hl,obs]
   dsimp only
   rw [qbP]
   by_cases hx : x = w
   ·rw [decide_eq_true hx,if_pos rfl]
    refine ⟨_,_,rfl,hl.tail,fun h => h,fun hb => ?_⟩
    rw [qgF,if_pos hx]; exact ⟨hb,rfl,rfl⟩
   ·rw [decide_eq_false hx,if_neg (by decide)]
    refine ⟨_,_,rfl,hl.tail,fun _=>rfl,fun hb => ?_⟩
    rw [qgF,if_neg hx]; rfl
theorem qi6 (l : List ByteArray) (b : Bool) (hl : wl l) : ∃ a l' b',qcx.f l b = some (a,l',b') /\ Cz pNm l b a l' b' := by
 have e45 : vab #[45] = bA [45] := rfl
 have ne : vaa ≠ bA [45] := fun h => by have := congrArg van h; simp [qbp] at this
 unfold qcx.f
 rw [e45]
 cases l with
 | nil =>
  rw [qd6,obs]
  dsimp only
  rw [qbP,decide_eq_false ne,if_neg (by decide)]
  exact ⟨_,_,_,rfl,hl,fun _=>rfl,fun _=>rfl⟩
 | cons x r =>
  by_cases h : x = vaa
  ·rw [qfg h r b hl,obs]
   dsimp only
   rw [qbP,decide_eq_false ne,if_neg (by decide)]
   refine ⟨_,_,_,rfl,hl,fun _=>rfl,fun _=>?_⟩
   rw [qlp,if_pos h]; rfl
  ·rw [qff h r b hl,obs]
   dsimp only
   rw [qbP]
   by_cases hx : x = bA [45]
   ·rw [decide_eq_true hx,if_pos rfl]
    refine ⟨_,_,_,rfl,hl.tail,fun h => h,fun hb => ?_⟩
    rw [qlp,if_neg h,if_pos hx]; exact ⟨hb,rfl,rfl⟩
   ·rw [decide_eq_false hx,if_neg (by decide)]
    refine ⟨_,_,_,rfl,hl.tail,fun h => h,fun hb => ?_⟩
    rw [qlp,if_neg h,if_neg hx]; exact ⟨hb,rfl,rfl⟩
theorem qiq : ∀ (l : List ByteArray) (n : Nat) (y : LI),wl l -> l.length < n -> y.length + l.length <= 2000000 -> ∃ l' b' y',qaI.l0 n l false y = some (l',b',y') /\ match nums l with | some ns => b' = false /\ y' = y ++ ns | none => b' = true
 | [],n,y,hl,hn,hy => by
  obtain ⟨n,rfl⟩ := sun (n := n)
  exact ⟨_,_,_,by rw [qaI.l0,if_neg (by decide)],rfl,by simp⟩
 | w :: r,n,y,hl,hn,hy => by
  obtain ⟨n,rfl⟩ : ∃ m,n = m + 1 := ⟨n - 1,by simp only [lCo] at hn; omega⟩
  simp only [lCo] at hn hy
  obtain ⟨a,l',b',e,hw,_,hf⟩ := qe3 (w :: r) false hl
  have hf := hf rfl
  rw [qaI.l0,if_pos (by simp only [lCo]; omega),if_neg (by decide),e,obs]
  dsimp only
  rw [if_pos (by simp only [lSi]; omega)]
  rw [qof]
  rw [pN_c] at hf
  cases hv : zVal w with
  | none =>
   rw [hv] at hf
   have hb : b' = true := hf
   subst hb
   obtain ⟨n,rfl⟩ := sun (n := n)
   rw [qaI.l0]
   by_cases hz : 0 < (l'.length : Int)
   ·rw [if_pos hz,if_pos rfl]; exact ⟨_,_,_,rfl,rfl⟩
   ·rw [if_neg hz]; exact ⟨_,_,_,rfl,rfl⟩
  | some m =>
   rw [hv] at hf
   obtain ⟨hb,hl2,ha⟩ := hf
   have hl2 : l' = r := hl2
   have ha : a = m := ha
   rw [hb,hl2,ha]
   obtain ⟨l2,b2,y2,e2,h2⟩ := qiq r n (y ++ [m]) hl.tail (by omega) (by simp only [lAp,lSi]; omega)
   refine ⟨l2,b2,y2,e2,?_⟩
   cases hr : nums r with
   | none => rw [hr] at h2; exact h2
   | some ns => rw [hr] at h2; exact ⟨h2.1,by rw [h2.2,aAs]; rfl⟩
theorem qi5 (l : List ByteArray) (b : Bool) (hl : wl l) (k : Nat) (hk : 1000010 <= k) : ∃ l' b' y',qaI.f k l b = some (l',b',y') /\ (b = true -> b' = true) /\ (b = false -> match nums l with | some ns => b' = false /\ y' = ns | none => b' = true) := by
 have h1 := hl.1
 unfold qaI.f
 cases b with
 | true =>
  obtain ⟨k,rfl⟩ : ∃ m,k = m + 1 := ⟨k - 1,by omega⟩
  rw [qaI.l0]
  by_cases hz : 0 < (l.length : Int)
  ·rw [if_pos hz,if_pos rfl]; exact ⟨_,_,_,rfl,fun _=>rfl,fun h => by cases h⟩
  ·rw [if_neg hz]; exact ⟨_,_,_,rfl,fun _=>rfl,fun h => by cases h⟩
 | false =>
  obtain ⟨l',b',y',e,h⟩ := qiq l k [] hl (by omega) (by simp; omega)
  rw [e,obs]
  refine ⟨_,_,_,rfl,fun h => (by cases h),fun _=>?_⟩
  cases hn : nums l with
  | none => rw [hn] at h; exact h
  | some ns => rw [hn] at h; exact ⟨h.1,by simpa using h.2⟩
theorem qir : ∀ (l : List ByteArray) (n : Nat) (y : LI),wl l -> l.length < n -> y.length + l.length <= 2000000 -> ∃ l' b' y',qaM.l0 n l false y = some (l',b',y') /\ wl l' /\ match pLt l with | some x => b' = false /\ l' = bA [41] :: x.2 /\ y' = y ++ x.1 | none => b' = true \/ (b' = false /\ l' = [])
 | [],n,y,hl,hn,hy => by
  obtain ⟨n,rfl⟩ := sun (n := n)
  exact ⟨_,_,_,by rw [qaM.l0,if_neg (by decide),if_neg (by decide)],hl,.inr ⟨rfl,rfl⟩⟩
 | w :: r,n,y,hl,hn,hy => by
  obtain ⟨n,rfl⟩ : ∃ m,n = m + 1 := ⟨n - 1,by simp only [lCo] at hn; omega⟩
  simp only [lCo] at hn hy
  have e41 : vab #[41] = bA [41] := rfl
  obtain ⟨a,l',b',e,hw,_,hf⟩ := qe3 (w :: r) false hl
  have hf := hf rfl
  rw [qaM.l0,if_neg (by decide),if_pos (by simp only [lCo]; omega),if_pos (by simp only [lCo]; omega),qbP,e41]
  simp only [vaG]
  rw [qqp]
  by_cases hc : w = bA [41]
  ·rw [decide_eq_true hc,if_pos rfl,if_pos hc]
   exact ⟨_,_,_,rfl,hl,rfl,by rw [hc],by simp⟩
  rw [decide_eq_false hc,if_neg (by decide),if_neg hc,e,obs]
  dsimp only
  rw [if_pos (by simp only [lSi]; omega)]
  rw [pN_c] at hf
  cases hv : zVal w with
  | none =>
   rw [hv] at hf
   have hb : b' = true := hf
   subst hb
   obtain ⟨n,rfl⟩ := sun (n := n)
   rw [qaM.l0,if_pos rfl]
   exact ⟨_,_,_,rfl,hw,.inl rfl⟩
  | some m =>
   rw [hv] at hf
   obtain ⟨hb,hl2,ha⟩ := hf
   have hl2 : l' = r := hl2
   have ha : a = m := ha
   rw [hb,hl2,ha]
   obtain ⟨l2,b2,y2,e2,hw2,h2⟩ := qir r n (y ++ [m]) hl.tail (by omega) (by simp only [lAp,lSi]; omega)
   refine ⟨l2,b2,y2,e2,hw2,?_⟩
   cases hr : pLt r with
   | none => rw [hr] at h2; exact h2
   | some x => rw [hr] at h2; exact ⟨h2.1,h2.2.1,by rw [h2.2.2,aAs]; rfl⟩
theorem qgP (l : List ByteArray) (b : Bool) (hl : wl l) (k : Nat) (hk : 1000010 <= k) : ∃ l' b' y',qaM.f k l b = some (l',b',y') /\ Cz pL l b y' l' b' := by
 have e40 : vab #[40] = bA [40] := rfl
 have e41 : vab #[41] = bA [41] := rfl
 have n40 : bA [40] ≠ vaa := fun h => by have := congrArg van h; simp [qbp] at this
 have n41 : bA [41] ≠ vaa := fun h => by have := congrArg van h; simp [qbp] at this
 unfold qaM.f
 obtain ⟨l1,b1,e1,w1,t1,f1⟩ := qep (bA [40]) n40 l b hl
 rw [e40,e1,obs,e41]
 dsimp only
 cases b1 with
 | true =>
  obtain ⟨k,rfl⟩ : ∃ m,k = m + 1 := ⟨k - 1,by omega⟩
  rw [qaM.l0,if_pos rfl,obs]
  dsimp only
  obtain ⟨l2,b2,e2,w2,t2,f2⟩ := qep (bA [41]) n41 l1 true w1
  rw [e2,obs]
  refine ⟨_,_,_,rfl,w2,fun _=>t2 rfl,fun hb => ?_⟩
  have f1 := f1 hb
  have hp : pL l = none := by
   cases l with
   | nil => rfl
   | cons w r =>
    rw [qgF] at f1
    by_cases hw : w = bA [40]
    ·rw [if_pos hw] at f1; cases f1.1
    ·rw [pL_c,if_neg hw]
  rw [hp]; exact t2 rfl
 | false =>
  have hb : b = false := by cases b with | false => rfl | true => cases t1 rfl
  have f1 := f1 hb
  cases l with
  | nil => cases f1
  | cons w r =>
   rw [qgF] at f1
   by_cases hw : w = bA [40]
   ·rw [if_pos hw] at f1
    obtain ⟨_,hl1,_⟩ := f1
    have hl1 : l1 = r := hl1
    rw [hl1] at w1 ⊢
    have h1 := w1.1
    obtain ⟨l2,b2,y2,e2,w2,h2⟩ := qir r k [] w1 (by omega) (by simp; omega)
    rw [e2,obs]
    dsimp only
    obtain ⟨l3,b3,e3,w3,t3,f3⟩ := qep (bA [41]) n41 l2 b2 w2
    rw [e3,obs]
    refine ⟨_,_,_,rfl,w3,fun h => (by rw [hb] at h; cases h),fun _=>?_⟩
    rw [pL_c,if_pos hw]
    cases hp : pLt r with
    | none =>
     rw [hp] at h2
     rcases h2 with h2 | ⟨h2,h2'⟩
     ·exact t3 h2
     ·have := f3 h2; rw [h2'] at this; exact this
    | some x =>
     rw [hp] at h2
     obtain ⟨h2a,h2b,h2c⟩ := h2
     have := f3 h2a
     rw [h2b] at this
     rw [qgF] at this
     rw [if_pos rfl] at this
     exact ⟨this.1,this.2.1,by simpa using h2c⟩
   ·rw [if_neg hw] at f1; cases f1
end Go.Pf

namespace Go.Pf
open Go Go.Vm
theorem qdQ (b : Bool) : qaB.f [] b = some (vaa,[],true) := rfl
theorem qch (w : ByteArray) (r : List ByteArray) (b : Bool) (hl : wl (w :: r)) : qaB.f (w :: r) b = some (w,r,b) := by
 unfold qaB.f
 have h1 := hl.1
 simp only [lCo] at h1
 rw [if_neg (by simp only [lCo]; omega),if_pos (by simp only [lCo]; omega),if_pos (by simp only [lCo]; omega)]
 simp
theorem qfK (l : List ByteArray) (b : Bool) (hl : wl l) (k : Nat) (hk : 200 <= k) : ∃ a l' b',qbm.f k l b = some (a,l',b') /\ Cz pN l b a l' b' := by
 unfold qbm.f
 cases l with
 | nil =>
  rw [qdQ,obs]
  dsimp only
  rw [qc8 _ k hk,obs,if_pos rfl]
  exact ⟨_,_,_,rfl,hl,fun _=>rfl,fun _=>rfl⟩
 | cons w r =>
  rw [qch w r b hl,obs]
  dsimp only
  rw [qc8 _ k hk,obs]
  cases b with
  | true => rw [if_pos rfl]; exact ⟨_,_,_,rfl,hl.tail,fun _=>rfl,fun h => (by cases h)⟩
  | false =>
   rw [if_neg (by decide)]
   refine ⟨_,_,_,rfl,hl.tail,fun h => (by cases h),fun _=>?_⟩
   rw [pN_c]
   cases hv : zVal w with
   | none => rw [qhr hv]; rfl
   | some n => rw [qhq hv]; exact ⟨rfl,rfl,rfl⟩
theorem qiV (k : Nat) (hk : 200 <= k) : ∀ (l : List ByteArray) (n : Nat) (y : LI),wl l -> l.length < n -> y.length + l.length <= 2000000 -> ∃ l' b' y',qao.l0 k n l false y = some (l',b',y') /\ match nums l with | some ns => b' = false /\ y' = y ++ ns | none => b' = true
 | [],n,y,hl,hn,hy => by
  obtain ⟨n,rfl⟩ := sun (n := n)
  exact ⟨_,_,_,by rw [qao.l0,if_neg (by decide)],rfl,by simp⟩
 | w :: r,n,y,hl,hn,hy => by
  obtain ⟨n,rfl⟩ : ∃ m,n = m + 1 := ⟨n - 1,by simp only [lCo] at hn; omega⟩
  simp only [lCo] at hn hy
  obtain ⟨a,l',b',e,hw,_,hf⟩ := qfK (w :: r) false hl k hk
  have hf := hf rfl
  rw [qao.l0,if_pos (by simp only [lCo]; omega),if_neg (by decide),e,obs]
  dsimp only
  rw [if_pos (by simp only [lSi]; omega)]
  rw [qof]
  rw [pN_c] at hf
  cases hv : zVal w with
  | none =>
   rw [hv] at hf
   have hb : b' = true := hf
   subst hb
   obtain ⟨n,rfl⟩ := sun (n := n)
   rw [qao.l0]
   by_cases hz : 0 < (l'.length : Int)
   ·rw [if_pos hz,if_pos rfl]; exact ⟨_,_,_,rfl,rfl⟩
   ·rw [if_neg hz]; exact ⟨_,_,_,rfl,rfl⟩
  | some m =>
   rw [hv] at hf
   obtain ⟨hb,hl2,ha⟩ := hf
   have hl2 : l' = r := hl2
   have ha : a = m := ha
   rw [hb,hl2,ha]
   obtain ⟨l2,b2,y2,e2,h2⟩ := qiV k hk r n (y ++ [m]) hl.tail (by omega) (by simp only [lAp,lSi]; omega)
   refine ⟨l2,b2,y2,e2,?_⟩
   cases hr : nums r with
   | none => rw [hr] at h2; exact h2
   | some ns => rw [hr] at h2; exact ⟨h2.1,by rw [h2.2,aAs]; rfl⟩
theorem qh6 (l : List ByteArray) (b : Bool) (hl : wl l) (k : Nat) (hk : 1000010 <= k) : ∃ l' b' y',qao.f k l b = some (l',b',y') /\ (b = true -> b' = true) /\ (b = false -> match nums l with | some ns => b' = false /\ y' = ns | none => b' = true) := by
 have h1 := hl.1
 unfold qao.f
 cases b with
 | true =>
  obtain ⟨m,hm⟩ : ∃ m,k = m + 1 := ⟨k - 1,by omega⟩
  rw [show qao.l0 k k l true [] = qao.l0 k (m + 1) l true [] by rw [<- hm],qao.l0]
  by_cases hz : 0 < (l.length : Int)
  ·rw [if_pos hz,if_pos rfl]; exact ⟨_,_,_,rfl,fun _=>rfl,fun h => by cases h⟩
  ·rw [if_neg hz]; exact ⟨_,_,_,rfl,fun _=>rfl,fun h => by cases h⟩
 | false =>
  obtain ⟨l',b',y',e,h⟩ := qiV k (by omega) l k [] hl (by omega) (by simp; omega)
  rw [e,obs]
  refine ⟨_,_,_,rfl,fun h => (by cases h),fun _=>?_⟩
  cases hn : nums l with
  | none => rw [hn] at h; exact h
  | some ns => rw [hn] at h; exact ⟨h.1,by simpa using h.2⟩
theorem qdn (k n : Nat) (l : List ByteArray) (y : LI) (hn : 0 < n) : qat.l0 k n l true y = some (l,true,y) := by
 obtain ⟨n,rfl⟩ := sun (n := n)
 rw [qat.l0,if_pos rfl]
theorem qiW (k : Nat) (hk : 200 <= k) : ∀ (l : List ByteArray) (n : Nat) (y : LI),wl l -> l.length + 1 < n -> y.length + l.length <= 2000000 -> ∃ l' b' y',qat.l0 k n l false y = some (l',b',y') /\ wl l' /\ Rz ((pLt l).map fun p => (y ++ p.1,p.2)) y' l' b'
 | [],n,y,hl,hn,hy => by
  obtain ⟨n,rfl⟩ := sun (n := n)
  have e41 : vab #[41] = bA [41] := rfl
  have n41 : vaa ≠ bA [41] := fun h => by have := congrArg van h; simp [qbp] at this
  rw [qat.l0,if_neg (by decide),qdQ,obs,e41]
  dsimp only
  rw [qbP,decide_eq_false n41,if_neg (by decide),qc8 _ k hk,obs,if_pos rfl,if_pos (by simp only [lSi]; simp only [vad] at hy; omega),qdn k n _ _ (by omega)]
  exact ⟨_,_,_,rfl,hl,rfl⟩
 | w :: r,n,y,hl,hn,hy => by
  obtain ⟨n,rfl⟩ : ∃ m,n = m + 1 := ⟨n - 1,by simp only [lCo] at hn; omega⟩
  simp only [lCo] at hn hy
  have e41 : vab #[41] = bA [41] := rfl
  rw [qat.l0,if_neg (by decide),qch w r false hl,obs,e41]
  dsimp only
  rw [qbP,qqp]
  by_cases hc : w = bA [41]
  ·rw [decide_eq_true hc,if_pos rfl,if_pos hc]
   exact ⟨_,_,_,rfl,hl.tail,rfl,rfl,by simp⟩
  rw [decide_eq_false hc,if_neg (by decide),if_neg hc,qc8 _ k hk,obs,if_neg (by decide),if_pos (by simp only [lSi]; omega)]
  cases hv : zVal w with
  | none =>
   rw [qhr hv]
   dsimp only
   rw [show (!false) = true from rfl,qdn k n _ _ (by omega)]
   exact ⟨_,_,_,rfl,hl.tail,rfl⟩
  | some m =>
   rw [qhq hv]
   dsimp only
   rw [show (!true) = false from rfl]
   obtain ⟨l2,b2,y2,e2,hw2,h2⟩ := qiW k hk r n (y ++ [m]) hl.tail (by omega) (by simp only [lAp,lSi]; omega)
   refine ⟨l2,b2,y2,e2,hw2,?_⟩
   cases hr : pLt r with
   | none => rw [hr] at h2; exact h2
   | some x => rw [hr] at h2; exact ⟨h2.1,h2.2.1,by rw [h2.2.2]; dsimp only; rw [aAs]; rfl⟩
theorem qh7 (l : List ByteArray) (b : Bool) (hl : wl l) (k : Nat) (hk : 1000010 <= k) : ∃ l' b' y',qat.f k l b = some (l',b',y') /\ Cz pL l b y' l' b' := by
 have e40 : vab #[40] = bA [40] := rfl
 have n40 : vaa ≠ bA [40] := fun h => by have := congrArg van h; simp [qbp] at this
 unfold qat.f
 cases l with
 | nil =>
  rw [qdQ,obs,e40]
  dsimp only
  rw [qbP,decide_eq_false n40,if_neg (by decide),qdn k k _ _ (by omega)]
  exact ⟨_,_,_,rfl,hl,fun _=>rfl,fun _=>rfl⟩
 | cons w r =>
  rw [qch w r b hl,obs,e40]
  dsimp only
  rw [qbP]
  by_cases hc : w = bA [40]
  ·rw [decide_eq_true hc,if_pos rfl]
   cases b with
   | true =>
    rw [qdn k k _ _ (by omega)]
    exact ⟨_,_,_,rfl,hl.tail,fun _=>rfl,fun h => (by cases h)⟩
   | false =>
    have h1 := hl.1
    simp only [lCo] at h1
    obtain ⟨l2,b2,y2,e2,hw2,h2⟩ := qiW k (by omega) r k [] hl.tail (by omega) (by simp; omega)
    rw [e2,obs]
    refine ⟨_,_,_,rfl,hw2,fun h => (by cases h),fun _=>?_⟩
    rw [pL_c,if_pos hc]
    cases hr : pLt r with
    | none => rw [hr] at h2; exact h2
    | some x => rw [hr] at h2; exact ⟨h2.1,h2.2.1,by simpa using h2.2.2⟩
  ·rw [decide_eq_false hc,if_neg (by decide),qdn k k _ _ (by omega)]
   refine ⟨_,_,_,rfl,hl.tail,fun _=>rfl,fun _=>?_⟩
   rw [pL_c,if_neg hc]; rfl
def zOpF : Nat -> Int -> ByteArray -> Option Int
 | 0,_,_ => none
 | e + 1,op,w => if zName op = w then some op else zOpF e (op + 1) w
def zOp (w : ByteArray) : Option Int := zOpF 20 1 w
theorem qk7 : ∀ (e : Nat) (op : Int) (w : ByteArray) (r : Int),zOpF e op w = some r -> op <= r /\ r < op + e /\ zName r = w
 | 0,_,_,_,h => by cases h
 | e + 1,op,w,r,h => by
  rw [zOpF] at h
  by_cases c : zName op = w
  ·rw [if_pos c] at h; cases h; exact ⟨by omega,by omega,c⟩
  ·rw [if_neg c] at h
   obtain ⟨h1,h2,h3⟩ := qk7 e (op + 1) w r h
   exact ⟨by omega,by omega,h3⟩
theorem qoP (op : Int) (h1 : 1 <= op) (h2 : op <= 20) : zName op ≠ vaa := by
 have : ∀ i : Fin 21,1 <= i.val -> (zName (i.val : Int)).size ≠ 0 := by decide +kernel
 intro e
 have h := this ⟨op.toNat,by omega⟩ (by show 1 <= op.toNat; omega)
 rw [show ((⟨op.toNat,by omega⟩ : Fin 21).val : Int) = op by show (op.toNat : Int) = op; omega,e] at h
 exact h rfl
theorem qhG : zOp vaa = none := by
 cases h : zOp vaa with
 | none => rfl
 | some r =>
  obtain ⟨h1,h2,h3⟩ := qk7 20 1 _ r h
  exact absurd h3 (qoP r (by omega) (by omega))
theorem qgr (w : ByteArray) (y0 : List ByteArray) (y1 : Bool) : ∀ (e : Nat) (op : Int) (n : Nat),op + e = 21 -> 1 <= op -> e < n -> qbs.l0 n w op y0 y1 = some (match zOpF e op w with | some r => .inr r | none => .inl ())
 | 0,op,n,h,_,hn => by
  obtain ⟨n,rfl⟩ := sun (n := n)
  rw [qbs.l0,ifq]; rfl
 | e + 1,op,n,h,h1,hn => by
  obtain ⟨n,rfl⟩ := sun (n := n)
  rw [qbs.l0,ifp,qhK,obs,qbP,zOpF]
  by_cases c : zName op = w
  ·rw [decide_eq_true c,if_pos rfl,if_pos c]
  ·rw [decide_eq_false c,if_neg (by decide),if_neg c,qah (by omega) (by omega)]
   exact qgr w y0 y1 e (op + 1) n (by omega) (by omega) (by omega)
theorem qh3 (w : ByteArray) (L : List ByteArray) (hL : L.length = 21) (hn : ∀ op : Int,1 <= op -> op <= 20 -> L.getD op.toNat vaa = zName op) : ∀ (e : Nat) (op : Int) (n : Nat),op + e = 21 -> 1 <= op -> e < n -> qcr.l0 n w 21 op L = some (match zOpF e op w with | some r => .inr r | none => .inl ())
 | 0,op,n,h,_,hm => by
  obtain ⟨n,rfl⟩ := sun (n := n)
  rw [qcr.l0,ifq]; rfl
 | e + 1,op,n,h,h1,hm => by
  obtain ⟨n,rfl⟩ := sun (n := n)
  rw [qcr.l0,ifp,ifp,ifp,ifp,hn op h1 (by omega),qbP,zOpF]
  by_cases c : zName op = w
  ·rw [decide_eq_true c,if_pos rfl,if_pos c]
  ·rw [decide_eq_false c,if_neg (by decide),if_neg c,qah (by omega) (by omega)]
   exact qh3 w L hL hn e (op + 1) n (by omega) (by omega) (by omega)
theorem qmY (w : ByteArray) (k : Nat) (hk : 200 <= k) : qcr.f k w = some ((zOp w).getD 0) := by
 obtain ⟨L,hL⟩ : ∃ L,qcX.f = some L := ⟨_,rfl⟩
 have h21 : L.length = 21 := by
  have : (qcX.f.getD []).length = 21 := rfl
  rw [hL] at this; exact this
 have hn : ∀ op : Int,1 <= op -> op <= 20 -> L.getD op.toNat vaa = zName op := fun op h1 h2 => by
  unfold zName
  rw [ifq,hL]; rfl
 unfold qcr.f
 rw [hL,obs,h21]
 obtain ⟨n,rfl⟩ : ∃ m,k = m + 1 := ⟨k - 1,by omega⟩
 have := qh3 w L h21 hn 20 1 n (by omega) (by omega) (by omega)
 rw [show ((21 : Nat) : Int) = 21 from rfl,qcr.l0,ifp,ifp,if_pos (by rw [h21]; decide),ifq,qah (n := 0 + 1) (by omega) (by omega),show (0 : Int) + 1 = 1 from rfl,this,obs]
 unfold zOp
 cases zOpF 20 1 w <;> rfl
def pOp : List ByteArray -> Option (Int × List ByteArray)
 | [] => none
 | w :: r => (zOp w).map fun op => (op,r)
theorem qm0 (w : ByteArray) (r : List ByteArray) : pOp (w :: r) = (zOp w).map fun op => (op,r) := rfl
theorem qpl (l : List ByteArray) (b : Bool) (hl : wl l) (k : Nat) (hk : 200 <= k) : ∃ a l' b',qbs.f k l b = some (a,l',b') /\ Cz pOp l b a l' b' := by
 unfold qbs.f
 cases l with
 | nil =>
  rw [qd6,obs]
  dsimp only
  rw [qgr _ _ _ 20 1 k (by omega) (by omega) (by omega),obs]
  rw [show zOpF 20 1 vaa = none from qhG]
  exact ⟨_,_,_,rfl,hl,fun _=>rfl,fun _=>rfl⟩
 | cons w r =>
  by_cases h : w = vaa
  ·rw [qfg h r b hl,obs]
   dsimp only
   rw [qgr _ _ _ 20 1 k (by omega) (by omega) (by omega),obs]
   rw [show zOpF 20 1 vaa = none from qhG]
   refine ⟨_,_,_,rfl,hl,fun _=>rfl,fun _=>?_⟩
   rw [qm0,h,qhG]; rfl
  ·rw [qff h r b hl,obs]
   dsimp only
   rw [qgr _ _ _ 20 1 k (by omega) (by omega) (by omega),obs]
   rw [show zOpF 20 1 w = zOp w from rfl]
   cases ho : zOp w with
   | none =>
    refine ⟨_,_,_,rfl,hl.tail,fun _=>rfl,fun _=>?_⟩
    rw [qm0,ho]; rfl
   | some op =>
    refine ⟨_,_,_,rfl,hl.tail,fun h => h,fun hb => ?_⟩
    rw [qm0,ho]; exact ⟨hb,rfl,rfl⟩
end Go.Pf

namespace Go.Pf
open Go Go.Vm
def pAll := seqP (seqP (seqP (seqP (seqP (seqP pOp pL) pL) pL) pN) pN) pNm
def toNd (x : (((((Int × LI) × LI) × LI) × Int) × Int) × ByteArray) : Nd := (x.1.1.1.1.1.1,(x.1.1.1.1.1.2,(x.1.1.1.1.2,(x.1.1.1.2,(x.1.1.2,(x.1.2,x.2))))))
def pNd (l : List ByteArray) : Option Nd := match pAll l with
 | some x => if x.2 = [] then some (toNd x.1) else none
 | none => none
theorem qm7 (l : List ByteArray) (hl : wl l) (k : Nat) (hk : 1000010 <= k) : ∃ o,qcR.f k l false = some o /\ match pNd l with
  | some x => o.2.2.2.2.2.1 = false /\ (o.1,(o.2.2.2.2.2.2.1,(o.2.2.2.2.2.2.2.1,(o.2.2.2.2.2.2.2.2,(o.2.1,(o.2.2.1,o.2.2.2.1)))))) = x
  | none => o.2.2.2.2.2.1 = true := by
 unfold qcR.f
 obtain ⟨a1,l1,b1,e1,c1⟩ := qpl l false hl k (by omega)
 rw [e1,obs]; dsimp only
 obtain ⟨l2,b2,a2,e2,c2⟩ := qgP l1 b1 c1.1 k hk
 rw [e2,obs]; dsimp only
 obtain ⟨l3,b3,a3,e3,c3⟩ := qgP l2 b2 c2.1 k hk
 rw [e3,obs]; dsimp only
 obtain ⟨l4,b4,a4,e4,c4⟩ := qgP l3 b3 c3.1 k hk
 rw [e4,obs]; dsimp only
 obtain ⟨a5,l5,b5,e5,c5⟩ := qi7 l4 b4 c4.1
 rw [e5,obs]; dsimp only
 obtain ⟨a6,l6,b6,e6,c6⟩ := qe3 l5 b5 c5.1
 rw [e6,obs]; dsimp only
 obtain ⟨a7,l7,b7,e7,c7⟩ := qi6 l6 b6 c6.1
 rw [e7,obs]; dsimp only
 have c := ((((((c1.seq c2).seq c3).seq c4).seq c5).seq c6).seq c7).2.2 rfl
 rw [show seqP (seqP (seqP (seqP (seqP (seqP pOp pL) pL) pL) pN) pN) pNm l = pAll l from rfl] at c
 unfold pNd
 cases hp : pAll l with
 | none =>
  rw [hp] at c
  have hb : b7 = true := c
  rw [if_pos hb]; exact ⟨_,rfl,rfl⟩
 | some x =>
  rw [hp] at c
  obtain ⟨hb,hl7,ha⟩ := c
  rw [hb,if_neg (by decide)]
  refine ⟨_,rfl,?_⟩
  dsimp only
  by_cases hx : x.2 = []
  ·rw [if_pos hx]
   have : l7 = [] := hl7.trans hx
   rw [this]
   refine ⟨by simp,?_⟩
   rw [<- ha]; rfl
  ·rw [if_neg hx]
   have : l7 ≠ [] := fun e => hx (hl7 ▸ e)
   have h0 : 0 < (l7.length : Int) := by have := vaF.2 this; omega
   exact decide_eq_true h0
theorem qo7 {w : ByteArray} {r : List ByteArray} (h : zOp w = none) : pNd (w :: r) = none := by
 unfold pNd pAll seqP
 rw [qm0,h]; rfl
theorem qjd (c : UInt8) (s : ByteArray) : ∃ w r,zWd c s = w :: r := by
 unfold zWd
 cases (sp c [] s.data.toList).1.map bA with
 | nil => exact ⟨_,_,rfl⟩
 | cons a l => exact ⟨_,_,rfl⟩
theorem qn3 (s : ByteArray) (hs : s.size ≤ 900000) (hl : wl (zWd 32 s)) (k : Nat) (hk : 1000010 ≤ k) : ∃ o,qej.f k s = some o ∧ match pNd (zWd 32 s) with
    | some x => o.2.2.2.2.1 = true ∧ (o.1,(o.2.2.2.2.2.1,(o.2.2.2.2.2.2.1,(o.2.2.2.2.2.2.2,(o.2.1,(o.2.2.1,o.2.2.2.1)))))) = x
    | none => o.2.2.2.2.1 = false := by
  have e45 : vab #[45] = bA [45] := rfl
  have ne : vaa ≠ bA [45] := fun h => by have := congrArg van h; simp [qbp] at this
  unfold qej.f
  obtain ⟨w,r,hw⟩ := qjd 32 s
  rw [qdv s (by omega) k (by omega),obs]
  rw [hw] at hl ⊢
  rw [qch w r false hl,obs]; dsimp only
  rw [qmY w k (by omega),obs]
  obtain ⟨l2,b2,a2,e2,c2⟩ := qh7 r false hl.tail k hk
  rw [e2,obs]; dsimp only
  obtain ⟨l3,b3,a3,e3,c3⟩ := qh7 l2 b2 c2.1 k hk
  rw [e3,obs]; dsimp only
  obtain ⟨l4,b4,a4,e4,c4⟩ := qh7 l3 b3 c3.1 k hk
  rw [e4,obs]; dsimp only
  obtain ⟨a5,l5,b5,e5,c5⟩ := qfK l4 b4 c4.1 k (by omega)
  rw [e5,obs]; dsimp only
  obtain ⟨a6,l6,b6,e6,c6⟩ := qfK l5 b5 c5.1 k (by omega)
  rw [e6,obs]; dsimp only
  rw [e45]
  cases ho : zOp w with
  | none =>
    rw [qo7 ho]
    rw [show (none : Option Int).getD 0 = 0 from rfl]
    obtain ⟨a7,l7,b7,e7⟩ : ∃ a l' b',qaB.f l6 b6 = some (a,l',b') := by
      cases l6 with
      | nil => exact ⟨_,_,_,rfl⟩
      | cons x q => exact ⟨_,_,_,qch x q b6 c6.1⟩
    rw [e7,obs]; dsimp only
    by_cases h1 : b7 = true <;> by_cases h2 : (a7.toList == (bA [45]).toList) = true
    · rw [if_pos h1,if_pos h2,if_neg (by decide)]; exact ⟨_,rfl,rfl⟩
    · rw [if_pos h1,if_neg h2,if_neg (by decide)]; exact ⟨_,rfl,rfl⟩
    · rw [if_neg h1,if_pos h2,if_neg (by decide)]; exact ⟨_,rfl,rfl⟩
    · rw [if_neg h1,if_neg h2,if_neg (by decide)]; exact ⟨_,rfl,rfl⟩
  | some op =>
    obtain ⟨o1,o2,_⟩ := qk7 20 1 w op ho
    rw [show (some op : Option Int).getD 0 = op from rfl]
    have c1 : Cz pOp (w :: r) false op r false := ⟨hl.tail,fun h => h,fun _=>by rw [qm0,ho]; exact ⟨rfl,rfl,rfl⟩⟩
    have c := (((((c1.seq c2).seq c3).seq c4).seq c5).seq c6)
    have hpos : 0 < op := by omega
    unfold pNd
    cases l6 with
    | nil =>
      have c7 : Cz pNm [] b6 vaa [] true := ⟨wl.nil,fun _=>rfl,fun _=>rfl⟩
      have c := (c.seq c7).2.2 rfl
      rw [show seqP (seqP (seqP (seqP (seqP (seqP pOp pL) pL) pL) pN) pN) pNm (w :: r) = pAll (w :: r) from rfl] at c
      rw [qdQ,obs]; dsimp only
      rw [if_pos rfl,qbP,decide_eq_false ne,if_neg (by decide),if_pos hpos]
      refine ⟨_,rfl,?_⟩
      cases hp : pAll (w :: r) with
      | none => rfl
      | some x => rw [hp] at c; cases c.1
    | cons x q =>
      have c7 : Cz pNm (x :: q) b6 (if x = bA [45] then vaa else x) q (b6 || decide (x = vaa)) := ⟨c6.1.tail,fun h => by rw [h]; rfl,fun h => by
        rw [qlp]
        by_cases hx : x = vaa
        · rw [if_pos hx,decide_eq_true hx,h]; rfl
        · rw [if_neg hx,decide_eq_false hx,h]; exact ⟨rfl,rfl,rfl⟩⟩
      have c := (c.seq c7).2.2 rfl
      rw [show seqP (seqP (seqP (seqP (seqP (seqP pOp pL) pL) pL) pN) pN) pNm (w :: r) = pAll (w :: r) from rfl] at c
      rw [qch x q b6 c6.1,obs]; dsimp only
      rw [qbP,qbP]
      cases b6 with
      | true =>
        rw [if_pos rfl]
        have hn : pAll (w :: r) = none := by
          cases hp : pAll (w :: r) with
          | none => rfl
          | some x => rw [hp] at c; have := c.1; simp at this
        rw [hn]
        by_cases h2 : x = bA [45]
        · rw [decide_eq_true h2,if_pos rfl,if_pos hpos]; exact ⟨_,rfl,rfl⟩
        · rw [decide_eq_false h2,if_neg (by decide),if_pos hpos]; exact ⟨_,rfl,rfl⟩
      | false =>
        rw [if_neg (by decide)]
        by_cases h2 : x = bA [45]
        · have hx : x ≠ vaa := fun e => ne (e.symm.trans h2)
          rw [decide_eq_true h2,if_pos rfl,if_pos hpos,decide_eq_false hx,if_neg (by decide)]
          refine ⟨_,rfl,?_⟩
          rw [decide_eq_false hx,if_pos h2] at c
          cases hp : pAll (w :: r) with
          | none => rw [hp] at c; cases c
          | some y =>
            rw [hp] at c
            obtain ⟨_,hq,ha⟩ := c
            dsimp only
            by_cases hy : y.2 = []
            · rw [if_pos hy]
              have : q = [] := hq.trans hy
              rw [this]
              refine ⟨by simp,?_⟩
              rw [← ha]; rfl
            · rw [if_neg hy]
              have : q ≠ [] := fun e => hy (hq ▸ e)
              have h0 : ¬ (q.length : Int) = 0 := by have := vaF.2 this; omega
              exact decide_eq_false h0
        · by_cases hx : x = vaa
          · rw [decide_eq_false h2,if_neg (by decide),if_pos hpos,decide_eq_true hx,if_pos rfl]
            refine ⟨_,rfl,?_⟩
            rw [decide_eq_true hx] at c
            cases hp : pAll (w :: r) with
            | none => rfl
            | some y => rw [hp] at c; have := c.1; simp at this
          · rw [decide_eq_false h2,if_neg (by decide),if_pos hpos,decide_eq_false hx,if_neg (by decide)]
            refine ⟨_,rfl,?_⟩
            rw [decide_eq_false hx,if_neg h2] at c
            cases hp : pAll (w :: r) with
            | none => rw [hp] at c; cases c
            | some y =>
              rw [hp] at c
              obtain ⟨_,hq,ha⟩ := c
              dsimp only
              by_cases hy : y.2 = []
              · rw [if_pos hy]
                have : q = [] := hq.trans hy
                rw [this]
                refine ⟨by simp,?_⟩
                rw [← ha]; rfl
              · rw [if_neg hy]
                have : q ≠ [] := fun e => hy (hq ▸ e)
                have h0 : ¬ (q.length : Int) = 0 := by have := vaF.2 this; omega
                exact decide_eq_false h0
def pNds : List ByteArray -> Option (List Nd)
 | [] => some []
 | s :: r => match pNd (zWd 32 s) with
  | some x => (pNds r).map (x :: ·)
  | none => none
def ln (M : List ByteArray) : Prop := M.length <= 1000000 /\ ∀ s ∈ M,s.size <= 900000
theorem qhF {s : ByteArray} (h : s.size <= 900000) : wl (zWd 32 s) := by
 have hsz : s.data.toList.length = s.size := vac
 have h1 := qfW 32 s.data.toList []
 have key : ∀ (l cur : List UInt8),(∀ x ∈ (sp 32 cur l).1,x.length <= cur.length + l.length) /\ (sp 32 cur l).2.length <= cur.length + l.length := by
  intro l
  induction l with
  | nil => intro cur; simp [sp]
  | cons x l ih =>
   intro cur
   rw [sp]
   split
   ·obtain ⟨i1,i2⟩ := ih []
    simp only [vad,lCo] at i1 i2 ⊢
    refine ⟨fun y hy => ?_,by omega⟩
    rcases vag.1 hy with rfl | hy
    ·omega
    ·have := i1 y hy; omega
   ·obtain ⟨i1,i2⟩ := ih (cur ++ [x])
    simp only [lAp,lCo,vad] at i1 i2 ⊢
    exact ⟨fun y hy => by have := i1 y hy; omega,by omega⟩
 obtain ⟨k1,k2⟩ := key s.data.toList []
 simp only [vad] at k1 k2
 unfold zWd
 refine ⟨by simp only [lAp,vae,lSi]; omega,fun w hw => ?_⟩
 rcases vap.1 hw with hw | hw
 ·obtain ⟨x,hx,rfl⟩ := vaJ.1 hw
  have := k1 x hx; rw [qbp]; omega
 ·rw [vaf] at hw; subst hw; rw [qbp]; omega
theorem qln (k : Nat) (hk : 1000010 <= k) (M : List ByteArray) (hM : ln M) (y0 y1 : ByteArray) (y2 : List ByteArray) (c2 : Bool) (y3 : List ByteArray) (c3 : Bool) (y4 : LI) : ∀ (e i n : Nat) (b : Bool) (y : List Nd),M.length = i + e -> e < n -> y.length <= i ->
  ∃ b' y',qbr.l0 k n b M (M.length : Int) (i : Int) y0 y1 y2 c2 y3 c3 y4 y = some (b',y') /\ (b = true -> b' = true) /\ (b = false -> match pNds (M.drop i) with | some ns => b' = false /\ y' = y ++ ns | none => b' = true)
 | 0,i,n,b,y,hi,hn,hy => by
  obtain ⟨n,rfl⟩ := sun (n := n)
  refine ⟨_,_,by rw [qbr.l0,ifq],fun h => h,fun h => ?_⟩
  rw [dNl (by omega)]
  exact ⟨h,by simp⟩
 | e + 1,i,n,b,y,hi,hn,hy => by
  obtain ⟨n,rfl⟩ := sun (n := n)
  have h1 := hM.1
  have hm := hM.2 _ (qak (show i < M.length by omega) vaa)
  rw [qbr.l0,ifp,ifp,tNc,qcO _ (by omega) k (by omega),obs]
  obtain ⟨o,eo,ho⟩ := qm7 (zWd 32 (M.getD i vaa)) (qhF hm) k hk
  rw [eo,obs,if_pos (by simp only [lSi]; omega),qah (n := (i : Int) + 1) (by omega) (by omega),show (i : Int) + 1 = ((i + 1 : Nat) : Int) by omega,qaj (show i < M.length by omega) vaa]
  cases b with
  | true =>
   rw [if_pos rfl]
   obtain ⟨b',y',e',t',_⟩ := qln k hk M hM y0 y1 y2 c2 y3 c3 y4 e (i + 1) n true (y ++ [_]) (by omega) (by omega) (by simp only [lAp,lSi]; omega)
   exact ⟨b',y',e',t',fun h => by cases h⟩
  | false =>
   rw [if_neg (by decide)]
   obtain ⟨b',y',e',t',f'⟩ := qln k hk M hM y0 y1 y2 c2 y3 c3 y4 e (i + 1) n o.2.2.2.2.2.1 (y ++ [(o.1,(o.2.2.2.2.2.2.1,(o.2.2.2.2.2.2.2.1,(o.2.2.2.2.2.2.2.2,(o.2.1,(o.2.2.1,o.2.2.2.1))))))]) (by omega) (by omega) (by simp only [lAp,lSi]; omega)
   refine ⟨b',y',e',fun h => (by cases h),fun _=>?_⟩
   rw [pNds]
   cases hp : pNd (zWd 32 (M.getD i vaa)) with
   | none => rw [hp] at ho; exact t' ho
   | some x =>
    rw [hp] at ho
    obtain ⟨h2,h3⟩ := ho
    have f' := f' h2
    rw [h3] at f'
    cases hr : pNds (M.drop (i + 1)) with
    | none => rw [hr] at f'; exact f'
    | some ns => rw [hr] at f'; exact ⟨f'.1,by rw [f'.2,aAs]; rfl⟩
theorem qmL (k : Nat) (hk : 1000010 <= k) (s : ByteArray) (L : List ByteArray) (hL : ln L) (hpos : 1 <= L.length) (y0 y2 : ByteArray) (y3 : LI) : ∀ (e i n : Nat) (y : List Nd),L.length - 1 = i + e -> e < n -> y.length <= i ->
  qbd.l0 k n s (i : Int) y0 L y2 y3 y = some (match pNds ((L.take (L.length - 1)).drop i) with | some ns => .inl (y ++ ns) | none => .inr (12,vaa))
 | 0,i,n,y,hi,hn,hy => by
  obtain ⟨n,rfl⟩ := sun (n := n)
  have h1 := hL.1
  rw [qbd.l0,qah (n := (L.length : Int) - 1) (by omega) (by omega),ifq,dNl (by rw [lTk]; omega)]
  simp [pNds]
 | e + 1,i,n,y,hi,hn,hy => by
  obtain ⟨n,rfl⟩ := sun (n := n)
  have h1 := hL.1
  have hm := hL.2 _ (qak (show i < L.length by omega) vaa)
  have hg : (L.take (L.length - 1)).getD i vaa = L.getD i vaa := by
   rw [gDg,gDg,List.getElem?_take,ifp]
  rw [qbd.l0,qah (n := (L.length : Int) - 1) (by omega) (by omega),ifp,ifp,tNc,ifp]
  obtain ⟨o,eo,ho⟩ := qn3 (L.getD i vaa) hm (qhF hm) k hk
  rw [eo,obs,qaj (show i < (L.take (L.length - 1)).length by rw [lTk]; omega) vaa,hg,pNds]
  cases hp : pNd (zWd 32 (L.getD i vaa)) with
  | none =>
   rw [hp] at ho
   rw [ho,if_neg (by decide)]
  | some x =>
   rw [hp] at ho
   obtain ⟨h2,h3⟩ := ho
   rw [h2,if_pos rfl,if_pos (by simp only [lSi]; omega),h3,qah (n := (i : Int) + 1) (by omega) (by omega),show (i : Int) + 1 = ((i + 1 : Nat) : Int) by omega,
    qmL k hk s L hL hpos y0 y2 y3 e (i + 1) n _ (by omega) (by omega) (by simp only [lAp,lSi]; omega)]
   cases pNds ((L.take (L.length - 1)).drop (i + 1)) with
   | none => rfl
   | some ns => simp
end Go.Pf

namespace Go.Pf
open Go Go.Vm
theorem qq3 (c : UInt8) : ∀ (l cur : List UInt8),(∀ x ∈ (sp c cur l).1,x.length <= cur.length + l.length) /\ (sp c cur l).2.length <= cur.length + l.length := by
 intro l
 induction l with
 | nil => intro cur; simp [sp]
 | cons x l ih =>
  intro cur
  rw [sp]
  split
  ·obtain ⟨i1,i2⟩ := ih []
   simp only [vad,lCo] at i1 i2 ⊢
   refine ⟨fun y hy => ?_,by omega⟩
   rcases vag.1 hy with rfl | hy
   ·omega
   ·have := i1 y hy; omega
  ·obtain ⟨i1,i2⟩ := ih (cur ++ [x])
   simp only [lAp,lCo,vad] at i1 i2 ⊢
   exact ⟨fun y hy => by have := i1 y hy; omega,by omega⟩
def zLi (s : ByteArray) : List ByteArray := (sp 10 [] s.data.toList).1.map bA
theorem qnz {s : ByteArray} (h : s.size <= 65536) : ln (zLi s) /\ ∀ x ∈ zLi s,x.size <= 65536 := by
 have hsz : s.data.toList.length = s.size := vac
 have h1 := qfW 10 s.data.toList []
 obtain ⟨k1,k2⟩ := qq3 10 s.data.toList []
 simp only [vad] at k1
 have key : ∀ x ∈ zLi s,x.size <= 65536 := fun w hw => by
  obtain ⟨x,hx,rfl⟩ := vaJ.1 hw
  have := k1 x hx; rw [qbp]; omega
 exact ⟨⟨by unfold zLi; rw [vae]; omega,fun w hw => by have := key w hw; omega⟩,key⟩
def pMs (ws : List ByteArray) : Option (ByteArray × LI) := match seqP (pMu (bA mesh5)) pNm ws with
 | some x => match nums x.2 with
  | some ns => if x.1.2 = vaa /\ 0 < ns.length then none else some (x.1.2,ns)
  | none => none
 | none => none
def pOu (ws : List ByteArray) : Option LI := match pMu (bA outs4) ws with
 | some x => nums x.2
 | none => none
def rdL (L : List ByteArray) : Option (ByteArray × LI × List Nd × LI) := match pMs (zWd 32 (L.getD 0 vaa)) with
 | none => none
 | some m => match pNds ((L.take (L.length - 1)).drop 1) with
  | none => none
  | some N => match pOu (zWd 32 (L.getD (L.length - 1) vaa)) with
   | none => none
   | some O => some (m.1,m.2,N,O)
def zRd (s : ByteArray) : Option (ByteArray × LI × List Nd × LI) := if (sp 10 [] s.data.toList).2 = [] /\ 2 <= (zLi s).length then rdL (zLi s) else none
theorem qpa : bA mesh5 ≠ vaa := fun h => by have := congrArg van h; simp [qbp,mesh5] at this
theorem qo8 : bA outs4 ≠ vaa := fun h => by have := congrArg van h; simp [qbp,outs4] at this
theorem qp4 (l : List UInt8) : bA l = vaa ↔ l = [] := by
 rw [<- qrA]
 exact ⟨qp3,fun h => by rw [h]⟩
set_option maxHeartbeats 1000000 in
theorem qkA (s : ByteArray) (hs : s.size ≤ 65536) (k : Nat) (hk : 1000010 ≤ k) : ∃ o,qbr.f k s = some o ∧ match zRd s with
    | some z => o = (z.1,true,z.2.1,z.2.2.1,z.2.2.2)
    | none => o.2.1 = false := by
  have hsz : s.data.toList.length = s.size := vac
  have hspl := qfW 10 s.data.toList []
  obtain ⟨hln,hsm⟩ := qnz hs
  unfold qbr.f zRd
  rw [show qaY.f k s 10 = some (zWd 10 s) from qme s (by omega) 10 (by decide) (by omega) k (by omega),obs]
  have ht : zWd 10 s = zLi s ++ [bA (sp 10 [] s.data.toList).2] := rfl
  rw [ht]
  generalize hL : zLi s = L at hln hsm ⊢
  generalize (sp 10 [] s.data.toList).2 = q
  have hl1 := hln.1
  have hlen : ((L ++ [bA q]).length : Int) = (L.length : Int) + 1 := by rw [lAp,lSi]; omega
  by_cases h3 : L.length < 2
  · rw [ifp,ifq]; exact ⟨_,rfl,rfl⟩
  have hw : iW.wrap (((L ++ [bA q]).length : Int) - 1) = (L.length : Int) := by rw [hlen,qah (by omega) (by omega)]; omega
  have hw2 : iW.wrap ((L.length : Int) - 1) = ((L.length - 1 : Nat) : Int) := by rw [qah (by omega) (by omega)]; omega
  have htk : (L ++ [bA q]).take L.length = L := by simp
  have hgt : (L ++ [bA q]).getD L.length vaa = bA q := by simp
  simp only [hw,tNc,htk,dZr,hw2,hgt]
  rw [ifq,ifp,qbP]
  by_cases hq : q ≠ []
  · rw [decide_eq_false (fun e => hq ((qp4 q).1 e)),if_neg (by decide),if_neg (fun h => hq h.1)]; exact ⟨_,rfl,rfl⟩
  have hq : q = [] := Classical.not_not.1 hq
  rw [decide_eq_true ((qp4 q).2 hq),if_pos rfl,if_pos (show q = [] ∧ 2 ≤ L.length from ⟨hq,by omega⟩),ifp,ifp]
  have m0 := hsm _ (qak (show 0 < L.length by omega) vaa)
  have m1 := hsm _ (qak (show L.length - 1 < L.length by omega) vaa)
  rw [qcO _ (by omega) k (by omega),obs,ifp,qcO _ (by omega) k (by omega),obs]
  have w0 := qhF (s := L.getD 0 vaa) (by omega)
  have w1 := qhF (s := L.getD (L.length - 1) vaa) (by omega)
  obtain ⟨l1,b1,e1,c1⟩ := qep (bA mesh5) qpa _ false w0
  rw [show vab #[109,101,115,104] = bA mesh5 from rfl,e1,obs]; dsimp only
  obtain ⟨nm,l2,b2,e2,c2⟩ := qi6 l1 b1 c1.1
  rw [e2,obs]; dsimp only
  obtain ⟨l3,b3,sz,e3,t3,f3⟩ := qi5 l2 b2 c2.1 k hk
  rw [e3,obs]; dsimp only
  have c12 := (c1.seq c2).2.2 rfl
  -- the rest
  obtain ⟨l4,b4,e4,c4⟩ := qep (bA outs4) qo8 _ false w1
  obtain ⟨l5,b5,O,e5,t5,f5⟩ := qi5 l4 b4 c4.1 k hk
  have hO : match pOu (zWd 32 (L.getD (L.length - 1) vaa)) with | some o => b5 = false ∧ O = o | none => b5 = true := by
    have c4 := c4.2.2 rfl
    unfold pOu
    cases hp : pMu (bA outs4) (zWd 32 (L.getD (L.length - 1) vaa)) with
    | none => rw [hp] at c4; exact t5 c4
    | some x =>
      rw [hp] at c4
      obtain ⟨g1,g2,_⟩ := c4
      have f5 := f5 g1
      rw [g2] at f5
      exact f5
  have hMl : ln ((L.take (L.length - 1)).drop 1) := ⟨by rw [vaA,lTk]; omega,fun x hx => by have := hsm x (var (vaS hx)); omega⟩
  have tail : ∀ b0 : Bool,∃ b9 N,qbr.l0 k k b0 ((L.take (L.length - 1)).drop 1) (((L.take (L.length - 1)).drop 1).length : Int) 0 vaa nm l3 b3 (zWd 32 (L.getD (L.length - 1) vaa)) false sz [] = some (b9,N) ∧ (b0 = true → b9 = true) ∧ (b0 = false → match pNds ((L.take (L.length - 1)).drop 1) with | some ns => b9 = false ∧ N = ns | none => b9 = true) := fun b0 => by
    obtain ⟨b9,N,e9,t9,f9⟩ := qln k hk _ hMl vaa nm l3 b3 (zWd 32 (L.getD (L.length - 1) vaa)) false sz ((L.take (L.length - 1)).drop 1).length 0 k b0 [] (by omega) (by have := hMl.1; omega) (by simp)
    refine ⟨b9,N,e9,t9,fun h => ?_⟩
    have f9 := f9 h
    rw [dZr] at f9
    cases hN : pNds ((L.take (L.length - 1)).drop 1) with
    | none => rw [hN] at f9; exact f9
    | some ns => rw [hN] at f9; exact ⟨f9.1,by simpa using f9.2⟩
  have fin : ∀ b0 : Bool,b0 = decide (nm = vaa ∧ 0 < sz.length) → ∃ o,(qbr.l0 k k b0 ((L.take (L.length - 1)).drop 1) (((L.take (L.length - 1)).drop 1).length : Int) 0 vaa nm l3 b3 (zWd 32 (L.getD (L.length - 1) vaa)) false sz []).bind (fun t9 => (qbv.f (vab #[111,117,116,115]) (zWd 32 (L.getD (L.length - 1) vaa)) false).bind fun t10 => (qaI.f k t10.1 t10.2).bind fun t11 => if t9.1 = true then (some (nm,false,sz,t9.2,t11.2.2)) else if b3 = true then (some (nm,false,sz,t9.2,t11.2.2)) else some (nm,!t11.2.1,sz,t9.2,t11.2.2)) = some o ∧ match rdL L with
      | some z => o = (z.1,true,z.2.1,z.2.2.1,z.2.2.2)
      | none => o.2.1 = false := fun b0 hb0 => by
    obtain ⟨b9,N,e9,t9,f9⟩ := tail b0
    rw [e9,obs,show vab #[111,117,116,115] = bA outs4 from rfl,e4,obs]; dsimp only
    rw [e5,obs]; dsimp only
    have hbad : (b9 = true ∨ b3 = true ∨ b5 = true) → rdL L = none → ∃ o,(if b9 = true then some (nm,false,sz,N,O) else if b3 = true then some (nm,false,sz,N,O) else some (nm,!b5,sz,N,O)) = some o ∧ match rdL L with
      | some z => o = (z.1,true,z.2.1,z.2.2.1,z.2.2.2)
      | none => o.2.1 = false := fun hb hr => by
      rw [hr]
      by_cases h9 : b9 = true
      · rw [if_pos h9]; exact ⟨_,rfl,rfl⟩
      · by_cases h3 : b3 = true
        · rw [if_neg h9,if_pos h3]; exact ⟨_,rfl,rfl⟩
        · rw [if_neg h9,if_neg h3]
          rcases hb with h | h | h
          · exact absurd h h9
          · exact absurd h h3
          · exact ⟨_,rfl,by rw [h]; rfl⟩
    cases hp : seqP (pMu (bA mesh5)) pNm (zWd 32 (L.getD 0 vaa)) with
    | none =>
      rw [hp] at c12
      exact hbad (.inr (.inl (t3 c12))) (by unfold rdL pMs; rw [hp])
    | some x =>
      rw [hp] at c12
      obtain ⟨g1,g2,g3⟩ := c12
      have g3 : nm = x.1.2 := congrArg Prod.snd g3
      have f3 := f3 g1
      rw [g2] at f3
      cases hn : nums x.2 with
      | none =>
        rw [hn] at f3
        exact hbad (.inr (.inl f3)) (by unfold rdL pMs; rw [hp]; dsimp only; rw [hn])
      | some ns =>
        rw [hn] at f3
        obtain ⟨g4,g5⟩ := f3
        by_cases hz : nm = vaa ∧ 0 < sz.length
        · rw [decide_eq_true hz] at hb0
          exact hbad (.inl (t9 hb0)) (by unfold rdL pMs; rw [hp]; dsimp only; rw [hn]; dsimp only; rw [← g3,← g5,if_pos hz])
        · rw [decide_eq_false hz] at hb0
          have f9 := f9 hb0
          have hms : pMs (zWd 32 (L.getD 0 vaa)) = some (nm,sz) := by unfold pMs; rw [hp]; dsimp only; rw [hn]; dsimp only; rw [← g3,← g5,if_neg hz]
          cases hN : pNds ((L.take (L.length - 1)).drop 1) with
          | none =>
            rw [hN] at f9
            exact hbad (.inl f9) (by unfold rdL; rw [hms]; dsimp only; rw [hN])
          | some Ns =>
            rw [hN] at f9
            obtain ⟨g6,g7⟩ := f9
            cases hou : pOu (zWd 32 (L.getD (L.length - 1) vaa)) with
            | none =>
              rw [hou] at hO
              exact hbad (.inr (.inr hO)) (by unfold rdL; rw [hms]; dsimp only; rw [hN]; dsimp only; rw [hou])
            | some Os =>
              rw [hou] at hO
              obtain ⟨g8,g9⟩ := hO
              have hr : rdL L = some (nm,sz,Ns,Os) := by unfold rdL; rw [hms]; dsimp only; rw [hN]; dsimp only; rw [hou]
              rw [hr,g6,if_neg (by decide),g4,if_neg (by decide),g8]
              exact ⟨_,rfl,by rw [g7,g9]; rfl⟩
  rw [qbP]
  by_cases hnm : nm = vaa
  · rw [decide_eq_true hnm,if_pos rfl,ifp]
    exact fin _ (decide_eq_decide.2 ⟨fun h => ⟨hnm,by omega⟩,fun h => by have := h.2; omega⟩)
  · rw [decide_eq_false hnm,if_neg (by decide),ifp]
    exact fin _ (decide_eq_false (fun h => hnm h.1)).symm
end Go.Pf

namespace Go.Pf
open Go Go.Vm
def Bd (l : List ByteArray) : Prop := l.length <= 65537 /\ ∀ w ∈ l,w.size <= 65537
theorem Bd.tail {w : ByteArray} {r : List ByteArray} (h : Bd (w :: r)) : Bd r := ⟨by have := h.1; simp only [lCo] at this; omega,fun x hx => h.2 x (mCm _ hx)⟩
theorem qno {s : ByteArray} (h : s.size <= 65536) : Bd (zWd 32 s) := by
 have hsz : s.data.toList.length = s.size := vac
 have h1 := qfW 32 s.data.toList []
 obtain ⟨k1,k2⟩ := qq3 32 s.data.toList []
 simp only [vad] at k1 k2
 unfold zWd
 refine ⟨by simp only [lAp,vae,lSi]; omega,fun w hw => ?_⟩
 rcases vap.1 hw with hw | hw
 ·obtain ⟨x,hx,rfl⟩ := vaJ.1 hw
  have := k1 x hx; rw [qbp]; omega
 ·rw [vaf] at hw; subst hw; rw [qbp]; omega
theorem qdL {α β : Type} {p : List ByteArray -> Option (α × List ByteArray)} {q : List ByteArray -> Option (β × List ByteArray)} {l : List ByteArray} {z : (α × β) × List ByteArray} (h : seqP p q l = some z) : ∃ x y,p l = some x /\ q x.2 = some y /\ z = ((x.1,y.1),y.2) := by
 unfold seqP at h
 cases hp : p l with
 | none => rw [hp] at h; cases h
 | some x =>
  rw [hp,obs] at h
  cases hq : q x.2 with
  | none => rw [hq] at h; cases h
  | some y => rw [hq,obs] at h; cases h; exact ⟨x,y,rfl,hq,rfl⟩
theorem qq8 {l : List ByteArray} (hl : Bd l) {x : Int × List ByteArray} (h : pN l = some x) : rng x.1 /\ Bd x.2 := by
 cases l with
 | nil => cases h
 | cons w r =>
  rw [pN_c] at h
  cases hv : zVal w with
  | none => rw [hv] at h; cases h
  | some n => rw [hv] at h; cases h; exact ⟨(qeK hv).2,hl.tail⟩
theorem qlq : ∀ {l : List ByteArray} {ns : LI},nums l = some ns -> ns.length = l.length /\ ∀ n ∈ ns,rng n
 | [],ns,h => by cases h; exact ⟨rfl,fun _ h => by cases h⟩
 | w :: r,ns,h => by
  rw [qof] at h
  cases hv : zVal w with
  | none => rw [hv] at h; cases h
  | some n =>
   rw [hv] at h
   cases hr : nums r with
   | none => rw [hr] at h; cases h
   | some m =>
    rw [hr] at h; cases h
    obtain ⟨h1,h2⟩ := qlq hr
    refine ⟨by simp only [lCo]; omega,fun x hx => ?_⟩
    rcases vag.1 hx with rfl | hx
    ·exact (qeK hv).2
    ·exact h2 x hx
theorem qpR : ∀ {l : List ByteArray} {x : LI × List ByteArray},Bd l -> pLt l = some x -> x.1.length <= l.length /\ (∀ n ∈ x.1,rng n) /\ Bd x.2
 | [],x,_,h => by cases h
 | w :: r,x,hl,h => by
  rw [qqp] at h
  by_cases hw : w = bA [41]
  ·rw [if_pos hw] at h; cases h; exact ⟨by simp,fun _ h => (by cases h),hl.tail⟩
  rw [if_neg hw] at h
  cases hv : zVal w with
  | none => rw [hv] at h; cases h
  | some n =>
   rw [hv] at h
   cases hr : pLt r with
   | none => rw [hr] at h; cases h
   | some y =>
    rw [hr] at h; cases h
    obtain ⟨h1,h2,h3⟩ := qpR hl.tail hr
    refine ⟨by simp only [lCo]; omega,fun m hm => ?_,h3⟩
    rcases vag.1 hm with rfl | hm
    ·exact (qeK hv).2
    ·exact h2 m hm
theorem qqq {l : List ByteArray} {x : LI × List ByteArray} (hl : Bd l) (h : pL l = some x) : x.1.length <= 65537 /\ (∀ n ∈ x.1,rng n) /\ Bd x.2 := by
 cases l with
 | nil => cases h
 | cons w r =>
  rw [pL_c] at h
  by_cases hw : w = bA [40]
  ·rw [if_pos hw] at h
   obtain ⟨h1,h2,h3⟩ := qpR hl.tail h
   have := hl.tail.1
   exact ⟨by omega,h2,h3⟩
  ·rw [if_neg hw] at h; cases h
theorem qpP {l : List ByteArray} {x : ByteArray × List ByteArray} (hl : Bd l) (h : pNm l = some x) : x.1.size <= 65537 /\ Bd x.2 := by
 cases l with
 | nil => cases h
 | cons w r =>
  rw [qlp] at h
  have hw := hl.2 w (by simp)
  by_cases h1 : w = vaa
  ·rw [if_pos h1] at h; cases h
  rw [if_neg h1] at h
  cases h
  refine ⟨?_,hl.tail⟩
  dsimp only
  by_cases h2 : w = bA [45]
  ·rw [if_pos h2]; decide
  ·rw [if_neg h2]; exact hw
theorem qpQ {a : ByteArray} {l : List ByteArray} {x : Unit × List ByteArray} (hl : Bd l) (h : pMu a l = some x) : Bd x.2 := by
 cases l with
 | nil => cases h
 | cons w r =>
  rw [qgF] at h
  by_cases hw : w = a
  ·rw [if_pos hw] at h; cases h; exact hl.tail
  ·rw [if_neg hw] at h; cases h
theorem qq7 {l : List ByteArray} (hl : Bd l) {x : Nd} (h : pNd l = some x) : wtN x := by
  unfold pNd at h
  cases hp : pAll l with
  | none => rw [hp] at h; cases h
  | some z =>
    rw [hp] at h
    dsimp only at h
    by_cases hz : z.2 = []
    · rw [if_pos hz] at h
      cases h
      obtain ⟨z6,x7,e6,e7,rfl⟩ := qdL hp
      obtain ⟨z5,x6,e5,f6,rfl⟩ := qdL e6
      obtain ⟨z4,x5,e4,f5,rfl⟩ := qdL e5
      obtain ⟨z3,x4,e3,f4,rfl⟩ := qdL e4
      obtain ⟨z2,x3,e2,f3,rfl⟩ := qdL e3
      obtain ⟨x1,x2,e1,f2,rfl⟩ := qdL e2
      have b1 : Bd x1.2 := by
        cases l with
        | nil => cases e1
        | cons w r =>
          rw [qm0] at e1
          cases ho : zOp w with
          | none => rw [ho] at e1; cases e1
          | some op => rw [ho] at e1; cases e1; exact hl.tail
      obtain ⟨a2,r2,b2⟩ := qqq b1 f2
      obtain ⟨a3,r3,b3⟩ := qqq b2 f3
      obtain ⟨a4,r4,b4⟩ := qqq b3 f4
      obtain ⟨r5,b5⟩ := qq8 b4 f5
      obtain ⟨r6,b6⟩ := qq8 b5 f6
      obtain ⟨a7,_⟩ := qpP b6 e7
      exact ⟨by show x2.1.length ≤ _; omega,by show x3.1.length ≤ _; omega,by show x4.1.length ≤ _; omega,by show x7.1.size ≤ _; omega,r2,r3,r4,r5,r6⟩
    · rw [if_neg hz] at h; cases h
theorem qob : ∀ {M : List ByteArray} {N : List Nd},(∀ s ∈ M,s.size <= 65536) -> pNds M = some N -> N.length = M.length /\ ∀ x ∈ N,wtN x
 | [],N,_,h => by cases h; exact ⟨rfl,fun _ h => by cases h⟩
 | s :: r,N,hM,h => by
  rw [pNds] at h
  cases hp : pNd (zWd 32 s) with
  | none => rw [hp] at h; cases h
  | some x =>
   rw [hp] at h
   cases hr : pNds r with
   | none => rw [hr] at h; cases h
   | some m =>
    rw [hr] at h; cases h
    obtain ⟨h1,h2⟩ := qob (fun s hs => hM s (mCm _ hs)) hr
    refine ⟨by simp only [lCo]; omega,fun y hy => ?_⟩
    rcases vag.1 hy with rfl | hy
    ·exact qq7 (qno (hM s (by simp))) hp
    ·exact h2 y hy
theorem qns {s : ByteArray} (hs : s.size ≤ 65536) {z : ByteArray × LI × List Nd × LI} (h : zRd s = some z) : wtG z.2.1 z.1 z.2.2.1 z.2.2.2 ∧ z.2.1.length ≤ 100000 ∧ z.2.2.1.length ≤ 100000 ∧ z.2.2.2.length ≤ 100000 ∧ s ≠ vaa := by
  obtain ⟨hln,hsm⟩ := qnz hs
  have hsz : s.data.toList.length = s.size := vac
  have hspl := qfW 10 s.data.toList []
  unfold zRd at h
  by_cases hc' : ¬ ((sp 10 [] s.data.toList).2 = [] ∧ 2 ≤ (zLi s).length)
  · rw [if_neg hc'] at h; cases h
  have hc := Classical.not_not.1 hc'
  rw [if_pos hc] at h
  have hne : s ≠ vaa := fun e => by
    have h2 := hc.2
    unfold zLi at h2
    rw [vae,e] at h2
    exact absurd h2 (by decide)
  have hlen : (zLi s).length ≤ 65536 := by unfold zLi; rw [vae]; omega
  have m0 := hsm _ (qak (show 0 < (zLi s).length by omega) vaa)
  have m1 := hsm _ (qak (show (zLi s).length - 1 < (zLi s).length by omega) vaa)
  unfold rdL at h
  cases h1 : pMs (zWd 32 ((zLi s).getD 0 vaa)) with
  | none => rw [h1] at h; cases h
  | some m =>
    rw [h1] at h
    dsimp only at h
    cases h2 : pNds (((zLi s).take ((zLi s).length - 1)).drop 1) with
    | none => rw [h2] at h; cases h
    | some N =>
      rw [h2] at h
      dsimp only at h
      cases h3 : pOu (zWd 32 ((zLi s).getD ((zLi s).length - 1) vaa)) with
      | none => rw [h3] at h; cases h
      | some O =>
        rw [h3] at h
        cases h
        obtain ⟨n1,n2⟩ := qob (fun x hx => hsm x (var (vaS hx))) h2
        have b0 := qno m0
        have b1 := qno m1
        have hm : m.1.size ≤ 65537 ∧ m.2.length ≤ 65537 ∧ ∀ n ∈ m.2,rng n := by
          unfold pMs at h1
          cases hp : seqP (pMu (bA mesh5)) pNm (zWd 32 ((zLi s).getD 0 vaa)) with
          | none => rw [hp] at h1; cases h1
          | some y =>
            rw [hp] at h1
            dsimp only at h1
            cases hn : nums y.2 with
            | none => rw [hn] at h1; cases h1
            | some ns =>
              rw [hn] at h1
              dsimp only at h1
              obtain ⟨y1,y2,e1,e2,rfl⟩ := qdL hp
              obtain ⟨p1,p2⟩ := qpP (qpQ b0 e1) e2
              obtain ⟨q1,q2⟩ := qlq hn
              by_cases hz : y2.1 = vaa ∧ 0 < ns.length
              · rw [if_pos hz] at h1; cases h1
              · rw [if_neg hz] at h1; cases h1
                exact ⟨p1,by have := p2.1; show ns.length ≤ _; rw [q1]; exact this,q2⟩
        have ho : O.length ≤ 65537 ∧ ∀ n ∈ O,rng n := by
          unfold pOu at h3
          cases hp : pMu (bA outs4) (zWd 32 ((zLi s).getD ((zLi s).length - 1) vaa)) with
          | none => rw [hp] at h3; cases h3
          | some y =>
            rw [hp] at h3
            obtain ⟨q1,q2⟩ := qlq h3
            have := (qpQ b1 hp).1
            exact ⟨by rw [q1]; exact this,q2⟩
        exact ⟨⟨n2,by show m.1.size ≤ _; omega,hm.2.2,ho.2⟩,by show m.2.length ≤ _; omega,by show N.length ≤ _; rw [n1,vaA,lTk]; omega,by show O.length ≤ _; omega,hne⟩
end Go.Pf

namespace Go.Pf
open Go Go.Vm
def zE (e : Int) : ByteArray × Int × LI × List Nd × LI := (vaa,e,[],[],[])
def zGr (s : ByteArray) (z : ByteArray × LI × List Nd × LI) : ByteArray × Int × LI × List Nd × LI :=
 if (zShs z.2.1 z.1 z.2.2.1 z.2.2.2).1 = 0 then (if (zTx2 z.2.1 z.1 z.2.2.1 z.2.2.2 (zShs z.2.1 z.1 z.2.2.1 z.2.2.2).2).1 = s then (z.1,0,z.2.1,z.2.2.1,z.2.2.2) else zE 12) else zE (zShs z.2.1 z.1 z.2.2.1 z.2.2.2).1
def zPa (s : ByteArray) : ByteArray × Int × LI × List Nd × LI := if 65536 < (s.size : Int) then zE 3 else match zRd s with
 | none => zE 12
 | some z => zGr s z
theorem ptail (s : ByteArray) (L : List ByteArray) (hL : ln L) (h2 : 2 <= L.length) (nm : ByteArray) (sz : LI) (k : Nat) (hk : 2000000 <= k)
  (hz : ∀ N O,pNds ((L.take (L.length - 1)).drop 1) = some N -> pOu (zWd 32 (L.getD (L.length - 1) vaa)) = some O -> wtG sz nm N O) :
  ((qbd.l0 k k s 1 vaa L nm sz []).bind fun t13 => Sum.elim (fun t13 => if 0 <= iW.wrap ((L.length : Int) - 1) /\ iW.wrap ((L.length : Int) - 1) < (L.length : Int) then if (iW.wrap ((L.length : Int) - 1)).toNat < L.length then (qa6.f k (L.getD (iW.wrap ((L.length : Int) - 1)).toNat vaa)).bind fun t14 => (qaB.f t14 false).bind fun t15 => if (t15.1.toList == (vab #[111,117,116,115]).toList) = true then ((qao.f k t15.2.1 t15.2.2).bind fun t16 => if t16.2.1 = true then (some (vaa,12,[],[],[])) else (qdd.f k sz nm t13 t16.2.2).bind fun t17 => if t17 = 0 then ((qap.f k sz nm t13 t16.2.2).bind fun t18 => if (t18.1.toList == s.toList) = true then (some (nm,0,sz,t13,t16.2.2)) else some (vaa,12,[],[],[])) else some (vaa,t17,[],[],[])) else some (vaa,12,[],[],[]) else none else none) (fun t13 => some (t13.2,t13.1,[],[],[])) t13)
  = some (match pNds ((L.take (L.length - 1)).drop 1) with
   | none => zE 12
   | some N => match pOu (zWd 32 (L.getD (L.length - 1) vaa)) with
    | none => zE 12
    | some O => zGr s (nm,sz,N,O)) := by
 have h1 := hL.1
 have hw2 : iW.wrap ((L.length : Int) - 1) = ((L.length - 1 : Nat) : Int) := by rw [qah (by omega) (by omega)]; omega
 have hm := hL.2 _ (qak (show L.length - 1 < L.length by omega) vaa)
 have l0 : qbd.l0 k k s 1 vaa L nm sz [] = _ := qmL k (by omega) s L hL (by omega) vaa nm sz (L.length - 2) 1 k [] (by omega) (by omega) (by simp)
 rw [l0,obs]
 cases hN : pNds ((L.take (L.length - 1)).drop 1) with
 | none => rfl
 | some N =>
  simp only [vay,nAp,hw2,tNc]
  rw [ifp,ifp,qdv _ (by omega) k (by omega),obs]
  obtain ⟨w,r,hwr⟩ := qjd 32 (L.getD (L.length - 1) vaa)
  have hwl := qhF hm
  have hz := hz N
  rw [hwr] at hwl hz ⊢
  rw [qch w r false hwl,obs]; dsimp only
  rw [show vab #[111,117,116,115] = bA outs4 from rfl,qbP]
  by_cases hc : w = bA outs4
  ·have hp : pOu (w :: r) = nums r := by unfold pOu; rw [qgF,if_pos hc]
   rw [decide_eq_true hc,if_pos rfl,hp]
   obtain ⟨l5,b5,O,e5,_,f5⟩ := qh6 r false hwl.tail k (by omega)
   have f5 := f5 rfl
   rw [e5,obs]; dsimp only
   cases hn : nums r with
   | none => rw [hn] at f5; rw [f5,if_pos rfl]; rfl
   | some o =>
    rw [hn] at f5
    obtain ⟨g1,g2⟩ := f5
    have hg := hz O hN (by rw [hp,hn,g2])
    rw [g1,if_neg (by decide)]
    unfold qdd.f
    rw [qd9 sz nm N O hg.nm (fun x hx => (hg.n x hx).ok) k (by omega),obs,obs,<- g2]
    dsimp only
    unfold zGr
    dsimp only
    by_cases hs : (zShs sz nm N O).1 = 0
    ·rw [if_pos hs,if_pos hs,qg9 hg k (by omega),if_pos hs,obs,qbP]
     by_cases ht : (zTx2 sz nm N O (zShs sz nm N O).2).1 = s
     ·rw [decide_eq_true ht,if_pos rfl,if_pos ht]
     ·rw [decide_eq_false ht,if_neg (by decide),if_neg ht]; rfl
    ·rw [if_neg hs,if_neg hs]; rfl
  ·have hp : pOu (w :: r) = none := by unfold pOu; rw [qgF,if_neg hc]
   rw [decide_eq_false hc,if_neg (by decide),hp]; rfl
theorem qjC (s : ByteArray) (k : Nat) (hk : 2000000 ≤ k) : qbd.f k s = some (zPa s) := by
  unfold qbd.f zPa
  by_cases hs : 65536 < (s.size : Int)
  · rw [if_pos hs,if_pos hs]; rfl
  rw [if_neg hs,if_neg hs,qjA s (by omega) k (by omega),obs]
  have hwt := fun z (h : zRd s = some z) => qns (show s.size ≤ 65536 by omega) h
  obtain ⟨hln,hsm⟩ := qnz (s := s) (by omega)
  unfold zRd at hwt ⊢
  rw [show (sp 10 [] s.data.toList).1.map bA = zLi s from rfl]
  generalize zLi s = L at hln hsm hwt ⊢
  generalize (sp 10 [] s.data.toList).2 = q at hwt ⊢
  dsimp only
  by_cases hq : q ≠ []
  · rw [decide_eq_false hq,if_neg (by decide),if_neg (fun h => hq h.1)]; rfl
  have hq : q = [] := Classical.not_not.1 hq
  rw [decide_eq_true hq,if_pos rfl]
  by_cases h3 : (L.length : Int) < 2
  · rw [if_pos h3,if_neg (fun h => by have := h.2; omega)]; rfl
  have hcc : q = [] ∧ 2 ≤ L.length := ⟨hq,by omega⟩
  rw [if_pos hcc] at hwt
  rw [if_neg h3,if_pos hcc,ifp,ifp]
  have m0 := hsm _ (qak (show 0 < L.length by omega) vaa)
  rw [qdv _ (by omega) k (by omega),obs]
  unfold rdL at hwt ⊢
  obtain ⟨w,r,hwr⟩ := qjd 32 (L.getD 0 vaa)
  have hwl := qhF (s := L.getD 0 vaa) (by omega)
  rw [hwr] at hwl hwt ⊢
  rw [qch w r false hwl,obs]; dsimp only
  rw [show vab #[109,101,115,104] = bA mesh5 from rfl,show vab #[45] = bA [45] from rfl]
  have n45 : bA [45] ≠ vaa := fun h => by have := congrArg van h; simp [qbp] at this
  cases r with
  | nil =>
    rw [qdQ,obs]; dsimp only
    obtain ⟨l5,b5,O,e5,t5,_⟩ := qh6 [] true wl.nil k (by omega)
    rw [e5,obs,obs,qbP w,qbP vaa (bA [45]),qbP vaa vaa,show decide (vaa = bA [45]) = false from decide_eq_false (fun e => n45 e.symm),show decide (vaa = vaa) = true from decide_eq_true rfl]
    dsimp only
    have hms : pMs [w] = none := by
      unfold pMs seqP
      rw [qgF]
      by_cases hc : w = bA mesh5
      · rw [if_pos hc]; rfl
      · rw [if_neg hc]; rfl
    rw [hms]
    by_cases hc : w = bA mesh5
    · rw [decide_eq_true hc,if_pos rfl,if_neg (by decide),if_neg (by decide)]; rfl
    · rw [decide_eq_false hc,if_neg (by decide),if_neg (by decide)]; rfl
  | cons x r' =>
    rw [qch x r' false hwl.tail,obs]; dsimp only
    obtain ⟨l5,b5,sz,e5,_,f5⟩ := qh6 r' false hwl.tail.tail k (by omega)
    have f5 := f5 rfl
    rw [e5,obs,obs,qbP w,qbP x (bA [45]),qbP x vaa]
    dsimp only
    by_cases hc : w = bA mesh5
    rotate_left
    · have hms : pMs (w :: x :: r') = none := by
        unfold pMs seqP
        rw [qgF,if_neg hc]; rfl
      rw [hms,decide_eq_false hc,if_neg (by decide)]
      by_cases hx : x = bA [45]
      · rw [decide_eq_true hx,if_pos rfl]; rfl
      · rw [decide_eq_false hx,if_neg (by decide)]; rfl
    rw [decide_eq_true hc,if_pos rfl]
    by_cases hxe : x = vaa
    · have hms : pMs (w :: x :: r') = none := by
        unfold pMs seqP
        rw [qgF,if_pos hc]
        simp only [obs]
        rw [qlp,if_pos hxe]; rfl
      rw [hms,decide_eq_false (fun e => n45 (e.symm.trans hxe)),if_neg (by decide),decide_eq_true hxe,if_neg (by decide)]; rfl
    have hms : pMs (w :: x :: r') = match nums r' with | some ns => if (if x = bA [45] then vaa else x) = vaa ∧ 0 < ns.length then none else some (if x = bA [45] then vaa else x,ns) | none => none := by
      unfold pMs seqP
      rw [qgF,if_pos hc]
      simp only [obs]
      rw [qlp,if_neg hxe]; rfl
    have m1 := hsm _ (qak (show L.length - 1 < L.length by omega) vaa)
    have go : ∀ nm : ByteArray,pMs (w :: x :: r') = some (nm,sz) → ∀ N O,pNds ((L.take (L.length - 1)).drop 1) = some N → pOu (zWd 32 (L.getD (L.length - 1) vaa)) = some O → wtG sz nm N O := fun nm h1 N O h2 h3 => by
      have := (hwt (nm,sz,N,O) (by rw [h1]; dsimp only; rw [h2]; dsimp only; rw [h3])).1
      exact this
    have fin : ∀ nm : ByteArray,pMs (w :: x :: r') = some (nm,sz) → (match pNds ((L.take (L.length - 1)).drop 1) with
      | none => zE 12
      | some N => match pOu (zWd 32 (L.getD (L.length - 1) vaa)) with
        | none => zE 12
        | some O => zGr s (nm,sz,N,O)) = (match (match pMs (w :: x :: r') with
          | none => none
          | some m => match pNds ((L.take (L.length - 1)).drop 1) with
            | none => none
            | some N => match pOu (zWd 32 (L.getD (L.length - 1) vaa)) with
              | none => none
              | some O => some (m.1,m.2,N,O)) with
        | none => zE 12
        | some z => zGr s z) := fun nm h1 => by
      rw [h1]
      dsimp only
      cases pNds ((L.take (L.length - 1)).drop 1) with
      | none => rfl
      | some N =>
        dsimp only
        cases pOu (zWd 32 (L.getD (L.length - 1) vaa)) with
        | none => rfl
        | some O => rfl
    by_cases hx : x = bA [45]
    · rw [decide_eq_true hx,if_pos rfl,decide_eq_false hxe,if_neg (by decide)]
      rw [if_pos hx] at hms
      cases hn : nums r' with
      | none =>
        rw [hn] at f5 hms
        dsimp only at hms
        rw [hms,f5]
        by_cases hz : (sz.length : Int) = 0
        · rw [if_pos hz,if_pos rfl]; rfl
        · rw [if_neg hz]; rfl
      | some ns =>
        rw [hn] at f5 hms
        dsimp only at hms
        obtain ⟨g1,g2⟩ := f5
        by_cases hz : (sz.length : Int) = 0
        · have hms : pMs (w :: x :: r') = some (vaa,sz) := by rw [hms,if_neg (fun h => by have := h.2; rw [← g2] at this; omega),g2]
          rw [if_pos hz,g1,if_neg (by decide)]
          refine (ptail s L hln (by omega) vaa sz k hk (go _ hms)).trans ?_
          rw [fin _ hms]
          all_goals rfl
        · have hms : pMs (w :: x :: r') = none := by rw [hms,if_pos ⟨rfl,by rw [← g2]; omega⟩]
          rw [if_neg hz,hms]; rfl
    · rw [decide_eq_false hx,if_neg (by decide),decide_eq_false hxe,if_pos (by decide)]
      rw [if_neg hx] at hms
      cases hn : nums r' with
      | none =>
        rw [hn] at f5 hms
        dsimp only at hms
        rw [hms,f5,if_pos rfl]; rfl
      | some ns =>
        rw [hn] at f5 hms
        dsimp only at hms
        obtain ⟨g1,g2⟩ := f5
        have hms : pMs (w :: x :: r') = some (x,sz) := by rw [hms,if_neg (fun h => hxe h.1),g2]
        rw [g1,if_neg (by decide)]
        refine (ptail s L hln (by omega) x sz k hk (go _ hms)).trans ?_
        rw [fin _ hms]
        all_goals rfl
theorem qp6 {s : LI} {nm : ByteArray} {N : List Nd} {O : LI} {S : List LI} {t : ByteArray} (ht : t ≠ vaa) : (zTx2 s nm N O S).1 = t -> (zTx2 s nm N O S).2 = 0 := by
 unfold zTx2
 by_cases h : 65536 < (zTB s nm N O S).length
 ·rw [if_pos h]; intro e; exact absurd e.symm ht
 ·rw [if_neg h]; intro _; rfl
theorem qey (s : ByteArray) (k : Nat) (hk : 2000000 <= k) : qcY.f k s = some ((zPa s).2.2.1,(zPa s).1,(zPa s).2.2.2.1,(zPa s).2.2.2.2,(zPa s).2.1) := by
 unfold qcY.f zPa
 by_cases hs : 65536 < (s.size : Int)
 ·rw [if_pos hs,if_pos hs]; rfl
 rw [if_neg hs,if_neg hs]
 obtain ⟨o,eo,ho⟩ := qkA s (by omega) k (by omega)
 rw [eo,obs]
 cases hz : zRd s with
 | none =>
  rw [hz] at ho
  rw [ho,if_neg (by decide)]; rfl
 | some z =>
  rw [hz] at ho
  obtain ⟨hg,_,_,_,hne⟩ := qns (show s.size <= 65536 by omega) hz
  rw [ho]
  dsimp only
  rw [if_pos rfl,qjR _ _ _ _ hg.nm (fun x hx => (hg.n x hx).ok) k (by omega),obs]
  unfold zGr
  by_cases h0 : (zShs z.2.1 z.1 z.2.2.1 z.2.2.2).1 = 0
  ·rw [if_pos h0,if_pos h0,qla hg k (by omega),if_pos h0,obs]
   by_cases ht : (zTx2 z.2.1 z.1 z.2.2.1 z.2.2.2 (zShs z.2.1 z.1 z.2.2.1 z.2.2.2).2).1 = s
   ·rw [if_pos (qp6 hne ht),qbP,decide_eq_true ht,if_pos rfl,if_pos ht]
   ·rw [if_neg ht,qbP,decide_eq_false ht]
    by_cases h2 : (zTx2 z.2.1 z.1 z.2.2.1 z.2.2.2 (zShs z.2.1 z.1 z.2.2.1 z.2.2.2).2).2 = 0
    ·rw [if_pos h2,if_neg (by decide)]; rfl
    ·rw [if_neg h2]; rfl
  ·rw [if_neg h0,if_neg h0]; rfl
theorem qqW (s : ByteArray) : (zPa s).2.2.1.length <= 100000 /\ (zPa s).2.2.2.1.length <= 100000 /\ (zPa s).2.2.2.2.length <= 100000 /\ ∀ x ∈ (zPa s).2.2.2.1,smN x := by
 have e : ∀ n,(zE n).2.2.1.length <= 100000 /\ (zE n).2.2.2.1.length <= 100000 /\ (zE n).2.2.2.2.length <= 100000 /\ ∀ x ∈ (zE n).2.2.2.1,smN x := fun n => ⟨by simp [zE],by simp [zE],by simp [zE],fun x hx => by simp [zE] at hx⟩
 unfold zPa
 by_cases hs : 65536 < (s.size : Int)
 ·rw [if_pos hs]; exact e 3
 rw [if_neg hs]
 cases hz : zRd s with
 | none => exact e 12
 | some z =>
  obtain ⟨hg,h1,h2,h3,_⟩ := qns (show s.size <= 65536 by omega) hz
  dsimp only
  unfold zGr
  split
  ·split
   ·exact ⟨h1,h2,h3,fun x hx => ⟨(hg.n x hx).i,(hg.n x hx).s,(hg.n x hx).a⟩⟩
   ·exact e 12
  ·exact e _
theorem qc3 (s : ByteArray) (k : Nat) (hk : 2000000 <= k) : qaA.f k s = some true := by
 unfold qaA.f
 obtain ⟨h1,h2,h3,h4⟩ := qqW s
 rw [qey s k hk,obs,qjC s k hk,obs,if_pos rfl]
 dsimp only
 rw [qh5 _ _ _ _ h1 h2 h3 h4 k (by omega)]; rfl
theorem qfs (l : List ByteArray) (hl : l.length <= 1000000) : ∀ (e i n : Nat),l.length = i + e -> e < n -> qaR.l0 n l l (l.length : Int) (i : Int) = some (.inl ())
 | 0,i,n,h,hn => by
  obtain ⟨n,rfl⟩ := sun (n := n)
  rw [qaR.l0,ifq]
 | e + 1,i,n,h,hn => by
  obtain ⟨n,rfl⟩ := sun (n := n)
  rw [qaR.l0,ifp,ifp,ifp,qbP,decide_eq_true rfl,if_pos rfl,qah (n := (i : Int) + 1) (by omega) (by omega)]
  exact qfs l hl e (i + 1) n (by omega) (by omega)
theorem qgh (s : ByteArray) (hs : s.size <= 900000) (k : Nat) (hk : 2000000 <= k) : qaR.f k s = some true := by
 have hw := (qhF hs).1
 unfold qaR.f
 rw [qcO s (by omega) k (by omega),obs,qdv s (by omega) k (by omega),obs,qcz s (by omega),obs,qc8 s k (by omega),obs,if_pos rfl,if_pos rfl,if_pos (by simp),
  show qaR.l0 k (zWd 32 s) (zWd 32 s) ((zWd 32 s).length : Int) 0 = _ from qfs _ hw (zWd 32 s).length 0 k (by omega) (by omega)]; rfl
end Go.Pf

namespace Go.Pf
open Go Go.Vm
theorem qqL {u : Nat} (hu : u ≠ 0) : ∀ c r,Lib.decDigits u = c :: r -> c.toNat ≠ 48 := by
 induction u using vaE with
 | _ u ih =>
  intro c r e
  by_cases h : u < 10
  ·rw [Lib.decDigits,dif_pos h] at e
   cases e
   rw [qd7 _ h]; omega
  ·rw [Lib.decDigits,dif_neg h] at e
   obtain ⟨c',r',e',_,_⟩ := qlL (u / 10)
   rw [e',vaw] at e
   cases e
   exact ih (u / 10) (by omega) (by omega) c r' e'
theorem qqx {n : Int} {r : List UInt8} (h : Lib.itoa n = 48 :: r) : n = 0 /\ r = [] := by
 unfold Lib.itoa at h
 split at h
 ·cases h
 ·rename_i hn
  by_cases h0 : n.toNat = 0
  ·rw [h0,Lib.decDigits,dif_pos (by omega)] at h
   cases h
   exact ⟨by omega,rfl⟩
  ·exact absurd rfl (qqL h0 48 r h)
theorem qqU {l : List UInt8} (h : ∀ n,Lib.itoa n ≠ l) : zV2 (bA l) = (0,false) :=
 qhr (qeL fun n _ e => h n (qp3 e.symm))
def kn : List UInt8 := [109,101,115,104,32,45,10,111,117,116,115,10]
theorem known13 (k : Nat) (hk : 2000000 <= k) : qct.f k = some true := by
 have t1 : zTB [] vaa [] [] [] = kn := by decide +kernel
 have hs : (zShs [] vaa [] []) = (0,[]) := by decide +kernel
 have z1 : zRd (bA kn) = some (vaa,[],[],[]) := by rfl
 have x1 : zTx2 [] vaa [] [] [] = (bA kn,0) := by
  unfold zTx2; rw [t1,if_neg (by decide)]
 have p1 : zPa (bA kn) = (vaa,0,[],[],[]) := by
  unfold zPa
  rw [if_neg (by decide),z1]
  unfold zGr
  dsimp only
  rw [hs]
  dsimp only
  rw [if_pos rfl,x1,if_pos rfl]
 have p2 : zPa vaa = zE 12 := by
  unfold zPa
  rw [if_neg (by decide),show zRd vaa = none from rfl]
 have n1 : zV2 (vab #[45,55]) = (-7,true) := by
  have e : vab #[45,55] = zNum (-7) := by
   unfold zNum Lib.itoa
   rw [if_pos (by decide),show (-7 : Int).natAbs = 7 from rfl,Lib.decDigits,dif_pos (by decide)]; rfl
  rw [e,qhq (qlQ ⟨by decide,by decide⟩)]
 have n2 : zV2 (vab #[48,49]) = (0,false) := qqU (l := [48,49]) fun n e => by cases (qqx e).2
 unfold qct.f
 rw [show vab #[109,101,115,104,32,45,10,111,117,116,115,10] = bA kn from rfl,qey _ k hk,obs,qey _ k hk,obs,qcz _ (by decide),obs,qcz _ (by decide),obs,p1,p2,n1,n2]
 dsimp only
 rw [if_pos rfl,if_pos (by decide),if_pos (by decide),if_pos rfl,if_pos rfl,if_neg (by decide),qcO _ (by decide) k (by show 4 < k; omega),obs,if_pos (by rfl),qcO _ (by decide) k (by show 0 < k; omega),obs]
 rfl
end Go.Pf

namespace Go.Pf
open Go Go.Vm
def oddIn (a0_0 : LI) (a0_1 : ByteArray) (a0_2 : List Nd) (a0_3 : LI) (a1_0 a1_1 a1_2 a1_3 : Int) (a1_4 u : ByteArray) : Option (LI × ByteArray × LI × (List Nd)) := if (([] ++ a0_2).length : Int) = 0 then (if 4 ≠ 0 then (qcA.f (iW.wrap (a1_0.tdiv 4)) 5).bind fun t8 => if t8 = 0 then (if 0 + a0_0.length <= 281474976710656 /\ (0 + a0_0.length) * 8 <= 140737488355328 then if ([] ++ a0_0).length + [a1_3].length <= 281474976710656 /\ (([] ++ a0_0).length + [a1_3].length) * 8 <= 140737488355328 then some (([] ++ a0_0) ++ [a1_3],a0_1,a0_3,[] ++ a0_2) else none else none) else if t8 = 1 then (some (a0_0,u,a0_3,[] ++ a0_2)) else if t8 = 2 then (if 0 + a0_3.length <= 281474976710656 /\ (0 + a0_3.length) * 8 <= 140737488355328 then if ([] ++ a0_3).length + [a1_3].length <= 281474976710656 /\ (([] ++ a0_3).length + [a1_3].length) * 8 <= 140737488355328 then some (a0_0,a0_1,([] ++ a0_3) ++ [a1_3],[] ++ a0_2) else none else none) else if t8 = 3 then (if ([] ++ a0_2).length + ([(a1_3,([],([],([],(0,(0,vaa))))))] : List Nd).length <= 281474976710656 /\ (([] ++ a0_2).length + ([(a1_3,([],([],([],(0,(0,vaa))))))] : List Nd).length) * 112 <= 140737488355328 then some (a0_0,a0_1,a0_3,([] ++ a0_2) ++ ([(a1_3,([],([],([],(0,(0,vaa))))))] : List Nd)) else none) else some (a0_0,a0_1,[],[] ++ a0_2) else none) else if 4 ≠ 0 then if a1_0.tmod 4 = 3 then ((qcA.f (iW.wrap (a1_0.tdiv 4)) 5).bind fun t9 => if t9 = 0 then (if 0 + a0_0.length <= 281474976710656 /\ (0 + a0_0.length) * 8 <= 140737488355328 then if ([] ++ a0_0).length + [a1_3].length <= 281474976710656 /\ (([] ++ a0_0).length + [a1_3].length) * 8 <= 140737488355328 then some (([] ++ a0_0) ++ [a1_3],a0_1,a0_3,[] ++ a0_2) else none else none) else if t9 = 1 then (some (a0_0,u,a0_3,[] ++ a0_2)) else if t9 = 2 then (if 0 + a0_3.length <= 281474976710656 /\ (0 + a0_3.length) * 8 <= 140737488355328 then if ([] ++ a0_3).length + [a1_3].length <= 281474976710656 /\ (([] ++ a0_3).length + [a1_3].length) * 8 <= 140737488355328 then some (a0_0,a0_1,([] ++ a0_3) ++ [a1_3],[] ++ a0_2) else none else none) else if t9 = 3 then (if ([] ++ a0_2).length + ([(a1_3,([],([],([],(0,(0,vaa))))))] : List Nd).length <= 281474976710656 /\ (([] ++ a0_2).length + ([(a1_3,([],([],([],(0,(0,vaa))))))] : List Nd).length) * 112 <= 140737488355328 then some (a0_0,a0_1,a0_3,([] ++ a0_2) ++ ([(a1_3,([],([],([],(0,(0,vaa))))))] : List Nd)) else none) else some (a0_0,a0_1,[],[] ++ a0_2)) else (qcA.f a1_1 (([] ++ a0_2).length : Int)).bind fun t10 => if 0 <= t10 /\ t10 < (([] ++ a0_2).length : Int) then if t10.toNat < ([] ++ a0_2).length then (qcA.f (iW.wrap (a1_0.tdiv 4)) 9).bind fun t11 => if t11 = 0 then (some (a0_0,a0_1,a0_3,([] ++ a0_2).set t10.toNat (a1_3,((([] ++ a0_2).getD t10.toNat nd0).2.1,((([] ++ a0_2).getD t10.toNat nd0).2.2.1,((([] ++ a0_2).getD t10.toNat nd0).2.2.2.1,((([] ++ a0_2).getD t10.toNat nd0).2.2.2.2.1,((([] ++ a0_2).getD t10.toNat nd0).2.2.2.2.2.1,(([] ++ a0_2).getD t10.toNat nd0).2.2.2.2.2.2)))))))) else if t11 = 1 then ((qbL.f (([] ++ a0_2).getD t10.toNat nd0).2.1 a1_0 a1_1 a1_2 a1_3 a1_4).bind fun t12 => some (a0_0,a0_1,a0_3,([] ++ a0_2).set t10.toNat ((([] ++ a0_2).getD t10.toNat nd0).1,(t12,((([] ++ a0_2).getD t10.toNat nd0).2.2.1,((([] ++ a0_2).getD t10.toNat nd0).2.2.2.1,((([] ++ a0_2).getD t10.toNat nd0).2.2.2.2.1,((([] ++ a0_2).getD t10.toNat nd0).2.2.2.2.2.1,(([] ++ a0_2).getD t10.toNat nd0).2.2.2.2.2.2)))))))) else if t11 = 2 then ((qbL.f (([] ++ a0_2).getD t10.toNat nd0).2.2.1 a1_0 a1_1 a1_2 a1_3 a1_4).bind fun t13 => some (a0_0,a0_1,a0_3,([] ++ a0_2).set t10.toNat ((([] ++ a0_2).getD t10.toNat nd0).1,((([] ++ a0_2).getD t10.toNat nd0).2.1,(t13,((([] ++ a0_2).getD t10.toNat nd0).2.2.2.1,((([] ++ a0_2).getD t10.toNat nd0).2.2.2.2.1,((([] ++ a0_2).getD t10.toNat nd0).2.2.2.2.2.1,(([] ++ a0_2).getD t10.toNat nd0).2.2.2.2.2.2)))))))) else if t11 = 3 then ((qbL.f (([] ++ a0_2).getD t10.toNat nd0).2.2.2.1 a1_0 a1_1 a1_2 a1_3 a1_4).bind fun t14 => some (a0_0,a0_1,a0_3,([] ++ a0_2).set t10.toNat ((([] ++ a0_2).getD t10.toNat nd0).1,((([] ++ a0_2).getD t10.toNat nd0).2.1,((([] ++ a0_2).getD t10.toNat nd0).2.2.1,(t14,((([] ++ a0_2).getD t10.toNat nd0).2.2.2.2.1,((([] ++ a0_2).getD t10.toNat nd0).2.2.2.2.2.1,(([] ++ a0_2).getD t10.toNat nd0).2.2.2.2.2.2)))))))) else if t11 = 4 then (some (a0_0,a0_1,a0_3,([] ++ a0_2).set t10.toNat ((([] ++ a0_2).getD t10.toNat nd0).1,((([] ++ a0_2).getD t10.toNat nd0).2.1,((([] ++ a0_2).getD t10.toNat nd0).2.2.1,((([] ++ a0_2).getD t10.toNat nd0).2.2.2.1,(iW.wrap ((([] ++ a0_2).getD t10.toNat nd0).2.2.2.2.1 + 1),((([] ++ a0_2).getD t10.toNat nd0).2.2.2.2.2.1,(([] ++ a0_2).getD t10.toNat nd0).2.2.2.2.2.2)))))))) else if t11 = 5 then (some (a0_0,a0_1,a0_3,([] ++ a0_2).set t10.toNat ((([] ++ a0_2).getD t10.toNat nd0).1,((([] ++ a0_2).getD t10.toNat nd0).2.1,((([] ++ a0_2).getD t10.toNat nd0).2.2.1,((([] ++ a0_2).getD t10.toNat nd0).2.2.2.1,((([] ++ a0_2).getD t10.toNat nd0).2.2.2.2.1,(a1_3,(([] ++ a0_2).getD t10.toNat nd0).2.2.2.2.2.2)))))))) else if t11 = 6 then (some (a0_0,a0_1,a0_3,([] ++ a0_2).set t10.toNat ((([] ++ a0_2).getD t10.toNat nd0).1,((([] ++ a0_2).getD t10.toNat nd0).2.1,((([] ++ a0_2).getD t10.toNat nd0).2.2.1,((([] ++ a0_2).getD t10.toNat nd0).2.2.2.1,((([] ++ a0_2).getD t10.toNat nd0).2.2.2.2.1,((([] ++ a0_2).getD t10.toNat nd0).2.2.2.2.2.1,u)))))))) else if t11 = 7 then (if 0 + (([] ++ a0_2).getD t10.toNat nd0).2.2.2.1.length <= 281474976710656 /\ (0 + (([] ++ a0_2).getD t10.toNat nd0).2.2.2.1.length) * 8 <= 140737488355328 then if ([] ++ (([] ++ a0_2).getD t10.toNat nd0).2.2.2.1).length + [a1_3].length <= 281474976710656 /\ (([] ++ (([] ++ a0_2).getD t10.toNat nd0).2.2.2.1).length + [a1_3].length) * 8 <= 140737488355328 then some (a0_0,a0_1,a0_3,([] ++ a0_2).set t10.toNat ((([] ++ a0_2).getD t10.toNat nd0).1,((([] ++ a0_2).getD t10.toNat nd0).2.1,((([] ++ a0_2).getD t10.toNat nd0).2.2.1,(([] ++ (([] ++ a0_2).getD t10.toNat nd0).2.2.2.1) ++ [a1_3],((([] ++ a0_2).getD t10.toNat nd0).2.2.2.2.1,((([] ++ a0_2).getD t10.toNat nd0).2.2.2.2.2.1,(([] ++ a0_2).getD t10.toNat nd0).2.2.2.2.2.2))))))) else none else none) else if 0 + (([] ++ a0_2).getD t10.toNat nd0).2.1.length <= 281474976710656 /\ (0 + (([] ++ a0_2).getD t10.toNat nd0).2.1.length) * 8 <= 140737488355328 then if ([] ++ (([] ++ a0_2).getD t10.toNat nd0).2.1).length + [a1_3].length <= 281474976710656 /\ (([] ++ (([] ++ a0_2).getD t10.toNat nd0).2.1).length + [a1_3].length) * 8 <= 140737488355328 then some (a0_0,a0_1,a0_3,([] ++ a0_2).set t10.toNat ((([] ++ a0_2).getD t10.toNat nd0).1,(([] ++ (([] ++ a0_2).getD t10.toNat nd0).2.1) ++ [a1_3],((([] ++ a0_2).getD t10.toNat nd0).2.2.1,((([] ++ a0_2).getD t10.toNat nd0).2.2.2.1,((([] ++ a0_2).getD t10.toNat nd0).2.2.2.2.1,((([] ++ a0_2).getD t10.toNat nd0).2.2.2.2.2.1,(([] ++ a0_2).getD t10.toNat nd0).2.2.2.2.2.2))))))) else none else none else none else none else none
theorem qii (s : LI) (nm : ByteArray) (N : List Nd) (O : LI) (hN : N.length <= 1000) (w n a v : Int) (t : ByteArray) : ∃ u : ByteArray,u.size <= 12 /\ qgi.f s nm N O w n a v t = oddIn s nm N O w n a v t u := by
 unfold qgi.f
 rw [ifp]
 by_cases c : 12 < (t.size : Int)
 ·rw [if_pos c,ifp]
  exact ⟨t.extract ((0 : Nat) : Int).toNat 12,by rw [vas]; omega,rfl⟩
 ·rw [if_neg c]
  exact ⟨t,by omega,rfl⟩
def nB (B : Nat) (x : Nd) : Prop := x.2.1.length <= B /\ x.2.2.1.length <= B /\ x.2.2.2.1.length <= B /\ x.2.2.2.2.2.2.size <= B
structure GrB (B : Nat) (s : LI) (nm : ByteArray) (N : List Nd) (O : LI) : Prop where
 h1 : s.length <= B
 h2 : nm.size <= B
 h3 : N.length <= B
 h4 : O.length <= B
 nd : ∀ x ∈ N,nB B x
theorem nB.up {B : Nat} {x : Nd} (h : nB B x) : nB (B + 1) x := by
 obtain ⟨h1,h2,h3,h4⟩ := h
 exact ⟨by omega,by omega,by omega,by omega⟩
theorem GrB.s {B : Nat} (hB : B <= 400) {s : LI} {nm : ByteArray} {N : List Nd} {O : LI} (h : GrB B s nm N O) : GrS s nm N O := by
 obtain ⟨h1,h2,h3,h4,h5⟩ := h
 exact ⟨by omega,by omega,by omega,by omega,fun x hx => by
  obtain ⟨a1,a2,a3,a4⟩ := h5 x hx
  exact ⟨by omega,by omega,by omega⟩,fun x hx => by
  obtain ⟨a1,a2,a3,a4⟩ := h5 x hx
  exact ⟨by omega,by omega,by omega⟩⟩
set_option maxHeartbeats 1000000 in
theorem qrd {B : Nat} (hB0 : 12 <= B) (hB : B <= 400) {s : LI} {nm : ByteArray} {N : List Nd} {O : LI} (hG : GrB B s nm N O) (w n a v : Int) (t u : ByteArray) (hw : i64r w) (hn : i64r n) (ha : i64r a) (hu : u.size <= 12) :
  ∃ s' nm' O' N',oddIn s nm N O w n a v t u = some (s',nm',O',N') /\ GrB (B + 1) s' nm' N' O' := by
 obtain ⟨h1,h2,h3,h4,h5⟩ := hG
 have up : ∀ x ∈ N,nB (B + 1) x := fun x hx => (h5 x hx).up
 have hw4 : i64r (iW.wrap (w.tdiv 4)) := by
  obtain ⟨a1,a2⟩ := hw
  have b1 : w.tdiv 4 <= 9223372036854775807 /\ -9223372036854775808 <= w.tdiv 4 := by
   have := Int.mul_tdiv_add_tmod w 4
   have t2 := vaU w (show (0 : Int) < 4 by omega)
   have t3 := vaI w (show (0 : Int) < 4 by omega)
   omega
  rw [qah (by omega) (by omega)]
  exact ⟨by omega,by omega⟩
 have g5 : ∃ r,((qcA.f (iW.wrap (w.tdiv 4)) 5).bind fun t1 => if t1 = 0 then (if 0 + s.length <= 281474976710656 /\ (0 + s.length) * 8 <= 140737488355328 then if ([] ++ s).length + [v].length <= 281474976710656 /\ (([] ++ s).length + [v].length) * 8 <= 140737488355328 then some (([] ++ s) ++ [v],nm,O,[] ++ N) else none else none) else if t1 = 1 then (some (s,u,O,[] ++ N)) else if t1 = 2 then (if 0 + O.length <= 281474976710656 /\ (0 + O.length) * 8 <= 140737488355328 then if ([] ++ O).length + [v].length <= 281474976710656 /\ (([] ++ O).length + [v].length) * 8 <= 140737488355328 then some (s,nm,([] ++ O) ++ [v],[] ++ N) else none else none) else if t1 = 3 then (if ([] ++ N).length + ([(v,([],([],([],(0,(0,vaa))))))] : List Nd).length <= 281474976710656 /\ (([] ++ N).length + ([(v,([],([],([],(0,(0,vaa))))))] : List Nd).length) * 112 <= 140737488355328 then some (s,nm,O,([] ++ N) ++ ([(v,([],([],([],(0,(0,vaa))))))] : List Nd)) else none) else some (s,nm,[],[] ++ N)) = some r /\ GrB (B + 1) r.1 r.2.1 r.2.2.2 r.2.2.1 := by
  obtain ⟨r,e,r0,r1⟩ := qgj hw4 (show (1 : Int) <= 5 by omega)
  have hv : nB (B + 1) ((v,([],([],([],(0,(0,vaa)))))) : Nd) := ⟨vat _,vat _,vat _,vat _⟩
  rw [e,obs]
  simp only [nAp,Nat.zero_add,lSi]
  by_cases c0 : r = 0
  ·rw [if_pos c0,ifp,ifp]
   exact ⟨_,rfl,by rw [lAp,lSi]; omega,by dsimp only; omega,by dsimp only; omega,by dsimp only; omega,up⟩
  by_cases c1 : r = 1
  ·rw [if_neg c0,if_pos c1]
   exact ⟨_,rfl,by dsimp only; omega,by dsimp only; omega,by dsimp only; omega,by dsimp only; omega,up⟩
  by_cases c2 : r = 2
  ·rw [if_neg c0,if_neg c1,if_pos c2,ifp,ifp]
   exact ⟨_,rfl,by dsimp only; omega,by dsimp only; omega,by dsimp only; omega,by rw [lAp,lSi]; omega,up⟩
  by_cases c3 : r = 3
  ·rw [if_neg c0,if_neg c1,if_neg c2,if_pos c3,ifp]
   refine ⟨_,rfl,by dsimp only; omega,by dsimp only; omega,by rw [lAp,lSi]; omega,by dsimp only; omega,fun x hx => ?_⟩
   rcases vap.1 hx with hx | hx
   ·exact up x hx
   ·rw [vaf] at hx; rw [hx]; exact hv
  rw [if_neg c0,if_neg c1,if_neg c2,if_neg c3]
  exact ⟨_,rfl,by dsimp only; omega,by dsimp only; omega,by dsimp only; omega,vat _,up⟩
 obtain ⟨r5,e5,hr5⟩ := g5
 obtain ⟨r5a,r5b,r5c,r5d⟩ := r5
 unfold oddIn
 by_cases c0 : (([] ++ N).length : Int) = 0
 ·rw [if_pos c0,if_pos (by decide)]
  exact ⟨_,_,_,_,e5,hr5⟩
 rw [if_neg c0,if_pos (by decide)]
 by_cases c3 : w.tmod 4 = 3
 ·rw [if_pos c3]
  exact ⟨_,_,_,_,e5,hr5⟩
 rw [nAp] at c0
 obtain ⟨i,e1,i0,i1⟩ := qgj hn (show 1 <= (N.length : Int) by omega)
 obtain ⟨r,e2,r0,r1⟩ := qgj hw4 (show (1 : Int) <= 9 by omega)
 have hx := h5 _ (qak (show i.toNat < N.length by omega) nd0)
 rw [if_neg c3]
 simp only [nAp,Nat.zero_add,lSi]
 rw [e1,obs,if_pos ⟨i0,i1⟩,ifp,e2,obs]
 generalize hX : N.getD i.toNat nd0 = X at hx ⊢
 obtain ⟨x1,x2,x3,x4⟩ := hx
 obtain ⟨p,i',sh,A,m,h,nt⟩ := X
 dsimp only at x1 x2 x3 x4 ⊢
 have fin : ∀ {Y : Nd},Y.2.1.length <= B + 1 -> Y.2.2.1.length <= B + 1 -> Y.2.2.2.1.length <= B + 1 -> Y.2.2.2.2.2.2.size <= B + 1 -> ∃ s' nm' O' N',some (s,nm,O,N.set i.toNat Y) = some (s',nm',O',N') /\ GrB (B + 1) s' nm' N' O' := fun a1 a2 a3 a4 =>
  ⟨_,_,_,_,rfl,by omega,by omega,by rw [vaV]; omega,by omega,fun y hy => by
   rcases vaO hy with hy | hy
   ·exact up y hy
   ·rw [hy]; exact ⟨a1,a2,a3,a4⟩⟩
 obtain ⟨u1,f1,g1⟩ := qeC i' (by omega) w n a v t ha
 obtain ⟨u2,f2,g2⟩ := qeC sh (by omega) w n a v t ha
 obtain ⟨u3,f3,g3⟩ := qeC A (by omega) w n a v t ha
 by_cases d0 : r = 0
 ·rw [if_pos d0]; exact fin (by dsimp only; omega) (by dsimp only; omega) (by dsimp only; omega) (by dsimp only; omega)
 rw [if_neg d0]
 by_cases d1 : r = 1
 ·rw [if_pos d1,f1,obs]; exact fin (by dsimp only; omega) (by dsimp only; omega) (by dsimp only; omega) (by dsimp only; omega)
 rw [if_neg d1]
 by_cases d2 : r = 2
 ·rw [if_pos d2,f2,obs]; exact fin (by dsimp only; omega) (by dsimp only; omega) (by dsimp only; omega) (by dsimp only; omega)
 rw [if_neg d2]
 by_cases d3 : r = 3
 ·rw [if_pos d3,f3,obs]; exact fin (by dsimp only; omega) (by dsimp only; omega) (by dsimp only; omega) (by dsimp only; omega)
 rw [if_neg d3]
 by_cases d4 : r = 4
 ·rw [if_pos d4]; exact fin (by dsimp only; omega) (by dsimp only; omega) (by dsimp only; omega) (by dsimp only; omega)
 rw [if_neg d4]
 by_cases d5 : r = 5
 ·rw [if_pos d5]; exact fin (by dsimp only; omega) (by dsimp only; omega) (by dsimp only; omega) (by dsimp only; omega)
 rw [if_neg d5]
 by_cases d6 : r = 6
 ·rw [if_pos d6]; exact fin (by dsimp only; omega) (by dsimp only; omega) (by dsimp only; omega) (by dsimp only; omega)
 rw [if_neg d6]
 by_cases d7 : r = 7
 ·rw [if_pos d7,ifp,ifp]; exact fin (by dsimp only; omega) (by dsimp only; omega) (by rw [lAp,lSi]; omega) (by dsimp only; omega)
 rw [if_neg d7,ifp,ifp]
 exact fin (by rw [lAp,lSi]; omega) (by dsimp only; omega) (by dsimp only; omega) (by dsimp only; omega)
abbrev Trn := Int × Int × Int × Int × ByteArray
abbrev trn0 : Trn := (0,(0,(0,(0,vaa))))
theorem qij (l : List Trn) (hl : l.length <= 17592186043904) (hw : ∀ x ∈ l,i64r x.1 /\ i64r x.2.1 /\ i64r x.2.2.1) (z : ByteArray) : ∀ (e i n : Nat) {B : Nat} {s : LI} {nm : ByteArray} {N : List Nd} {O : LI},i + e = 4 -> e < n -> 12 <= B -> B + e <= 400 -> GrB B s nm N O ->
  ∃ s' nm' N' O',qb3.l0 n l i s nm N O z = some (s',nm',N',O') /\ GrB (B + e) s' nm' N' O'
 | 0,i,n,B,s,nm,N,O,hi,hn,hB,hB4,hG => by
  obtain ⟨n,rfl⟩ := sun (n := n)
  rw [qb3.l0]
  by_cases c : (i : Int) < (l.length : Int)
  ·rw [if_pos c,ifq]; exact ⟨s,nm,N,O,rfl,hG⟩
  ·rw [if_neg c]; exact ⟨s,nm,N,O,rfl,hG⟩
 | e + 1,i,n,B,s,nm,N,O,hi,hn,hB,hB4,hG => by
  obtain ⟨n,rfl⟩ := sun (n := n)
  rw [qb3.l0]
  by_cases c : (i : Int) < (l.length : Int)
  rotate_left
  ·rw [if_neg c]
   refine ⟨s,nm,N,O,rfl,?_⟩
   obtain ⟨h1,h2,h3,h4,h5⟩ := hG
   exact ⟨by omega,by omega,by omega,by omega,fun x hx => by
    obtain ⟨a1,a2,a3,a4⟩ := h5 x hx
    exact ⟨by omega,by omega,by omega,by omega⟩⟩
  obtain ⟨x1,x2,x3⟩ := hw _ (qak (show i < l.length by omega) trn0)
  obtain ⟨u,hu,eu⟩ := qii s nm N O (by have := hG.h3; omega) (l.getD i trn0).1 (l.getD i trn0).2.1 (l.getD i trn0).2.2.1 (l.getD i trn0).2.2.2.1 (l.getD i trn0).2.2.2.2
  obtain ⟨s',nm',O',N',e1,hG'⟩ := qrd hB (by omega) hG (l.getD i trn0).1 (l.getD i trn0).2.1 (l.getD i trn0).2.2.1 (l.getD i trn0).2.2.2.1 (l.getD i trn0).2.2.2.2 u x1 x2 x3 hu
  rw [if_pos c,ifp,if_pos ⟨by omega,c⟩,tNc,eu,e1,obs,qau (show i < 4 by omega) (by omega)]
  obtain ⟨a1,a2,a3,a4,g1,g2⟩ := qij l hl hw z e (i + 1) n (by omega) (by omega) (show 12 <= B + 1 by omega) (by omega) hG'
  exact ⟨a1,a2,a3,a4,g1,by rw [show B + (e + 1) = B + 1 + e by omega]; exact g2⟩
theorem qm5 (l : List Trn) (hl : l.length <= 17592186043904) (hw : ∀ x ∈ l,i64r x.1 /\ i64r x.2.1 /\ i64r x.2.2.1) {s : LI} {nm : ByteArray} {N : List Nd} {O : LI} (hG : GrB 300 s nm N O) (k : Nat) (hk : 1000 <= k) :
  ∃ s' nm' N' O',qb3.f k s nm N O l = some (s',nm',N',O') /\ GrS s' nm' N' O' := by
 obtain ⟨s',nm',N',O',e,hG'⟩ := qij l hl hw vaa 4 0 k (by omega) (by omega) (by omega) (by omega) hG
 unfold qb3.f
 rw [n0] at e
 rw [e,obs]
 exact ⟨_,_,_,_,rfl,hG'.s (by omega)⟩
end Go.Pf

namespace Go.Pf
open Go Go.Vm
def nr (N : List Nd) : Prop := ∀ x ∈ N,rng x.2.2.2.2.1
theorem qpU {N M : List Nd} (h : nr N) (h2 : nr M) : nr (N ++ M) := fun x hx => by
 rcases vap.1 hx with hx | hx
 ·exact h x hx
 ·exact h2 x hx
theorem qrf : nr [] := fun _ h => by cases h
theorem qrg {N : List Nd} (h : nr N) (i : Nat) : rng (N.getD i nd0).2.2.2.2.1 := by
 by_cases hi : i < N.length
 ·exact h _ (qak hi nd0)
 ·rw [gDg,List.getElem?_eq_none (by omega)]; exact rng0
theorem qpT {N : List Nd} (h : nr N) (i : Nat) {y : Nd} (hy : rng y.2.2.2.2.1) : nr (N.set i y) := fun x hx => by
 rcases vaO hx with hx | hx
 ·exact h x hx
 ·rw [hx]; exact hy
theorem qre (a : Int) : nr ([(a,([],([],([],(0,(0,vaa))))))] : List Nd) := fun x hx => by
 rw [vaf] at hx; rw [hx]; exact rng0
theorem qrc (s : LI) (nm : ByteArray) (N : List Nd) (O : LI) (hN : nr N) (w n a v : Int) (t u : ByteArray) : Giv (fun r => nr r.2.2.2) (oddIn s nm N O w n a v t u) := by
 have h0 : nr ([] ++ N) := qpU qrf hN
 unfold oddIn
 repeat' first
  | exact Giv.none
  | refine Giv.ite (fun _=>?_) (fun _=>?_)
  | refine Giv.bind fun _ _ => ?_
  | refine Giv.some ?_
 all_goals dsimp only
 all_goals first
  | exact h0
  | exact qpU h0 (qre _)
  | exact qpT h0 _ (qrg h0 _)
  | exact qpT h0 _ (qkM _)
theorem qp5 (l : List Trn) (z : ByteArray) : ∀ (e i n : Nat) (s : LI) (nm : ByteArray) (N : List Nd) (O : LI),i + e = 4 -> N.length + e <= 1000 -> (∀ s' nm' N' O' w n' a v t u,N'.length <= 1000 -> Giv (fun r => r.2.2.2.length <= N'.length + 1) (oddIn s' nm' N' O' w n' a v t u)) -> nr N -> Giv (fun r => nr r.2.2.1) (qb3.l0 n l (i : Int) s nm N O z)
 | _,_,0,_,_,_,_,_,_,_,_ => fun _ h => by cases h
 | 0,i,n + 1,s,nm,N,O,hi,_,_,hN => by
  rw [qb3.l0]
  exact Giv.ite (fun _=>Giv.ite (fun h => absurd h (by omega)) (fun _=>Giv.some hN)) (fun _=>Giv.some hN)
 | e + 1,i,n + 1,s,nm,N,O,hi,hl,hb,hN => by
  rw [qb3.l0]
  refine Giv.ite (fun _=>Giv.ite (fun h4 => Giv.ite (fun _=>Giv.bind fun r hr => ?_) (fun _=>Giv.none)) (fun _=>Giv.some hN)) (fun _=>Giv.some hN)
  obtain ⟨u,_,eu⟩ := qii s nm N O (by omega) (l.getD (i : Int).toNat (0,(0,(0,(0,vaa))))).1 (l.getD (i : Int).toNat (0,(0,(0,(0,vaa))))).2.1 (l.getD (i : Int).toNat (0,(0,(0,(0,vaa))))).2.2.1 (l.getD (i : Int).toNat (0,(0,(0,(0,vaa))))).2.2.2.1 (l.getD (i : Int).toNat (0,(0,(0,(0,vaa))))).2.2.2.2
  rw [eu] at hr
  have g1 := qrc _ _ _ _ hN _ _ _ _ _ _ r hr
  have g2 := hb _ _ _ _ _ _ _ _ _ _ (by omega) r hr
  rw [qah (n := (i : Int) + 1) (by omega) (by omega)]
  exact qp5 l z e (i + 1) n _ _ _ _ (by omega) (by omega) hb g1
theorem qqt (s : LI) (nm : ByteArray) (N : List Nd) (O : LI) (w n a v : Int) (t u : ByteArray) : Giv (fun r => r.2.2.2.length <= N.length + 1) (oddIn s nm N O w n a v t u) := by
 unfold oddIn
 repeat' first
  | exact Giv.none
  | refine Giv.ite (fun _=>?_) (fun _=>?_)
  | refine Giv.bind fun _ _ => ?_
  | refine Giv.some ?_
 all_goals simp
theorem qlC (l : List Trn) {s : LI} {nm : ByteArray} {N : List Nd} {O : LI} (hl : N.length <= 900) (hN : nr N) (k : Nat) : Giv (fun r => nr r.2.2.1) (qb3.f k s nm N O l) := by
 unfold qb3.f
 refine Giv.bind fun r hr => Giv.some ?_
 exact qp5 l _ 4 0 k s nm N O rfl (by omega) (fun _ _ _ _ _ _ _ _ _ _ _ => qqt _ _ _ _ _ _ _ _ _ _) hN r hr
theorem qrb {s : LI} {nm : ByteArray} {N : List Nd} {O : LI} (h : GrS s nm N O) (hN : nr N) (h0 : (zShs s nm N O).1 = 0) : wtG s nm N O := by
 obtain ⟨h1,h2,h3,h4,h5,h6⟩ := qgy h0
 have hz : (zGo (rs nm) N []).1 = 0 := by rw [<- h5]; exact h0
 refine ⟨fun x hx => ?_,h.h2,fun n hn => ?_,fun n hn => ?_⟩
 ·obtain ⟨b1,b2,b3,b4,b5⟩ := qhJ hz x hx
  obtain ⟨a1,a2,a3⟩ := h.ok x hx
  obtain ⟨c1,c2,c3⟩ := h.sm x hx
  exact ⟨by omega,by omega,by omega,by omega,fun n hn => by have := b1 n hn; rw [vad] at this; unfold rng; omega,qjr b2,qjr b3,hN x hx,by unfold rng; omega⟩
 ·have hm : zMs s (rs nm) = true := by
   unfold zShs at h0
   by_cases c : zMs s (rs nm) = true
   ·exact c
   ·rw [if_neg c] at h0; revert h0; simp
  unfold zMs at hm
  simp only [bAt] at hm
  have h5 := vaD.1 (qgH hm.1).2.1 n hn
  unfold okD at h5
  simp only [bAt,decide_eq_true_eq] at h5
  unfold rng; omega
 ·have := h6 n hn; unfold rng; omega
theorem qpy {s : LI} {nm : ByteArray} {N : List Nd} {O : LI} (h : GrS s nm N O) (hN : nr N) (k : Nat) (hk : 500000 <= k) : qap.f k s nm N O = some (if (zShs s nm N O).1 = 0 then zTx2 s nm N O (zShs s nm N O).2 else (vaa,(zShs s nm N O).1)) := by
 by_cases h0 : (zShs s nm N O).1 = 0
 ·exact qg9 (qrb h hN h0) k hk
 ·unfold qap.f
  rw [qd9 s nm N O h.h2 h.ok k (by omega),obs,if_neg h0,if_neg h0]
theorem qnq (s : LI) (nm : ByteArray) (N : List Nd) (O : LI) (S : List LI) : (zTx2 s nm N O S).1.size <= 65536 := by
 unfold zTx2
 by_cases h : 65536 < (zTB s nm N O S).length
 ·rw [if_pos h]; exact vat _
 ·rw [if_neg h]; show (bA _).size <= _; rw [qbp]; omega
theorem qd0 (k : Nat) (hk : 2000000 <= k) (s b4 b5 : ByteArray) (a2 a3 : Int) (h2 : -9223372036854775808 <= a2 /\ a2 < 9223372036854775808) (hs : s.size <= 65536) (h4 : b4.size <= 1000) (h5 : b5.size <= 1000) :
  ((qbo.f a2 0 (s.size : Int)).bind fun t34 => (qaA.f k s).bind fun t35 => if t35 = true then (if 0 <= ((0 : Nat) : Int) /\ ((0 : Nat) : Int) <= t34 /\ t34 <= (s.size : Int) then if (s.extract ((0 : Nat) : Int).toNat t34.toNat).size + b4.size <= 9223372036854775807 then if 0 <= (if (s.size : Int) < iW.wrap (t34 + (bits .and .i64 a3 3)) then (s.size : Int) else iW.wrap (t34 + (bits .and .i64 a3 3))) /\ (if (s.size : Int) < iW.wrap (t34 + (bits .and .i64 a3 3)) then (s.size : Int) else iW.wrap (t34 + (bits .and .i64 a3 3))) <= (s.size : Int) /\ (s.size : Int) <= (s.size : Int) then if ((s.extract ((0 : Nat) : Int).toNat t34.toNat) ++ b4).size + (s.extract (if (s.size : Int) < iW.wrap (t34 + (bits .and .i64 a3 3)) then (s.size : Int) else iW.wrap (t34 + (bits .and .i64 a3 3))).toNat (s.size : Int).toNat).size <= 9223372036854775807 then (qaA.f k (((s.extract ((0 : Nat) : Int).toNat t34.toNat) ++ b4) ++ (s.extract (if (s.size : Int) < iW.wrap (t34 + (bits .and .i64 a3 3)) then (s.size : Int) else iW.wrap (t34 + (bits .and .i64 a3 3))).toNat (s.size : Int).toNat))).bind fun t36 => if t36 = true then (if (s.extract ((0 : Nat) : Int).toNat t34.toNat).size + (s.extract (if (s.size : Int) < iW.wrap (t34 + (bits .and .i64 a3 3)) then (s.size : Int) else iW.wrap (t34 + (bits .and .i64 a3 3))).toNat (s.size : Int).toNat).size <= 9223372036854775807 then (qaA.f k ((s.extract ((0 : Nat) : Int).toNat t34.toNat) ++ (s.extract (if (s.size : Int) < iW.wrap (t34 + (bits .and .i64 a3 3)) then (s.size : Int) else iW.wrap (t34 + (bits .and .i64 a3 3))).toNat (s.size : Int).toNat))).bind fun t37 => if t37 = true then ((qaA.f k b5).bind fun t38 => if t38 = true then (if (vab #[109,101,115,104,32,45,10]).size + b5.size <= 9223372036854775807 then (qaA.f k ((vab #[109,101,115,104,32,45,10]) ++ b5)).bind fun t39 => if t39 = true then (if (vab #[109,101,115,104,32,120,32,50,10]).size + b5.size <= 9223372036854775807 then if ((vab #[109,101,115,104,32,120,32,50,10]) ++ b5).size + (vab #[10,111,117,116,115,10]).size <= 9223372036854775807 then (qaA.f k (((vab #[109,101,115,104,32,120,32,50,10]) ++ b5) ++ (vab #[10,111,117,116,115,10]))).bind fun t40 => if t40 = true then ((qaR.f k b5).bind fun t41 => if t41 = true then ((qaR.f k b4).bind fun t42 => if t42 = true then ((qct.f k).bind fun t43 => some t43) else some false) else some false) else some false else none else none) else some false else none) else some false) else some false else none) else some false else none else none else none else none) else some false) = some true := by
 have z9 : (vab #[109,101,115,104,32,45,10]).size = 7 := rfl
 have z10 : (vab #[109,101,115,104,32,120,32,50,10]).size = 9 := rfl
 have z11 : (vab #[10,111,117,116,115,10]).size = 6 := rfl
 obtain ⟨r,er,r0,r1⟩ := qoQ h2 (show (0 : Int) <= (s.size : Int) by omega) (by omega) (by omega)
 obtain ⟨c0,c1⟩ := and3 a3
 rw [er,obs,qc3 s k hk,obs,if_pos rfl]
 generalize bits .and .i64 a3 3 = q at c0 c1 ⊢
 rw [qah (n := r + q) (by omega) (by omega)]
 generalize hm : (if (s.size : Int) < r + q then (s.size : Int) else r + q) = m
 have m0 : 0 <= m /\ m <= (s.size : Int) := by rw [<- hm]; split <;> omega
 have y1 : (s.extract ((0 : Nat) : Int).toNat r.toNat).size <= 65536 := by rw [vas]; omega
 have y2 : (s.extract m.toNat (s.size : Int).toNat).size <= 65536 := by rw [vas]; simp only [tNc]; omega
 rw [ifp,ifp,ifp,if_pos (by rw [qaK]; omega),qc3 _ k hk,obs,if_pos rfl,ifp,qc3 _ k hk,obs,if_pos rfl,qc3 _ k hk,obs,if_pos rfl,ifp,qc3 _ k hk,obs,if_pos rfl,
  ifp,if_pos (by rw [qaK]; omega),qc3 _ k hk,obs,if_pos rfl,qgh _ (by omega) k hk,obs,if_pos rfl,qgh _ (by omega) k hk,obs,if_pos rfl,known13 k hk]
 rfl
theorem qqF {l : List Trn} (w : Fit (.sl (.pair (.int .i64) (.pair (.int .i64) (.pair (.int .i64) (.pair (.int .i64) .str))))) l) : l.length <= 17592186043904 /\ ∀ x ∈ l,i64r x.1 /\ i64r x.2.1 /\ i64r x.2.2.1 := by
 obtain ⟨b1,b2⟩ := w
 refine ⟨?_,fun x hx => ?_⟩
 ·have : l.length * (Ty.pair (.int .i64) (.pair (.int .i64) (.pair (.int .i64) (.pair (.int .i64) .str)))).bytes <= 140737488351232 := b1
  have e : (Ty.pair (.int .i64) (.pair (.int .i64) (.pair (.int .i64) (.pair (.int .i64) .str)))).bytes = 48 := rfl
  rw [e] at this
  omega
 ·obtain ⟨c1,c2,c3,_⟩ := b2 x hx
  exact ⟨qkL c1,qkL c2,qkL c3⟩
theorem qoe (a0 : LI) (a1 : List Trn) (w0 : Fit (.sl (.int .i64)) a0) (w1 : Fit (.sl (.pair (.int .i64) (.pair (.int .i64) (.pair (.int .i64) (.pair (.int .i64) .str))))) a1) (k : Nat) (hk : 500000 <= k) :
  ∃ nm sz N O s' nm' N' O',qar.f k a0 = some (nm,sz,N,O) /\ qb3.f k sz nm N O a1 = some (s',nm',N',O') /\ GrS s' nm' N' O' /\ nr N' := by
 obtain ⟨nm,sz,N,O,S,e1,hm,hG,hN,hO,hx,hw,hz⟩ := qqe (qrs w0) k hk
 have hsz := hm.size
 have hms := (qgH hm.right.1).1
 have hB : GrB 300 sz nm N O := ⟨by omega,by omega,by omega,by omega,hG.ti⟩
 obtain ⟨t1,t2⟩ := qqF w1
 obtain ⟨s',nm',N',O',e3,hS'⟩ := qm5 a1 t1 t2 hB k (by omega)
 exact ⟨nm,sz,N,O,s',nm',N',O',e1,e3,hS',qlC a1 (by omega) (fun x hx => (hw.n x hx).rn) k _ e3⟩
theorem qj3 (a0 : LI) (a1 : List Trn) (a2 a3 : Int) (a4 a5 : ByteArray) (w0 : Fit (.sl (.int .i64)) a0) (w1 : Fit (.sl (.pair (.int .i64) (.pair (.int .i64) (.pair (.int .i64) (.pair (.int .i64) .str))))) a1) (w2 : (Lit.int .i64 a2).wf = true) (_ : (Lit.int .i64 a3).wf = true) (_ : a4.size <= 140737488351232) (_ : a5.size <= 140737488351232) : ∃ k,qcV.f k a0 a1 a2 a3 a4 a5 = some true := by
 refine ⟨2000000,?_⟩
 generalize hk' : (2000000 : Nat) = k
 have hk : 2000000 <= k := by omega
 clear hk'
 obtain ⟨nm,sz,N,O,s',nm',N',O',e1,e2,hS,hr⟩ := qoe a0 a1 w0 w1 k (by omega)
 have ht := qpy hS hr k (by omega)
 generalize hs : (if (zShs s' nm' N' O').1 = 0 then zTx2 s' nm' N' O' (zShs s' nm' N' O').2 else (vaa,(zShs s' nm' N' O').1)) = T at ht
 have hT : T.1.size <= 65536 := by
  rw [<- hs]
  split
  ·exact qnq _ _ _ _ _
  ·exact vat _
 have h2 := qkL w2
 unfold qcV.f
 rw [e1,obs]
 dsimp only
 rw [e2,obs]
 dsimp only
 rw [ht,obs]
 have x4 : (a4.extract ((0 : Nat) : Int).toNat 6).size <= 1000 := by rw [vas]; omega
 have x5 : (a5.extract ((0 : Nat) : Int).toNat 100).size <= 1000 := by rw [vas]; omega
 by_cases c4 : 6 < (a4.size : Int) <;> by_cases c5 : 100 < (a5.size : Int)
 ·rw [if_pos c4,ifp,if_pos c5,ifp]
  exact qd0 k hk T.1 _ _ a2 a3 h2 hT x4 x5
 ·rw [if_pos c4,ifp,if_neg c5]
  exact qd0 k hk T.1 _ _ a2 a3 h2 hT x4 (by omega)
 ·rw [if_neg c4,if_pos c5,ifp]
  exact qd0 k hk T.1 _ _ a2 a3 h2 hT (by omega) x5
 ·rw [if_neg c4,if_neg c5]
  exact qd0 k hk T.1 _ _ a2 a3 h2 hT (by omega) (by omega)
end Go.Pf
