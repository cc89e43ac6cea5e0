/- Own texts put together: M10n, M10o, M10p .. -/
import Derived.Test.YtjbpaoieanfffaaGreatPl1
set_option linter.unusedVariables false
set_option linter.unusedSimpArgs false
namespace Go.Pf
open Go Go.Vm
theorem zGo_R (nm : List Int) : ∀ (N : List Nd) (o : List (List Int)),(∀ s ∈ o,mSR s = true) → ∀ s ∈ (zGo nm N o).2,mSR s = true
  | [],_,h => h
  | x :: r,o,h => by
    rw [zGo]
    by_cases c : (zNd nm o x).1 = 0
    · rw [if_pos c]
      refine zGo_R nm r _ fun s hs => ?_
      rcases List.mem_append.1 hs with hs | hs
      · exact h s hs
      · rw [List.mem_singleton] at hs
        rw [hs]
        unfold zNd at c ⊢
        cases e : zIn o x.2.1 with
        | none => rw [e] at c; simp at c
        | some l =>
          rw [e] at c
          dsimp only at c ⊢
          by_cases c2 : (zSh x.1 x.2.2.1 x.2.2.2.1 x.2.2.2.2.1 x.2.2.2.2.2.1 l).1 = 0
          · rw [if_pos c2]; exact zSh_R c2
          · rw [if_neg c2] at c; exact absurd c c2
    · rw [if_neg c]
      intro s hs; cases hs
theorem zGo_le (nm : List Int) : ∀ (N : List Nd) (o : List (List Int)),(zGo nm N o).2.length ≤ o.length + N.length
 | [],_ => Nat.le_refl _
 | x :: r,o => by
  rw [zGo]
  split
  ·have := zGo_le nm r (o ++ [(zNd nm o x).2])
   rw [List.length_append,List.length_singleton] at this
   rw [List.length_cons]; omega
  ·exact Nat.zero_le _
theorem zShs_sm (s : List Int) (nm : ByteArray) (N : List Nd) (O : List Int) : (zShs s nm N O).2.length ≤ 100000 ∧ ∀ x ∈ (zShs s nm N O).2,x.length ≤ 100000 := by
 have hR := zGo_R (rs nm) N [] (fun s h => by cases h)
 have hl := zGo_le (rs nm) N []
 have e : ∀ {x : Int},((x,[]) : Int × List (List Int)).2.length ≤ 100000 ∧ ∀ y ∈ ((x,[]) : Int × List (List Int)).2,y.length ≤ 100000 := fun {x} => ⟨Nat.zero_le _,fun y h => by cases h⟩
 unfold zShs
 split
 ·split
  ·exact e
  ·split
   ·exact e
   ·split
    ·split
     ·rw [List.length_nil] at hl
      exact ⟨by omega,fun y hy => by have := (mSR_spec (hR y hy)).1; omega⟩
     ·exact e
    ·exact e
 ·exact e
theorem ref10_Shapes_l1 (out : List (List Int)) (l : List Int) (hl : l.length ≤ 400) (ho : out.length ≤ 1000) (x31 : List Nd) (x32 x33 : Int) (g1 : List Int) (g2 : ByteArray) (g3 : List Nd) (g4 : List Int) (x1 : Int) (x2 x3 x4 : List Int) (x5 x6 : Int) (x7 : ByteArray) (n : Nat) (hn : 401 ≤ n) :
  ref10_Shapes.l1 n out.length x31 x32 x33 l l.length 0 g1 g2 g3 g4 out x1 x2 x3 x4 x5 x6 x7 [] = some (match zIn out l with | some r => .inl r | none => .inr 23) := by
 have : ∀ (e i n : Nat) (y : List (List Int)),l.length = i + e → e < n → y.length ≤ i → ref10_Shapes.l1 n out.length x31 x32 x33 l l.length i g1 g2 g3 g4 out x1 x2 x3 x4 x5 x6 x7 y = some (match zIn out (l.drop i) with | some r => .inl (y ++ r) | none => .inr 23) := by
  intro e
  induction e with
  | zero =>
   intro i n y hi hn hy
   obtain ⟨n,rfl⟩ : ∃ m,n = m + 1 := ⟨n - 1,by omega⟩
   rw [ref10_Shapes.l1,if_neg (by omega),List.drop_eq_nil_of_le (by omega),zIn]
   simp
  | succ e ih =>
   intro i n y hi hn hy
   obtain ⟨n,rfl⟩ : ∃ m,n = m + 1 := ⟨n - 1,by omega⟩
   rw [ref10_Shapes.l1,if_pos (by omega),if_pos (by omega),Int.toNat_natCast,drop_getD (show i < l.length by omega) 0,zIn]
   by_cases c1 : l.getD i 0 < 0
   ·rw [if_pos c1,if_pos (.inl c1)]
   by_cases c2 : (out.length : Int) ≤ l.getD i 0
   ·rw [if_neg c1,if_pos c2,if_pos (.inr c2)]
   rw [if_neg c1,if_neg c2,if_neg (show ¬ (l.getD i 0 < 0 ∨ (out.length : Int) ≤ l.getD i 0) by omega),if_pos (by omega),if_pos (by omega),if_pos (by rw [List.length_singleton]; omega),i64_succ (show i < l.length by omega) (by omega),ih (i + 1) n _ (by omega) (by omega) (by simp; omega)]
   cases zIn out (l.drop (i + 1)) with
   | none => rfl
   | some r => simp
 have := this l.length 0 n [] (by omega) (by omega) (Nat.le_refl _)
 rw [n0,List.drop_zero] at this
 rw [this]
 cases zIn out l <;> simp
theorem ref10_Shapes_l0 (s : List Int) (nm : ByteArray) (N : List Nd) (O : List Int) (hn : nm.size ≤ 100000) (hN : ∀ x ∈ N,okN x) (h48 : N.length ≤ 48) (k : Nat) (hk : 200000 ≤ k) : ∀ (e i n : Nat) (out : List (List Int)),N.length = i + e → e + 500 < n → out.length = i →
  ref10_Shapes.l0 k n N N.length i s nm N O out = some (if (zGo (rs nm) (N.drop i) out).1 = 0 then .inl (zGo (rs nm) (N.drop i) out).2 else .inr (zGo (rs nm) (N.drop i) out).1)
 | 0,i,n,out,hi,hn',ho => by
  obtain ⟨n,rfl⟩ : ∃ m,n = m + 1 := ⟨n - 1,by omega⟩
  rw [ref10_Shapes.l0,if_neg (by omega),List.drop_eq_nil_of_le (by omega),zGo,if_pos rfl]
 | e + 1,i,n,out,hi,hn',ho => by
  obtain ⟨n,rfl⟩ : ∃ m,n = m + 1 := ⟨n - 1,by omega⟩
  obtain ⟨h1,h2,h3⟩ := hN _ (getD_mem (show i < N.length by omega) nd0)
  have hl1 := ref10_Shapes_l1 out (N.getD i nd0).2.1 h1 (by omega) N N.length i s nm N O (N.getD i nd0).1 (N.getD i nd0).2.1 (N.getD i nd0).2.2.1 (N.getD i nd0).2.2.2.1 (N.getD i nd0).2.2.2.2.1 (N.getD i nd0).2.2.2.2.2.1 (N.getD i nd0).2.2.2.2.2.2 n (by omega)
  rw [ho] at hl1
  rw [ref10_Shapes.l0,if_pos (by omega),if_pos (by omega),Int.toNat_natCast,hl1,Option.bind_some,drop_getD (show i < N.length by omega) nd0,zGo]
  generalize hx : N.getD i nd0 = x at h1 h2 h3 ⊢
  cases e1 : zIn out x.2.1 with
  | none =>
   have hz : zNd (rs nm) out x = (23,[]) := by unfold zNd; rw [e1]
   rw [hz]; rfl
  | some l =>
   have hl := zIn_len e1
   dsimp only [Sum.elim_inl]
   rw [ref10_Shape_f _ _ _ _ _ _ _ l (by omega) (by omega) k (by omega),Option.bind_some]
   by_cases c : (zSh x.1 x.2.2.1 x.2.2.2.1 x.2.2.2.2.1 x.2.2.2.2.2.1 l).1 = 0
   ·have hz : zNd (rs nm) out x = ((zNote (rs nm) (rs x.2.2.2.2.2.2) (zSh x.1 x.2.2.1 x.2.2.2.1 x.2.2.2.2.1 x.2.2.2.2.2.1 l).2.length).2.1,(zSh x.1 x.2.2.1 x.2.2.2.1 x.2.2.2.2.1 x.2.2.2.2.2.1 l).2) := by
     unfold zNd; rw [e1]; dsimp only; rw [if_pos c]
    rw [hz,if_pos c,ref9_Note_f _ _ _ (by omega) (by omega) k (by omega) (by omega),Option.bind_some]
    dsimp only
    by_cases c2 : (zNote (rs nm) (rs x.2.2.2.2.2.2) (zSh x.1 x.2.2.1 x.2.2.2.1 x.2.2.2.2.1 x.2.2.2.2.2.1 l).2.length).2.1 = 0
    ·rw [if_pos c2,if_pos c2,if_pos (by rw [List.length_singleton]; omega),i64_succ (show i < N.length by omega) (by omega),ref10_Shapes_l0 s nm N O hn hN h48 k hk e (i + 1) n _ (by omega) (by omega) (by simp; omega)]
    ·rw [if_neg c2,if_neg c2,if_neg c2]
   ·have hz : zNd (rs nm) out x = ((zSh x.1 x.2.2.1 x.2.2.2.1 x.2.2.2.2.1 x.2.2.2.2.2.1 l).1,[]) := by
     unfold zNd; rw [e1]; dsimp only; rw [if_neg c]
    rw [hz,if_neg c,if_neg c,if_neg c]
theorem ref10_Shapes_f (s : List Int) (nm : ByteArray) (N : List Nd) (O : List Int) (hn : nm.size ≤ 100000) (hN : ∀ x ∈ N,okN x) (k : Nat) (hk : 200000 ≤ k) : ref10_Shapes.f k s nm N O = some (zShs s nm N O) := by
 unfold ref10_Shapes.f zShs
 rw [ref10_mesh_f s nm N O hn k hk,Option.bind_some]
 by_cases c1 : zMs s (rs nm) = true
 rotate_left
 ·rw [if_neg c1,if_neg c1]
 rw [if_pos c1,if_pos c1]
 by_cases c2 : 48 < N.length
 ·rw [if_pos (by omega),if_pos c2]
 by_cases c3 : 48 < O.length
 ·rw [if_neg (by omega),if_pos (by omega),if_neg c2,if_pos c3]
 have h0 := ref10_Shapes_l0 s nm N O hn hN (by omega) k hk N.length 0 k [] (by omega) (by omega) rfl
 rw [n0,List.drop_zero] at h0
 rw [if_neg (by omega),if_neg (by omega),if_neg c2,if_neg c3,h0,Option.bind_some]
 by_cases c4 : (zGo (rs nm) N []).1 = 0
 ·have l2 : ∀ T,ref10_Shapes.l2 k O O.length 0 s nm N O T = some (if O.all (fun k => decide (0 ≤ k ∧ k < (N.length : Int))) = true then .inl () else .inr 23) := fun T => by
   have := iter0 (L := fun n i (_ : Unit) => ref10_Shapes.l2 n O O.length i s nm N O T) (st := fun _=>()) (fun i => if (O.drop i).all (fun k => decide (0 ≤ k ∧ k < (N.length : Int))) = true then .inl () else .inr 23) (m := O.length) 0
    (fun n _ => by rw [ref10_Shapes.l2,if_neg (by omega),List.drop_eq_nil_of_le (Nat.le_refl _)]; rfl)
    (fun i n hi _ ih => by
     rw [ref10_Shapes.l2,if_pos (by omega),if_pos (by omega),Int.toNat_natCast,drop_getD hi (0 : Int),List.all_cons]
     by_cases d1 : O.getD i 0 < 0
     ·rw [if_pos d1,decide_eq_false (by omega),Bool.false_and,if_neg Bool.false_ne_true]
     by_cases d2 : (N.length : Int) ≤ O.getD i 0
     ·rw [if_neg d1,if_pos d2,decide_eq_false (by omega),Bool.false_and,if_neg Bool.false_ne_true]
     rw [if_neg d1,if_neg d2,i64_succ hi (by omega),ih,decide_eq_true (by omega),Bool.true_and]) k (by omega)
   rw [List.drop_zero] at this
   exact this
  rw [if_pos c4,if_pos c4,Sum.elim_inl,l2,Option.bind_some]
  by_cases c5 : O.all (fun k => decide (0 ≤ k ∧ k < (N.length : Int))) = true
  ·rw [if_pos c5,if_pos c5,Sum.elim_inl,← c4]
  ·rw [if_neg c5,if_neg c5]; rfl
 ·rw [if_neg c4,if_neg c4]; rfl
theorem graph_Copy_f (s : List Int) (nm : ByteArray) (N : List Nd) (O : List Int) (h1 : s.length ≤ 100000) (h2 : N.length ≤ 100000) (h3 : O.length ≤ 100000) (h4 : ∀ x ∈ N,smN x) (k : Nat) (hk : 200000 ≤ k) : graph_Copy.f k s nm N O = some (s,N,O) := by
 unfold graph_Copy.f
 rw [slices_Clone_int_f _ (by omega),Option.bind_some,slices_Clone_int_f _ (by omega),Option.bind_some]
 have tk : ∀ i,i < N.length → N.take (i + 1) = N.take i ++ [N.getD i nd0] := fun i hi => by
  rw [List.take_add_one,List.getD_eq_getElem?_getD,List.getElem?_eq_getElem hi]; rfl
 have := iter0 (L := fun n i y => graph_Copy.l0 n N N.length i ByteArray.empty nm s y O) (st := fun i => N.take i) (fun _=>N) (m := N.length) 0
  (fun n _ => by rw [graph_Copy.l0,if_neg (by omega),List.take_length])
  (fun i n hi _ ih => by
   obtain ⟨a1,a2,a3⟩ := h4 _ (getD_mem hi nd0)
   have e : graph_CopyNode.f (N.getD i nd0).1 (N.getD i nd0).2.1 (N.getD i nd0).2.2.1 (N.getD i nd0).2.2.2.1 (N.getD i nd0).2.2.2.2.1 (N.getD i nd0).2.2.2.2.2.1 (N.getD i nd0).2.2.2.2.2.2 = some ((N.getD i nd0).2.1,(N.getD i nd0).2.2.1,(N.getD i nd0).2.2.2.1) := by
    unfold graph_CopyNode.f
    rw [slices_Clone_int_f _ (by omega),Option.bind_some,slices_Clone_int_f _ (by omega),Option.bind_some,slices_Clone_int_f _ (by omega),Option.bind_some]
   rw [tk i hi] at ih
   rw [graph_Copy.l0,if_pos (by omega),if_pos (by omega),Int.toNat_natCast,e,Option.bind_some,if_pos (by rw [List.length_take,List.length_singleton]; omega),i64_succ hi (by omega)]
   exact ih) k (by omega)
 rw [List.take_zero] at this
 rw [this,Option.bind_some]
theorem ref10_Same_self (s : List Int) (nm : ByteArray) (N : List Nd) (O : List Int) (h1 : s.length ≤ 100000) (h2 : N.length ≤ 100000) (h3 : O.length ≤ 100000) (h4 : ∀ x ∈ N,smN x) (k : Nat) (hk : 200000 ≤ k) : ref10_Same.f k s nm N O s nm N O = some true := by
 unfold ref10_Same.f
 rw [ref1_Ints_f _ _ (by omega) k (by omega),Option.bind_some,if_pos (decide_eq_true rfl),if_pos (beq_self_eq_true _),if_pos rfl,ref1_Ints_f _ _ (by omega) k (by omega),Option.bind_some,if_pos (decide_eq_true rfl)]
 have := iter0 (L := fun n i (_ : Unit) => ref10_Same.l0 k n N.length i s nm N O s nm N O) (st := fun _=>()) (fun _=>.inl ()) (m := N.length) 0
  (fun n _ => by rw [ref10_Same.l0,if_neg (by omega)])
  (fun i n hi _ ih => by
   obtain ⟨a1,a2,a3⟩ := h4 _ (getD_mem hi nd0)
   have e : ref10_Nodes.f k (N.getD i nd0).1 (N.getD i nd0).2.1 (N.getD i nd0).2.2.1 (N.getD i nd0).2.2.2.1 (N.getD i nd0).2.2.2.2.1 (N.getD i nd0).2.2.2.2.2.1 (N.getD i nd0).2.2.2.2.2.2 (N.getD i nd0).1 (N.getD i nd0).2.1 (N.getD i nd0).2.2.1 (N.getD i nd0).2.2.2.1 (N.getD i nd0).2.2.2.2.1 (N.getD i nd0).2.2.2.2.2.1 (N.getD i nd0).2.2.2.2.2.2 = some true := by
    unfold ref10_Nodes.f
    rw [if_pos rfl,ref1_Ints_f _ _ (by omega) k (by omega),Option.bind_some,if_pos (decide_eq_true rfl),ref1_Ints_f _ _ (by omega) k (by omega),Option.bind_some,if_pos (decide_eq_true rfl),ref1_Ints_f _ _ (by omega) k (by omega),Option.bind_some,if_pos (decide_eq_true rfl),if_pos rfl,if_pos rfl,beq_self_eq_true]
   rw [ref10_Same.l0,if_pos (by omega),if_pos (by omega),if_pos (by omega),Int.toNat_natCast,e,Option.bind_some,if_pos rfl,i64_succ hi (by omega),ih]) k (by omega)
 rw [this,Option.bind_some]; rfl
theorem zPar_len : ∀ (N : List Nd) (i : Nat),(zPar i N).length ≤ N.length
 | [],_ => Nat.le_refl _
 | x :: r,i => by
  have := zPar_len r (i + 1)
  rw [zPar]
  split
  ·rw [List.length_cons,List.length_cons]; omega
  ·rw [List.length_cons]; omega
structure GrS (s : List Int) (nm : ByteArray) (N : List Nd) (O : List Int) : Prop where
 h1 : s.length ≤ 100000
 h2 : nm.size ≤ 100000
 h3 : N.length ≤ 100000
 h4 : O.length ≤ 100000
 ok : ∀ x ∈ N,okN x
 sm : ∀ x ∈ N,smN x
theorem law10_same_f {s : List Int} {nm : ByteArray} {N : List Nd} {O : List Int} (h : GrS s nm N O) (k : Nat) (hk : 200000 ≤ k) : law10_same.f k s nm N O = some true := by
 obtain ⟨h1,h2,h3,h4,h5,h6⟩ := h
 have hz := zShs_sm s nm N O
 have hp := zPar_len N 0
 unfold law10_same.f
 rw [graph_Shapes_f s nm N O h2 h5 k hk,Option.bind_some,ref10_Shapes_f s nm N O h2 h5 k hk,Option.bind_some,if_pos rfl,law10_rows_f _ _ hz.1 hz.2 k hk,Option.bind_some,if_pos (decide_eq_true rfl),graph_Right_f s nm N O h2 h5 k hk,Option.bind_some,if_pos rfl,
  graph_Params_f s nm N O h3 k hk,Option.bind_some,ref10_Params_f s nm N O h3 k hk,Option.bind_some,book_Same_f _ _ (by omega) k (by omega),Option.bind_some,if_pos (decide_eq_true rfl),graph_Copy_f s nm N O h1 h3 h4 h6 k hk,Option.bind_some,
  ref10_Same_self s nm N O h1 h3 h4 h6 k hk,Option.bind_some,if_pos rfl,graph_Same_f s nm N O s nm N O h1 h3 h4 h6 k hk,Option.bind_some,grEq_self]
theorem law10_node_f (op : Int) (i s a : List Int) (n h : Int) (nt : ByteArray) (l : List (List Int)) (hl : l.length ≤ 400) (ha : a.length ≤ 100000) (k : Nat) (hk : 200000 ≤ k) : law10_node.f k op i s a n h nt l = some true := by
  unfold law10_node.f
  rw [graph_Shape_f _ _ _ _ _ _ _ _ hl (by omega) k (by omega),Option.bind_some,ref10_Shape_f _ _ _ _ _ _ _ _ hl (by omega) k (by omega),Option.bind_some,if_pos rfl]
  have : (zSh op s a n h l).2.length ≤ 1000 := by
    by_cases c : (zSh op s a n h l).1 = 0
    · have := (mSR_spec (zSh_R c)).1; omega
    · have : (zSh op s a n h l).2 = [] := by
        unfold zSh at c ⊢
        split
        · rename_i c1
          rw [if_pos c1] at c
          split
          · rename_i c2
            rw [if_pos c2] at c
            exact zShape_bad c
          · rfl
        · rfl
      rw [this]; exact Nat.zero_le _
  rw [book_Same_f _ _ (by omega) k (by omega),Option.bind_some,decide_eq_true rfl]
end Go.Pf

namespace Go.Pf
open Go Go.Vm
theorem within20 {a : Int} (ha : -9223372036854775808 ≤ a ∧ a < 9223372036854775808) : ∃ r,book_Within.f a 0 1048576 = some r ∧ 0 ≤ r ∧ r ≤ 1048576 := by
 unfold book_Within.f
 have w1 : (IntKind.i64.wrap ((IntKind.i64.wrap (1048576 - 0)) + 1) : Int) = 1048577 := by decide
 rw [w1]
 have t2 := Int.lt_tmod_of_pos a (show (0 : Int) < 1048577 by omega)
 have t3 := Int.tmod_lt_of_pos a (show (0 : Int) < 1048577 by omega)
 have key : ∃ r,(if (1048577 : Int) ≠ 0 then if a.tmod 1048577 < 0 then some (IntKind.i64.wrap (0 + (IntKind.i64.wrap ((IntKind.i64.wrap ((IntKind.i64.wrap ((a.tmod 1048577) + 1048576)) - 0)) + 1)))) else some (IntKind.i64.wrap (0 + (a.tmod 1048577))) else none) = some r ∧ 0 ≤ r ∧ r ≤ 1048576 := by
  rw [if_pos (by omega)]
  split
  ·rw [i64_id (n := a.tmod 1048577 + 1048576) (by omega) (by omega),i64_id (n := a.tmod 1048577 + 1048576 - 0) (by omega) (by omega),i64_id (n := a.tmod 1048577 + 1048576 - 0 + 1) (by omega) (by omega),i64_id (by omega) (by omega)]
   exact ⟨_,rfl,by omega,by omega⟩
  ·rw [i64_id (by omega) (by omega)]
   exact ⟨_,rfl,by omega,by omega⟩
 split
 ·split
  ·exact ⟨_,rfl,by omega,by omega⟩
  ·exact key
 ·exact key
theorem keep_at_f {a n : Int} (ha : -9223372036854775808 ≤ a ∧ a < 9223372036854775808) (hn : 1 ≤ n) : ∃ r,keep_at.f a n = some r ∧ 0 ≤ r ∧ r < n := by
 obtain ⟨r,e,r0,r1⟩ := within20 ha
 unfold keep_at.f
 rw [e,Option.bind_some,if_neg (show ¬ n < 1 by omega),if_pos (show n ≠ 0 by omega)]
 exact ⟨_,rfl,Int.tmod_nonneg _ (by omega),Int.tmod_lt_of_pos _ (by omega)⟩
def i64r (a : Int) : Prop := -9223372036854775808 ≤ a ∧ a < 9223372036854775808
theorem keep_turned_f (l : List Int) (hl : l.length ≤ 1000) (a b c d : Int) (t : ByteArray) (hc : i64r c) : ∃ r,keep_turned.f l a b c d t = some r ∧ r.length ≤ l.length + 1 := by
 unfold keep_turned.f
 by_cases h : (l.length : Int) = 0
 ·rw [if_pos h]; exact ⟨_,rfl,by rw [List.length_singleton]; omega⟩
 obtain ⟨r,e,r0,r1⟩ := keep_at_f hc (show 1 ≤ (l.length : Int) by omega)
 rw [if_neg h,if_pos (by omega),e,Option.bind_some,List.nil_append,if_pos ⟨r0,r1⟩,if_pos (by omega)]
 exact ⟨_,rfl,by rw [List.length_set]; omega⟩
theorem tiN.s {x : Nd} (h : tiN x) : okN x ∧ smN x := by
 obtain ⟨h1,h2,h3,h4⟩ := h
 exact ⟨⟨by omega,by omega,by omega⟩,by omega,by omega,by omega⟩
theorem GrS.set {s : List Int} {nm : ByteArray} {N : List Nd} {O : List Int} (h : GrS s nm N O) (i : Nat) {x : Nd} (hx : okN x ∧ smN x) : GrS s nm (N.set i x) O :=
 ⟨h.h1,h.h2,by rw [List.length_set]; exact h.h3,h.h4,fun y hy => by
  rcases List.mem_or_eq_of_mem_set hy with hy | hy
  ·exact h.ok y hy
  ·rw [hy]; exact hx.1,fun y hy => by
  rcases List.mem_or_eq_of_mem_set hy with hy | hy
  ·exact h.sm y hy
  ·rw [hy]; exact hx.2⟩
set_option maxHeartbeats 1000000 in
theorem keep_odd_f {s : List Int} {nm : ByteArray} {N : List Nd} {O : List Int} (h1 : s.length ≤ 100) (h2 : nm.size ≤ 100) (h3 : N.length ≤ 100) (h4 : O.length ≤ 100) (hN : ∀ x ∈ N,tiN x) (w n a v : Int) (t : ByteArray) (hw : i64r w) (hn : i64r n) (ha : i64r a) (ht : t.size ≤ 12) :
  ∃ s' nm' O' N',keep_odd.f s nm N O w n a v t = some (s',nm',O',N') ∧ GrS s' nm' N' O' := by
 have hG : GrS s nm N O := ⟨by omega,by omega,by omega,by omega,fun x hx => (hN x hx).s.1,fun x hx => (hN x hx).s.2⟩
 have hw4 : i64r (IntKind.i64.wrap (w.tdiv 4)) := by
  obtain ⟨a1,a2⟩ := hw
  have b1 : w.tdiv 4 ≤ 9223372036854775807 ∧ -9223372036854775808 ≤ w.tdiv 4 := by
   have := Int.mul_tdiv_add_tmod w 4
   have t2 := Int.lt_tmod_of_pos w (show (0 : Int) < 4 by omega)
   have t3 := Int.tmod_lt_of_pos w (show (0 : Int) < 4 by omega)
   omega
  rw [i64_id (by omega) (by omega)]
  exact ⟨by omega,by omega⟩
 have g5 : ∃ r,((keep_at.f (IntKind.i64.wrap (w.tdiv 4)) 5).bind fun t1 => if t1 = 0 then (if 0 + s.length ≤ 281474976710656 ∧ (0 + s.length) * 8 ≤ 140737488355328 then if ([] ++ s).length + [v].length ≤ 281474976710656 ∧ (([] ++ s).length + [v].length) * 8 ≤ 140737488355328 then some (([] ++ s) ++ [v],nm,O,[] ++ N) else none else none) else if t1 = 1 then (some (s,t,O,[] ++ N)) else if t1 = 2 then (if 0 + O.length ≤ 281474976710656 ∧ (0 + O.length) * 8 ≤ 140737488355328 then if ([] ++ O).length + [v].length ≤ 281474976710656 ∧ (([] ++ O).length + [v].length) * 8 ≤ 140737488355328 then some (s,nm,([] ++ O) ++ [v],[] ++ N) else none else none) else if t1 = 3 then (if ([] ++ N).length + ([(v,([],([],([],(0,(0,ByteArray.empty))))))] : List Nd).length ≤ 281474976710656 ∧ (([] ++ N).length + ([(v,([],([],([],(0,(0,ByteArray.empty))))))] : List Nd).length) * 112 ≤ 140737488355328 then some (s,nm,O,([] ++ N) ++ ([(v,([],([],([],(0,(0,ByteArray.empty))))))] : List Nd)) else none) else some (s,nm,[],[] ++ N)) = some r ∧ GrS r.1 r.2.1 r.2.2.2 r.2.2.1 := by
  obtain ⟨r,e,r0,r1⟩ := keep_at_f hw4 (show (1 : Int) ≤ 5 by omega)
  have hv : okN ((v,([],([],([],(0,(0,ByteArray.empty)))))) : Nd) ∧ smN ((v,([],([],([],(0,(0,ByteArray.empty)))))) : Nd) := ⟨⟨Nat.zero_le _,Nat.zero_le _,Nat.zero_le _⟩,Nat.zero_le _,Nat.zero_le _,Nat.zero_le _⟩
  rw [e,Option.bind_some]
  simp only [List.nil_append,Nat.zero_add,List.length_singleton]
  by_cases c0 : r = 0
  ·rw [if_pos c0,if_pos (by omega),if_pos (by omega)]
   exact ⟨_,rfl,by rw [List.length_append,List.length_singleton]; omega,hG.h2,hG.h3,hG.h4,hG.ok,hG.sm⟩
  by_cases c1 : r = 1
  ·rw [if_neg c0,if_pos c1]
   exact ⟨_,rfl,hG.h1,by dsimp only; omega,hG.h3,hG.h4,hG.ok,hG.sm⟩
  by_cases c2 : r = 2
  ·rw [if_neg c0,if_neg c1,if_pos c2,if_pos (by omega),if_pos (by omega)]
   exact ⟨_,rfl,hG.h1,hG.h2,hG.h3,by rw [List.length_append,List.length_singleton]; omega,hG.ok,hG.sm⟩
  by_cases c3 : r = 3
  ·rw [if_neg c0,if_neg c1,if_neg c2,if_pos c3,if_pos (by omega)]
   refine ⟨_,rfl,hG.h1,hG.h2,by rw [List.length_append,List.length_singleton]; omega,hG.h4,fun x hx => ?_,fun x hx => ?_⟩
   ·rcases List.mem_append.1 hx with hx | hx
    ·exact hG.ok x hx
    ·rw [List.mem_singleton] at hx; rw [hx]; exact hv.1
   ·rcases List.mem_append.1 hx with hx | hx
    ·exact hG.sm x hx
    ·rw [List.mem_singleton] at hx; rw [hx]; exact hv.2
  rw [if_neg c0,if_neg c1,if_neg c2,if_neg c3]
  exact ⟨_,rfl,hG.h1,hG.h2,hG.h3,Nat.zero_le _,hG.ok,hG.sm⟩
 obtain ⟨r5,e5,hr5⟩ := g5
 obtain ⟨r5a,r5b,r5c,r5d⟩ := r5
 unfold keep_odd.f
 rw [if_pos (by omega),if_neg (by omega)]
 by_cases c0 : (([] ++ N).length : Int) = 0
 ·rw [if_pos c0,if_pos (by decide)]
  exact ⟨_,_,_,_,e5,hr5⟩
 rw [if_neg c0,if_pos (by decide)]
 by_cases c3 : w.tmod 4 = 3
 ·rw [if_pos c3]
  exact ⟨_,_,_,_,e5,hr5⟩
 rw [List.nil_append] at c0
 obtain ⟨i,e1,i0,i1⟩ := keep_at_f hn (show 1 ≤ (N.length : Int) by omega)
 obtain ⟨r,e2,r0,r1⟩ := keep_at_f hw4 (show (1 : Int) ≤ 9 by omega)
 have hx := hN _ (getD_mem (show i.toNat < N.length by omega) nd0)
 rw [if_neg c3]
 simp only [List.nil_append,Nat.zero_add,List.length_singleton]
 rw [e1,Option.bind_some,if_pos ⟨i0,i1⟩,if_pos (by omega),e2,Option.bind_some]
 generalize hX : N.getD i.toNat nd0 = X at hx ⊢
 have hX' : N.getD i.toNat (0,([],([],([],(0,(0,ByteArray.empty)))))) = X := hX
 obtain ⟨x1,x2,x3,x4⟩ := hx
 obtain ⟨p,i',sh,A,m,h,nt⟩ := X
 dsimp only at x1 x2 x3 x4 ⊢
 have fin : ∀ {Y : Nd},Y.2.1.length ≤ 301 → Y.2.2.1.length ≤ 301 → Y.2.2.2.1.length ≤ 301 → Y.2.2.2.2.2.2.size ≤ 301 → ∃ s' nm' O' N',some (s,nm,O,N.set i.toNat Y) = some (s',nm',O',N') ∧ GrS s' nm' N' O' := fun a1 a2 a3 a4 =>
  ⟨_,_,_,_,rfl,hG.set _ ⟨⟨by omega,by omega,by omega⟩,by omega,by omega,by omega⟩⟩
 obtain ⟨u1,f1,g1⟩ := keep_turned_f i' (by omega) w n a v t ha
 obtain ⟨u2,f2,g2⟩ := keep_turned_f sh (by omega) w n a v t ha
 obtain ⟨u3,f3,g3⟩ := keep_turned_f A (by omega) w n a v t ha
 by_cases d0 : r = 0
 ·rw [if_pos d0]; exact fin (by dsimp only; omega) (by dsimp only; omega) (by dsimp only; omega) (by dsimp only; omega)
 rw [if_neg d0]
 by_cases d1 : r = 1
 ·rw [if_pos d1,f1,Option.bind_some]; exact fin (by dsimp only; omega) (by dsimp only; omega) (by dsimp only; omega) (by dsimp only; omega)
 rw [if_neg d1]
 by_cases d2 : r = 2
 ·rw [if_pos d2,f2,Option.bind_some]; exact fin (by dsimp only; omega) (by dsimp only; omega) (by dsimp only; omega) (by dsimp only; omega)
 rw [if_neg d2]
 by_cases d3 : r = 3
 ·rw [if_pos d3,f3,Option.bind_some]; exact fin (by dsimp only; omega) (by dsimp only; omega) (by dsimp only; omega) (by dsimp only; omega)
 rw [if_neg d3]
 by_cases d4 : r = 4
 ·rw [if_pos d4]; exact fin (by dsimp only; omega) (by dsimp only; omega) (by dsimp only; omega) (by dsimp only; omega)
 rw [if_neg d4]
 by_cases d5 : r = 5
 ·rw [if_pos d5]; exact fin (by dsimp only; omega) (by dsimp only; omega) (by dsimp only; omega) (by dsimp only; omega)
 rw [if_neg d5]
 by_cases d6 : r = 6
 ·rw [if_pos d6]; exact fin (by dsimp only; omega) (by dsimp only; omega) (by dsimp only; omega) (by dsimp only; omega)
 rw [if_neg d6]
 by_cases d7 : r = 7
 ·rw [if_pos d7,if_pos (by omega),if_pos (by omega)]; exact fin (by dsimp only; omega) (by dsimp only; omega) (by rw [List.length_append,List.length_singleton]; omega) (by dsimp only; omega)
 rw [if_neg d7,if_pos (by omega),if_pos (by omega)]
 exact fin (by rw [List.length_append,List.length_singleton]; omega) (by dsimp only; omega) (by dsimp only; omega) (by dsimp only; omega)
theorem keep_Odd1 {s : List Int} {nm : ByteArray} {N : List Nd} {O : List Int} (h1 : s.length ≤ 100) (h2 : nm.size ≤ 100) (h3 : N.length ≤ 100) (h4 : O.length ≤ 100) (hN : ∀ x ∈ N,tiN x) (w n a v : Int) (t : ByteArray) (hw : i64r w) (hn : i64r n) (ha : i64r a) (ht : t.size ≤ 12) (k : Nat) (hk : 100 ≤ k) :
  ∃ s' nm' N' O',keep_Odd.f k s nm N O [(w,(n,(a,(v,t))))] = some (s',nm',N',O') ∧ GrS s' nm' N' O' := by
 obtain ⟨s',nm',O',N',e,hG⟩ := keep_odd_f h1 h2 h3 h4 hN w n a v t hw hn ha ht
 obtain ⟨k,rfl⟩ : ∃ m,k = m + 2 := ⟨k - 2,by omega⟩
 unfold keep_Odd.f
 have hl : (0 : Int) < (([(w,(n,(a,(v,t))))] : List (Int × Int × Int × Int × ByteArray)).length : Int) := show (0 : Int) < 1 by decide
 have hl2 : ¬ (IntKind.i64.wrap (0 + 1) : Int) < (([(w,(n,(a,(v,t))))] : List (Int × Int × Int × Int × ByteArray)).length : Int) := show ¬ (IntKind.i64.wrap (0 + 1) : Int) < 1 by decide
 rw [keep_Odd.l0,if_pos hl,if_pos (by decide),if_pos ⟨Int.le_refl _,hl⟩]
 show ∃ s' nm' N' O',(((keep_odd.f s nm N O w n a v t).bind fun t1 => keep_Odd.l0 (k + 1) [(w,(n,(a,(v,t))))] (IntKind.i64.wrap (0 + 1)) t1.1 t1.2.1 t1.2.2.2 t1.2.2.1 ByteArray.empty).bind fun t2 => some (t2.1,t2.2.1,t2.2.2.1,t2.2.2.2)) = some (s',nm',N',O') ∧ GrS s' nm' N' O'
 rw [e,Option.bind_some,keep_Odd.l0,if_neg hl2,Option.bind_some]
 exact ⟨_,_,_,_,rfl,hG⟩
end Go.Pf

namespace Go.Pf
open Go Go.Vm
theorem upTo {R : Type} {L : Nat → Int → Option R} {res : R} (lo hi : Int) (N : Nat)
  (hend : ∀ n,N ≤ n → L (n + 1) hi = some res)
  (hstep : ∀ i n,lo ≤ i → i < hi → N ≤ n → L n (i + 1) = some res → L (n + 1) i = some res) : ∀ (e : Nat) (i : Int) (n : Nat),i + e = hi → lo ≤ i → e + N < n → L n i = some res
 | 0,i,n,hi',_,hn => by
  obtain ⟨n,rfl⟩ : ∃ q,n = q + 1 := ⟨n - 1,by omega⟩
  obtain rfl : i = hi := by omega
  exact hend n (by omega)
 | e + 1,i,n,hi',hl,hn => by
  obtain ⟨n,rfl⟩ : ∃ q,n = q + 1 := ⟨n - 1,by omega⟩
  exact hstep i n hl (by omega) (by omega) (upTo lo hi N hend hstep e (i + 1) n (by omega) (by omega) (by omega))
theorem law10_tape_f (x : Int) (k : Nat) (hk : 1000 ≤ k) : ∃ L,law10_tape.f k x = some L ∧ Tp L := by
 have : ∀ (e i n : Nat) (y : List Int),200 = i + e → e < n → y.length = i → (∀ x ∈ y,-9223372036854775808 ≤ x ∧ x < 9223372036854775808) → ∃ L,law10_tape.l0 n x i y = some L ∧ L.length = 200 ∧ ∀ x ∈ L,-9223372036854775808 ≤ x ∧ x < 9223372036854775808 := by
  intro e
  induction e with
  | zero =>
   intro i n y hi hn hy hx
   obtain ⟨n,rfl⟩ : ∃ m,n = m + 1 := ⟨n - 1,by omega⟩
   rw [law10_tape.l0,if_neg (by omega)]
   exact ⟨y,rfl,by omega,hx⟩
  | succ e ih =>
   intro i n y hi hn hy hx
   obtain ⟨n,rfl⟩ : ∃ m,n = m + 1 := ⟨n - 1,by omega⟩
   rw [law10_tape.l0,if_pos (by omega),if_pos (by decide),if_pos (by rw [List.length_singleton]; omega),i64_succ (show i < 200 by omega) (by omega)]
   refine ih (i + 1) n _ (by omega) (by omega) (by rw [List.length_append,List.length_singleton]; omega) fun v hv => ?_
   rcases List.mem_append.1 hv with hv | hv
   ·exact hx v hv
   ·rw [List.mem_singleton] at hv
    generalize (IntKind.i64.wrap _ : Int) = u at hv
    have t2 := Int.lt_tmod_of_pos u (show (0 : Int) < 211 by omega)
    have t3 := Int.tmod_lt_of_pos u (show (0 : Int) < 211 by omega)
    omega
 obtain ⟨L,e,hl,hx⟩ := this 200 0 k [] (by omega) (by omega) rfl (fun x h => by cases h)
 rw [n0] at e
 unfold law10_tape.f
 rw [e,Option.bind_some]
 exact ⟨L,rfl,by omega,hx⟩
theorem GraphNumbers_l1 {nm : ByteArray} {s : List Int} {N : List Nd} {O : List Int} (h1 : s.length ≤ 100) (h2 : nm.size ≤ 100) (h3 : N.length ≤ 100) (h4 : O.length ≤ 100) (hN : ∀ x ∈ N,tiN x) (x1 : Int) (hx0 : 0 ≤ x1) (hx1 : x1 < 60) (k : Nat) (hk : 200000 ≤ k) (n : Nat) (hn : 100 ≤ n) : law10_GraphNumbers.l1 k n x1 (-1) s nm N O = some (.inl ()) := by
 have hG : GrS s nm N O := ⟨by omega,by omega,by omega,by omega,fun x hx => (hN x hx).s.1,fun x hx => (hN x hx).s.2⟩
 refine upTo (L := fun n i => law10_GraphNumbers.l1 k n x1 i s nm N O) (-1) 5 0 (fun n _ => by rw [law10_GraphNumbers.l1,if_neg (by omega)]) (fun i n h0 h1' _ ih => ?_) 6 (-1) n (by omega) (by omega) (by omega)
 have w1 : IntKind.i64.wrap ((IntKind.i64.wrap ((IntKind.i64.wrap (x1 * 7)) + i)) + 1) = x1 * 7 + i + 1 := by
  rw [i64_id (n := x1 * 7) (by omega) (by omega),i64_id (n := x1 * 7 + i) (by omega) (by omega),i64_id (by omega) (by omega)]
 obtain ⟨s',nm',N',O',e,hG'⟩ := keep_Odd1 h1 h2 h3 h4 hN (x1 * 7 + i + 1) x1 (i + 1) i (ByteArray.mk #[120,46]) ⟨by omega,by omega⟩ ⟨by omega,by omega⟩ ⟨by omega,by omega⟩ (by decide) k (by omega)
 rw [law10_GraphNumbers.l1,if_pos h1',law10_same_f hG k hk,Option.bind_some,if_pos rfl,w1,i64_id (n := i + 1) (by omega) (by omega),e,Option.bind_some,law10_same_f hG' k hk,Option.bind_some,if_pos rfl,ih]
theorem GraphNumbers_l4 (op how p : Int) (s a : List Int) (n' h' : Int) (nt : ByteArray) (hs : a.length ≤ 100) (k : Nat) (hk : 200000 ≤ k) (n : Nat) (hn : 100 ≤ n) : law10_GraphNumbers.l4 k n op how 0 p s a n' h' nt = some (.inl ()) := by
 refine upTo (L := fun n i => law10_GraphNumbers.l4 k n op how i p s a n' h' nt) 0 4 0 (fun n _ => by rw [law10_GraphNumbers.l4,if_neg (by omega)]) (fun i n h0 h1' _ ih => ?_) 4 0 n (by omega) (by omega) (by omega)
 have tk : ∀ l : List (List Int),l.length ≤ 3 → ((l.take i.toNat).drop 0).length ≤ 400 := fun l hl => by
  rw [List.drop_zero,List.length_take]; omega
 rw [law10_GraphNumbers.l4,if_pos h1',if_pos ⟨by decide,by omega,by show i ≤ (3 : Int); omega⟩,law10_node_f _ _ _ _ _ _ _ _ (tk _ (by simp)) (by omega) k hk,Option.bind_some,if_pos rfl,law10_node_f _ _ _ _ _ _ _ _ (tk _ (by simp)) (by simp) k hk,Option.bind_some,if_pos rfl,
  law10_node_f _ _ _ _ _ _ _ _ (tk _ (by simp)) (by simp) k hk,Option.bind_some,if_pos rfl,law10_node_f _ _ _ _ _ _ _ _ (tk _ (by simp)) (by simp) k hk,Option.bind_some,if_pos rfl,if_pos ⟨by decide,by omega,by show i ≤ (3 : Int); omega⟩,law10_node_f _ _ _ _ _ _ _ _ (tk _ (by simp)) (by simp) k hk,Option.bind_some,if_pos rfl,
  i64_id (n := i + 1) (by omega) (by omega),ih]
theorem GraphNumbers_l3 (op : Int) (k : Nat) (hk : 200000 ≤ k) (n : Nat) (hn : 300 ≤ n) : law10_GraphNumbers.l3 k n op 0 = some (.inl ()) := by
 refine upTo (L := fun n i => law10_GraphNumbers.l3 k n op i) 0 16 200 (fun n _ => by rw [law10_GraphNumbers.l3,if_neg (by omega)]) (fun i n h0 h1' hn' ih => ?_) 16 0 n (by omega) (by omega) (by omega)
 have l4 := fun (s a : List Int) (ha : a.length ≤ 100) (h' : Int) => GraphNumbers_l4 op i op s a 0 h' ByteArray.empty ha k hk n (by omega)
 rw [law10_GraphNumbers.l3,if_pos h1',i64_id (n := i + 1) (by omega) (by omega)]
 split
 ·split
  ·rw [l4 _ _ (by simp),Option.bind_some,Sum.elim_inl,ih]
  ·rw [l4 _ _ (by simp),Option.bind_some,Sum.elim_inl,ih]
 ·split
  ·rw [l4 _ _ (by simp),Option.bind_some,Sum.elim_inl,ih]
  ·rw [l4 _ _ (by simp),Option.bind_some,Sum.elim_inl,ih]
theorem GraphNumbers_l6 (s : List Int) (hs : s.length ≤ 100) (x128 x129 : Int) (y0 : List (List Int)) (y1 : List ByteArray) (h1 : y1.length ≤ 100) (h2 : ∀ x ∈ y1,x.size ≤ 100) (k : Nat) (hk : 200000 ≤ k) (n : Nat) (hn : 200 ≤ n) : law10_GraphNumbers.l6 k n s x128 x129 y1.length 0 y0 y1 = some (.inl ()) := by
 refine upTo (L := fun n i => law10_GraphNumbers.l6 k n s x128 x129 y1.length i y0 y1) 0 y1.length 0 (fun n _ => by rw [law10_GraphNumbers.l6,if_neg (by omega)]) (fun i n h0 h1' _ ih => ?_) y1.length 0 n (by omega) (by omega) (by omega)
 have hz := h2 _ (getD_mem (show i.toNat < y1.length by omega) ByteArray.empty)
 have a1 : GrS s (y1.getD i.toNat ByteArray.empty) [] [0] := ⟨by omega,by omega,Nat.zero_le _,by decide,(fun x h => by cases h),(fun x h => by cases h)⟩
 have a2 : GrS s (y1.getD i.toNat ByteArray.empty) (List.replicate 49 nd0) [] := ⟨by omega,by omega,by decide,Nat.zero_le _,(fun x h => by rw [List.eq_of_mem_replicate h]; exact ⟨Nat.zero_le _,Nat.zero_le _,Nat.zero_le _⟩),(fun x h => by rw [List.eq_of_mem_replicate h]; exact ⟨Nat.zero_le _,Nat.zero_le _,Nat.zero_le _⟩)⟩
 rw [law10_GraphNumbers.l6,if_pos h1',if_pos ⟨h0,h1'⟩,if_pos (by omega),law10_same_f a1 k hk,Option.bind_some,if_pos rfl,if_pos (by decide),law10_same_f a2 k hk,Option.bind_some,if_pos rfl,i64_id (n := i + 1) (by omega) (by omega),ih]
theorem GraphNumbers_l5 (y0 : List (List Int)) (h1 : y0.length ≤ 100) (h2 : ∀ x ∈ y0,x.length ≤ 100) (k : Nat) (hk : 200000 ≤ k) (n : Nat) (hn : 400 ≤ n) : law10_GraphNumbers.l5 k n y0.length 0 y0 = some (.inl ()) := by
 refine upTo (L := fun n i => law10_GraphNumbers.l5 k n y0.length i y0) 0 y0.length 200 (fun n _ => by rw [law10_GraphNumbers.l5,if_neg (by omega)]) (fun i n h0 h1' hn' ih => ?_) y0.length 0 n (by omega) (by omega) (by omega)
 have hz := h2 _ (getD_mem (show i.toNat < y0.length by omega) [])
 rw [law10_GraphNumbers.l5,if_pos h1',if_pos ⟨h0,h1'⟩,if_pos (by omega),GraphNumbers_l6 _ hz _ _ _ _ (by decide) (by decide) k hk n (by omega),Option.bind_some,Sum.elim_inl,i64_id (n := i + 1) (by omega) (by omega),ih]
theorem GraphNumbers_ok : ∃ k,law10_GraphNumbers.f k = some true := by
 refine ⟨400000,?_⟩
 generalize hk' : (400000 : Nat) = k
 have hk : 400000 ≤ k := by omega
 clear hk'
 have l0 : law10_GraphNumbers.l0 k k 0 = some (.inl ()) := by
  refine upTo (L := fun n i => law10_GraphNumbers.l0 k n i) 0 60 200 (fun n _ => by rw [law10_GraphNumbers.l0,if_neg (by omega)]) (fun i n h0 h1' hn' ih => ?_) 60 0 k (by omega) (by omega) (by omega)
  obtain ⟨L,e1,hT⟩ := law10_tape_f i k (by omega)
  obtain ⟨nm,sz,N,O,S,e2,hm,hG,hN,hO,hx⟩ := tape_Graph hT k (by omega)
  have hsz := hm.size
  have hms := (mR_spec hm.right.1).1
  rw [law10_GraphNumbers.l0,if_pos h1',e1,Option.bind_some,e2,Option.bind_some,GraphNumbers_l1 (show sz.length ≤ 100 by omega) (show nm.size ≤ 100 by omega) (show N.length ≤ 100 by omega) (show O.length ≤ 100 by omega) hG.ti i h0 h1' k (by omega) n (by omega),Option.bind_some,Sum.elim_inl,i64_id (n := i + 1) (by omega) (by omega),ih]
 have l2 : law10_GraphNumbers.l2 k k (-1) = some (.inl ()) := by
  refine upTo (L := fun n i => law10_GraphNumbers.l2 k n i) (-1) 23 400 (fun n _ => by rw [law10_GraphNumbers.l2,if_neg (by omega)]) (fun i n h0 h1' hn' ih => ?_) 24 (-1) k (by omega) (by omega) (by omega)
  rw [law10_GraphNumbers.l2,if_pos h1',GraphNumbers_l3 i k (by omega) n (by omega),Option.bind_some,Sum.elim_inl,i64_id (n := i + 1) (by omega) (by omega),ih]
 unfold law10_GraphNumbers.f
 rw [l0,Option.bind_some,Sum.elim_inl,l2,Option.bind_some,Sum.elim_inl,GraphNumbers_l5 _ (by decide) (by decide) k (by omega) k (by omega),Option.bind_some,Sum.elim_inl,known10 k (by omega),Option.bind_some]
end Go.Pf
