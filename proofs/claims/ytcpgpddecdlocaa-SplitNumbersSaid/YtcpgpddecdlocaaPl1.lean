/- Own texts put together: M17j .. -/
import Derived.Test.YtcpgpddecdlocaaPl0
set_option linter.unusedVariables false
set_option linter.unusedSimpArgs false
namespace Go.Pf
open Go Go.Vm
theorem qhK (x : Int) (k : Nat) (hk : 1000 ≤ k) : ∃ L,qa7.f k x = some L ∧ Fit (.sl (.int .i64)) L := by
 have : ∀ (e i n : Nat) (y : LI),90 = i + e → e < n → y.length = i → (∀ x ∈ y,-9223372036854775808 ≤ x ∧ x < 9223372036854775808) → ∃ L,qa7.l0 n x i y = some L ∧ L.length = 90 ∧ ∀ x ∈ L,-9223372036854775808 ≤ x ∧ x < 9223372036854775808 := by
  intro e
  induction e with
  | zero =>
   intro i n y hi hn hy hx
   obtain ⟨n,rfl⟩ : ∃ m,n = m + 1 := ⟨n - 1,by omega⟩
   rw [qa7.l0,if_neg (by omega)]
   exact ⟨y,rfl,by omega,hx⟩
  | succ e ih =>
   intro i n y hi hn hy hx
   obtain ⟨n,rfl⟩ : ∃ m,n = m + 1 := ⟨n - 1,by omega⟩
   rw [qa7.l0,if_pos (by omega),if_pos (by decide),if_pos (by rw [List.length_singleton]; omega),qbf (show i < 90 by omega) (by omega)]
   refine ih (i + 1) n _ (by omega) (by omega) (by rw [List.length_append,List.length_singleton]; omega) fun v hv => ?_
   rcases List.mem_append.1 hv with hv | hv
   ·exact hx v hv
   ·rw [List.mem_singleton] at hv
    generalize (IntKind.i64.wrap _ : Int) = u at hv
    have t2 := Int.lt_tmod_of_pos u (show (0 : Int) < 211 by omega)
    have t3 := Int.tmod_lt_of_pos u (show (0 : Int) < 211 by omega)
    omega
 obtain ⟨L,e,hl,hx⟩ := this 90 0 k [] (by omega) (by omega) rfl (fun x h => by cases h)
 rw [n0] at e
 unfold qa7.f
 rw [e,obs]
 refine ⟨L,rfl,by show L.length * 8 ≤ 140737488351232; omega,fun x h => ?_⟩
 have := hx x h
 have h1 : IntKind.i64.min = -9223372036854775808 := by decide
 have h2 : IntKind.i64.max = 9223372036854775807 := by decide
 show (Lit.int .i64 x).wf = true
 simp only [Lit.wf,Bool.and_eq_true,decide_eq_true_eq]
 omega
theorem qgk (x1 : Int) (m sp s d : LI) (hsp : sp.length ≤ 1000) (k : Nat) (hk : 300000 ≤ k) (n : Nat) (hn : 100 ≤ n) : qab.l1 k n x1 m (-1) sp s d = some (.inl ()) := by
 refine upTo (L := fun n i => qab.l1 k n x1 m i sp s d) (-1) 9 0 (fun n _ => by rw [qab.l1,if_neg (by omega)]) (fun i n i0 i1 _ ih => ?_) 10 (-1) n (by omega) (by omega) (by omega)
 rw [qab.l1,if_pos i1,qfi _ _ _ _ _ (by omega) k (by omega),obs,if_pos rfl,qag (n := i + 1) (by omega) (by omega),ih]
theorem qgj (x1 : Int) (m : LI) (sp s d : LI) (hsp : sp.length ≤ 1000) (l : List (LI × LI)) (hl : l.length ≤ 100) (hz : ∀ p ∈ l,p.2.length ≤ 4096) (k : Nat) (hk : 300000 ≤ k) (n : Nat) (hn : 200 ≤ n) : qab.l2 k n x1 m l.length 0 sp l s d = some (.inl ()) := by
 refine upTo (L := fun n i => qab.l2 k n x1 m l.length i sp l s d) 0 l.length 0 (fun n _ => by rw [qab.l2,if_neg (by omega)]) (fun i n i0 i1 _ ih => ?_) l.length 0 n (by omega) (by omega) (by omega)
 have hx := hz _ (qap (show i.toNat < l.length by omega) ([],[]))
 rw [qab.l2,if_pos i1,if_pos ⟨i0,i1⟩,qag (n := i + 1) (by omega) (by omega)]
 split
 ·rename_i c
  simp only [List.nil_append,Nat.zero_add]
  rw [if_pos (by omega),if_pos (by omega),if_pos ⟨i0,i1⟩,if_pos (by omega),if_pos trivial,if_pos ⟨by decide,c⟩,if_pos (by omega),qb5 _ _ _ _ (by omega) k (by omega),obs,if_pos rfl,ih]
 ·exact ih
theorem qgl (k : Nat) (hk : 400000 ≤ k) : qab.l0 k k 0 = some (.inl ()) := by
 refine upTo (L := fun n i => qab.l0 k n i) 0 100 300 (fun n _ => by rw [qab.l0,if_neg (by omega)]) (fun i n i0 i1 hn' ih => ?_) 100 0 k (by omega) (by omega) (by omega)
 obtain ⟨L,e1,hL⟩ := qhK i k (by omega)
 obtain ⟨m,s,d,sp,e,hm,hT,h2,hs4,hl4,h343⟩ := made17 hL k (by omega)
 obtain ⟨_,d1,d8,_⟩ := got17m hm
 have hmay : zMay17 s d m sp = 0 := qcN.2 ⟨hT,h2⟩
 have hal := qcB s d m sp
 obtain ⟨_,hz⟩ := qfA hmay
 have hz' : ∀ p ∈ zAll17 s d m sp,p.2.length ≤ 4096 := fun p hp => by
  have h3 := qaD (hz p hp)
  have h4 := qak h3.1
  omega
 have j4 := fun l s' => qb5 l s' m sp (by omega) k (by omega)
 have j5 := fun l => qb5 l s m (sp ++ [-1]) (by simp; omega) k (by simp; omega)
 rw [qab.l0,if_pos i1,e1,obs,e,obs]
 dsimp only
 rw [qgk i m sp s d (by omega) k (by omega) n (by omega),obs,Sum.elim_inl,qfQ s d m sp (by omega) k (by omega),if_pos hmay,obs]
 dsimp only
 rw [j4,obs,if_pos rfl,if_pos ⟨by decide,by omega,Int.le_refl _⟩,j4,obs,if_pos rfl,if_pos (by simp; omega),j4,obs,if_pos rfl,if_pos (by simp; omega),j4,obs,if_pos rfl,if_pos (by simp; omega),j5,obs,if_pos rfl,
  qgj i m sp s d (by omega) _ (by omega) hz' k (by omega) n (by omega),obs,Sum.elim_inl,qag (n := i + 1) (by omega) (by omega),ih]
theorem qgi : ∃ k,qab.f k = some true := by
 refine ⟨400000,?_⟩
 generalize hk' : (400000 : Nat) = k
 have hk : 400000 ≤ k := by omega
 clear hk'
 unfold qab.f
 rw [qgl k hk,obs,Sum.elim_inl,qfi _ _ _ _ _ (by decide) k (by simp; omega),obs,if_pos rfl,qb5 _ _ _ _ (by decide) k (by simp; omega),obs,if_pos rfl,known17 k (by omega),obs]
end Go.Pf
