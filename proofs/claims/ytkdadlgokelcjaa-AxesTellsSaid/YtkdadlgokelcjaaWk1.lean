/- Own texts put together: W5f40, W5f41, W5f42 .. -/
import Derived.Test.YtkdadlgokelcjaaWk0
set_option linter.unusedVariables false
set_option linter.unusedSimpArgs false
/- ref4_Slice -/
namespace Go.Vm
open Go Go.Proofs Go.Pf
def lv40 : Live := look ⟨[], [], [], [], []⟩ [(6, ⟨[1, 2, 3, 6, 33, 34], [1, 2, 3, 6], [6, 7], [], []⟩), (13, ⟨[1, 2, 3, 6, 9, 84, 85], [6, 9], [6, 7], [], []⟩), (17, ⟨[1, 2, 3, 6, 9, 10, 11, 84, 85, 92, 93], [1, 2, 3, 6, 9, 10, 11, 84, 85], [6, 7], [], []⟩), (1000000, ⟨[], [], [], [(6, 0, .own (.int .i64)), (6, 1, .own (.int .i64))], []⟩)]
noncomputable def g40 (k : Nat) : FEnv := (addF 53 (sp53 k) (addF 52 (sp52 k) (addF 20 (sp20 k) (addF 51 (sp51 k) (fun _ => none)))))
theorem en40 (k : Nat) : EnvOK Try.prog (g40 k) := (envOK_add (snd53 k) (envOK_add (snd52 k) (envOK_add (snd20 k) (envOK_add (snd51 k) (envOK_nil _)))))
set_option maxRecDepth 60000 in
set_option maxHeartbeats 4000000 in
theorem w40_0 (S : Seals) (k : Nat) : ∀ (n : Nat) {x1 : List Int} {x2 : List Int} {x33 : Int} {x34 : Int} {y0_0 : List Int} {y0_1 : List Int} {K : CK}, S.lp tt (g40 k) lv40 0 n (loopN Try.f40 0) ⟨[(1, .dat (.int .i64) x1 true), (2, .dat (.int .i64) x2 true), (3, .ptr 0 0), (6, .ptr 1 0), (33, .i .i64 x33), (34, .i .i64 x34)], [(0, .var [.dat (.int .i64) y0_0 true, .dat (.int .i64) y0_1 true]), (1, .var [.nilsl, .nilsl])], 2, 118⟩ K = bindO (ref4_Slice.l0 n x1 x2 x33 x34 y0_0 y0_1) (Sum.elim (fun x : Unit => K (.exit 0) ⟨[(1, .dat (.int .i64) x1 true), (2, .dat (.int .i64) x2 true), (3, .ptr 0 0), (6, .ptr 1 0)], [(0, .var [.dat (.int .i64) y0_0 true, .dat (.int .i64) y0_1 true]), (1, .var [.nilsl, .nilsl])], 2, 118⟩) (fun x : Int => K .ret ⟨[(6, .ptr 0 0), (7, .i .i64 x)], [(0, .var [.nilsl, .nilsl])], 1, 118⟩)) := by
  intro n; induction n with
  | zero => intros; rw [S.lp_zero]; exact none_c
  | succ n ih =>
    intros; rw [ref4_Slice.l0]; refine S.lp_succ ?_; conv => lhs; arg 5; whnf
    repeat' first
      | refine S.seq_op rfl ?_; conv => lhs; whnf
      | refine S.op_n ?_; conv => lhs; whnf
      | refine S.seq_nil ?_
      | refine S.reg_n ?_
      | refine S.region rfl ?_
      | refine S.two ?_
      | refine S.blok ?_
      | refine S.cond rfl ?_
      | refine S.after_n ?_
      | refine S.block_n ?_
      | refine S.block_x ?_; conv => lhs; whnf
      | refine S.block_r ?_
      | refine S.after_x ?_
      | refine S.after_r ?_
      | refine S.skip ?_
      | refine S.exit ?_
      | refine S.ret ?_
      | refine br_lt ?_; conv => lhs; whnf
      | refine br_lf ?_; conv => lhs; whnf
      | refine br_t (by assumption) ?_; conv => lhs; whnf
      | refine br_f (by assumption) ?_; conv => lhs; whnf
      | refine req_i (by with_reducible assumption) ?_; conv => lhs; whnf
      | (refine br_nd (fun _ => ?_) (fun _ => ?_) <;> conv => lhs; whnf)
      | (refine br_d (fun _ => ?_) (fun _ => ?_) <;> conv => lhs; whnf)
      | (refine br_n (fun _ => ?_) (fun _ => ?_) <;> conv => lhs; whnf)
      | (refine br_c (fun _ => ?_) (fun _ => ?_) <;> conv => lhs; whnf)
      | refine req_c fun _ => ?_; conv => lhs; whnf
      | refine req_i (by assumption) ?_; conv => lhs; whnf
      | refine bnd_c fun _ => ?_; conv => lhs; whnf
      | refine sum_c (fun _ => ?_) (fun _ => ?_)
      | refine S.region_d (id := 8) (ds := [0, 0, 3, 7, 15, 31, 63, 63, 255, 511, 1023, 2047, 4095, 8191, 8191, 32767, 65535, 8191, 139263, 8191, 925695, 1974271, 4194303, 8388607, 16777215, 33554431, 33554431, 134217727, 268435455, 33554431, 570425343, 33554431, 3791650815, 8086618111, 33554431, 33554431, 51573161983, 120292638719, 274374590463, 549755813887, 1099511627775]) (mds := [[], [], [], [], [], [], [], [], [], [], [], [], [], [], [], [], [], [], [], [], [], [], [], [], [], [], [], [], [], [], [], [], [], [], [], [], [], [], [], [], []]) (hm := []) (by kernel_rfl) (by kernel_rfl) rfl rfl ?_
      | exact ih
      | refine S.loop ?_; conv => lhs; whnf
      | refine S.back_n ?_; conv => lhs; whnf
      | refine S.back_x ?_; conv => lhs; whnf
      | refine S.back_r ?_; conv => lhs; whnf
      | refine S.fin_r ?_; conv => lhs; whnf
      | refine S.fin_n ?_; conv => lhs; whnf
      | exact ret_c rfl
      | exact none_c
      | refine S.draw_op ?_; conv => lhs; whnf; arg 1; whnf
      | refine S.dk_n ?_; conv => lhs; whnf
      | refine S.draw_nil ?_; conv => lhs; whnf
      | refine andK_br ?_
      | refine andK_req ?_
      | refine andK_b ?_
      | refine andK_none ?_
set_option maxRecDepth 60000 in
set_option maxHeartbeats 4000000 in
theorem w40_2 (S : Seals) (k : Nat) : ∀ (n : Nat) {x1 : List Int} {x2 : List Int} {x10 : Int} {x84 : Int} {x85 : Int} {x92 : Int} {x93 : Int} {y0_0 : List Int} {y0_1 : List Int} {y3 : List Int} {y4 : List Int} {y5 : List Int} {K : CK}, S.lp tt (g40 k) lv40 0 n (loopN Try.f40 2) ⟨[(1, .dat (.int .i64) x1 true), (2, .dat (.int .i64) x2 true), (3, .ptr 0 0), (6, .ptr 1 0), (9, .ptr 2 0), (10, .i .i64 x10), (11, .own 3), (84, .i .i64 x84), (85, .i .i64 x85), (92, .i .i64 x92), (93, .i .i64 x93)], [(0, .var [.dat (.int .i64) y0_0 true, .dat (.int .i64) y0_1 true]), (1, .var [.nilsl, .nilsl]), (2, .var [.own 4, .own 5]), (3, .row (.int .i64) y3 false), (4, .row (.int .i64) y4 false), (5, .row (.int .i64) y5 false)], 6, 118⟩ K = bindO (ref4_Slice.l2 n x1 x2 x10 x84 x85 x92 x93 y0_0 y0_1 y3 y4 y5) (fun x : (List Int) => K (.exit 4) ⟨[(1, .dat (.int .i64) x1 true), (2, .dat (.int .i64) x2 true), (3, .ptr 0 0), (6, .ptr 1 0), (9, .ptr 2 0), (10, .i .i64 x10), (11, .own 3), (84, .i .i64 x84), (85, .i .i64 x85)], [(0, .var [.dat (.int .i64) y0_0 true, .dat (.int .i64) y0_1 true]), (1, .var [.nilsl, .nilsl]), (2, .var [.own 4, .own 5]), (3, .row (.int .i64) x false), (4, .row (.int .i64) y4 false), (5, .row (.int .i64) y5 false)], 6, 118⟩) := by
  intro n; induction n with
  | zero => intros; rw [S.lp_zero]; exact none_c
  | succ n ih =>
    intros; rw [ref4_Slice.l2]; refine S.lp_succ ?_; conv => lhs; arg 5; whnf
    repeat' first
      | refine S.seq_op rfl ?_; conv => lhs; whnf
      | refine S.op_n ?_; conv => lhs; whnf
      | refine S.seq_nil ?_
      | refine S.reg_n ?_
      | refine S.region rfl ?_
      | refine S.two ?_
      | refine S.blok ?_
      | refine S.cond rfl ?_
      | refine S.after_n ?_
      | refine S.block_n ?_
      | refine S.block_x ?_; conv => lhs; whnf
      | refine S.block_r ?_
      | refine S.after_x ?_
      | refine S.after_r ?_
      | refine S.skip ?_
      | refine S.exit ?_
      | refine S.ret ?_
      | refine br_lt ?_; conv => lhs; whnf
      | refine br_lf ?_; conv => lhs; whnf
      | refine br_t (by assumption) ?_; conv => lhs; whnf
      | refine br_f (by assumption) ?_; conv => lhs; whnf
      | refine req_i (by with_reducible assumption) ?_; conv => lhs; whnf
      | (refine br_nd (fun _ => ?_) (fun _ => ?_) <;> conv => lhs; whnf)
      | (refine br_d (fun _ => ?_) (fun _ => ?_) <;> conv => lhs; whnf)
      | (refine br_n (fun _ => ?_) (fun _ => ?_) <;> conv => lhs; whnf)
      | (refine br_c (fun _ => ?_) (fun _ => ?_) <;> conv => lhs; whnf)
      | refine req_c fun _ => ?_; conv => lhs; whnf
      | refine req_i (by assumption) ?_; conv => lhs; whnf
      | refine bnd_c fun _ => ?_; conv => lhs; whnf
      | refine sum_c (fun _ => ?_) (fun _ => ?_)
      | refine S.region_d (id := 19) (ds := [0, 0, 0, 0, 12, 28, 0, 0, 192, 448, 1020, 2047, 4095]) (mds := [[], [], [], [], [], [], [], [], [], [], [], [], [3]]) (hm := [(12, [3])]) (by kernel_rfl) (by kernel_rfl) rfl rfl ?_
      | exact ih
      | refine S.loop ?_; conv => lhs; whnf
      | refine S.back_n ?_; conv => lhs; whnf
      | refine S.back_x ?_; conv => lhs; whnf
      | refine S.back_r ?_; conv => lhs; whnf
      | refine S.fin_r ?_; conv => lhs; whnf
      | refine S.fin_n ?_; conv => lhs; whnf
      | exact ret_c rfl
      | exact none_c
      | refine S.draw_op ?_; conv => lhs; whnf; arg 1; whnf
      | refine S.dk_n ?_; conv => lhs; whnf
      | refine S.draw_nil ?_; conv => lhs; whnf
      | refine andK_br ?_
      | refine andK_req ?_
      | refine andK_b ?_
      | refine andK_none ?_
set_option maxRecDepth 60000 in
set_option maxHeartbeats 4000000 in
theorem w40_1 (S : Seals) (k : Nat) : ∀ (n : Nat) {x1 : List Int} {x2 : List Int} {x84 : Int} {x85 : Int} {y0_0 : List Int} {y0_1 : List Int} {y3 : List Int} {y4 : List Int} {K : CK}, S.lp tt (g40 k) lv40 0 n (loopN Try.f40 1) ⟨[(1, .dat (.int .i64) x1 true), (2, .dat (.int .i64) x2 true), (3, .ptr 0 0), (6, .ptr 1 0), (9, .ptr 2 0), (84, .i .i64 x84), (85, .i .i64 x85)], [(0, .var [.dat (.int .i64) y0_0 true, .dat (.int .i64) y0_1 true]), (1, .var [.nilsl, .nilsl]), (2, .var [.own 3, .own 4]), (3, .row (.int .i64) y3 false), (4, .row (.int .i64) y4 false)], 5, 118⟩ K = bindO (ref4_Slice.l1 k n x1 x2 x84 x85 y0_0 y0_1 y3 y4) (fun x : (List Int) => K (.exit 2) ⟨[(6, .ptr 0 0), (9, .ptr 1 0)], [(0, .var [.nilsl, .nilsl]), (1, .var [.own 2, .own 3]), (2, .row (.int .i64) y3 false), (3, .row (.int .i64) x false)], 4, 118⟩) := by
  intro n; induction n with
  | zero => intros; rw [S.lp_zero]; exact none_c
  | succ n ih =>
    intros; rw [ref4_Slice.l1]; refine S.lp_succ ?_; conv => lhs; arg 5; whnf
    repeat' first
      | refine S.seq_op rfl ?_; conv => lhs; whnf
      | refine S.op_n ?_; conv => lhs; whnf
      | refine S.seq_nil ?_
      | refine S.reg_n ?_
      | refine S.region rfl ?_
      | refine S.two ?_
      | refine S.blok ?_
      | refine S.cond rfl ?_
      | refine S.after_n ?_
      | refine S.block_n ?_
      | refine S.block_x ?_; conv => lhs; whnf
      | refine S.block_r ?_
      | refine S.after_x ?_
      | refine S.after_r ?_
      | refine S.skip ?_
      | refine S.exit ?_
      | refine S.ret ?_
      | refine br_lt ?_; conv => lhs; whnf
      | refine br_lf ?_; conv => lhs; whnf
      | refine br_t (by assumption) ?_; conv => lhs; whnf
      | refine br_f (by assumption) ?_; conv => lhs; whnf
      | refine req_i (by with_reducible assumption) ?_; conv => lhs; whnf
      | (refine br_nd (fun _ => ?_) (fun _ => ?_) <;> conv => lhs; whnf)
      | (refine br_d (fun _ => ?_) (fun _ => ?_) <;> conv => lhs; whnf)
      | (refine br_n (fun _ => ?_) (fun _ => ?_) <;> conv => lhs; whnf)
      | (refine br_c (fun _ => ?_) (fun _ => ?_) <;> conv => lhs; whnf)
      | refine req_c fun _ => ?_; conv => lhs; whnf
      | refine req_i (by assumption) ?_; conv => lhs; whnf
      | refine bnd_c fun _ => ?_; conv => lhs; whnf
      | refine sum_c (fun _ => ?_) (fun _ => ?_)
      | refine S.region_d (id := 21) (ds := [0, 1, 0, 0, 0, 24, 63, 127]) (mds := [[], [], [], [], [], [3, 3], [], [5]]) (hm := [(5, [3, 3]), (7, [5])]) (by kernel_rfl) (by kernel_rfl) rfl rfl ?_
      | exact ih
      | refine (w40_2 S k _).trans ?_
      | refine S.loop ?_; conv => lhs; whnf
      | refine S.back_n ?_; conv => lhs; whnf
      | refine S.back_x ?_; conv => lhs; whnf
      | refine S.back_r ?_; conv => lhs; whnf
      | refine S.fin_r ?_; conv => lhs; whnf
      | refine S.fin_n ?_; conv => lhs; whnf
      | exact ret_c rfl
      | exact none_c
      | refine S.draw_op ?_; conv => lhs; whnf; arg 1; whnf
      | refine S.dk_n ?_; conv => lhs; whnf
      | refine S.draw_nil ?_; conv => lhs; whnf
      | refine andK_br ?_
      | refine andK_req ?_
      | refine andK_b ?_
      | refine andK_none ?_
set_option maxRecDepth 60000 in
set_option maxHeartbeats 4000000 in
theorem r40 (S : Seals) (k : Nat) (a0_0 : List Int) (a0_1 : List Int) (a1 : List Int) (a2 : List Int) : runF tt (g40 k) lv40 Try.f40 k [.agg [.dat (.int .i64) a0_0 true, .dat (.int .i64) a0_1 true], .dat (.int .i64) a1 true, .dat (.int .i64) a2 true] [] = bindO (ref4_Slice.f k a0_0 a0_1 a1 a2) (fun x : Int × (List Int) × (List Int) => some (.tup [.agg [.own 0, .own 1], .i .i64 x.1], [.row (.int .i64) x.2.1 false, .row (.int .i64) x.2.2 false])) := by
  unfold ref4_Slice.f; refine S.run_s rfl rfl ?_; conv => lhs; arg 5; whnf
  conv => lhs; arg 6; whnf
  repeat' first
    | refine S.seq_op rfl ?_; conv => lhs; whnf
    | refine S.op_n ?_; conv => lhs; whnf
    | refine S.seq_nil ?_
    | refine S.reg_n ?_
    | refine S.region rfl ?_
    | refine S.two ?_
    | refine S.blok ?_
    | refine S.cond rfl ?_
    | refine S.after_n ?_
    | refine S.block_n ?_
    | refine S.block_x ?_; conv => lhs; whnf
    | refine S.block_r ?_
    | refine S.after_x ?_
    | refine S.after_r ?_
    | refine S.skip ?_
    | refine S.exit ?_
    | refine S.ret ?_
    | refine br_lt ?_; conv => lhs; whnf
    | refine br_lf ?_; conv => lhs; whnf
    | refine br_t (by assumption) ?_; conv => lhs; whnf
    | refine br_f (by assumption) ?_; conv => lhs; whnf
    | refine req_i (by with_reducible assumption) ?_; conv => lhs; whnf
    | (refine br_nd (fun _ => ?_) (fun _ => ?_) <;> conv => lhs; whnf)
    | (refine br_d (fun _ => ?_) (fun _ => ?_) <;> conv => lhs; whnf)
    | (refine br_n (fun _ => ?_) (fun _ => ?_) <;> conv => lhs; whnf)
    | (refine br_c (fun _ => ?_) (fun _ => ?_) <;> conv => lhs; whnf)
    | refine req_c fun _ => ?_; conv => lhs; whnf
    | refine req_i (by assumption) ?_; conv => lhs; whnf
    | refine bnd_c fun _ => ?_; conv => lhs; whnf
    | refine sum_c (fun _ => ?_) (fun _ => ?_)
    | refine (w40_0 S k _).trans ?_
    | refine (w40_1 S k _).trans ?_
    | refine S.loop ?_; conv => lhs; whnf
    | refine S.back_n ?_; conv => lhs; whnf
    | refine S.back_x ?_; conv => lhs; whnf
    | refine S.back_r ?_; conv => lhs; whnf
    | refine S.fin_r ?_; conv => lhs; whnf
    | refine S.fin_n ?_; conv => lhs; whnf
    | exact ret_c rfl
    | exact none_c
    | refine S.draw_op ?_; conv => lhs; whnf; arg 1; whnf
    | refine S.dk_n ?_; conv => lhs; whnf
    | refine S.draw_nil ?_; conv => lhs; whnf
    | refine andK_br ?_
    | refine andK_req ?_
    | refine andK_b ?_
    | refine andK_none ?_
def sp40 (k : Nat) : FSpec := ⟨[.rd, .rd, .rd], fun args objs K => match args, objs with | [.agg [v0, v1], v2, v3], [] => listB (.int .i64) true v0 fun a0_0 => listB (.int .i64) true v1 fun a0_1 => listB (.int .i64) true v2 fun a1 => listB (.int .i64) true v3 fun a2 => bindO (ref4_Slice.f k a0_0 a0_1 a1 a2) fun x : Int × (List Int) × (List Int) => K (.tup [.agg [.own 0, .own 1], .i .i64 x.1]) [.row (.int .i64) x.2.1 false, .row (.int .i64) x.2.2 false] | _, _ => none⟩
theorem snd40 (k : Nat) : Sound Try.prog 40 (sp40 k) := by
  refine ⟨⟨Try.f40, rfl, by kernel_rfl, rfl⟩, fun args objs K r h => ?_⟩
  unfold sp40 at h; dsimp only at h; split at h
  · rename_i v0 v1 v2 v3
    obtain ⟨a0_0, h9, ca0_0⟩ := listB_spec h; clear h
    have h := h9; clear h9
    obtain ⟨a0_1, h9, ca0_1⟩ := listB_spec h; clear h
    have h := h9; clear h9
    obtain ⟨a1, h9, ca1⟩ := listB_spec h; clear h
    have h := h9; clear h9
    obtain ⟨a2, h9, ca2⟩ := listB_spec h; clear h
    have h := h9; clear h9
    obtain ⟨x, hx, h⟩ := bindO_some h
    exact ⟨_, _, h, FnOK.args2 (relL_c (rel_agg (relL_c ca0_0 (relL_c ca0_1 relL_n))) (relL_c ca1 (relL_c ca2 relL_n))) (fn_run tab_ok (en40 k) mixed rfl ((r40 seals k a0_0 a0_1 a1 a2).trans (bindO_eq hx)))⟩
  · cases h
end Go.Vm

/- ref4_Pad -/
namespace Go.Vm
open Go Go.Proofs Go.Pf
def lv41 : Live := look ⟨[], [], [], [], []⟩ [(7, ⟨[1, 2, 3, 4, 8, 10, 36, 37], [1, 3, 4, 8, 10], [8, 9], [(10, 0, .own (.int .i64))], []⟩), (17, ⟨[1, 4, 8, 10, 12, 95, 96], [8, 12], [8, 9], [], []⟩), (21, ⟨[1, 4, 8, 10, 12, 13, 14, 95, 96, 104, 105], [1, 4, 8, 10, 12, 13, 14, 95, 96], [8, 9], [], []⟩), (1000000, ⟨[], [], [], [(8, 0, .own (.int .i64)), (8, 1, .own (.int .i64))], []⟩)]
noncomputable def g41 (k : Nat) : FEnv := (addF 54 (sp54 k) (addF 52 (sp52 k) (addF 20 (sp20 k) (addF 17 (sp17 k) (addF 51 (sp51 k) (fun _ => none))))))
theorem en41 (k : Nat) : EnvOK Try.prog (g41 k) := (envOK_add (snd54 k) (envOK_add (snd52 k) (envOK_add (snd20 k) (envOK_add (snd17 k) (envOK_add (snd51 k) (envOK_nil _))))))
set_option maxRecDepth 60000 in
set_option maxHeartbeats 4000000 in
theorem w41_0 (S : Seals) (k : Nat) : ∀ (n : Nat) {x1 : List Int} {x2 : List Int} {x3 : Int} {x36 : Int} {x37 : Int} {y0_0 : List Int} {y0_1 : List Int} {y2 : List Int} {K : CK}, S.lp tt (g41 k) lv41 0 n (loopN Try.f41 0) ⟨[(1, .dat (.int .i64) x1 true), (2, .dat (.int .i64) x2 true), (3, .i .i64 x3), (4, .ptr 0 0), (8, .ptr 1 0), (10, .own 2), (36, .i .i64 x36), (37, .i .i64 x37)], [(0, .var [.dat (.int .i64) y0_0 true, .dat (.int .i64) y0_1 true]), (1, .var [.nilsl, .nilsl]), (2, .row (.int .i64) y2 false)], 3, 134⟩ K = bindO (ref4_Pad.l0 n x1 x2 x3 x36 x37 y0_0 y0_1 y2) (Sum.elim (fun x : (List Int) => K (.exit 0) ⟨[(1, .dat (.int .i64) x1 true), (3, .i .i64 x3), (4, .ptr 0 0), (8, .ptr 1 0), (10, .own 2)], [(0, .var [.dat (.int .i64) y0_0 true, .dat (.int .i64) y0_1 true]), (1, .var [.nilsl, .nilsl]), (2, .row (.int .i64) x false)], 3, 134⟩) (fun x : Int => K .ret ⟨[(8, .ptr 0 0), (9, .i .i64 x)], [(0, .var [.nilsl, .nilsl])], 1, 134⟩)) := by
  intro n; induction n with
  | zero => intros; rw [S.lp_zero]; exact none_c
  | succ n ih =>
    intros; rw [ref4_Pad.l0]; refine S.lp_succ ?_; conv => lhs; arg 5; whnf
    repeat' first
      | refine S.seq_op rfl ?_; conv => lhs; whnf
      | refine S.op_n ?_; conv => lhs; whnf
      | refine S.seq_nil ?_
      | refine S.reg_n ?_
      | refine S.region rfl ?_
      | refine S.two ?_
      | refine S.blok ?_
      | refine S.cond rfl ?_
      | refine S.after_n ?_
      | refine S.block_n ?_
      | refine S.block_x ?_; conv => lhs; whnf
      | refine S.block_r ?_
      | refine S.after_x ?_
      | refine S.after_r ?_
      | refine S.skip ?_
      | refine S.exit ?_
      | refine S.ret ?_
      | refine br_lt ?_; conv => lhs; whnf
      | refine br_lf ?_; conv => lhs; whnf
      | refine br_t (by assumption) ?_; conv => lhs; whnf
      | refine br_f (by assumption) ?_; conv => lhs; whnf
      | refine req_i (by with_reducible assumption) ?_; conv => lhs; whnf
      | (refine br_nd (fun _ => ?_) (fun _ => ?_) <;> conv => lhs; whnf)
      | (refine br_d (fun _ => ?_) (fun _ => ?_) <;> conv => lhs; whnf)
      | (refine br_n (fun _ => ?_) (fun _ => ?_) <;> conv => lhs; whnf)
      | (refine br_c (fun _ => ?_) (fun _ => ?_) <;> conv => lhs; whnf)
      | refine req_c fun _ => ?_; conv => lhs; whnf
      | refine req_i (by assumption) ?_; conv => lhs; whnf
      | refine bnd_c fun _ => ?_; conv => lhs; whnf
      | refine sum_c (fun _ => ?_) (fun _ => ?_)
      | refine S.region_d (id := 11) (ds := [0, 0, 0, 6, 14, 0, 32, 0, 224, 480, 1022, 0, 0, 6144, 14336, 32766, 65534, 131071, 262143]) (mds := [[], [], [], [], [], [], [], [], [], [], [], [], [], [], [], [], [], [2], []]) (hm := [(17, [2])]) (by kernel_rfl) (by kernel_rfl) rfl rfl ?_
      | exact ih
      | refine S.loop ?_; conv => lhs; whnf
      | refine S.back_n ?_; conv => lhs; whnf
      | refine S.back_x ?_; conv => lhs; whnf
      | refine S.back_r ?_; conv => lhs; whnf
      | refine S.fin_r ?_; conv => lhs; whnf
      | refine S.fin_n ?_; conv => lhs; whnf
      | exact ret_c rfl
      | exact none_c
      | refine S.draw_op ?_; conv => lhs; whnf; arg 1; whnf
      | refine S.dk_n ?_; conv => lhs; whnf
      | refine S.draw_nil ?_; conv => lhs; whnf
      | refine andK_br ?_
      | refine andK_req ?_
      | refine andK_b ?_
      | refine andK_none ?_
set_option maxRecDepth 60000 in
set_option maxHeartbeats 4000000 in
theorem w41_2 (S : Seals) (k : Nat) : ∀ (n : Nat) {x1 : List Int} {x13 : Int} {x95 : Int} {x96 : Int} {x104 : Int} {x105 : Int} {y0_0 : List Int} {y0_1 : List Int} {y2 : List Int} {y4 : List Int} {y5 : List Int} {y6 : List Int} {K : CK}, S.lp tt (g41 k) lv41 0 n (loopN Try.f41 2) ⟨[(1, .dat (.int .i64) x1 true), (4, .ptr 0 0), (8, .ptr 1 0), (10, .own 2), (12, .ptr 3 0), (13, .i .i64 x13), (14, .own 4), (95, .i .i64 x95), (96, .i .i64 x96), (104, .i .i64 x104), (105, .i .i64 x105)], [(0, .var [.dat (.int .i64) y0_0 true, .dat (.int .i64) y0_1 true]), (1, .var [.nilsl, .nilsl]), (2, .row (.int .i64) y2 false), (3, .var [.own 5, .own 6]), (4, .row (.int .i64) y4 false), (5, .row (.int .i64) y5 false), (6, .row (.int .i64) y6 false)], 7, 134⟩ K = bindO (ref4_Pad.l2 n x1 x13 x95 x96 x104 x105 y0_0 y0_1 y2 y4 y5 y6) (fun x : (List Int) => K (.exit 4) ⟨[(1, .dat (.int .i64) x1 true), (4, .ptr 0 0), (8, .ptr 1 0), (10, .own 2), (12, .ptr 3 0), (13, .i .i64 x13), (14, .own 4), (95, .i .i64 x95), (96, .i .i64 x96)], [(0, .var [.dat (.int .i64) y0_0 true, .dat (.int .i64) y0_1 true]), (1, .var [.nilsl, .nilsl]), (2, .row (.int .i64) y2 false), (3, .var [.own 5, .own 6]), (4, .row (.int .i64) x false), (5, .row (.int .i64) y5 false), (6, .row (.int .i64) y6 false)], 7, 134⟩) := by
  intro n; induction n with
  | zero => intros; rw [S.lp_zero]; exact none_c
  | succ n ih =>
    intros; rw [ref4_Pad.l2]; refine S.lp_succ ?_; conv => lhs; arg 5; whnf
    repeat' first
      | refine S.seq_op rfl ?_; conv => lhs; whnf
      | refine S.op_n ?_; conv => lhs; whnf
      | refine S.seq_nil ?_
      | refine S.reg_n ?_
      | refine S.region rfl ?_
      | refine S.two ?_
      | refine S.blok ?_
      | refine S.cond rfl ?_
      | refine S.after_n ?_
      | refine S.block_n ?_
      | refine S.block_x ?_; conv => lhs; whnf
      | refine S.block_r ?_
      | refine S.after_x ?_
      | refine S.after_r ?_
      | refine S.skip ?_
      | refine S.exit ?_
      | refine S.ret ?_
      | refine br_lt ?_; conv => lhs; whnf
      | refine br_lf ?_; conv => lhs; whnf
      | refine br_t (by assumption) ?_; conv => lhs; whnf
      | refine br_f (by assumption) ?_; conv => lhs; whnf
      | refine req_i (by with_reducible assumption) ?_; conv => lhs; whnf
      | (refine br_nd (fun _ => ?_) (fun _ => ?_) <;> conv => lhs; whnf)
      | (refine br_d (fun _ => ?_) (fun _ => ?_) <;> conv => lhs; whnf)
      | (refine br_n (fun _ => ?_) (fun _ => ?_) <;> conv => lhs; whnf)
      | (refine br_c (fun _ => ?_) (fun _ => ?_) <;> conv => lhs; whnf)
      | refine req_c fun _ => ?_; conv => lhs; whnf
      | refine req_i (by assumption) ?_; conv => lhs; whnf
      | refine bnd_c fun _ => ?_; conv => lhs; whnf
      | refine sum_c (fun _ => ?_) (fun _ => ?_)
      | refine S.region_d (id := 23) (ds := [0, 0, 0, 0, 12, 28, 0, 0, 192, 448, 1020, 2047, 4095]) (mds := [[], [], [], [], [], [], [], [], [], [], [], [], [4]]) (hm := [(12, [4])]) (by kernel_rfl) (by kernel_rfl) rfl rfl ?_
      | exact ih
      | refine S.loop ?_; conv => lhs; whnf
      | refine S.back_n ?_; conv => lhs; whnf
      | refine S.back_x ?_; conv => lhs; whnf
      | refine S.back_r ?_; conv => lhs; whnf
      | refine S.fin_r ?_; conv => lhs; whnf
      | refine S.fin_n ?_; conv => lhs; whnf
      | exact ret_c rfl
      | exact none_c
      | refine S.draw_op ?_; conv => lhs; whnf; arg 1; whnf
      | refine S.dk_n ?_; conv => lhs; whnf
      | refine S.draw_nil ?_; conv => lhs; whnf
      | refine andK_br ?_
      | refine andK_req ?_
      | refine andK_b ?_
      | refine andK_none ?_
set_option maxRecDepth 60000 in
set_option maxHeartbeats 4000000 in
theorem w41_1 (S : Seals) (k : Nat) : ∀ (n : Nat) {x1 : List Int} {x95 : Int} {x96 : Int} {y0_0 : List Int} {y0_1 : List Int} {y2 : List Int} {y4 : List Int} {y5 : List Int} {K : CK}, S.lp tt (g41 k) lv41 0 n (loopN Try.f41 1) ⟨[(1, .dat (.int .i64) x1 true), (4, .ptr 0 0), (8, .ptr 1 0), (10, .own 2), (12, .ptr 3 0), (95, .i .i64 x95), (96, .i .i64 x96)], [(0, .var [.dat (.int .i64) y0_0 true, .dat (.int .i64) y0_1 true]), (1, .var [.nilsl, .nilsl]), (2, .row (.int .i64) y2 false), (3, .var [.own 4, .own 5]), (4, .row (.int .i64) y4 false), (5, .row (.int .i64) y5 false)], 6, 134⟩ K = bindO (ref4_Pad.l1 k n x1 x95 x96 y0_0 y0_1 y2 y4 y5) (fun x : (List Int) => K (.exit 2) ⟨[(8, .ptr 0 0), (12, .ptr 1 0)], [(0, .var [.nilsl, .nilsl]), (1, .var [.own 2, .own 3]), (2, .row (.int .i64) y4 false), (3, .row (.int .i64) x false)], 4, 134⟩) := by
  intro n; induction n with
  | zero => intros; rw [S.lp_zero]; exact none_c
  | succ n ih =>
    intros; rw [ref4_Pad.l1]; refine S.lp_succ ?_; conv => lhs; arg 5; whnf
    repeat' first
      | refine S.seq_op rfl ?_; conv => lhs; whnf
      | refine S.op_n ?_; conv => lhs; whnf
      | refine S.seq_nil ?_
      | refine S.reg_n ?_
      | refine S.region rfl ?_
      | refine S.two ?_
      | refine S.blok ?_
      | refine S.cond rfl ?_
      | refine S.after_n ?_
      | refine S.block_n ?_
      | refine S.block_x ?_; conv => lhs; whnf
      | refine S.block_r ?_
      | refine S.after_x ?_
      | refine S.after_r ?_
      | refine S.skip ?_
      | refine S.exit ?_
      | refine S.ret ?_
      | refine br_lt ?_; conv => lhs; whnf
      | refine br_lf ?_; conv => lhs; whnf
      | refine br_t (by assumption) ?_; conv => lhs; whnf
      | refine br_f (by assumption) ?_; conv => lhs; whnf
      | refine req_i (by with_reducible assumption) ?_; conv => lhs; whnf
      | (refine br_nd (fun _ => ?_) (fun _ => ?_) <;> conv => lhs; whnf)
      | (refine br_d (fun _ => ?_) (fun _ => ?_) <;> conv => lhs; whnf)
      | (refine br_n (fun _ => ?_) (fun _ => ?_) <;> conv => lhs; whnf)
      | (refine br_c (fun _ => ?_) (fun _ => ?_) <;> conv => lhs; whnf)
      | refine req_c fun _ => ?_; conv => lhs; whnf
      | refine req_i (by assumption) ?_; conv => lhs; whnf
      | refine bnd_c fun _ => ?_; conv => lhs; whnf
      | refine sum_c (fun _ => ?_) (fun _ => ?_)
      | refine S.region_d (id := 25) (ds := [0, 1, 0, 0, 12, 0, 32, 0, 224, 480, 1023, 2047]) (mds := [[], [], [], [], [2, 4, 2, 4], [], [], [], [], [], [], [6]]) (hm := [(4, [2, 4, 2, 4]), (11, [6])]) (by kernel_rfl) (by kernel_rfl) rfl rfl ?_
      | exact ih
      | refine (w41_2 S k _).trans ?_
      | refine S.loop ?_; conv => lhs; whnf
      | refine S.back_n ?_; conv => lhs; whnf
      | refine S.back_x ?_; conv => lhs; whnf
      | refine S.back_r ?_; conv => lhs; whnf
      | refine S.fin_r ?_; conv => lhs; whnf
      | refine S.fin_n ?_; conv => lhs; whnf
      | exact ret_c rfl
      | exact none_c
      | refine S.draw_op ?_; conv => lhs; whnf; arg 1; whnf
      | refine S.dk_n ?_; conv => lhs; whnf
      | refine S.draw_nil ?_; conv => lhs; whnf
      | refine andK_br ?_
      | refine andK_req ?_
      | refine andK_b ?_
      | refine andK_none ?_
set_option maxRecDepth 60000 in
set_option maxHeartbeats 4000000 in
theorem r41 (S : Seals) (k : Nat) (a0_0 : List Int) (a0_1 : List Int) (a1 : List Int) (a2 : List Int) (a3 : Int) : runF tt (g41 k) lv41 Try.f41 k [.agg [.dat (.int .i64) a0_0 true, .dat (.int .i64) a0_1 true], .dat (.int .i64) a1 true, .dat (.int .i64) a2 true, .i .i64 a3] [] = bindO (ref4_Pad.f k a0_0 a0_1 a1 a2 a3) (fun x : Int × (List Int) × (List Int) => some (.tup [.agg [.own 0, .own 1], .i .i64 x.1], [.row (.int .i64) x.2.1 false, .row (.int .i64) x.2.2 false])) := by
  unfold ref4_Pad.f; refine S.run_s rfl rfl ?_; conv => lhs; arg 5; whnf
  conv => lhs; arg 6; whnf
  repeat' first
    | refine S.seq_op rfl ?_; conv => lhs; whnf
    | refine S.op_n ?_; conv => lhs; whnf
    | refine S.seq_nil ?_
    | refine S.reg_n ?_
    | refine S.region rfl ?_
    | refine S.two ?_
    | refine S.blok ?_
    | refine S.cond rfl ?_
    | refine S.after_n ?_
    | refine S.block_n ?_
    | refine S.block_x ?_; conv => lhs; whnf
    | refine S.block_r ?_
    | refine S.after_x ?_
    | refine S.after_r ?_
    | refine S.skip ?_
    | refine S.exit ?_
    | refine S.ret ?_
    | refine br_lt ?_; conv => lhs; whnf
    | refine br_lf ?_; conv => lhs; whnf
    | refine br_t (by assumption) ?_; conv => lhs; whnf
    | refine br_f (by assumption) ?_; conv => lhs; whnf
    | refine req_i (by with_reducible assumption) ?_; conv => lhs; whnf
    | (refine br_nd (fun _ => ?_) (fun _ => ?_) <;> conv => lhs; whnf)
    | (refine br_d (fun _ => ?_) (fun _ => ?_) <;> conv => lhs; whnf)
    | (refine br_n (fun _ => ?_) (fun _ => ?_) <;> conv => lhs; whnf)
    | (refine br_c (fun _ => ?_) (fun _ => ?_) <;> conv => lhs; whnf)
    | refine req_c fun _ => ?_; conv => lhs; whnf
    | refine req_i (by assumption) ?_; conv => lhs; whnf
    | refine bnd_c fun _ => ?_; conv => lhs; whnf
    | refine sum_c (fun _ => ?_) (fun _ => ?_)
    | refine (w41_0 S k _).trans ?_
    | refine (w41_1 S k _).trans ?_
    | refine S.loop ?_; conv => lhs; whnf
    | refine S.back_n ?_; conv => lhs; whnf
    | refine S.back_x ?_; conv => lhs; whnf
    | refine S.back_r ?_; conv => lhs; whnf
    | refine S.fin_r ?_; conv => lhs; whnf
    | refine S.fin_n ?_; conv => lhs; whnf
    | exact ret_c rfl
    | exact none_c
    | refine S.draw_op ?_; conv => lhs; whnf; arg 1; whnf
    | refine S.dk_n ?_; conv => lhs; whnf
    | refine S.draw_nil ?_; conv => lhs; whnf
    | refine andK_br ?_
    | refine andK_req ?_
    | refine andK_b ?_
    | refine andK_none ?_
def sp41 (k : Nat) : FSpec := ⟨[.rd, .rd, .rd, .rd], fun args objs K => match args, objs with | [.agg [v0, v1], v2, v3, .i .i64 a3], [] => listB (.int .i64) true v0 fun a0_0 => listB (.int .i64) true v1 fun a0_1 => listB (.int .i64) true v2 fun a1 => listB (.int .i64) true v3 fun a2 => bindO (ref4_Pad.f k a0_0 a0_1 a1 a2 a3) fun x : Int × (List Int) × (List Int) => K (.tup [.agg [.own 0, .own 1], .i .i64 x.1]) [.row (.int .i64) x.2.1 false, .row (.int .i64) x.2.2 false] | _, _ => none⟩
theorem snd41 (k : Nat) : Sound Try.prog 41 (sp41 k) := by
  refine ⟨⟨Try.f41, rfl, by kernel_rfl, rfl⟩, fun args objs K r h => ?_⟩
  unfold sp41 at h; dsimp only at h; split at h
  · rename_i v0 v1 v2 v3 a3
    obtain ⟨a0_0, h9, ca0_0⟩ := listB_spec h; clear h
    have h := h9; clear h9
    obtain ⟨a0_1, h9, ca0_1⟩ := listB_spec h; clear h
    have h := h9; clear h9
    obtain ⟨a1, h9, ca1⟩ := listB_spec h; clear h
    have h := h9; clear h9
    obtain ⟨a2, h9, ca2⟩ := listB_spec h; clear h
    have h := h9; clear h9
    obtain ⟨x, hx, h⟩ := bindO_some h
    exact ⟨_, _, h, FnOK.args2 (relL_c (rel_agg (relL_c ca0_0 (relL_c ca0_1 relL_n))) (relL_c ca1 (relL_c ca2 (relL_c rel_i relL_n)))) (fn_run tab_ok (en41 k) mixed rfl ((r41 seals k a0_0 a0_1 a1 a2 a3).trans (bindO_eq hx)))⟩
  · cases h
end Go.Vm

/- ref4_Join -/
namespace Go.Vm
open Go Go.Proofs Go.Pf
def lv42 : Live := look ⟨[], [], [], [], []⟩ [(2, ⟨[0, 1, 4, 16, 17], [0, 1, 4], [4, 5], [], []⟩), (12, ⟨[0, 1, 4, 7, 55, 56], [0, 1, 4, 7], [4, 5], [], []⟩), (17, ⟨[0, 1, 4, 7, 8, 55, 56, 70, 71], [0, 1, 4, 7, 8, 55, 56], [4, 5], [], []⟩), (31, ⟨[0, 1, 4, 7, 10, 11, 124, 125], [4, 10], [4, 5], [], []⟩), (34, ⟨[0, 1, 4, 7, 10, 11, 12, 124, 125, 133, 134], [0, 1, 4, 7, 10, 11, 12, 124, 125], [4, 5], [], []⟩), (1000000, ⟨[], [], [], [(4, 0, .own (.int .i64)), (4, 1, .own (.int .i64))], []⟩)]
noncomputable def g42 (k : Nat) : FEnv := (addF 54 (sp54 k) (addF 52 (sp52 k) (addF 20 (sp20 k) (addF 17 (sp17 k) (addF 51 (sp51 k) (fun _ => none))))))
theorem en42 (k : Nat) : EnvOK Try.prog (g42 k) := (envOK_add (snd54 k) (envOK_add (snd52 k) (envOK_add (snd20 k) (envOK_add (snd17 k) (envOK_add (snd51 k) (envOK_nil _))))))
set_option maxRecDepth 60000 in
set_option maxHeartbeats 4000000 in
theorem w42_0 (S : Seals) (k : Nat) : ∀ (n : Nat) {x0 : Int} {x1 : List ((List Int) × (List Int))} {x16 : Int} {x17 : Int} {K : CK}, S.lp tt (g42 k) lv42 0 n (loopN Try.f42 0) ⟨[(0, .i .i64 x0), (1, .dat (.pair (.sl (.int .i64)) (.sl (.int .i64))) x1 true), (4, .ptr 0 0), (16, .i .i64 x16), (17, .i .i64 x17)], [(0, .var [.nilsl, .nilsl])], 1, 180⟩ K = bindO (ref4_Join.l0 k n x0 x1 x16 x17) (Sum.elim (fun x : Unit => K (.exit 0) ⟨[(0, .i .i64 x0), (1, .dat (.pair (.sl (.int .i64)) (.sl (.int .i64))) x1 true), (4, .ptr 0 0)], [(0, .var [.nilsl, .nilsl])], 1, 180⟩) (fun x : Int => K .ret ⟨[(4, .ptr 0 0), (5, .i .i64 x)], [(0, .var [.nilsl, .nilsl])], 1, 180⟩)) := by
  intro n; induction n with
  | zero => intros; rw [S.lp_zero]; exact none_c
  | succ n ih =>
    intros; rw [ref4_Join.l0]; refine S.lp_succ ?_; conv => lhs; arg 5; whnf
    repeat' first
      | refine S.seq_op rfl ?_; conv => lhs; whnf
      | refine S.op_n ?_; conv => lhs; whnf
      | refine S.seq_nil ?_
      | refine S.reg_n ?_
      | refine S.region rfl ?_
      | refine S.two ?_
      | refine S.blok ?_
      | refine S.cond rfl ?_
      | refine S.after_n ?_
      | refine S.block_n ?_
      | refine S.block_x ?_; conv => lhs; whnf
      | refine S.block_r ?_
      | refine S.after_x ?_
      | refine S.after_r ?_
      | refine S.skip ?_
      | refine S.exit ?_
      | refine S.ret ?_
      | refine br_lt ?_; conv => lhs; whnf
      | refine br_lf ?_; conv => lhs; whnf
      | refine br_t (by assumption) ?_; conv => lhs; whnf
      | refine br_f (by assumption) ?_; conv => lhs; whnf
      | refine req_i (by with_reducible assumption) ?_; conv => lhs; whnf
      | (refine br_nd (fun _ => ?_) (fun _ => ?_) <;> conv => lhs; whnf)
      | (refine br_d (fun _ => ?_) (fun _ => ?_) <;> conv => lhs; whnf)
      | (refine br_n (fun _ => ?_) (fun _ => ?_) <;> conv => lhs; whnf)
      | (refine br_c (fun _ => ?_) (fun _ => ?_) <;> conv => lhs; whnf)
      | refine req_c fun _ => ?_; conv => lhs; whnf
      | refine req_i (by assumption) ?_; conv => lhs; whnf
      | refine bnd_c fun _ => ?_; conv => lhs; whnf
      | refine sum_c (fun _ => ?_) (fun _ => ?_)
      | exact ih
      | refine S.loop ?_; conv => lhs; whnf
      | refine S.back_n ?_; conv => lhs; whnf
      | refine S.back_x ?_; conv => lhs; whnf
      | refine S.back_r ?_; conv => lhs; whnf
      | refine S.fin_r ?_; conv => lhs; whnf
      | refine S.fin_n ?_; conv => lhs; whnf
      | exact ret_c rfl
      | exact none_c
      | refine S.draw_op ?_; conv => lhs; whnf; arg 1; whnf
      | refine S.dk_n ?_; conv => lhs; whnf
      | refine S.draw_nil ?_; conv => lhs; whnf
      | refine andK_br ?_
      | refine andK_req ?_
      | refine andK_b ?_
      | refine andK_none ?_
set_option maxRecDepth 60000 in
set_option maxHeartbeats 4000000 in
theorem w42_2 (S : Seals) (k : Nat) : ∀ (n : Nat) {x0 : Int} {x1 : List ((List Int) × (List Int))} {x8 : Int} {x55 : Int} {x56 : Int} {x70 : Int} {x71 : Int} {y1 : List Int} {K : CK}, S.lp tt (g42 k) lv42 0 n (loopN Try.f42 2) ⟨[(0, .i .i64 x0), (1, .dat (.pair (.sl (.int .i64)) (.sl (.int .i64))) x1 true), (4, .ptr 0 0), (7, .own 1), (8, .i .i64 x8), (55, .i .i64 x55), (56, .i .i64 x56), (70, .i .i64 x70), (71, .i .i64 x71)], [(0, .var [.nilsl, .nilsl]), (1, .row (.int .i64) y1 false)], 2, 180⟩ K = bindO (ref4_Join.l2 n x0 x1 x8 x55 x56 x70 x71 y1) (Sum.elim (fun x : Unit => K (.exit 4) ⟨[(0, .i .i64 x0), (1, .dat (.pair (.sl (.int .i64)) (.sl (.int .i64))) x1 true), (4, .ptr 0 0), (7, .own 1), (8, .i .i64 x8), (55, .i .i64 x55), (56, .i .i64 x56)], [(0, .var [.nilsl, .nilsl]), (1, .row (.int .i64) y1 false)], 2, 180⟩) (fun x : Int => K .ret ⟨[(4, .ptr 0 0), (5, .i .i64 x)], [(0, .var [.nilsl, .nilsl])], 1, 180⟩)) := by
  intro n; induction n with
  | zero => intros; rw [S.lp_zero]; exact none_c
  | succ n ih =>
    intros; rw [ref4_Join.l2]; refine S.lp_succ ?_; conv => lhs; arg 5; whnf
    repeat' first
      | refine S.seq_op rfl ?_; conv => lhs; whnf
      | refine S.op_n ?_; conv => lhs; whnf
      | refine S.seq_nil ?_
      | refine S.reg_n ?_
      | refine S.region rfl ?_
      | refine S.two ?_
      | refine S.blok ?_
      | refine S.cond rfl ?_
      | refine S.after_n ?_
      | refine S.block_n ?_
      | refine S.block_x ?_; conv => lhs; whnf
      | refine S.block_r ?_
      | refine S.after_x ?_
      | refine S.after_r ?_
      | refine S.skip ?_
      | refine S.exit ?_
      | refine S.ret ?_
      | refine br_lt ?_; conv => lhs; whnf
      | refine br_lf ?_; conv => lhs; whnf
      | refine br_t (by assumption) ?_; conv => lhs; whnf
      | refine br_f (by assumption) ?_; conv => lhs; whnf
      | refine req_i (by with_reducible assumption) ?_; conv => lhs; whnf
      | (refine br_nd (fun _ => ?_) (fun _ => ?_) <;> conv => lhs; whnf)
      | (refine br_d (fun _ => ?_) (fun _ => ?_) <;> conv => lhs; whnf)
      | (refine br_n (fun _ => ?_) (fun _ => ?_) <;> conv => lhs; whnf)
      | (refine br_c (fun _ => ?_) (fun _ => ?_) <;> conv => lhs; whnf)
      | refine req_c fun _ => ?_; conv => lhs; whnf
      | refine req_i (by assumption) ?_; conv => lhs; whnf
      | refine bnd_c fun _ => ?_; conv => lhs; whnf
      | refine sum_c (fun _ => ?_) (fun _ => ?_)
      | refine S.region_d (id := 19) (ds := [0, 0, 3, 7, 15, 15, 63, 127, 255, 15, 1023, 2047, 15, 15, 12303, 28687, 65535, 131071]) (mds := [[], [], [], [], [], [], [], [], [], [], [], [], [], [], [], [], [], []]) (hm := []) (by kernel_rfl) (by kernel_rfl) rfl rfl ?_
      | exact ih
      | refine S.loop ?_; conv => lhs; whnf
      | refine S.back_n ?_; conv => lhs; whnf
      | refine S.back_x ?_; conv => lhs; whnf
      | refine S.back_r ?_; conv => lhs; whnf
      | refine S.fin_r ?_; conv => lhs; whnf
      | refine S.fin_n ?_; conv => lhs; whnf
      | exact ret_c rfl
      | exact none_c
      | refine S.draw_op ?_; conv => lhs; whnf; arg 1; whnf
      | refine S.dk_n ?_; conv => lhs; whnf
      | refine S.draw_nil ?_; conv => lhs; whnf
      | refine andK_br ?_
      | refine andK_req ?_
      | refine andK_b ?_
      | refine andK_none ?_
set_option maxRecDepth 60000 in
set_option maxHeartbeats 4000000 in
theorem w42_1 (S : Seals) (k : Nat) : ∀ (n : Nat) {x0 : Int} {x1 : List ((List Int) × (List Int))} {x55 : Int} {x56 : Int} {y1 : List Int} {K : CK}, S.lp tt (g42 k) lv42 0 n (loopN Try.f42 1) ⟨[(0, .i .i64 x0), (1, .dat (.pair (.sl (.int .i64)) (.sl (.int .i64))) x1 true), (4, .ptr 0 0), (7, .own 1), (55, .i .i64 x55), (56, .i .i64 x56)], [(0, .var [.nilsl, .nilsl]), (1, .row (.int .i64) y1 false)], 2, 180⟩ K = bindO (ref4_Join.l1 k n x0 x1 x55 x56 y1) (Sum.elim (fun x : (List Int) => K (.exit 2) ⟨[(0, .i .i64 x0), (1, .dat (.pair (.sl (.int .i64)) (.sl (.int .i64))) x1 true), (4, .ptr 0 0), (7, .own 1)], [(0, .var [.nilsl, .nilsl]), (1, .row (.int .i64) x false)], 2, 180⟩) (fun x : Int => K .ret ⟨[(4, .ptr 0 0), (5, .i .i64 x)], [(0, .var [.nilsl, .nilsl])], 1, 180⟩)) := by
  intro n; induction n with
  | zero => intros; rw [S.lp_zero]; exact none_c
  | succ n ih =>
    intros; rw [ref4_Join.l1]; refine S.lp_succ ?_; conv => lhs; arg 5; whnf
    repeat' first
      | refine S.seq_op rfl ?_; conv => lhs; whnf
      | refine S.op_n ?_; conv => lhs; whnf
      | refine S.seq_nil ?_
      | refine S.reg_n ?_
      | refine S.region rfl ?_
      | refine S.two ?_
      | refine S.blok ?_
      | refine S.cond rfl ?_
      | refine S.after_n ?_
      | refine S.block_n ?_
      | refine S.block_x ?_; conv => lhs; whnf
      | refine S.block_r ?_
      | refine S.after_x ?_
      | refine S.after_r ?_
      | refine S.skip ?_
      | refine S.exit ?_
      | refine S.ret ?_
      | refine br_lt ?_; conv => lhs; whnf
      | refine br_lf ?_; conv => lhs; whnf
      | refine br_t (by assumption) ?_; conv => lhs; whnf
      | refine br_f (by assumption) ?_; conv => lhs; whnf
      | refine req_i (by with_reducible assumption) ?_; conv => lhs; whnf
      | (refine br_nd (fun _ => ?_) (fun _ => ?_) <;> conv => lhs; whnf)
      | (refine br_d (fun _ => ?_) (fun _ => ?_) <;> conv => lhs; whnf)
      | (refine br_n (fun _ => ?_) (fun _ => ?_) <;> conv => lhs; whnf)
      | (refine br_c (fun _ => ?_) (fun _ => ?_) <;> conv => lhs; whnf)
      | refine req_c fun _ => ?_; conv => lhs; whnf
      | refine req_i (by assumption) ?_; conv => lhs; whnf
      | refine bnd_c fun _ => ?_; conv => lhs; whnf
      | refine sum_c (fun _ => ?_) (fun _ => ?_)
      | refine S.region_d (id := 22) (ds := [0, 0, 0, 0, 12, 28, 0, 0, 192, 448, 960, 0, 4032, 8128, 16380, 32767, 65535]) (mds := [[], [], [], [], [], [], [], [], [], [], [], [], [], [], [], [], [1]]) (hm := [(16, [1])]) (by kernel_rfl) (by kernel_rfl) rfl rfl ?_
      | exact ih
      | refine (w42_2 S k _).trans ?_
      | refine S.loop ?_; conv => lhs; whnf
      | refine S.back_n ?_; conv => lhs; whnf
      | refine S.back_x ?_; conv => lhs; whnf
      | refine S.back_r ?_; conv => lhs; whnf
      | refine S.fin_r ?_; conv => lhs; whnf
      | refine S.fin_n ?_; conv => lhs; whnf
      | exact ret_c rfl
      | exact none_c
      | refine S.draw_op ?_; conv => lhs; whnf; arg 1; whnf
      | refine S.dk_n ?_; conv => lhs; whnf
      | refine S.draw_nil ?_; conv => lhs; whnf
      | refine andK_br ?_
      | refine andK_req ?_
      | refine andK_b ?_
      | refine andK_none ?_
set_option maxRecDepth 60000 in
set_option maxHeartbeats 4000000 in
theorem w42_4 (S : Seals) (k : Nat) : ∀ (n : Nat) {x0 : Int} {x1 : List ((List Int) × (List Int))} {x11 : Int} {x12 : Int} {x124 : Int} {x125 : Int} {x133 : Int} {x134 : Int} {y1 : List Int} {y3 : List Int} {y4 : List Int} {K : CK}, S.lp tt (g42 k) lv42 0 n (loopN Try.f42 4) ⟨[(0, .i .i64 x0), (1, .dat (.pair (.sl (.int .i64)) (.sl (.int .i64))) x1 true), (4, .ptr 0 0), (7, .own 1), (10, .ptr 2 0), (11, .i .i64 x11), (12, .i .i64 x12), (124, .i .i64 x124), (125, .i .i64 x125), (133, .i .i64 x133), (134, .i .i64 x134)], [(0, .var [.nilsl, .nilsl]), (1, .row (.int .i64) y1 false), (2, .var [.own 3, .own 4]), (3, .row (.int .i64) y3 false), (4, .row (.int .i64) y4 false)], 5, 180⟩ K = bindO (ref4_Join.l4 k n x0 x1 x11 x12 x124 x125 x133 x134 y1 y3 y4) (fun x : (List Int) => K (.exit 8) ⟨[(0, .i .i64 x0), (1, .dat (.pair (.sl (.int .i64)) (.sl (.int .i64))) x1 true), (4, .ptr 0 0), (7, .own 1), (10, .ptr 2 0), (11, .i .i64 x11), (12, .i .i64 x12), (124, .i .i64 x124), (125, .i .i64 x125)], [(0, .var [.nilsl, .nilsl]), (1, .row (.int .i64) y1 false), (2, .var [.own 3, .own 4]), (3, .row (.int .i64) y3 false), (4, .row (.int .i64) x false)], 5, 180⟩) := by
  intro n; induction n with
  | zero => intros; rw [S.lp_zero]; exact none_c
  | succ n ih =>
    intros; rw [ref4_Join.l4]; refine S.lp_succ ?_; conv => lhs; arg 5; whnf
    repeat' first
      | refine S.seq_op rfl ?_; conv => lhs; whnf
      | refine S.op_n ?_; conv => lhs; whnf
      | refine S.seq_nil ?_
      | refine S.reg_n ?_
      | refine S.region rfl ?_
      | refine S.two ?_
      | refine S.blok ?_
      | refine S.cond rfl ?_
      | refine S.after_n ?_
      | refine S.block_n ?_
      | refine S.block_x ?_; conv => lhs; whnf
      | refine S.block_r ?_
      | refine S.after_x ?_
      | refine S.after_r ?_
      | refine S.skip ?_
      | refine S.exit ?_
      | refine S.ret ?_
      | refine br_lt ?_; conv => lhs; whnf
      | refine br_lf ?_; conv => lhs; whnf
      | refine br_t (by assumption) ?_; conv => lhs; whnf
      | refine br_f (by assumption) ?_; conv => lhs; whnf
      | refine req_i (by with_reducible assumption) ?_; conv => lhs; whnf
      | (refine br_nd (fun _ => ?_) (fun _ => ?_) <;> conv => lhs; whnf)
      | (refine br_d (fun _ => ?_) (fun _ => ?_) <;> conv => lhs; whnf)
      | (refine br_n (fun _ => ?_) (fun _ => ?_) <;> conv => lhs; whnf)
      | (refine br_c (fun _ => ?_) (fun _ => ?_) <;> conv => lhs; whnf)
      | refine req_c fun _ => ?_; conv => lhs; whnf
      | refine req_i (by assumption) ?_; conv => lhs; whnf
      | refine bnd_c fun _ => ?_; conv => lhs; whnf
      | refine sum_c (fun _ => ?_) (fun _ => ?_)
      | refine S.region_d (id := 38) (ds := [0, 1, 0, 0, 12, 0, 0, 96, 224, 480, 0, 2016, 4064, 8191, 16383]) (mds := [[], [], [], [], [1, 5, 1, 5], [], [], [], [], [], [], [], [], [], [4]]) (hm := [(4, [1, 5, 1, 5]), (14, [4])]) (by kernel_rfl) (by kernel_rfl) rfl rfl ?_
      | exact ih
      | refine S.loop ?_; conv => lhs; whnf
      | refine S.back_n ?_; conv => lhs; whnf
      | refine S.back_x ?_; conv => lhs; whnf
      | refine S.back_r ?_; conv => lhs; whnf
      | refine S.fin_r ?_; conv => lhs; whnf
      | refine S.fin_n ?_; conv => lhs; whnf
      | exact ret_c rfl
      | exact none_c
      | refine S.draw_op ?_; conv => lhs; whnf; arg 1; whnf
      | refine S.dk_n ?_; conv => lhs; whnf
      | refine S.draw_nil ?_; conv => lhs; whnf
      | refine andK_br ?_
      | refine andK_req ?_
      | refine andK_b ?_
      | refine andK_none ?_
set_option maxRecDepth 60000 in
set_option maxHeartbeats 4000000 in
theorem w42_3 (S : Seals) (k : Nat) : ∀ (n : Nat) {x0 : Int} {x1 : List ((List Int) × (List Int))} {x11 : Int} {x124 : Int} {x125 : Int} {y1 : List Int} {y3 : List Int} {y4 : List Int} {K : CK}, S.lp tt (g42 k) lv42 0 n (loopN Try.f42 3) ⟨[(0, .i .i64 x0), (1, .dat (.pair (.sl (.int .i64)) (.sl (.int .i64))) x1 true), (4, .ptr 0 0), (7, .own 1), (10, .ptr 2 0), (11, .i .i64 x11), (124, .i .i64 x124), (125, .i .i64 x125)], [(0, .var [.nilsl, .nilsl]), (1, .row (.int .i64) y1 false), (2, .var [.own 3, .own 4]), (3, .row (.int .i64) y3 false), (4, .row (.int .i64) y4 false)], 5, 180⟩ K = bindO (ref4_Join.l3 k n x0 x1 x11 x124 x125 y1 y3 y4) (fun x : (List Int) => K (.exit 6) ⟨[(4, .ptr 0 0), (10, .ptr 1 0)], [(0, .var [.nilsl, .nilsl]), (1, .var [.own 2, .own 3]), (2, .row (.int .i64) y3 false), (3, .row (.int .i64) x false)], 4, 180⟩) := by
  intro n; induction n with
  | zero => intros; rw [S.lp_zero]; exact none_c
  | succ n ih =>
    intros; rw [ref4_Join.l3]; refine S.lp_succ ?_; conv => lhs; arg 5; whnf
    repeat' first
      | refine S.seq_op rfl ?_; conv => lhs; whnf
      | refine S.op_n ?_; conv => lhs; whnf
      | refine S.seq_nil ?_
      | refine S.reg_n ?_
      | refine S.region rfl ?_
      | refine S.two ?_
      | refine S.blok ?_
      | refine S.cond rfl ?_
      | refine S.after_n ?_
      | refine S.block_n ?_
      | refine S.block_x ?_; conv => lhs; whnf
      | refine S.block_r ?_
      | refine S.after_x ?_
      | refine S.after_r ?_
      | refine S.skip ?_
      | refine S.exit ?_
      | refine S.ret ?_
      | refine br_lt ?_; conv => lhs; whnf
      | refine br_lf ?_; conv => lhs; whnf
      | refine br_t (by assumption) ?_; conv => lhs; whnf
      | refine br_f (by assumption) ?_; conv => lhs; whnf
      | refine req_i (by with_reducible assumption) ?_; conv => lhs; whnf
      | (refine br_nd (fun _ => ?_) (fun _ => ?_) <;> conv => lhs; whnf)
      | (refine br_d (fun _ => ?_) (fun _ => ?_) <;> conv => lhs; whnf)
      | (refine br_n (fun _ => ?_) (fun _ => ?_) <;> conv => lhs; whnf)
      | (refine br_c (fun _ => ?_) (fun _ => ?_) <;> conv => lhs; whnf)
      | refine req_c fun _ => ?_; conv => lhs; whnf
      | refine req_i (by assumption) ?_; conv => lhs; whnf
      | refine bnd_c fun _ => ?_; conv => lhs; whnf
      | refine sum_c (fun _ => ?_) (fun _ => ?_)
      | exact ih
      | refine (w42_4 S k _).trans ?_
      | refine S.loop ?_; conv => lhs; whnf
      | refine S.back_n ?_; conv => lhs; whnf
      | refine S.back_x ?_; conv => lhs; whnf
      | refine S.back_r ?_; conv => lhs; whnf
      | refine S.fin_r ?_; conv => lhs; whnf
      | refine S.fin_n ?_; conv => lhs; whnf
      | exact ret_c rfl
      | exact none_c
      | refine S.draw_op ?_; conv => lhs; whnf; arg 1; whnf
      | refine S.dk_n ?_; conv => lhs; whnf
      | refine S.draw_nil ?_; conv => lhs; whnf
      | refine andK_br ?_
      | refine andK_req ?_
      | refine andK_b ?_
      | refine andK_none ?_
set_option maxRecDepth 60000 in
set_option maxHeartbeats 4000000 in
theorem r42 (S : Seals) (k : Nat) (a0 : Int) (a1 : List ((List Int) × (List Int))) : runF tt (g42 k) lv42 Try.f42 k [.i .i64 a0, .dat (.pair (.sl (.int .i64)) (.sl (.int .i64))) a1 true] [] = bindO (ref4_Join.f k a0 a1) (fun x : Int × (List Int) × (List Int) => some (.tup [.agg [.own 0, .own 1], .i .i64 x.1], [.row (.int .i64) x.2.1 false, .row (.int .i64) x.2.2 false])) := by
  unfold ref4_Join.f; refine S.run_s rfl rfl ?_; conv => lhs; arg 5; whnf
  conv => lhs; arg 6; whnf
  repeat' first
    | refine S.seq_op rfl ?_; conv => lhs; whnf
    | refine S.op_n ?_; conv => lhs; whnf
    | refine S.seq_nil ?_
    | refine S.reg_n ?_
    | refine S.region rfl ?_
    | refine S.two ?_
    | refine S.blok ?_
    | refine S.cond rfl ?_
    | refine S.after_n ?_
    | refine S.block_n ?_
    | refine S.block_x ?_; conv => lhs; whnf
    | refine S.block_r ?_
    | refine S.after_x ?_
    | refine S.after_r ?_
    | refine S.skip ?_
    | refine S.exit ?_
    | refine S.ret ?_
    | refine br_lt ?_; conv => lhs; whnf
    | refine br_lf ?_; conv => lhs; whnf
    | refine br_t (by assumption) ?_; conv => lhs; whnf
    | refine br_f (by assumption) ?_; conv => lhs; whnf
    | refine req_i (by with_reducible assumption) ?_; conv => lhs; whnf
    | (refine br_nd (fun _ => ?_) (fun _ => ?_) <;> conv => lhs; whnf)
    | (refine br_d (fun _ => ?_) (fun _ => ?_) <;> conv => lhs; whnf)
    | (refine br_n (fun _ => ?_) (fun _ => ?_) <;> conv => lhs; whnf)
    | (refine br_c (fun _ => ?_) (fun _ => ?_) <;> conv => lhs; whnf)
    | refine req_c fun _ => ?_; conv => lhs; whnf
    | refine req_i (by assumption) ?_; conv => lhs; whnf
    | refine bnd_c fun _ => ?_; conv => lhs; whnf
    | refine sum_c (fun _ => ?_) (fun _ => ?_)
    | refine (w42_0 S k _).trans ?_
    | refine (w42_1 S k _).trans ?_
    | refine (w42_3 S k _).trans ?_
    | refine S.loop ?_; conv => lhs; whnf
    | refine S.back_n ?_; conv => lhs; whnf
    | refine S.back_x ?_; conv => lhs; whnf
    | refine S.back_r ?_; conv => lhs; whnf
    | refine S.fin_r ?_; conv => lhs; whnf
    | refine S.fin_n ?_; conv => lhs; whnf
    | exact ret_c rfl
    | exact none_c
    | refine S.draw_op ?_; conv => lhs; whnf; arg 1; whnf
    | refine S.dk_n ?_; conv => lhs; whnf
    | refine S.draw_nil ?_; conv => lhs; whnf
    | refine andK_br ?_
    | refine andK_req ?_
    | refine andK_b ?_
    | refine andK_none ?_
def sp42 (k : Nat) : FSpec := ⟨[.rd, .rd], fun args objs K => match args, objs with | [.i .i64 a0, v0], [] => listB (.pair (.sl (.int .i64)) (.sl (.int .i64))) true v0 fun a1 => bindO (ref4_Join.f k a0 a1) fun x : Int × (List Int) × (List Int) => K (.tup [.agg [.own 0, .own 1], .i .i64 x.1]) [.row (.int .i64) x.2.1 false, .row (.int .i64) x.2.2 false] | _, _ => none⟩
theorem snd42 (k : Nat) : Sound Try.prog 42 (sp42 k) := by
  refine ⟨⟨Try.f42, rfl, by kernel_rfl, rfl⟩, fun args objs K r h => ?_⟩
  unfold sp42 at h; dsimp only at h; split at h
  · rename_i a0 v0
    obtain ⟨a1, h9, ca1⟩ := listB_spec h; clear h
    have h := h9; clear h9
    obtain ⟨x, hx, h⟩ := bindO_some h
    exact ⟨_, _, h, FnOK.args2 (relL_c rel_i (relL_c ca1 relL_n)) (fn_run tab_ok (en42 k) mixed rfl ((r42 seals k a0 a1).trans (bindO_eq hx)))⟩
  · cases h
end Go.Vm

/- law5_same -/
namespace Go.Vm
open Go Go.Proofs Go.Pf
def lv18 : Live := look ⟨[], [], [], [], []⟩ []
noncomputable def g18 (k : Nat) : FEnv := (addF 42 (sp42 k) (addF 10 (sp10 k) (addF 41 (sp41 k) (addF 15 (sp15 k) (addF 40 (sp40 k) (addF 12 (sp12 k) (addF 39 (sp39 k) (addF 16 (sp16 k) (addF 38 (sp38 k) (addF 37 (sp37 k) (addF 14 (sp14 k) (fun _ => none))))))))))))
theorem en18 (k : Nat) : EnvOK Try.prog (g18 k) := (envOK_add (snd42 k) (envOK_add (snd10 k) (envOK_add (snd41 k) (envOK_add (snd15 k) (envOK_add (snd40 k) (envOK_add (snd12 k) (envOK_add (snd39 k) (envOK_add (snd16 k) (envOK_add (snd38 k) (envOK_add (snd37 k) (envOK_add (snd14 k) (envOK_nil _))))))))))))
set_option maxRecDepth 60000 in
set_option maxHeartbeats 4000000 in
theorem r18 (S : Seals) (k : Nat) (a0_0 : List Int) (a0_1 : List Int) (a1 : List Int) (a2 : List Int) (a3 : Int) (a4 : Int) (a5 : List ((List Int) × (List Int))) : runF tt (g18 k) lv18 Try.f18 k [.agg [.dat (.int .i64) a0_0 false, .dat (.int .i64) a0_1 false], .dat (.int .i64) a1 false, .dat (.int .i64) a2 false, .i .i64 a3, .i .i64 a4, .dat (.pair (.sl (.int .i64)) (.sl (.int .i64))) a5 false] [] = bindO (law5_same.f k a0_0 a0_1 a1 a2 a3 a4 a5) (fun x : Bool => some (.b x, [])) := by
  unfold law5_same.f; refine S.run_s rfl rfl ?_; conv => lhs; arg 5; whnf
  conv => lhs; arg 6; whnf
  repeat' first
    | refine S.seq_op rfl ?_; conv => lhs; whnf
    | refine S.op_n ?_; conv => lhs; whnf
    | refine S.seq_nil ?_
    | refine S.reg_n ?_
    | refine S.region rfl ?_
    | refine S.two ?_
    | refine S.blok ?_
    | refine S.cond rfl ?_
    | refine S.after_n ?_
    | refine S.block_n ?_
    | refine S.block_x ?_; conv => lhs; whnf
    | refine S.block_r ?_
    | refine S.after_x ?_
    | refine S.after_r ?_
    | refine S.skip ?_
    | refine S.exit ?_
    | refine S.ret ?_
    | refine br_lt ?_; conv => lhs; whnf
    | refine br_lf ?_; conv => lhs; whnf
    | refine br_t (by assumption) ?_; conv => lhs; whnf
    | refine br_f (by assumption) ?_; conv => lhs; whnf
    | refine req_i (by with_reducible assumption) ?_; conv => lhs; whnf
    | (refine br_nd (fun _ => ?_) (fun _ => ?_) <;> conv => lhs; whnf)
    | (refine br_d (fun _ => ?_) (fun _ => ?_) <;> conv => lhs; whnf)
    | (refine br_n (fun _ => ?_) (fun _ => ?_) <;> conv => lhs; whnf)
    | (refine br_c (fun _ => ?_) (fun _ => ?_) <;> conv => lhs; whnf)
    | refine req_c fun _ => ?_; conv => lhs; whnf
    | refine req_i (by assumption) ?_; conv => lhs; whnf
    | refine bnd_c fun _ => ?_; conv => lhs; whnf
    | refine sum_c (fun _ => ?_) (fun _ => ?_)
    | refine S.loop ?_; conv => lhs; whnf
    | refine S.back_n ?_; conv => lhs; whnf
    | refine S.back_x ?_; conv => lhs; whnf
    | refine S.back_r ?_; conv => lhs; whnf
    | refine S.fin_r ?_; conv => lhs; whnf
    | refine S.fin_n ?_; conv => lhs; whnf
    | exact ret_c rfl
    | exact none_c
    | refine S.draw_op ?_; conv => lhs; whnf; arg 1; whnf
    | refine S.dk_n ?_; conv => lhs; whnf
    | refine S.draw_nil ?_; conv => lhs; whnf
    | refine andK_br ?_
    | refine andK_req ?_
    | refine andK_b ?_
    | refine andK_none ?_
def sp18 (k : Nat) : FSpec := ⟨[.st, .st, .st, .st, .st, .st], fun args objs K => match args, objs with | [.agg [v0, v1], v2, v3, .i .i64 a3, .i .i64 a4, v4], [] => listB (.int .i64) false v0 fun a0_0 => listB (.int .i64) false v1 fun a0_1 => listB (.int .i64) false v2 fun a1 => listB (.int .i64) false v3 fun a2 => listB (.pair (.sl (.int .i64)) (.sl (.int .i64))) false v4 fun a5 => bindO (law5_same.f k a0_0 a0_1 a1 a2 a3 a4 a5) fun x : Bool => K (.b x) [] | _, _ => none⟩
theorem snd18 (k : Nat) : Sound Try.prog 18 (sp18 k) := by
  refine ⟨⟨Try.f18, rfl, by kernel_rfl, rfl⟩, fun args objs K r h => ?_⟩
  unfold sp18 at h; dsimp only at h; split at h
  · rename_i v0 v1 v2 v3 a3 a4 v4
    obtain ⟨a0_0, h9, ca0_0⟩ := listB_spec h; clear h
    have h := h9; clear h9
    obtain ⟨a0_1, h9, ca0_1⟩ := listB_spec h; clear h
    have h := h9; clear h9
    obtain ⟨a1, h9, ca1⟩ := listB_spec h; clear h
    have h := h9; clear h9
    obtain ⟨a2, h9, ca2⟩ := listB_spec h; clear h
    have h := h9; clear h9
    obtain ⟨a5, h9, ca5⟩ := listB_spec h; clear h
    have h := h9; clear h9
    obtain ⟨x, hx, h⟩ := bindO_some h
    exact ⟨_, _, h, FnOK.args2 (relL_c (rel_agg (relL_c ca0_0 (relL_c ca0_1 relL_n))) (relL_c ca1 (relL_c ca2 (relL_c rel_i (relL_c rel_i (relL_c ca5 relL_n)))))) (fn_run tab_ok (en18 k) mixed rfl ((r18 seals k a0_0 a0_1 a1 a2 a3 a4 a5).trans (bindO_eq hx)))⟩
  · cases h
end Go.Vm

/- book_Within -/
namespace Go.Vm
open Go Go.Proofs Go.Pf
def lv19 : Live := look ⟨[], [], [], [], []⟩ []
noncomputable def g19 : FEnv := (fun _ => none)
theorem en19 : EnvOK Try.prog (g19) := (envOK_nil _)
set_option maxRecDepth 60000 in
set_option maxHeartbeats 4000000 in
theorem r19 (S : Seals) (k : Nat) (a0 : Int) (a1 : Int) (a2 : Int) : runF tt (g19) lv19 Try.f19 k [.i .i64 a0, .i .i64 a1, .i .i64 a2] [] = bindO (book_Within.f a0 a1 a2) (fun x : Int => some (.i .i64 x, [])) := by
  unfold book_Within.f; refine S.run_s rfl rfl ?_; conv => lhs; arg 5; whnf
  conv => lhs; arg 6; whnf
  repeat' first
    | refine S.seq_op rfl ?_; conv => lhs; whnf
    | refine S.op_n ?_; conv => lhs; whnf
    | refine S.seq_nil ?_
    | refine S.reg_n ?_
    | refine S.region rfl ?_
    | refine S.two ?_
    | refine S.blok ?_
    | refine S.cond rfl ?_
    | refine S.after_n ?_
    | refine S.block_n ?_
    | refine S.block_x ?_; conv => lhs; whnf
    | refine S.block_r ?_
    | refine S.after_x ?_
    | refine S.after_r ?_
    | refine S.skip ?_
    | refine S.exit ?_
    | refine S.ret ?_
    | refine br_lt ?_; conv => lhs; whnf
    | refine br_lf ?_; conv => lhs; whnf
    | refine br_t (by assumption) ?_; conv => lhs; whnf
    | refine br_f (by assumption) ?_; conv => lhs; whnf
    | refine req_i (by with_reducible assumption) ?_; conv => lhs; whnf
    | (refine br_nd (fun _ => ?_) (fun _ => ?_) <;> conv => lhs; whnf)
    | (refine br_d (fun _ => ?_) (fun _ => ?_) <;> conv => lhs; whnf)
    | (refine br_n (fun _ => ?_) (fun _ => ?_) <;> conv => lhs; whnf)
    | (refine br_c (fun _ => ?_) (fun _ => ?_) <;> conv => lhs; whnf)
    | refine req_c fun _ => ?_; conv => lhs; whnf
    | refine req_i (by assumption) ?_; conv => lhs; whnf
    | refine bnd_c fun _ => ?_; conv => lhs; whnf
    | refine sum_c (fun _ => ?_) (fun _ => ?_)
    | refine S.loop ?_; conv => lhs; whnf
    | refine S.back_n ?_; conv => lhs; whnf
    | refine S.back_x ?_; conv => lhs; whnf
    | refine S.back_r ?_; conv => lhs; whnf
    | refine S.fin_r ?_; conv => lhs; whnf
    | refine S.fin_n ?_; conv => lhs; whnf
    | exact ret_c rfl
    | exact none_c
    | refine S.draw_op ?_; conv => lhs; whnf; arg 1; whnf
    | refine S.dk_n ?_; conv => lhs; whnf
    | refine S.draw_nil ?_; conv => lhs; whnf
    | refine andK_br ?_
    | refine andK_req ?_
    | refine andK_b ?_
    | refine andK_none ?_
def sp19 : FSpec := ⟨[.rd, .rd, .rd], fun args objs K => match args, objs with | [.i .i64 a0, .i .i64 a1, .i .i64 a2], [] => bindO (book_Within.f a0 a1 a2) fun x : Int => K (.i .i64 x) [] | _, _ => none⟩
theorem snd19 : Sound Try.prog 19 (sp19) := by
  refine ⟨⟨Try.f19, rfl, by kernel_rfl, rfl⟩, fun args objs K r h => ?_⟩
  unfold sp19 at h; dsimp only at h; split at h
  · rename_i a0 a1 a2
    obtain ⟨x, hx, h⟩ := bindO_some h
    exact ⟨_, _, h, FnOK.args2 (relL_c rel_i (relL_c rel_i (relL_c rel_i relL_n))) (fn_run tab_ok (en19) mixed rfl ((r19 seals 0 a0 a1 a2).trans (bindO_eq hx)))⟩
  · cases h
end Go.Vm

/- keep_Tape_Next -/
namespace Go.Vm
open Go Go.Proofs Go.Pf
def lv7 : Live := look ⟨[], [], [], [], []⟩ []
noncomputable def g7 : FEnv := (addF 19 sp19 (fun _ => none))
theorem en7 : EnvOK Try.prog (g7) := (envOK_add snd19 (envOK_nil _))
set_option maxRecDepth 60000 in
set_option maxHeartbeats 4000000 in
theorem r7 (S : Seals) (k : Nat) (a1 : Int) (o0_0 : List Int) (o0_1 : Int) : runF tt (g7) lv7 Try.f7 k [.ptr 0 0, .i .i64 a1] [.var [.dat (.int .i64) o0_0 false, .i .i64 o0_1]] = bindO (keep_Tape_Next.f a1 o0_0 o0_1) (fun x : Int × Int => some (.i .i64 x.1, [.var [.dat (.int .i64) o0_0 false, .i .i64 x.2]])) := by
  unfold keep_Tape_Next.f; refine S.run_s rfl rfl ?_; conv => lhs; arg 5; whnf
  conv => lhs; arg 6; whnf
  repeat' first
    | refine S.seq_op rfl ?_; conv => lhs; whnf
    | refine S.op_n ?_; conv => lhs; whnf
    | refine S.seq_nil ?_
    | refine S.reg_n ?_
    | refine S.region rfl ?_
    | refine S.two ?_
    | refine S.blok ?_
    | refine S.cond rfl ?_
    | refine S.after_n ?_
    | refine S.block_n ?_
    | refine S.block_x ?_; conv => lhs; whnf
    | refine S.block_r ?_
    | refine S.after_x ?_
    | refine S.after_r ?_
    | refine S.skip ?_
    | refine S.exit ?_
    | refine S.ret ?_
    | refine br_lt ?_; conv => lhs; whnf
    | refine br_lf ?_; conv => lhs; whnf
    | refine br_t (by assumption) ?_; conv => lhs; whnf
    | refine br_f (by assumption) ?_; conv => lhs; whnf
    | refine req_i (by with_reducible assumption) ?_; conv => lhs; whnf
    | (refine br_nd (fun _ => ?_) (fun _ => ?_) <;> conv => lhs; whnf)
    | (refine br_d (fun _ => ?_) (fun _ => ?_) <;> conv => lhs; whnf)
    | (refine br_n (fun _ => ?_) (fun _ => ?_) <;> conv => lhs; whnf)
    | (refine br_c (fun _ => ?_) (fun _ => ?_) <;> conv => lhs; whnf)
    | refine req_c fun _ => ?_; conv => lhs; whnf
    | refine req_i (by assumption) ?_; conv => lhs; whnf
    | refine bnd_c fun _ => ?_; conv => lhs; whnf
    | refine sum_c (fun _ => ?_) (fun _ => ?_)
    | refine S.region_d (id := 1) (ds := [0, 1, 3, 7, 0, 16, 48, 112, 240, 511, 1023, 2047, 4095, 8191]) (mds := [[], [], [], [], [], [], [], [], [], [], [], [], [], []]) (hm := []) (by kernel_rfl) (by kernel_rfl) rfl rfl ?_
    | refine S.region_d (id := 4) (ds := [0, 1, 3, 7, 0, 16, 48, 112, 240, 511, 1023, 2047, 0, 8191, 16383]) (mds := [[], [], [], [], [], [], [], [], [], [], [], [], [], [], []]) (hm := []) (by kernel_rfl) (by kernel_rfl) rfl rfl ?_
    | refine S.loop ?_; conv => lhs; whnf
    | refine S.back_n ?_; conv => lhs; whnf
    | refine S.back_x ?_; conv => lhs; whnf
    | refine S.back_r ?_; conv => lhs; whnf
    | refine S.fin_r ?_; conv => lhs; whnf
    | refine S.fin_n ?_; conv => lhs; whnf
    | exact ret_c rfl
    | exact none_c
    | refine S.draw_op ?_; conv => lhs; whnf; arg 1; whnf
    | refine S.dk_n ?_; conv => lhs; whnf
    | refine S.draw_nil ?_; conv => lhs; whnf
    | refine andK_br ?_
    | refine andK_req ?_
    | refine andK_b ?_
    | refine andK_none ?_
def sp7 : FSpec := ⟨[.rd, .rd], fun args objs K => match args, objs with | [.ptr 0 0, .i .i64 a1], [.var [v0, .i .i64 o0_1]] => datK (.int .i64) false v0 fun o0_0 => bindO (keep_Tape_Next.f a1 o0_0 o0_1) fun x : Int × Int => K (.i .i64 x.1) [.var [.dat (.int .i64) o0_0 false, .i .i64 x.2]] | _, _ => none⟩
theorem snd7 : Sound Try.prog 7 (sp7) := by
  refine ⟨⟨Try.f7, rfl, by kernel_rfl, rfl⟩, fun args objs K r h => ?_⟩
  unfold sp7 at h; dsimp only at h; split at h
  · rename_i a1 v0 o0_1
    obtain ⟨o0_0, h9, eo0_0⟩ := datK_spec h; clear h; subst eo0_0
    have h := h9; clear h9
    obtain ⟨x, hx, h⟩ := bindO_some h
    exact ⟨_, _, h, FnOK.args2 (relL_c rel_i (relL_c rel_i relL_n)) (fn_run tab_ok (en7) mixed rfl ((r7 seals 0 a1 o0_0 o0_1).trans (bindO_eq hx)))⟩
  · cases h
end Go.Vm

/- keep_Tape_Shape -/
namespace Go.Vm
open Go Go.Proofs Go.Pf
def lv8 : Live := look ⟨[], [], [], [], []⟩ [(3, ⟨[0, 3, 4], [3], [2], [(3, 0, .own (.int .i64))], []⟩)]
noncomputable def g8 : FEnv := (addF 7 sp7 (fun _ => none))
theorem en8 : EnvOK Try.prog (g8) := (envOK_add snd7 (envOK_nil _))
set_option maxRecDepth 60000 in
set_option maxHeartbeats 4000000 in
theorem w8_0 (S : Seals) (k : Nat) : ∀ (n : Nat) {x4 : Int} {y0_0 : List Int} {y0_1 : Int} {y1 : List Int} {K : CK}, S.lp tt (g8) lv8 1 n (loopN Try.f8 0) ⟨[(0, .ptr 0 0), (3, .own 1), (4, .i .i64 x4)], [(0, .var [.dat (.int .i64) y0_0 false, .i .i64 y0_1]), (1, .row (.int .i64) y1 false)], 2, 20⟩ K = bindO (keep_Tape_Shape.l0 n x4 y0_0 y0_1 y1) (fun x : Int × (List Int) => K (.exit 0) ⟨[(3, .own 1)], [(0, .var [.dat (.int .i64) y0_0 false, .i .i64 x.1]), (1, .row (.int .i64) x.2 false)], 2, 20⟩) := by
  intro n; induction n with
  | zero => intros; rw [S.lp_zero]; exact none_c
  | succ n ih =>
    intros; rw [keep_Tape_Shape.l0]; refine S.lp_succ ?_; conv => lhs; arg 5; whnf
    repeat' first
      | refine S.seq_op rfl ?_; conv => lhs; whnf
      | refine S.op_n ?_; conv => lhs; whnf
      | refine S.seq_nil ?_
      | refine S.reg_n ?_
      | refine S.region rfl ?_
      | refine S.two ?_
      | refine S.blok ?_
      | refine S.cond rfl ?_
      | refine S.after_n ?_
      | refine S.block_n ?_
      | refine S.block_x ?_; conv => lhs; whnf
      | refine S.block_r ?_
      | refine S.after_x ?_
      | refine S.after_r ?_
      | refine S.skip ?_
      | refine S.exit ?_
      | refine S.ret ?_
      | refine br_lt ?_; conv => lhs; whnf
      | refine br_lf ?_; conv => lhs; whnf
      | refine br_t (by assumption) ?_; conv => lhs; whnf
      | refine br_f (by assumption) ?_; conv => lhs; whnf
      | refine req_i (by with_reducible assumption) ?_; conv => lhs; whnf
      | (refine br_nd (fun _ => ?_) (fun _ => ?_) <;> conv => lhs; whnf)
      | (refine br_d (fun _ => ?_) (fun _ => ?_) <;> conv => lhs; whnf)
      | (refine br_n (fun _ => ?_) (fun _ => ?_) <;> conv => lhs; whnf)
      | (refine br_c (fun _ => ?_) (fun _ => ?_) <;> conv => lhs; whnf)
      | refine req_c fun _ => ?_; conv => lhs; whnf
      | refine req_i (by assumption) ?_; conv => lhs; whnf
      | refine bnd_c fun _ => ?_; conv => lhs; whnf
      | refine sum_c (fun _ => ?_) (fun _ => ?_)
      | exact ih
      | refine S.loop ?_; conv => lhs; whnf
      | refine S.back_n ?_; conv => lhs; whnf
      | refine S.back_x ?_; conv => lhs; whnf
      | refine S.back_r ?_; conv => lhs; whnf
      | refine S.fin_r ?_; conv => lhs; whnf
      | refine S.fin_n ?_; conv => lhs; whnf
      | exact ret_c rfl
      | exact none_c
      | refine S.draw_op ?_; conv => lhs; whnf; arg 1; whnf
      | refine S.dk_n ?_; conv => lhs; whnf
      | refine S.draw_nil ?_; conv => lhs; whnf
      | refine andK_br ?_
      | refine andK_req ?_
      | refine andK_b ?_
      | refine andK_none ?_
set_option maxRecDepth 60000 in
set_option maxHeartbeats 4000000 in
theorem r8 (S : Seals) (k : Nat) (o0_0 : List Int) (o0_1 : Int) : runF tt (g8) lv8 Try.f8 k [.ptr 0 0] [.var [.dat (.int .i64) o0_0 false, .i .i64 o0_1]] = bindO (keep_Tape_Shape.f k o0_0 o0_1) (fun x : Int × (List Int) => some (.own 1, [.var [.dat (.int .i64) o0_0 false, .i .i64 x.1], .row (.int .i64) x.2 false])) := by
  unfold keep_Tape_Shape.f; refine S.run_s rfl rfl ?_; conv => lhs; arg 5; whnf
  conv => lhs; arg 6; whnf
  repeat' first
    | refine S.seq_op rfl ?_; conv => lhs; whnf
    | refine S.op_n ?_; conv => lhs; whnf
    | refine S.seq_nil ?_
    | refine S.reg_n ?_
    | refine S.region rfl ?_
    | refine S.two ?_
    | refine S.blok ?_
    | refine S.cond rfl ?_
    | refine S.after_n ?_
    | refine S.block_n ?_
    | refine S.block_x ?_; conv => lhs; whnf
    | refine S.block_r ?_
    | refine S.after_x ?_
    | refine S.after_r ?_
    | refine S.skip ?_
    | refine S.exit ?_
    | refine S.ret ?_
    | refine br_lt ?_; conv => lhs; whnf
    | refine br_lf ?_; conv => lhs; whnf
    | refine br_t (by assumption) ?_; conv => lhs; whnf
    | refine br_f (by assumption) ?_; conv => lhs; whnf
    | refine req_i (by with_reducible assumption) ?_; conv => lhs; whnf
    | (refine br_nd (fun _ => ?_) (fun _ => ?_) <;> conv => lhs; whnf)
    | (refine br_d (fun _ => ?_) (fun _ => ?_) <;> conv => lhs; whnf)
    | (refine br_n (fun _ => ?_) (fun _ => ?_) <;> conv => lhs; whnf)
    | (refine br_c (fun _ => ?_) (fun _ => ?_) <;> conv => lhs; whnf)
    | refine req_c fun _ => ?_; conv => lhs; whnf
    | refine req_i (by assumption) ?_; conv => lhs; whnf
    | refine bnd_c fun _ => ?_; conv => lhs; whnf
    | refine sum_c (fun _ => ?_) (fun _ => ?_)
    | refine (w8_0 S k _).trans ?_
    | refine S.loop ?_; conv => lhs; whnf
    | refine S.back_n ?_; conv => lhs; whnf
    | refine S.back_x ?_; conv => lhs; whnf
    | refine S.back_r ?_; conv => lhs; whnf
    | refine S.fin_r ?_; conv => lhs; whnf
    | refine S.fin_n ?_; conv => lhs; whnf
    | exact ret_c rfl
    | exact none_c
    | refine S.draw_op ?_; conv => lhs; whnf; arg 1; whnf
    | refine S.dk_n ?_; conv => lhs; whnf
    | refine S.draw_nil ?_; conv => lhs; whnf
    | refine andK_br ?_
    | refine andK_req ?_
    | refine andK_b ?_
    | refine andK_none ?_
def sp8 (k : Nat) : FSpec := ⟨[.rd], fun args objs K => match args, objs with | [.ptr 0 0], [.var [v0, .i .i64 o0_1]] => datK (.int .i64) false v0 fun o0_0 => bindO (keep_Tape_Shape.f k o0_0 o0_1) fun x : Int × (List Int) => K (.own 1) [.var [.dat (.int .i64) o0_0 false, .i .i64 x.1], .row (.int .i64) x.2 false] | _, _ => none⟩
theorem snd8 (k : Nat) : Sound Try.prog 8 (sp8 k) := by
  refine ⟨⟨Try.f8, rfl, by kernel_rfl, rfl⟩, fun args objs K r h => ?_⟩
  unfold sp8 at h; dsimp only at h; split at h
  · rename_i v0 o0_1
    obtain ⟨o0_0, h9, eo0_0⟩ := datK_spec h; clear h; subst eo0_0
    have h := h9; clear h9
    obtain ⟨x, hx, h⟩ := bindO_some h
    exact ⟨_, _, h, FnOK.args2 (relL_c rel_i relL_n) (fn_run tab_ok (en8) mixed rfl ((r8 seals k o0_0 o0_1).trans (bindO_eq hx)))⟩
  · cases h
end Go.Vm

/- keep_Tape_Number -/
namespace Go.Vm
open Go Go.Proofs Go.Pf
def lv21 : Live := look ⟨[], [], [], [], []⟩ []
noncomputable def g21 : FEnv := (addF 7 sp7 (fun _ => none))
theorem en21 : EnvOK Try.prog (g21) := (envOK_add snd7 (envOK_nil _))
set_option maxRecDepth 60000 in
set_option maxHeartbeats 4000000 in
theorem r21 (S : Seals) (k : Nat) (o0_0 : List Int) (o0_1 : Int) : runF tt (g21) lv21 Try.f21 k [.ptr 0 0] [.var [.dat (.int .i64) o0_0 false, .i .i64 o0_1]] = bindO (keep_Tape_Number.f o0_0 o0_1) (fun x : Int × Int => some (.i .i64 x.1, [.var [.dat (.int .i64) o0_0 false, .i .i64 x.2]])) := by
  unfold keep_Tape_Number.f; refine S.run_s rfl rfl ?_; conv => lhs; arg 5; whnf
  conv => lhs; arg 6; whnf
  repeat' first
    | refine S.seq_op rfl ?_; conv => lhs; whnf
    | refine S.op_n ?_; conv => lhs; whnf
    | refine S.seq_nil ?_
    | refine S.reg_n ?_
    | refine S.region rfl ?_
    | refine S.two ?_
    | refine S.blok ?_
    | refine S.cond rfl ?_
    | refine S.after_n ?_
    | refine S.block_n ?_
    | refine S.block_x ?_; conv => lhs; whnf
    | refine S.block_r ?_
    | refine S.after_x ?_
    | refine S.after_r ?_
    | refine S.skip ?_
    | refine S.exit ?_
    | refine S.ret ?_
    | refine br_lt ?_; conv => lhs; whnf
    | refine br_lf ?_; conv => lhs; whnf
    | refine br_t (by assumption) ?_; conv => lhs; whnf
    | refine br_f (by assumption) ?_; conv => lhs; whnf
    | refine req_i (by with_reducible assumption) ?_; conv => lhs; whnf
    | (refine br_nd (fun _ => ?_) (fun _ => ?_) <;> conv => lhs; whnf)
    | (refine br_d (fun _ => ?_) (fun _ => ?_) <;> conv => lhs; whnf)
    | (refine br_n (fun _ => ?_) (fun _ => ?_) <;> conv => lhs; whnf)
    | (refine br_c (fun _ => ?_) (fun _ => ?_) <;> conv => lhs; whnf)
    | refine req_c fun _ => ?_; conv => lhs; whnf
    | refine req_i (by assumption) ?_; conv => lhs; whnf
    | refine bnd_c fun _ => ?_; conv => lhs; whnf
    | refine sum_c (fun _ => ?_) (fun _ => ?_)
    | refine S.loop ?_; conv => lhs; whnf
    | refine S.back_n ?_; conv => lhs; whnf
    | refine S.back_x ?_; conv => lhs; whnf
    | refine S.back_r ?_; conv => lhs; whnf
    | refine S.fin_r ?_; conv => lhs; whnf
    | refine S.fin_n ?_; conv => lhs; whnf
    | exact ret_c rfl
    | exact none_c
    | refine S.draw_op ?_; conv => lhs; whnf; arg 1; whnf
    | refine S.dk_n ?_; conv => lhs; whnf
    | refine S.draw_nil ?_; conv => lhs; whnf
    | refine andK_br ?_
    | refine andK_req ?_
    | refine andK_b ?_
    | refine andK_none ?_
def sp21 : FSpec := ⟨[.rd], fun args objs K => match args, objs with | [.ptr 0 0], [.var [v0, .i .i64 o0_1]] => datK (.int .i64) false v0 fun o0_0 => bindO (keep_Tape_Number.f o0_0 o0_1) fun x : Int × Int => K (.i .i64 x.1) [.var [.dat (.int .i64) o0_0 false, .i .i64 x.2]] | _, _ => none⟩
theorem snd21 : Sound Try.prog 21 (sp21) := by
  refine ⟨⟨Try.f21, rfl, by kernel_rfl, rfl⟩, fun args objs K r h => ?_⟩
  unfold sp21 at h; dsimp only at h; split at h
  · rename_i v0 o0_1
    obtain ⟨o0_0, h9, eo0_0⟩ := datK_spec h; clear h; subst eo0_0
    have h := h9; clear h9
    obtain ⟨x, hx, h⟩ := bindO_some h
    exact ⟨_, _, h, FnOK.args2 (relL_c rel_i relL_n) (fn_run tab_ok (en21) mixed rfl ((r21 seals 0 o0_0 o0_1).trans (bindO_eq hx)))⟩
  · cases h
end Go.Vm

/- keep_Tape_Tensor -/
namespace Go.Vm
open Go Go.Proofs Go.Pf
def lv9 : Live := look ⟨[], [], [], [], []⟩ [(3, ⟨[0, 4, 5, 11, 12], [4, 5], [4], [], []⟩)]
noncomputable def g9 (k : Nat) : FEnv := (addF 21 sp21 (addF 20 (sp20 k) (fun _ => none)))
theorem en9 (k : Nat) : EnvOK Try.prog (g9 k) := (envOK_add snd21 (envOK_add (snd20 k) (envOK_nil _)))
set_option maxRecDepth 60000 in
set_option maxHeartbeats 4000000 in
theorem w9_0 (S : Seals) (k : Nat) : ∀ (n : Nat) {x11 : Int} {x12 : Int} {y0_0 : List Int} {y0_1 : Int} {y3 : List Int} {y4 : List Int} {K : CK}, S.lp tt (g9 k) lv9 1 n (loopN Try.f9 0) ⟨[(0, .ptr 0 0), (4, .ptr 1 0), (5, .ptr 2 0), (11, .i .i64 x11), (12, .i .i64 x12)], [(0, .var [.dat (.int .i64) y0_0 false, .i .i64 y0_1]), (1, .var [.nilsl, .nilsl]), (2, .var [.own 3, .own 4]), (3, .row (.int .i64) y3 false), (4, .row (.int .i64) y4 false)], 5, 23⟩ K = bindO (keep_Tape_Tensor.l0 n x11 x12 y0_0 y0_1 y3 y4) (fun x : Int × (List Int) => K (.exit 0) ⟨[(4, .ptr 1 0), (5, .ptr 2 0)], [(0, .var [.dat (.int .i64) y0_0 false, .i .i64 x.1]), (1, .var [.nilsl, .nilsl]), (2, .var [.own 3, .own 4]), (3, .row (.int .i64) y3 false), (4, .row (.int .i64) x.2 false)], 5, 23⟩) := by
  intro n; induction n with
  | zero => intros; rw [S.lp_zero]; exact none_c
  | succ n ih =>
    intros; rw [keep_Tape_Tensor.l0]; refine S.lp_succ ?_; conv => lhs; arg 5; whnf
    repeat' first
      | refine S.seq_op rfl ?_; conv => lhs; whnf
      | refine S.op_n ?_; conv => lhs; whnf
      | refine S.seq_nil ?_
      | refine S.reg_n ?_
      | refine S.region rfl ?_
      | refine S.two ?_
      | refine S.blok ?_
      | refine S.cond rfl ?_
      | refine S.after_n ?_
      | refine S.block_n ?_
      | refine S.block_x ?_; conv => lhs; whnf
      | refine S.block_r ?_
      | refine S.after_x ?_
      | refine S.after_r ?_
      | refine S.skip ?_
      | refine S.exit ?_
      | refine S.ret ?_
      | refine br_lt ?_; conv => lhs; whnf
      | refine br_lf ?_; conv => lhs; whnf
      | refine br_t (by assumption) ?_; conv => lhs; whnf
      | refine br_f (by assumption) ?_; conv => lhs; whnf
      | refine req_i (by with_reducible assumption) ?_; conv => lhs; whnf
      | (refine br_nd (fun _ => ?_) (fun _ => ?_) <;> conv => lhs; whnf)
      | (refine br_d (fun _ => ?_) (fun _ => ?_) <;> conv => lhs; whnf)
      | (refine br_n (fun _ => ?_) (fun _ => ?_) <;> conv => lhs; whnf)
      | (refine br_c (fun _ => ?_) (fun _ => ?_) <;> conv => lhs; whnf)
      | refine req_c fun _ => ?_; conv => lhs; whnf
      | refine req_i (by assumption) ?_; conv => lhs; whnf
      | refine bnd_c fun _ => ?_; conv => lhs; whnf
      | refine sum_c (fun _ => ?_) (fun _ => ?_)
      | refine S.region_d (id := 5) (ds := [0, 1, 0, 0, 8, 31, 63]) (mds := [[], [], [], [], [0], [], [4]]) (hm := [(4, [0]), (6, [4])]) (by kernel_rfl) (by kernel_rfl) rfl rfl ?_
      | exact ih
      | refine S.loop ?_; conv => lhs; whnf
      | refine S.back_n ?_; conv => lhs; whnf
      | refine S.back_x ?_; conv => lhs; whnf
      | refine S.back_r ?_; conv => lhs; whnf
      | refine S.fin_r ?_; conv => lhs; whnf
      | refine S.fin_n ?_; conv => lhs; whnf
      | exact ret_c rfl
      | exact none_c
      | refine S.draw_op ?_; conv => lhs; whnf; arg 1; whnf
      | refine S.dk_n ?_; conv => lhs; whnf
      | refine S.draw_nil ?_; conv => lhs; whnf
      | refine andK_br ?_
      | refine andK_req ?_
      | refine andK_b ?_
      | refine andK_none ?_
set_option maxRecDepth 60000 in
set_option maxHeartbeats 4000000 in
theorem r9 (S : Seals) (k : Nat) (a1 : List Int) (o0_0 : List Int) (o0_1 : Int) : runF tt (g9 k) lv9 Try.f9 k [.ptr 0 0, .dat (.int .i64) a1 true] [.var [.dat (.int .i64) o0_0 false, .i .i64 o0_1]] = bindO (keep_Tape_Tensor.f k a1 o0_0 o0_1) (fun x : Int × (List Int) × (List Int) => some (.agg [.own 1, .own 2], [.var [.dat (.int .i64) o0_0 false, .i .i64 x.1], .row (.int .i64) x.2.1 false, .row (.int .i64) x.2.2 false])) := by
  unfold keep_Tape_Tensor.f; refine S.run_s rfl rfl ?_; conv => lhs; arg 5; whnf
  conv => lhs; arg 6; whnf
  repeat' first
    | refine S.seq_op rfl ?_; conv => lhs; whnf
    | refine S.op_n ?_; conv => lhs; whnf
    | refine S.seq_nil ?_
    | refine S.reg_n ?_
    | refine S.region rfl ?_
    | refine S.two ?_
    | refine S.blok ?_
    | refine S.cond rfl ?_
    | refine S.after_n ?_
    | refine S.block_n ?_
    | refine S.block_x ?_; conv => lhs; whnf
    | refine S.block_r ?_
    | refine S.after_x ?_
    | refine S.after_r ?_
    | refine S.skip ?_
    | refine S.exit ?_
    | refine S.ret ?_
    | refine br_lt ?_; conv => lhs; whnf
    | refine br_lf ?_; conv => lhs; whnf
    | refine br_t (by assumption) ?_; conv => lhs; whnf
    | refine br_f (by assumption) ?_; conv => lhs; whnf
    | refine req_i (by with_reducible assumption) ?_; conv => lhs; whnf
    | (refine br_nd (fun _ => ?_) (fun _ => ?_) <;> conv => lhs; whnf)
    | (refine br_d (fun _ => ?_) (fun _ => ?_) <;> conv => lhs; whnf)
    | (refine br_n (fun _ => ?_) (fun _ => ?_) <;> conv => lhs; whnf)
    | (refine br_c (fun _ => ?_) (fun _ => ?_) <;> conv => lhs; whnf)
    | refine req_c fun _ => ?_; conv => lhs; whnf
    | refine req_i (by assumption) ?_; conv => lhs; whnf
    | refine bnd_c fun _ => ?_; conv => lhs; whnf
    | refine sum_c (fun _ => ?_) (fun _ => ?_)
    | refine (w9_0 S k _).trans ?_
    | refine S.loop ?_; conv => lhs; whnf
    | refine S.back_n ?_; conv => lhs; whnf
    | refine S.back_x ?_; conv => lhs; whnf
    | refine S.back_r ?_; conv => lhs; whnf
    | refine S.fin_r ?_; conv => lhs; whnf
    | refine S.fin_n ?_; conv => lhs; whnf
    | exact ret_c rfl
    | exact none_c
    | refine S.draw_op ?_; conv => lhs; whnf; arg 1; whnf
    | refine S.dk_n ?_; conv => lhs; whnf
    | refine S.draw_nil ?_; conv => lhs; whnf
    | refine andK_br ?_
    | refine andK_req ?_
    | refine andK_b ?_
    | refine andK_none ?_
def sp9 (k : Nat) : FSpec := ⟨[.rd, .rd], fun args objs K => match args, objs with | [.ptr 0 0, v0], [.var [v1, .i .i64 o0_1]] => listB (.int .i64) true v0 fun a1 => datK (.int .i64) false v1 fun o0_0 => bindO (keep_Tape_Tensor.f k a1 o0_0 o0_1) fun x : Int × (List Int) × (List Int) => K (.agg [.own 1, .own 2]) [.var [.dat (.int .i64) o0_0 false, .i .i64 x.1], .row (.int .i64) x.2.1 false, .row (.int .i64) x.2.2 false] | _, _ => none⟩
theorem snd9 (k : Nat) : Sound Try.prog 9 (sp9 k) := by
  refine ⟨⟨Try.f9, rfl, by kernel_rfl, rfl⟩, fun args objs K r h => ?_⟩
  unfold sp9 at h; dsimp only at h; split at h
  · rename_i v0 v1 o0_1
    obtain ⟨a1, h9, ca1⟩ := listB_spec h; clear h
    have h := h9; clear h9
    obtain ⟨o0_0, h9, eo0_0⟩ := datK_spec h; clear h; subst eo0_0
    have h := h9; clear h9
    obtain ⟨x, hx, h⟩ := bindO_some h
    exact ⟨_, _, h, FnOK.args2 (relL_c rel_i (relL_c ca1 relL_n)) (fn_run tab_ok (en9 k) mixed rfl ((r9 seals k a1 o0_0 o0_1).trans (bindO_eq hx)))⟩
  · cases h
end Go.Vm

/- law5_AxesTells -/
namespace Go.Vm
open Go Go.Proofs Go.Pf
def lv6 : Live := look ⟨[], [], [], [], []⟩ [(10, ⟨[1, 2, 3, 4, 11, 13, 14, 15, 16, 17, 39, 40], [1, 2, 3, 4, 11, 13, 14, 15, 16, 17], [12], [(16, 0, .own (.int .i64)), (17, 0, .own (.int .i64))], []⟩)]
noncomputable def g6 (k : Nat) : FEnv := (addF 11 (sp11 k) (addF 18 (sp18 k) (addF 7 sp7 (addF 9 (sp9 k) (addF 8 (sp8 k) (fun _ => none))))))
theorem en6 (k : Nat) : EnvOK Try.prog (g6 k) := (envOK_add (snd11 k) (envOK_add (snd18 k) (envOK_add snd7 (envOK_add (snd9 k) (envOK_add (snd8 k) (envOK_nil _))))))
set_option maxRecDepth 60000 in
set_option maxHeartbeats 4000000 in
theorem w6_0 (S : Seals) (k : Nat) : ∀ (n : Nat) {x1 : List Int} {x2 : List Int} {x3 : Int} {x4 : Int} {x39 : Int} {x40 : Int} {y0_0 : List Int} {y0_1 : List Int} {y1_0 : List Int} {y1_1 : Int} {y2 : List Int} {y4 : List Int} {y5 : List Int} {y6 : List Int} {y7 : List Int} {K : CK}, S.lp tt (g6 k) lv6 0 n (loopN Try.f6 0) ⟨[(1, .dat (.int .i64) x1 false), (2, .dat (.int .i64) x2 false), (3, .i .i64 x3), (4, .i .i64 x4), (11, .ptr 0 0), (13, .ptr 1 0), (14, .own 2), (15, .ptr 3 0), (16, .own 4), (17, .own 5), (39, .i .i64 x39), (40, .i .i64 x40)], [(0, .var [.dat (.int .i64) y0_0 false, .dat (.int .i64) y0_1 false]), (1, .var [.dat (.int .i64) y1_0 false, .i .i64 y1_1]), (2, .row (.int .i64) y2 false), (3, .var [.own 6, .own 7]), (4, .row (.int .i64) y4 false), (5, .row (.int .i64) y5 false), (6, .row (.int .i64) y6 false), (7, .row (.int .i64) y7 false)], 8, 105⟩ K = bindO (law5_AxesTells.l0 n x1 x2 x3 x4 x39 x40 y0_0 y0_1 y1_0 y1_1 y2 y4 y5 y6 y7) (fun x : Int × (List Int) × (List Int) => K (.exit 0) ⟨[(1, .dat (.int .i64) x1 false), (2, .dat (.int .i64) x2 false), (3, .i .i64 x3), (4, .i .i64 x4), (11, .ptr 0 0), (13, .ptr 1 0), (14, .own 2), (15, .ptr 3 0), (16, .own 4), (17, .own 5)], [(0, .var [.dat (.int .i64) y0_0 false, .dat (.int .i64) y0_1 false]), (1, .var [.dat (.int .i64) y1_0 false, .i .i64 x.1]), (2, .row (.int .i64) y2 false), (3, .var [.own 6, .own 7]), (4, .row (.int .i64) x.2.1 false), (5, .row (.int .i64) x.2.2 false), (6, .row (.int .i64) y6 false), (7, .row (.int .i64) y7 false)], 8, 105⟩) := by
  intro n; induction n with
  | zero => intros; rw [S.lp_zero]; exact none_c
  | succ n ih =>
    intros; rw [law5_AxesTells.l0]; refine S.lp_succ ?_; conv => lhs; arg 5; whnf
    repeat' first
      | refine S.seq_op rfl ?_; conv => lhs; whnf
      | refine S.op_n ?_; conv => lhs; whnf
      | refine S.seq_nil ?_
      | refine S.reg_n ?_
      | refine S.region rfl ?_
      | refine S.two ?_
      | refine S.blok ?_
      | refine S.cond rfl ?_
      | refine S.after_n ?_
      | refine S.block_n ?_
      | refine S.block_x ?_; conv => lhs; whnf
      | refine S.block_r ?_
      | refine S.after_x ?_
      | refine S.after_r ?_
      | refine S.skip ?_
      | refine S.exit ?_
      | refine S.ret ?_
      | refine br_lt ?_; conv => lhs; whnf
      | refine br_lf ?_; conv => lhs; whnf
      | refine br_t (by assumption) ?_; conv => lhs; whnf
      | refine br_f (by assumption) ?_; conv => lhs; whnf
      | refine req_i (by with_reducible assumption) ?_; conv => lhs; whnf
      | (refine br_nd (fun _ => ?_) (fun _ => ?_) <;> conv => lhs; whnf)
      | (refine br_d (fun _ => ?_) (fun _ => ?_) <;> conv => lhs; whnf)
      | (refine br_n (fun _ => ?_) (fun _ => ?_) <;> conv => lhs; whnf)
      | (refine br_c (fun _ => ?_) (fun _ => ?_) <;> conv => lhs; whnf)
      | refine req_c fun _ => ?_; conv => lhs; whnf
      | refine req_i (by assumption) ?_; conv => lhs; whnf
      | refine bnd_c fun _ => ?_; conv => lhs; whnf
      | refine sum_c (fun _ => ?_) (fun _ => ?_)
      | refine S.region_d (id := 12) (ds := [0, 0, 0, 4, 14, 30, 63, 0, 0, 0, 0, 1536, 3584, 7680, 16255, 32639, 65535, 131071, 262143]) (mds := [[], [], [], [], [1], [], [4], [], [], [], [], [], [], [], [1], [], [5], [], []]) (hm := [(4, [1]), (6, [4]), (14, [1]), (16, [5])]) (by kernel_rfl) (by kernel_rfl) rfl rfl ?_
      | exact ih
      | refine S.loop ?_; conv => lhs; whnf
      | refine S.back_n ?_; conv => lhs; whnf
      | refine S.back_x ?_; conv => lhs; whnf
      | refine S.back_r ?_; conv => lhs; whnf
      | refine S.fin_r ?_; conv => lhs; whnf
      | refine S.fin_n ?_; conv => lhs; whnf
      | exact ret_c rfl
      | exact none_c
      | refine S.draw_op ?_; conv => lhs; whnf; arg 1; whnf
      | refine S.dk_n ?_; conv => lhs; whnf
      | refine S.draw_nil ?_; conv => lhs; whnf
      | refine andK_br ?_
      | refine andK_req ?_
      | refine andK_b ?_
      | refine andK_none ?_
set_option maxRecDepth 60000 in
set_option maxHeartbeats 4000000 in
theorem r6 (S : Seals) (k : Nat) (a0 : List Int) (a1 : List Int) (a2 : List Int) (a3 : Int) (a4 : Int) (a5_0 : List Int) (a5_1 : List Int) : runF tt (g6 k) lv6 Try.f6 k [.dat (.int .i64) a0 false, .dat (.int .i64) a1 false, .dat (.int .i64) a2 false, .i .i64 a3, .i .i64 a4, .agg [.dat (.int .i64) a5_0 false, .dat (.int .i64) a5_1 false]] [] = bindO (law5_AxesTells.f k a0 a1 a2 a3 a4 a5_0 a5_1) (fun x : Bool => some (.b x, [])) := by
  unfold law5_AxesTells.f; refine S.run_s rfl rfl ?_; conv => lhs; arg 5; whnf
  conv => lhs; arg 6; whnf
  repeat' first
    | refine S.seq_op rfl ?_; conv => lhs; whnf
    | refine S.op_n ?_; conv => lhs; whnf
    | refine S.seq_nil ?_
    | refine S.reg_n ?_
    | refine S.region rfl ?_
    | refine S.two ?_
    | refine S.blok ?_
    | refine S.cond rfl ?_
    | refine S.after_n ?_
    | refine S.block_n ?_
    | refine S.block_x ?_; conv => lhs; whnf
    | refine S.block_r ?_
    | refine S.after_x ?_
    | refine S.after_r ?_
    | refine S.skip ?_
    | refine S.exit ?_
    | refine S.ret ?_
    | refine br_lt ?_; conv => lhs; whnf
    | refine br_lf ?_; conv => lhs; whnf
    | refine br_t (by assumption) ?_; conv => lhs; whnf
    | refine br_f (by assumption) ?_; conv => lhs; whnf
    | refine req_i (by with_reducible assumption) ?_; conv => lhs; whnf
    | (refine br_nd (fun _ => ?_) (fun _ => ?_) <;> conv => lhs; whnf)
    | (refine br_d (fun _ => ?_) (fun _ => ?_) <;> conv => lhs; whnf)
    | (refine br_n (fun _ => ?_) (fun _ => ?_) <;> conv => lhs; whnf)
    | (refine br_c (fun _ => ?_) (fun _ => ?_) <;> conv => lhs; whnf)
    | refine req_c fun _ => ?_; conv => lhs; whnf
    | refine req_i (by assumption) ?_; conv => lhs; whnf
    | refine bnd_c fun _ => ?_; conv => lhs; whnf
    | refine sum_c (fun _ => ?_) (fun _ => ?_)
    | refine S.region_d (id := 14) (ds := [0, 0, 0, 6, 0, 0, 46, 126, 255, 0, 766, 1790, 4095, 8191]) (mds := [[], [], [], [1, 2, 2], [], [], [1], [1], [6, 7], [], [1], [], [], []]) (hm := [(3, [1, 2, 2]), (6, [1]), (7, [1]), (8, [6, 7]), (10, [1])]) (by kernel_rfl) (by kernel_rfl) rfl rfl ?_
    | refine (w6_0 S k _).trans ?_
    | refine S.loop ?_; conv => lhs; whnf
    | refine S.back_n ?_; conv => lhs; whnf
    | refine S.back_x ?_; conv => lhs; whnf
    | refine S.back_r ?_; conv => lhs; whnf
    | refine S.fin_r ?_; conv => lhs; whnf
    | refine S.fin_n ?_; conv => lhs; whnf
    | exact ret_c rfl
    | exact none_c
    | refine S.draw_op ?_; conv => lhs; whnf; arg 1; whnf
    | refine S.dk_n ?_; conv => lhs; whnf
    | refine S.draw_nil ?_; conv => lhs; whnf
    | refine andK_br ?_
    | refine andK_req ?_
    | refine andK_b ?_
    | refine andK_none ?_
def sp6 (k : Nat) : FSpec := ⟨[.st, .st, .st, .st, .st, .st], fun args objs K => match args, objs with | [v0, v1, v2, .i .i64 a3, .i .i64 a4, .agg [v3, v4]], [] => listB (.int .i64) false v0 fun a0 => listB (.int .i64) false v1 fun a1 => listB (.int .i64) false v2 fun a2 => listB (.int .i64) false v3 fun a5_0 => listB (.int .i64) false v4 fun a5_1 => bindO (law5_AxesTells.f k a0 a1 a2 a3 a4 a5_0 a5_1) fun x : Bool => K (.b x) [] | _, _ => none⟩
theorem snd6 (k : Nat) : Sound Try.prog 6 (sp6 k) := by
  refine ⟨⟨Try.f6, rfl, by kernel_rfl, rfl⟩, fun args objs K r h => ?_⟩
  unfold sp6 at h; dsimp only at h; split at h
  · rename_i v0 v1 v2 a3 a4 v3 v4
    obtain ⟨a0, h9, ca0⟩ := listB_spec h; clear h
    have h := h9; clear h9
    obtain ⟨a1, h9, ca1⟩ := listB_spec h; clear h
    have h := h9; clear h9
    obtain ⟨a2, h9, ca2⟩ := listB_spec h; clear h
    have h := h9; clear h9
    obtain ⟨a5_0, h9, ca5_0⟩ := listB_spec h; clear h
    have h := h9; clear h9
    obtain ⟨a5_1, h9, ca5_1⟩ := listB_spec h; clear h
    have h := h9; clear h9
    obtain ⟨x, hx, h⟩ := bindO_some h
    exact ⟨_, _, h, FnOK.args2 (relL_c ca0 (relL_c ca1 (relL_c ca2 (relL_c rel_i (relL_c rel_i (relL_c (rel_agg (relL_c ca5_0 (relL_c ca5_1 relL_n))) relL_n)))))) (fn_run tab_ok (en6 k) mixed rfl ((r6 seals k a0 a1 a2 a3 a4 a5_0 a5_1).trans (bindO_eq hx)))⟩
  · cases h
end Go.Vm
