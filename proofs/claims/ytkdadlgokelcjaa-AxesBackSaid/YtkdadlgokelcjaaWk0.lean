/- Own texts put together: W5T, W5f44, W5f45 .. -/
import Derived.Test.YtkdadlgokelcjaaVm1
import Derived.Test.YtkdadlgokelcjaaPl0
import Derived.Test.YtkdadlgokelcjaaProg
set_option linter.unusedVariables false
set_option linter.unusedSimpArgs false
namespace Go.Vm
open Go Go.Proofs Go.Pf
def tt : Tab := [default,
  default,
  ⟨.int .i64, 1, 8, [.i .i64 0], some (.int .i64)⟩,
  ⟨.int .i64, 1, 8, [.i .i64 0], some (.int .i64)⟩,
  ⟨.bool, 1, 1, [.b false], some .bool⟩,
  default,
  default,
  default,
  default,
  default,
  default,
  default,
  default,
  default,
  default,
  default,
  default,
  default,
  default,
  default,
  default,
  default,
  ⟨.sl 3, 1, 24, [.nilsl], some (.sl (.int .i64))⟩,
  ⟨.ptr 25, 1, 8, [.kon (.pointer none)], none⟩,
  default,
  ⟨.struct [(0, 22), (1, 3)], 2, 32, [.nilsl, .i .i64 0], some (.pair (.sl (.int .i64)) (.int .i64))⟩,
  default,
  default,
  ⟨.sl 31, 1, 24, [.nilsl], some (.sl (.pair (.sl (.int .i64)) (.sl (.int .i64))))⟩,
  ⟨.sl 2, 1, 24, [.nilsl], some (.sl (.int .i64))⟩,
  default,
  ⟨.struct [(0, 22), (1, 29)], 2, 48, [.nilsl, .nilsl], some (.pair (.sl (.int .i64)) (.sl (.int .i64)))⟩,
  default,
  ⟨.int .i64, 1, 8, [.i .i64 0], some (.int .i64)⟩,
  default,
  default,
  default,
  default,
  default,
  default,
  default,
  default,
  default,
  default,
  default,
  default,
  default,
  default,
  default,
  default,
  ⟨.sl 22, 1, 24, [.nilsl], some (.sl (.sl (.int .i64)))⟩,
  default,
  default,
  default,
  default,
  default,
  ⟨.func, 1, 8, [.kon (.nilFunc)], none⟩,
  default,
  default,
  default,
  default,
  default,
  default,
  default,
  default,
  default,
  default,
  ⟨.sl 4, 1, 24, [.nilsl], some (.sl .bool)⟩]
theorem tab_ok : TabOK Try.prog tt := tabOK_of (by kernel_rfl)
theorem mixed : Try.prog.follows .mixedOrders = true := by kernel_rfl
end Go.Vm

/- shape_Right -/
namespace Go.Vm
open Go Go.Proofs Go.Pf
def lv44 : Live := look ⟨[], [], [], [], []⟩ [(5, ⟨[3, 9, 10, 11], [3], [2], [], []⟩)]
noncomputable def g44 : FEnv := (fun _ => none)
theorem en44 : EnvOK Try.prog (g44) := (envOK_nil _)
set_option maxRecDepth 60000 in
set_option maxHeartbeats 4000000 in
theorem w44_0 (S : Seals) (k : Nat) : ∀ (n : Nat) {x3 : Int} {x9 : List Int} {x10 : Int} {x11 : Int} {K : CK}, S.lp tt (g44) lv44 0 n (loopN Try.f44 0) ⟨[(3, .i .i64 x3), (9, .dat (.int .i64) x9 true), (10, .i .i64 x10), (11, .i .i64 x11)], [], 0, 27⟩ K = bindO (shape_Right.l0 n x3 x9 x10 x11) (Sum.elim (fun x : Int => K (.exit 0) ⟨[(3, .i .i64 x)], [], 0, 27⟩) (fun x : Bool => K .ret ⟨[(2, .b x)], [], 0, 27⟩)) := by
  intro n; induction n with
  | zero => intros; rw [S.lp_zero]; exact none_c
  | succ n ih =>
    intros; rw [shape_Right.l0]; refine S.lp_succ ?_; conv => lhs; arg 5; whnf
    repeat' first
      | refine S.seq_op rfl ?_; conv => lhs; whnf
      | refine S.op_n ?_; conv => lhs; whnf
      | refine S.seq_nil ?_
      | refine S.reg_n ?_
      | refine S.region rfl ?_
      | refine S.two ?_
      | refine S.blok ?_
      | refine S.cond rfl ?_
      | refine S.after_n ?_
      | refine S.block_n ?_
      | refine S.block_x ?_; conv => lhs; whnf
      | refine S.block_r ?_
      | refine S.after_x ?_
      | refine S.after_r ?_
      | refine S.skip ?_
      | refine S.exit ?_
      | refine S.ret ?_
      | refine br_lt ?_; conv => lhs; whnf
      | refine br_lf ?_; conv => lhs; whnf
      | refine br_t (by assumption) ?_; conv => lhs; whnf
      | refine br_f (by assumption) ?_; conv => lhs; whnf
      | refine req_i (by with_reducible assumption) ?_; conv => lhs; whnf
      | (refine br_nd (fun _ => ?_) (fun _ => ?_) <;> conv => lhs; whnf)
      | (refine br_d (fun _ => ?_) (fun _ => ?_) <;> conv => lhs; whnf)
      | (refine br_n (fun _ => ?_) (fun _ => ?_) <;> conv => lhs; whnf)
      | (refine br_c (fun _ => ?_) (fun _ => ?_) <;> conv => lhs; whnf)
      | refine req_c fun _ => ?_; conv => lhs; whnf
      | refine req_i (by assumption) ?_; conv => lhs; whnf
      | refine bnd_c fun _ => ?_; conv => lhs; whnf
      | refine sum_c (fun _ => ?_) (fun _ => ?_)
      | exact ih
      | refine S.loop ?_; conv => lhs; whnf
      | refine S.back_n ?_; conv => lhs; whnf
      | refine S.back_x ?_; conv => lhs; whnf
      | refine S.back_r ?_; conv => lhs; whnf
      | refine S.fin_r ?_; conv => lhs; whnf
      | refine S.fin_n ?_; conv => lhs; whnf
      | exact ret_c rfl
      | exact none_c
      | refine S.draw_op ?_; conv => lhs; whnf; arg 1; whnf
      | refine S.dk_n ?_; conv => lhs; whnf
      | refine S.draw_nil ?_; conv => lhs; whnf
      | refine andK_br ?_
      | refine andK_req ?_
      | refine andK_b ?_
      | refine andK_none ?_
set_option maxRecDepth 60000 in
set_option maxHeartbeats 4000000 in
theorem r44 (S : Seals) (k : Nat) (a0 : List Int) : runF tt (g44) lv44 Try.f44 k [.dat (.int .i64) a0 true] [] = bindO (shape_Right.f k a0) (fun x : Bool => some (.b x, [])) := by
  unfold shape_Right.f; refine S.run_s rfl rfl ?_; conv => lhs; arg 5; whnf
  conv => lhs; arg 6; whnf
  repeat' first
    | refine S.seq_op rfl ?_; conv => lhs; whnf
    | refine S.op_n ?_; conv => lhs; whnf
    | refine S.seq_nil ?_
    | refine S.reg_n ?_
    | refine S.region rfl ?_
    | refine S.two ?_
    | refine S.blok ?_
    | refine S.cond rfl ?_
    | refine S.after_n ?_
    | refine S.block_n ?_
    | refine S.block_x ?_; conv => lhs; whnf
    | refine S.block_r ?_
    | refine S.after_x ?_
    | refine S.after_r ?_
    | refine S.skip ?_
    | refine S.exit ?_
    | refine S.ret ?_
    | refine br_lt ?_; conv => lhs; whnf
    | refine br_lf ?_; conv => lhs; whnf
    | refine br_t (by assumption) ?_; conv => lhs; whnf
    | refine br_f (by assumption) ?_; conv => lhs; whnf
    | refine req_i (by with_reducible assumption) ?_; conv => lhs; whnf
    | (refine br_nd (fun _ => ?_) (fun _ => ?_) <;> conv => lhs; whnf)
    | (refine br_d (fun _ => ?_) (fun _ => ?_) <;> conv => lhs; whnf)
    | (refine br_n (fun _ => ?_) (fun _ => ?_) <;> conv => lhs; whnf)
    | (refine br_c (fun _ => ?_) (fun _ => ?_) <;> conv => lhs; whnf)
    | refine req_c fun _ => ?_; conv => lhs; whnf
    | refine req_i (by assumption) ?_; conv => lhs; whnf
    | refine bnd_c fun _ => ?_; conv => lhs; whnf
    | refine sum_c (fun _ => ?_) (fun _ => ?_)
    | refine (w44_0 S k _).trans ?_
    | refine S.loop ?_; conv => lhs; whnf
    | refine S.back_n ?_; conv => lhs; whnf
    | refine S.back_x ?_; conv => lhs; whnf
    | refine S.back_r ?_; conv => lhs; whnf
    | refine S.fin_r ?_; conv => lhs; whnf
    | refine S.fin_n ?_; conv => lhs; whnf
    | exact ret_c rfl
    | exact none_c
    | refine S.draw_op ?_; conv => lhs; whnf; arg 1; whnf
    | refine S.dk_n ?_; conv => lhs; whnf
    | refine S.draw_nil ?_; conv => lhs; whnf
    | refine andK_br ?_
    | refine andK_req ?_
    | refine andK_b ?_
    | refine andK_none ?_
def sp44 (k : Nat) : FSpec := ⟨[.rd], fun args objs K => match args, objs with | [v0], [] => listB (.int .i64) true v0 fun a0 => bindO (shape_Right.f k a0) fun x : Bool => K (.b x) [] | _, _ => none⟩
theorem snd44 (k : Nat) : Sound Try.prog 44 (sp44 k) := by
  refine ⟨⟨Try.f44, rfl, by kernel_rfl, rfl⟩, fun args objs K r h => ?_⟩
  unfold sp44 at h; dsimp only at h; split at h
  · rename_i v0
    obtain ⟨a0, h9, ca0⟩ := listB_spec h; clear h
    have h := h9; clear h9
    obtain ⟨x, hx, h⟩ := bindO_some h
    exact ⟨_, _, h, FnOK.args2 (relL_c ca0 relL_n) (fn_run tab_ok (en44) mixed rfl ((r44 seals k a0).trans (bindO_eq hx)))⟩
  · cases h
end Go.Vm

/- shape_Size -/
namespace Go.Vm
open Go Go.Proofs Go.Pf
def lv45 : Live := look ⟨[], [], [], [], []⟩ [(5, ⟨[3, 9, 10, 11], [3], [2], [], []⟩)]
noncomputable def g45 (k : Nat) : FEnv := (addF 44 (sp44 k) (fun _ => none))
theorem en45 (k : Nat) : EnvOK Try.prog (g45 k) := (envOK_add (snd44 k) (envOK_nil _))
set_option maxRecDepth 60000 in
set_option maxHeartbeats 4000000 in
theorem w45_0 (S : Seals) (k : Nat) : ∀ (n : Nat) {x3 : Int} {x9 : List Int} {x10 : Int} {x11 : Int} {K : CK}, S.lp tt (g45 k) lv45 0 n (loopN Try.f45 0) ⟨[(3, .i .i64 x3), (9, .dat (.int .i64) x9 true), (10, .i .i64 x10), (11, .i .i64 x11)], [], 0, 20⟩ K = bindO (shape_Size.l0 n x3 x9 x10 x11) (fun x : Int => K (.exit 0) ⟨[(3, .i .i64 x)], [], 0, 20⟩) := by
  intro n; induction n with
  | zero => intros; rw [S.lp_zero]; exact none_c
  | succ n ih =>
    intros; rw [shape_Size.l0]; refine S.lp_succ ?_; conv => lhs; arg 5; whnf
    repeat' first
      | refine S.seq_op rfl ?_; conv => lhs; whnf
      | refine S.op_n ?_; conv => lhs; whnf
      | refine S.seq_nil ?_
      | refine S.reg_n ?_
      | refine S.region rfl ?_
      | refine S.two ?_
      | refine S.blok ?_
      | refine S.cond rfl ?_
      | refine S.after_n ?_
      | refine S.block_n ?_
      | refine S.block_x ?_; conv => lhs; whnf
      | refine S.block_r ?_
      | refine S.after_x ?_
      | refine S.after_r ?_
      | refine S.skip ?_
      | refine S.exit ?_
      | refine S.ret ?_
      | refine br_lt ?_; conv => lhs; whnf
      | refine br_lf ?_; conv => lhs; whnf
      | refine br_t (by assumption) ?_; conv => lhs; whnf
      | refine br_f (by assumption) ?_; conv => lhs; whnf
      | refine req_i (by with_reducible assumption) ?_; conv => lhs; whnf
      | (refine br_nd (fun _ => ?_) (fun _ => ?_) <;> conv => lhs; whnf)
      | (refine br_d (fun _ => ?_) (fun _ => ?_) <;> conv => lhs; whnf)
      | (refine br_n (fun _ => ?_) (fun _ => ?_) <;> conv => lhs; whnf)
      | (refine br_c (fun _ => ?_) (fun _ => ?_) <;> conv => lhs; whnf)
      | refine req_c fun _ => ?_; conv => lhs; whnf
      | refine req_i (by assumption) ?_; conv => lhs; whnf
      | refine bnd_c fun _ => ?_; conv => lhs; whnf
      | refine sum_c (fun _ => ?_) (fun _ => ?_)
      | exact ih
      | refine S.loop ?_; conv => lhs; whnf
      | refine S.back_n ?_; conv => lhs; whnf
      | refine S.back_x ?_; conv => lhs; whnf
      | refine S.back_r ?_; conv => lhs; whnf
      | refine S.fin_r ?_; conv => lhs; whnf
      | refine S.fin_n ?_; conv => lhs; whnf
      | exact ret_c rfl
      | exact none_c
      | refine S.draw_op ?_; conv => lhs; whnf; arg 1; whnf
      | refine S.dk_n ?_; conv => lhs; whnf
      | refine S.draw_nil ?_; conv => lhs; whnf
      | refine andK_br ?_
      | refine andK_req ?_
      | refine andK_b ?_
      | refine andK_none ?_
set_option maxRecDepth 60000 in
set_option maxHeartbeats 4000000 in
theorem r45 (S : Seals) (k : Nat) (a0 : List Int) : runF tt (g45 k) lv45 Try.f45 k [.dat (.int .i64) a0 true] [] = bindO (shape_Size.f k a0) (fun x : Int => some (.i .i64 x, [])) := by
  unfold shape_Size.f; refine S.run_s rfl rfl ?_; conv => lhs; arg 5; whnf
  conv => lhs; arg 6; whnf
  repeat' first
    | refine S.seq_op rfl ?_; conv => lhs; whnf
    | refine S.op_n ?_; conv => lhs; whnf
    | refine S.seq_nil ?_
    | refine S.reg_n ?_
    | refine S.region rfl ?_
    | refine S.two ?_
    | refine S.blok ?_
    | refine S.cond rfl ?_
    | refine S.after_n ?_
    | refine S.block_n ?_
    | refine S.block_x ?_; conv => lhs; whnf
    | refine S.block_r ?_
    | refine S.after_x ?_
    | refine S.after_r ?_
    | refine S.skip ?_
    | refine S.exit ?_
    | refine S.ret ?_
    | refine br_lt ?_; conv => lhs; whnf
    | refine br_lf ?_; conv => lhs; whnf
    | refine br_t (by assumption) ?_; conv => lhs; whnf
    | refine br_f (by assumption) ?_; conv => lhs; whnf
    | refine req_i (by with_reducible assumption) ?_; conv => lhs; whnf
    | (refine br_nd (fun _ => ?_) (fun _ => ?_) <;> conv => lhs; whnf)
    | (refine br_d (fun _ => ?_) (fun _ => ?_) <;> conv => lhs; whnf)
    | (refine br_n (fun _ => ?_) (fun _ => ?_) <;> conv => lhs; whnf)
    | (refine br_c (fun _ => ?_) (fun _ => ?_) <;> conv => lhs; whnf)
    | refine req_c fun _ => ?_; conv => lhs; whnf
    | refine req_i (by assumption) ?_; conv => lhs; whnf
    | refine bnd_c fun _ => ?_; conv => lhs; whnf
    | refine sum_c (fun _ => ?_) (fun _ => ?_)
    | refine (w45_0 S k _).trans ?_
    | refine S.loop ?_; conv => lhs; whnf
    | refine S.back_n ?_; conv => lhs; whnf
    | refine S.back_x ?_; conv => lhs; whnf
    | refine S.back_r ?_; conv => lhs; whnf
    | refine S.fin_r ?_; conv => lhs; whnf
    | refine S.fin_n ?_; conv => lhs; whnf
    | exact ret_c rfl
    | exact none_c
    | refine S.draw_op ?_; conv => lhs; whnf; arg 1; whnf
    | refine S.dk_n ?_; conv => lhs; whnf
    | refine S.draw_nil ?_; conv => lhs; whnf
    | refine andK_br ?_
    | refine andK_req ?_
    | refine andK_b ?_
    | refine andK_none ?_
def sp45 (k : Nat) : FSpec := ⟨[.rd], fun args objs K => match args, objs with | [v0], [] => listB (.int .i64) true v0 fun a0 => bindO (shape_Size.f k a0) fun x : Int => K (.i .i64 x) [] | _, _ => none⟩
theorem snd45 (k : Nat) : Sound Try.prog 45 (sp45 k) := by
  refine ⟨⟨Try.f45, rfl, by kernel_rfl, rfl⟩, fun args objs K r h => ?_⟩
  unfold sp45 at h; dsimp only at h; split at h
  · rename_i v0
    obtain ⟨a0, h9, ca0⟩ := listB_spec h; clear h
    have h := h9; clear h9
    obtain ⟨x, hx, h⟩ := bindO_some h
    exact ⟨_, _, h, FnOK.args2 (relL_c ca0 relL_n) (fn_run tab_ok (en45 k) mixed rfl ((r45 seals k a0).trans (bindO_eq hx)))⟩
  · cases h
end Go.Vm

/- tensor_Right -/
namespace Go.Vm
open Go Go.Proofs Go.Pf
def lv22 : Live := look ⟨[], [], [], [], []⟩ []
noncomputable def g22 (k : Nat) : FEnv := (addF 45 (sp45 k) (addF 44 (sp44 k) (fun _ => none)))
theorem en22 (k : Nat) : EnvOK Try.prog (g22 k) := (envOK_add (snd45 k) (envOK_add (snd44 k) (envOK_nil _)))
set_option maxRecDepth 60000 in
set_option maxHeartbeats 4000000 in
theorem r22 (S : Seals) (k : Nat) (a0_0 : List Int) (a0_1 : List Int) : runF tt (g22 k) lv22 Try.f22 k [.agg [.dat (.int .i64) a0_0 true, .dat (.int .i64) a0_1 true]] [] = bindO (tensor_Right.f k a0_0 a0_1) (fun x : Bool => some (.b x, [])) := by
  unfold tensor_Right.f; refine S.run_s rfl rfl ?_; conv => lhs; arg 5; whnf
  conv => lhs; arg 6; whnf
  repeat' first
    | refine S.seq_op rfl ?_; conv => lhs; whnf
    | refine S.op_n ?_; conv => lhs; whnf
    | refine S.seq_nil ?_
    | refine S.reg_n ?_
    | refine S.region rfl ?_
    | refine S.two ?_
    | refine S.blok ?_
    | refine S.cond rfl ?_
    | refine S.after_n ?_
    | refine S.block_n ?_
    | refine S.block_x ?_; conv => lhs; whnf
    | refine S.block_r ?_
    | refine S.after_x ?_
    | refine S.after_r ?_
    | refine S.skip ?_
    | refine S.exit ?_
    | refine S.ret ?_
    | refine br_lt ?_; conv => lhs; whnf
    | refine br_lf ?_; conv => lhs; whnf
    | refine br_t (by assumption) ?_; conv => lhs; whnf
    | refine br_f (by assumption) ?_; conv => lhs; whnf
    | refine req_i (by with_reducible assumption) ?_; conv => lhs; whnf
    | (refine br_nd (fun _ => ?_) (fun _ => ?_) <;> conv => lhs; whnf)
    | (refine br_d (fun _ => ?_) (fun _ => ?_) <;> conv => lhs; whnf)
    | (refine br_n (fun _ => ?_) (fun _ => ?_) <;> conv => lhs; whnf)
    | (refine br_c (fun _ => ?_) (fun _ => ?_) <;> conv => lhs; whnf)
    | refine req_c fun _ => ?_; conv => lhs; whnf
    | refine req_i (by assumption) ?_; conv => lhs; whnf
    | refine bnd_c fun _ => ?_; conv => lhs; whnf
    | refine sum_c (fun _ => ?_) (fun _ => ?_)
    | refine S.region_d (id := 1) (ds := [0, 1, 3, 7, 15, 31, 63, 15, 143, 399, 1023, 2047, 4095]) (mds := [[], [], [], [], [], [], [], [], [], [], [], [], []]) (hm := []) (by kernel_rfl) (by kernel_rfl) rfl rfl ?_
    | refine S.loop ?_; conv => lhs; whnf
    | refine S.back_n ?_; conv => lhs; whnf
    | refine S.back_x ?_; conv => lhs; whnf
    | refine S.back_r ?_; conv => lhs; whnf
    | refine S.fin_r ?_; conv => lhs; whnf
    | refine S.fin_n ?_; conv => lhs; whnf
    | exact ret_c rfl
    | exact none_c
    | refine S.draw_op ?_; conv => lhs; whnf; arg 1; whnf
    | refine S.dk_n ?_; conv => lhs; whnf
    | refine S.draw_nil ?_; conv => lhs; whnf
    | refine andK_br ?_
    | refine andK_req ?_
    | refine andK_b ?_
    | refine andK_none ?_
def sp22 (k : Nat) : FSpec := ⟨[.rd], fun args objs K => match args, objs with | [.agg [v0, v1]], [] => listB (.int .i64) true v0 fun a0_0 => listB (.int .i64) true v1 fun a0_1 => bindO (tensor_Right.f k a0_0 a0_1) fun x : Bool => K (.b x) [] | _, _ => none⟩
theorem snd22 (k : Nat) : Sound Try.prog 22 (sp22 k) := by
  refine ⟨⟨Try.f22, rfl, by kernel_rfl, rfl⟩, fun args objs K r h => ?_⟩
  unfold sp22 at h; dsimp only at h; split at h
  · rename_i v0 v1
    obtain ⟨a0_0, h9, ca0_0⟩ := listB_spec h; clear h
    have h := h9; clear h9
    obtain ⟨a0_1, h9, ca0_1⟩ := listB_spec h; clear h
    have h := h9; clear h9
    obtain ⟨x, hx, h⟩ := bindO_some h
    exact ⟨_, _, h, FnOK.args2 (relL_c (rel_agg (relL_c ca0_0 (relL_c ca0_1 relL_n))) relL_n) (fn_run tab_ok (en22 k) mixed rfl ((r22 seals k a0_0 a0_1).trans (bindO_eq hx)))⟩
  · cases h
end Go.Vm

/- slices_Clone_int -/
namespace Go.Vm
open Go Go.Proofs Go.Pf
def lv46 : Live := look ⟨[], [], [], [], []⟩ [(1000000, ⟨[], [], [], [(2, 0, .own (.int .i64))], []⟩)]
noncomputable def g46 : FEnv := (fun _ => none)
theorem en46 : EnvOK Try.prog (g46) := (envOK_nil _)
set_option maxRecDepth 60000 in
set_option maxHeartbeats 4000000 in
theorem r46 (S : Seals) (k : Nat) (a0 : List Int) : runF tt (g46) lv46 Try.f46 k [.dat (.int .i64) a0 true] [] = bindO (slices_Clone_int.f a0) (fun x : (List Int) => some (.own 0, [.row (.int .i64) x false])) := by
  unfold slices_Clone_int.f; cases a0
  · rw [if_pos (by decide)]; refine S.run_s rfl rfl ?_; conv => lhs; arg 5; whnf
    conv => lhs; arg 6; whnf
    repeat' first
      | refine req_i (by decide) ?_; conv => lhs; whnf
      | refine S.seq_op rfl ?_; conv => lhs; whnf
      | refine S.op_n ?_; conv => lhs; whnf
      | refine S.seq_nil ?_
      | refine S.reg_n ?_
      | refine S.region rfl ?_
      | refine S.two ?_
      | refine S.blok ?_
      | refine S.cond rfl ?_
      | refine S.after_n ?_
      | refine S.block_n ?_
      | refine S.block_x ?_; conv => lhs; whnf
      | refine S.block_r ?_
      | refine S.after_x ?_
      | refine S.after_r ?_
      | refine S.skip ?_
      | refine S.exit ?_
      | refine S.ret ?_
      | refine br_lt ?_; conv => lhs; whnf
      | refine br_lf ?_; conv => lhs; whnf
      | refine br_t (by assumption) ?_; conv => lhs; whnf
      | refine br_f (by assumption) ?_; conv => lhs; whnf
      | refine req_i (by with_reducible assumption) ?_; conv => lhs; whnf
      | (refine br_nd (fun _ => ?_) (fun _ => ?_) <;> conv => lhs; whnf)
      | (refine br_d (fun _ => ?_) (fun _ => ?_) <;> conv => lhs; whnf)
      | (refine br_n (fun _ => ?_) (fun _ => ?_) <;> conv => lhs; whnf)
      | (refine br_c (fun _ => ?_) (fun _ => ?_) <;> conv => lhs; whnf)
      | refine req_c fun _ => ?_; conv => lhs; whnf
      | refine req_i (by assumption) ?_; conv => lhs; whnf
      | refine bnd_c fun _ => ?_; conv => lhs; whnf
      | refine sum_c (fun _ => ?_) (fun _ => ?_)
      | refine both_c ?_ ?_
      | refine S.loop ?_; conv => lhs; whnf
      | refine S.back_n ?_; conv => lhs; whnf
      | refine S.back_x ?_; conv => lhs; whnf
      | refine S.back_r ?_; conv => lhs; whnf
      | refine S.fin_r ?_; conv => lhs; whnf
      | refine S.fin_n ?_; conv => lhs; whnf
      | exact ret_c rfl
      | exact none_c
      | refine S.draw_op ?_; conv => lhs; whnf; arg 1; whnf
      | refine S.dk_n ?_; conv => lhs; whnf
      | refine S.draw_nil ?_; conv => lhs; whnf
      | refine andK_br ?_
      | refine andK_req ?_
      | refine andK_b ?_
      | refine andK_none ?_
  · refine S.run_s rfl rfl ?_; conv => lhs; arg 5; whnf
    conv => lhs; arg 6; whnf
    repeat' first
      | refine S.seq_op rfl ?_; conv => lhs; whnf
      | refine S.op_n ?_; conv => lhs; whnf
      | refine S.seq_nil ?_
      | refine S.reg_n ?_
      | refine S.region rfl ?_
      | refine S.two ?_
      | refine S.blok ?_
      | refine S.cond rfl ?_
      | refine S.after_n ?_
      | refine S.block_n ?_
      | refine S.block_x ?_; conv => lhs; whnf
      | refine S.block_r ?_
      | refine S.after_x ?_
      | refine S.after_r ?_
      | refine S.skip ?_
      | refine S.exit ?_
      | refine S.ret ?_
      | refine br_lt ?_; conv => lhs; whnf
      | refine br_lf ?_; conv => lhs; whnf
      | refine br_t (by assumption) ?_; conv => lhs; whnf
      | refine br_f (by assumption) ?_; conv => lhs; whnf
      | refine req_i (by with_reducible assumption) ?_; conv => lhs; whnf
      | (refine br_nd (fun _ => ?_) (fun _ => ?_) <;> conv => lhs; whnf)
      | (refine br_d (fun _ => ?_) (fun _ => ?_) <;> conv => lhs; whnf)
      | (refine br_n (fun _ => ?_) (fun _ => ?_) <;> conv => lhs; whnf)
      | (refine br_c (fun _ => ?_) (fun _ => ?_) <;> conv => lhs; whnf)
      | refine req_c fun _ => ?_; conv => lhs; whnf
      | refine req_i (by assumption) ?_; conv => lhs; whnf
      | refine bnd_c fun _ => ?_; conv => lhs; whnf
      | refine sum_c (fun _ => ?_) (fun _ => ?_)
      | refine S.loop ?_; conv => lhs; whnf
      | refine S.back_n ?_; conv => lhs; whnf
      | refine S.back_x ?_; conv => lhs; whnf
      | refine S.back_r ?_; conv => lhs; whnf
      | refine S.fin_r ?_; conv => lhs; whnf
      | refine S.fin_n ?_; conv => lhs; whnf
      | exact ret_c rfl
      | exact none_c
      | refine S.draw_op ?_; conv => lhs; whnf; arg 1; whnf
      | refine S.dk_n ?_; conv => lhs; whnf
      | refine S.draw_nil ?_; conv => lhs; whnf
      | refine andK_br ?_
      | refine andK_req ?_
      | refine andK_b ?_
      | refine andK_none ?_
def sp46 : FSpec := ⟨[.rd], fun args objs K => match args, objs with | [v0], [] => listB (.int .i64) true v0 fun a0 => bindO (slices_Clone_int.f a0) fun x : (List Int) => K (.own 0) [.row (.int .i64) x false] | _, _ => none⟩
theorem snd46 : Sound Try.prog 46 (sp46) := by
  refine ⟨⟨Try.f46, rfl, by kernel_rfl, rfl⟩, fun args objs K r h => ?_⟩
  unfold sp46 at h; dsimp only at h; split at h
  · rename_i v0
    obtain ⟨a0, h9, ca0⟩ := listB_spec h; clear h
    have h := h9; clear h9
    obtain ⟨x, hx, h⟩ := bindO_some h
    exact ⟨_, _, h, FnOK.args2 (relL_c ca0 relL_n) (fn_run tab_ok (en46) mixed rfl ((r46 seals 0 a0).trans (bindO_eq hx)))⟩
  · cases h
end Go.Vm

/- axes_Joined -/
namespace Go.Vm
open Go Go.Proofs Go.Pf
def lv23 : Live := look ⟨[], [], [], [], []⟩ [(6, ⟨[0, 6, 33, 34, 35], [6], [4, 5], [], []⟩), (11, ⟨[0, 6, 8, 33, 34, 35, 44, 45, 46], [0, 6, 8, 33, 34, 35], [4, 5], [], []⟩), (1000000, ⟨[], [], [], [(4, 0, .own (.int .i64))], []⟩)]
noncomputable def g23 (k : Nat) : FEnv := (addF 44 (sp44 k) (addF 46 sp46 (fun _ => none)))
theorem en23 (k : Nat) : EnvOK Try.prog (g23 k) := (envOK_add (snd44 k) (envOK_add snd46 (envOK_nil _)))
set_option maxRecDepth 60000 in
set_option maxHeartbeats 4000000 in
theorem w23_1 (S : Seals) (k : Nat) : ∀ (n : Nat) {x0 : Int} {x8 : List Int} {x33 : List (List Int)} {x34 : Int} {x35 : Int} {x44 : List Int} {x45 : Int} {x46 : Int} {y0 : List Int} {K : CK}, S.lp tt (g23 k) lv23 0 n (loopN Try.f23 1) ⟨[(0, .i .i64 x0), (6, .own 0), (8, .dat (.int .i64) x8 true), (33, .dat (.sl (.int .i64)) x33 true), (34, .i .i64 x34), (35, .i .i64 x35), (44, .dat (.int .i64) x44 true), (45, .i .i64 x45), (46, .i .i64 x46)], [(0, .row (.int .i64) y0 false)], 1, 83⟩ K = bindO (axes_Joined.l1 n x0 x8 x33 x34 x35 x44 x45 x46 y0) (Sum.elim (fun x : Unit => K (.exit 2) ⟨[(0, .i .i64 x0), (6, .own 0), (8, .dat (.int .i64) x8 true), (33, .dat (.sl (.int .i64)) x33 true), (34, .i .i64 x34), (35, .i .i64 x35)], [(0, .row (.int .i64) y0 false)], 1, 83⟩) (fun x : Int => K .ret ⟨[(4, .nilsl), (5, .i .i64 x)], [], 0, 83⟩)) := by
  intro n; induction n with
  | zero => intros; rw [S.lp_zero]; exact none_c
  | succ n ih =>
    intros; rw [axes_Joined.l1]; refine S.lp_succ ?_; conv => lhs; arg 5; whnf
    repeat' first
      | refine S.seq_op rfl ?_; conv => lhs; whnf
      | refine S.op_n ?_; conv => lhs; whnf
      | refine S.seq_nil ?_
      | refine S.reg_n ?_
      | refine S.region rfl ?_
      | refine S.two ?_
      | refine S.blok ?_
      | refine S.cond rfl ?_
      | refine S.after_n ?_
      | refine S.block_n ?_
      | refine S.block_x ?_; conv => lhs; whnf
      | refine S.block_r ?_
      | refine S.after_x ?_
      | refine S.after_r ?_
      | refine S.skip ?_
      | refine S.exit ?_
      | refine S.ret ?_
      | refine br_lt ?_; conv => lhs; whnf
      | refine br_lf ?_; conv => lhs; whnf
      | refine br_t (by assumption) ?_; conv => lhs; whnf
      | refine br_f (by assumption) ?_; conv => lhs; whnf
      | refine req_i (by with_reducible assumption) ?_; conv => lhs; whnf
      | (refine br_nd (fun _ => ?_) (fun _ => ?_) <;> conv => lhs; whnf)
      | (refine br_d (fun _ => ?_) (fun _ => ?_) <;> conv => lhs; whnf)
      | (refine br_n (fun _ => ?_) (fun _ => ?_) <;> conv => lhs; whnf)
      | (refine br_c (fun _ => ?_) (fun _ => ?_) <;> conv => lhs; whnf)
      | refine req_c fun _ => ?_; conv => lhs; whnf
      | refine req_i (by assumption) ?_; conv => lhs; whnf
      | refine bnd_c fun _ => ?_; conv => lhs; whnf
      | refine sum_c (fun _ => ?_) (fun _ => ?_)
      | exact ih
      | refine S.loop ?_; conv => lhs; whnf
      | refine S.back_n ?_; conv => lhs; whnf
      | refine S.back_x ?_; conv => lhs; whnf
      | refine S.back_r ?_; conv => lhs; whnf
      | refine S.fin_r ?_; conv => lhs; whnf
      | refine S.fin_n ?_; conv => lhs; whnf
      | exact ret_c rfl
      | exact none_c
      | refine S.draw_op ?_; conv => lhs; whnf; arg 1; whnf
      | refine S.dk_n ?_; conv => lhs; whnf
      | refine S.draw_nil ?_; conv => lhs; whnf
      | refine andK_br ?_
      | refine andK_req ?_
      | refine andK_b ?_
      | refine andK_none ?_
set_option maxRecDepth 60000 in
set_option maxHeartbeats 4000000 in
theorem w23_0 (S : Seals) (k : Nat) : ∀ (n : Nat) {x0 : Int} {x33 : List (List Int)} {x34 : Int} {x35 : Int} {y0 : List Int} {K : CK}, S.lp tt (g23 k) lv23 0 n (loopN Try.f23 0) ⟨[(0, .i .i64 x0), (6, .own 0), (33, .dat (.sl (.int .i64)) x33 true), (34, .i .i64 x34), (35, .i .i64 x35)], [(0, .row (.int .i64) y0 false)], 1, 83⟩ K = bindO (axes_Joined.l0 k n x0 x33 x34 x35 y0) (Sum.elim (fun x : (List Int) => K (.exit 0) ⟨[(6, .own 0)], [(0, .row (.int .i64) x false)], 1, 83⟩) (fun x : Int => K .ret ⟨[(4, .nilsl), (5, .i .i64 x)], [], 0, 83⟩)) := by
  intro n; induction n with
  | zero => intros; rw [S.lp_zero]; exact none_c
  | succ n ih =>
    intros; rw [axes_Joined.l0]; refine S.lp_succ ?_; conv => lhs; arg 5; whnf
    repeat' first
      | refine S.seq_op rfl ?_; conv => lhs; whnf
      | refine S.op_n ?_; conv => lhs; whnf
      | refine S.seq_nil ?_
      | refine S.reg_n ?_
      | refine S.region rfl ?_
      | refine S.two ?_
      | refine S.blok ?_
      | refine S.cond rfl ?_
      | refine S.after_n ?_
      | refine S.block_n ?_
      | refine S.block_x ?_; conv => lhs; whnf
      | refine S.block_r ?_
      | refine S.after_x ?_
      | refine S.after_r ?_
      | refine S.skip ?_
      | refine S.exit ?_
      | refine S.ret ?_
      | refine br_lt ?_; conv => lhs; whnf
      | refine br_lf ?_; conv => lhs; whnf
      | refine br_t (by assumption) ?_; conv => lhs; whnf
      | refine br_f (by assumption) ?_; conv => lhs; whnf
      | refine req_i (by with_reducible assumption) ?_; conv => lhs; whnf
      | (refine br_nd (fun _ => ?_) (fun _ => ?_) <;> conv => lhs; whnf)
      | (refine br_d (fun _ => ?_) (fun _ => ?_) <;> conv => lhs; whnf)
      | (refine br_n (fun _ => ?_) (fun _ => ?_) <;> conv => lhs; whnf)
      | (refine br_c (fun _ => ?_) (fun _ => ?_) <;> conv => lhs; whnf)
      | refine req_c fun _ => ?_; conv => lhs; whnf
      | refine req_i (by assumption) ?_; conv => lhs; whnf
      | refine bnd_c fun _ => ?_; conv => lhs; whnf
      | refine sum_c (fun _ => ?_) (fun _ => ?_)
      | refine S.region_d (id := 16) (ds := [0, 0, 3, 7, 0, 0, 48, 112, 255, 511, 1023]) (mds := [[], [], [], [], [], [], [], [], [], [], [0]]) (hm := [(10, [0])]) (by kernel_rfl) (by kernel_rfl) rfl rfl ?_
      | exact ih
      | refine (w23_1 S k _).trans ?_
      | refine S.loop ?_; conv => lhs; whnf
      | refine S.back_n ?_; conv => lhs; whnf
      | refine S.back_x ?_; conv => lhs; whnf
      | refine S.back_r ?_; conv => lhs; whnf
      | refine S.fin_r ?_; conv => lhs; whnf
      | refine S.fin_n ?_; conv => lhs; whnf
      | exact ret_c rfl
      | exact none_c
      | refine S.draw_op ?_; conv => lhs; whnf; arg 1; whnf
      | refine S.dk_n ?_; conv => lhs; whnf
      | refine S.draw_nil ?_; conv => lhs; whnf
      | refine andK_br ?_
      | refine andK_req ?_
      | refine andK_b ?_
      | refine andK_none ?_
set_option maxRecDepth 60000 in
set_option maxHeartbeats 4000000 in
theorem r23 (S : Seals) (k : Nat) (a0 : Int) (a1 : List (List Int)) : runF tt (g23 k) lv23 Try.f23 k [.i .i64 a0, .dat (.sl (.int .i64)) a1 true] [] = bindO (axes_Joined.f k a0 a1) (fun x : Int × (List Int) => some (.tup [.own 0, .i .i64 x.1], [.row (.int .i64) x.2 false])) := by
  unfold axes_Joined.f; refine S.run_s rfl rfl ?_; conv => lhs; arg 5; whnf
  conv => lhs; arg 6; whnf
  repeat' first
    | refine S.seq_op rfl ?_; conv => lhs; whnf
    | refine S.op_n ?_; conv => lhs; whnf
    | refine S.seq_nil ?_
    | refine S.reg_n ?_
    | refine S.region rfl ?_
    | refine S.two ?_
    | refine S.blok ?_
    | refine S.cond rfl ?_
    | refine S.after_n ?_
    | refine S.block_n ?_
    | refine S.block_x ?_; conv => lhs; whnf
    | refine S.block_r ?_
    | refine S.after_x ?_
    | refine S.after_r ?_
    | refine S.skip ?_
    | refine S.exit ?_
    | refine S.ret ?_
    | refine br_lt ?_; conv => lhs; whnf
    | refine br_lf ?_; conv => lhs; whnf
    | refine br_t (by assumption) ?_; conv => lhs; whnf
    | refine br_f (by assumption) ?_; conv => lhs; whnf
    | refine req_i (by with_reducible assumption) ?_; conv => lhs; whnf
    | (refine br_nd (fun _ => ?_) (fun _ => ?_) <;> conv => lhs; whnf)
    | (refine br_d (fun _ => ?_) (fun _ => ?_) <;> conv => lhs; whnf)
    | (refine br_n (fun _ => ?_) (fun _ => ?_) <;> conv => lhs; whnf)
    | (refine br_c (fun _ => ?_) (fun _ => ?_) <;> conv => lhs; whnf)
    | refine req_c fun _ => ?_; conv => lhs; whnf
    | refine req_i (by assumption) ?_; conv => lhs; whnf
    | refine bnd_c fun _ => ?_; conv => lhs; whnf
    | refine sum_c (fun _ => ?_) (fun _ => ?_)
    | refine (w23_0 S k _).trans ?_
    | refine S.loop ?_; conv => lhs; whnf
    | refine S.back_n ?_; conv => lhs; whnf
    | refine S.back_x ?_; conv => lhs; whnf
    | refine S.back_r ?_; conv => lhs; whnf
    | refine S.fin_r ?_; conv => lhs; whnf
    | refine S.fin_n ?_; conv => lhs; whnf
    | exact ret_c rfl
    | exact none_c
    | refine S.draw_op ?_; conv => lhs; whnf; arg 1; whnf
    | refine S.dk_n ?_; conv => lhs; whnf
    | refine S.draw_nil ?_; conv => lhs; whnf
    | refine andK_br ?_
    | refine andK_req ?_
    | refine andK_b ?_
    | refine andK_none ?_
def sp23 (k : Nat) : FSpec := ⟨[.rd, .rd], fun args objs K => match args, objs with | [.i .i64 a0, v0], [] => listB (.sl (.int .i64)) true v0 fun a1 => bindO (axes_Joined.f k a0 a1) fun x : Int × (List Int) => K (.tup [.own 0, .i .i64 x.1]) [.row (.int .i64) x.2 false] | _, _ => none⟩
theorem snd23 (k : Nat) : Sound Try.prog 23 (sp23 k) := by
  refine ⟨⟨Try.f23, rfl, by kernel_rfl, rfl⟩, fun args objs K r h => ?_⟩
  unfold sp23 at h; dsimp only at h; split at h
  · rename_i a0 v0
    obtain ⟨a1, h9, ca1⟩ := listB_spec h; clear h
    have h := h9; clear h9
    obtain ⟨x, hx, h⟩ := bindO_some h
    exact ⟨_, _, h, FnOK.args2 (relL_c rel_i (relL_c ca1 relL_n)) (fn_run tab_ok (en23 k) mixed rfl ((r23 seals k a0 a1).trans (bindO_eq hx)))⟩
  · cases h
end Go.Vm

/- shape_Index -/
namespace Go.Vm
open Go Go.Proofs Go.Pf
def lv55 : Live := look ⟨[], [], [], [], []⟩ [(5, ⟨[0, 5, 18, 19, 20], [5], [4], [], []⟩)]
noncomputable def g55 (k : Nat) : FEnv := (addF 44 (sp44 k) (fun _ => none))
theorem en55 (k : Nat) : EnvOK Try.prog (g55 k) := (envOK_add (snd44 k) (envOK_nil _))
set_option maxRecDepth 60000 in
set_option maxHeartbeats 4000000 in
theorem w55_0 (S : Seals) (k : Nat) : ∀ (n : Nat) {x0 : List Int} {x5 : Int} {x18 : List Int} {x19 : Int} {x20 : Int} {K : CK}, S.lp tt (g55 k) lv55 0 n (loopN Try.f55 0) ⟨[(0, .dat (.int .i64) x0 true), (5, .i .i64 x5), (18, .dat (.int .i64) x18 true), (19, .i .i64 x19), (20, .i .i64 x20)], [], 0, 45⟩ K = bindO (shape_Index.l0 n x0 x5 x18 x19 x20) (Sum.elim (fun x : Int => K (.exit 0) ⟨[(5, .i .i64 x)], [], 0, 45⟩) (fun x : Int => K .ret ⟨[(4, .i .i64 x)], [], 0, 45⟩)) := by
  intro n; induction n with
  | zero => intros; rw [S.lp_zero]; exact none_c
  | succ n ih =>
    intros; rw [shape_Index.l0]; refine S.lp_succ ?_; conv => lhs; arg 5; whnf
    repeat' first
      | refine S.seq_op rfl ?_; conv => lhs; whnf
      | refine S.op_n ?_; conv => lhs; whnf
      | refine S.seq_nil ?_
      | refine S.reg_n ?_
      | refine S.region rfl ?_
      | refine S.two ?_
      | refine S.blok ?_
      | refine S.cond rfl ?_
      | refine S.after_n ?_
      | refine S.block_n ?_
      | refine S.block_x ?_; conv => lhs; whnf
      | refine S.block_r ?_
      | refine S.after_x ?_
      | refine S.after_r ?_
      | refine S.skip ?_
      | refine S.exit ?_
      | refine S.ret ?_
      | refine br_lt ?_; conv => lhs; whnf
      | refine br_lf ?_; conv => lhs; whnf
      | refine br_t (by assumption) ?_; conv => lhs; whnf
      | refine br_f (by assumption) ?_; conv => lhs; whnf
      | refine req_i (by with_reducible assumption) ?_; conv => lhs; whnf
      | (refine br_nd (fun _ => ?_) (fun _ => ?_) <;> conv => lhs; whnf)
      | (refine br_d (fun _ => ?_) (fun _ => ?_) <;> conv => lhs; whnf)
      | (refine br_n (fun _ => ?_) (fun _ => ?_) <;> conv => lhs; whnf)
      | (refine br_c (fun _ => ?_) (fun _ => ?_) <;> conv => lhs; whnf)
      | refine req_c fun _ => ?_; conv => lhs; whnf
      | refine req_i (by assumption) ?_; conv => lhs; whnf
      | refine bnd_c fun _ => ?_; conv => lhs; whnf
      | refine sum_c (fun _ => ?_) (fun _ => ?_)
      | exact ih
      | refine S.loop ?_; conv => lhs; whnf
      | refine S.back_n ?_; conv => lhs; whnf
      | refine S.back_x ?_; conv => lhs; whnf
      | refine S.back_r ?_; conv => lhs; whnf
      | refine S.fin_r ?_; conv => lhs; whnf
      | refine S.fin_n ?_; conv => lhs; whnf
      | exact ret_c rfl
      | exact none_c
      | refine S.draw_op ?_; conv => lhs; whnf; arg 1; whnf
      | refine S.dk_n ?_; conv => lhs; whnf
      | refine S.draw_nil ?_; conv => lhs; whnf
      | refine andK_br ?_
      | refine andK_req ?_
      | refine andK_b ?_
      | refine andK_none ?_
set_option maxRecDepth 60000 in
set_option maxHeartbeats 4000000 in
theorem r55 (S : Seals) (k : Nat) (a0 : List Int) (a1 : List Int) : runF tt (g55 k) lv55 Try.f55 k [.dat (.int .i64) a0 true, .dat (.int .i64) a1 true] [] = bindO (shape_Index.f k a0 a1) (fun x : Int => some (.i .i64 x, [])) := by
  unfold shape_Index.f; refine S.run_s rfl rfl ?_; conv => lhs; arg 5; whnf
  conv => lhs; arg 6; whnf
  repeat' first
    | refine S.seq_op rfl ?_; conv => lhs; whnf
    | refine S.op_n ?_; conv => lhs; whnf
    | refine S.seq_nil ?_
    | refine S.reg_n ?_
    | refine S.region rfl ?_
    | refine S.two ?_
    | refine S.blok ?_
    | refine S.cond rfl ?_
    | refine S.after_n ?_
    | refine S.block_n ?_
    | refine S.block_x ?_; conv => lhs; whnf
    | refine S.block_r ?_
    | refine S.after_x ?_
    | refine S.after_r ?_
    | refine S.skip ?_
    | refine S.exit ?_
    | refine S.ret ?_
    | refine br_lt ?_; conv => lhs; whnf
    | refine br_lf ?_; conv => lhs; whnf
    | refine br_t (by assumption) ?_; conv => lhs; whnf
    | refine br_f (by assumption) ?_; conv => lhs; whnf
    | refine req_i (by with_reducible assumption) ?_; conv => lhs; whnf
    | (refine br_nd (fun _ => ?_) (fun _ => ?_) <;> conv => lhs; whnf)
    | (refine br_d (fun _ => ?_) (fun _ => ?_) <;> conv => lhs; whnf)
    | (refine br_n (fun _ => ?_) (fun _ => ?_) <;> conv => lhs; whnf)
    | (refine br_c (fun _ => ?_) (fun _ => ?_) <;> conv => lhs; whnf)
    | refine req_c fun _ => ?_; conv => lhs; whnf
    | refine req_i (by assumption) ?_; conv => lhs; whnf
    | refine bnd_c fun _ => ?_; conv => lhs; whnf
    | refine sum_c (fun _ => ?_) (fun _ => ?_)
    | refine (w55_0 S k _).trans ?_
    | refine S.loop ?_; conv => lhs; whnf
    | refine S.back_n ?_; conv => lhs; whnf
    | refine S.back_x ?_; conv => lhs; whnf
    | refine S.back_r ?_; conv => lhs; whnf
    | refine S.fin_r ?_; conv => lhs; whnf
    | refine S.fin_n ?_; conv => lhs; whnf
    | exact ret_c rfl
    | exact none_c
    | refine S.draw_op ?_; conv => lhs; whnf; arg 1; whnf
    | refine S.dk_n ?_; conv => lhs; whnf
    | refine S.draw_nil ?_; conv => lhs; whnf
    | refine andK_br ?_
    | refine andK_req ?_
    | refine andK_b ?_
    | refine andK_none ?_
def sp55 (k : Nat) : FSpec := ⟨[.rd, .rd], fun args objs K => match args, objs with | [v0, v1], [] => listB (.int .i64) true v0 fun a0 => listB (.int .i64) true v1 fun a1 => bindO (shape_Index.f k a0 a1) fun x : Int => K (.i .i64 x) [] | _, _ => none⟩
theorem snd55 (k : Nat) : Sound Try.prog 55 (sp55 k) := by
  refine ⟨⟨Try.f55, rfl, by kernel_rfl, rfl⟩, fun args objs K r h => ?_⟩
  unfold sp55 at h; dsimp only at h; split at h
  · rename_i v0 v1
    obtain ⟨a0, h9, ca0⟩ := listB_spec h; clear h
    have h := h9; clear h9
    obtain ⟨a1, h9, ca1⟩ := listB_spec h; clear h
    have h := h9; clear h9
    obtain ⟨x, hx, h⟩ := bindO_some h
    exact ⟨_, _, h, FnOK.args2 (relL_c ca0 (relL_c ca1 relL_n)) (fn_run tab_ok (en55 k) mixed rfl ((r55 seals k a0 a1).trans (bindO_eq hx)))⟩
  · cases h
end Go.Vm

/- tensor_place -/
namespace Go.Vm
open Go Go.Proofs Go.Pf
def lv49 : Live := look ⟨[], [], [], [], []⟩ []
noncomputable def g49 (k : Nat) : FEnv := (addF 55 (sp55 k) (addF 22 (sp22 k) (fun _ => none)))
theorem en49 (k : Nat) : EnvOK Try.prog (g49 k) := (envOK_add (snd55 k) (envOK_add (snd22 k) (envOK_nil _)))
set_option maxRecDepth 60000 in
set_option maxHeartbeats 4000000 in
theorem r49 (S : Seals) (k : Nat) (a0_0 : List Int) (a0_1 : List Int) (a1 : List Int) : runF tt (g49 k) lv49 Try.f49 k [.agg [.dat (.int .i64) a0_0 true, .dat (.int .i64) a0_1 true], .dat (.int .i64) a1 true] [] = bindO (tensor_place.f k a0_0 a0_1 a1) (fun x : Int => some (.i .i64 x, [])) := by
  unfold tensor_place.f; refine S.run_s rfl rfl ?_; conv => lhs; arg 5; whnf
  conv => lhs; arg 6; whnf
  repeat' first
    | refine S.seq_op rfl ?_; conv => lhs; whnf
    | refine S.op_n ?_; conv => lhs; whnf
    | refine S.seq_nil ?_
    | refine S.reg_n ?_
    | refine S.region rfl ?_
    | refine S.two ?_
    | refine S.blok ?_
    | refine S.cond rfl ?_
    | refine S.after_n ?_
    | refine S.block_n ?_
    | refine S.block_x ?_; conv => lhs; whnf
    | refine S.block_r ?_
    | refine S.after_x ?_
    | refine S.after_r ?_
    | refine S.skip ?_
    | refine S.exit ?_
    | refine S.ret ?_
    | refine br_lt ?_; conv => lhs; whnf
    | refine br_lf ?_; conv => lhs; whnf
    | refine br_t (by assumption) ?_; conv => lhs; whnf
    | refine br_f (by assumption) ?_; conv => lhs; whnf
    | refine req_i (by with_reducible assumption) ?_; conv => lhs; whnf
    | (refine br_nd (fun _ => ?_) (fun _ => ?_) <;> conv => lhs; whnf)
    | (refine br_d (fun _ => ?_) (fun _ => ?_) <;> conv => lhs; whnf)
    | (refine br_n (fun _ => ?_) (fun _ => ?_) <;> conv => lhs; whnf)
    | (refine br_c (fun _ => ?_) (fun _ => ?_) <;> conv => lhs; whnf)
    | refine req_c fun _ => ?_; conv => lhs; whnf
    | refine req_i (by assumption) ?_; conv => lhs; whnf
    | refine bnd_c fun _ => ?_; conv => lhs; whnf
    | refine sum_c (fun _ => ?_) (fun _ => ?_)
    | refine S.loop ?_; conv => lhs; whnf
    | refine S.back_n ?_; conv => lhs; whnf
    | refine S.back_x ?_; conv => lhs; whnf
    | refine S.back_r ?_; conv => lhs; whnf
    | refine S.fin_r ?_; conv => lhs; whnf
    | refine S.fin_n ?_; conv => lhs; whnf
    | exact ret_c rfl
    | exact none_c
    | refine S.draw_op ?_; conv => lhs; whnf; arg 1; whnf
    | refine S.dk_n ?_; conv => lhs; whnf
    | refine S.draw_nil ?_; conv => lhs; whnf
    | refine andK_br ?_
    | refine andK_req ?_
    | refine andK_b ?_
    | refine andK_none ?_
def sp49 (k : Nat) : FSpec := ⟨[.rd, .rd], fun args objs K => match args, objs with | [.agg [v0, v1], v2], [] => listB (.int .i64) true v0 fun a0_0 => listB (.int .i64) true v1 fun a0_1 => listB (.int .i64) true v2 fun a1 => bindO (tensor_place.f k a0_0 a0_1 a1) fun x : Int => K (.i .i64 x) [] | _, _ => none⟩
theorem snd49 (k : Nat) : Sound Try.prog 49 (sp49 k) := by
  refine ⟨⟨Try.f49, rfl, by kernel_rfl, rfl⟩, fun args objs K r h => ?_⟩
  unfold sp49 at h; dsimp only at h; split at h
  · rename_i v0 v1 v2
    obtain ⟨a0_0, h9, ca0_0⟩ := listB_spec h; clear h
    have h := h9; clear h9
    obtain ⟨a0_1, h9, ca0_1⟩ := listB_spec h; clear h
    have h := h9; clear h9
    obtain ⟨a1, h9, ca1⟩ := listB_spec h; clear h
    have h := h9; clear h9
    obtain ⟨x, hx, h⟩ := bindO_some h
    exact ⟨_, _, h, FnOK.args2 (relL_c (rel_agg (relL_c ca0_0 (relL_c ca0_1 relL_n))) (relL_c ca1 relL_n)) (fn_run tab_ok (en49 k) mixed rfl ((r49 seals k a0_0 a0_1 a1).trans (bindO_eq hx)))⟩
  · cases h
end Go.Vm

/- tensor_Get -/
namespace Go.Vm
open Go Go.Proofs Go.Pf
def lv34 : Live := look ⟨[], [], [], [], []⟩ []
noncomputable def g34 (k : Nat) : FEnv := (addF 49 (sp49 k) (fun _ => none))
theorem en34 (k : Nat) : EnvOK Try.prog (g34 k) := (envOK_add (snd49 k) (envOK_nil _))
set_option maxRecDepth 60000 in
set_option maxHeartbeats 4000000 in
theorem r34 (S : Seals) (k : Nat) (a0_0 : List Int) (a0_1 : List Int) (a1 : List Int) : runF tt (g34 k) lv34 Try.f34 k [.agg [.dat (.int .i64) a0_0 true, .dat (.int .i64) a0_1 true], .dat (.int .i64) a1 true] [] = bindO (tensor_Get.f k a0_0 a0_1 a1) (fun x : Int × Bool => some (.tup [.i .i64 x.1, .b x.2], [])) := by
  unfold tensor_Get.f; refine S.run_s rfl rfl ?_; conv => lhs; arg 5; whnf
  conv => lhs; arg 6; whnf
  repeat' first
    | refine S.seq_op rfl ?_; conv => lhs; whnf
    | refine S.op_n ?_; conv => lhs; whnf
    | refine S.seq_nil ?_
    | refine S.reg_n ?_
    | refine S.region rfl ?_
    | refine S.two ?_
    | refine S.blok ?_
    | refine S.cond rfl ?_
    | refine S.after_n ?_
    | refine S.block_n ?_
    | refine S.block_x ?_; conv => lhs; whnf
    | refine S.block_r ?_
    | refine S.after_x ?_
    | refine S.after_r ?_
    | refine S.skip ?_
    | refine S.exit ?_
    | refine S.ret ?_
    | refine br_lt ?_; conv => lhs; whnf
    | refine br_lf ?_; conv => lhs; whnf
    | refine br_t (by assumption) ?_; conv => lhs; whnf
    | refine br_f (by assumption) ?_; conv => lhs; whnf
    | refine req_i (by with_reducible assumption) ?_; conv => lhs; whnf
    | (refine br_nd (fun _ => ?_) (fun _ => ?_) <;> conv => lhs; whnf)
    | (refine br_d (fun _ => ?_) (fun _ => ?_) <;> conv => lhs; whnf)
    | (refine br_n (fun _ => ?_) (fun _ => ?_) <;> conv => lhs; whnf)
    | (refine br_c (fun _ => ?_) (fun _ => ?_) <;> conv => lhs; whnf)
    | refine req_c fun _ => ?_; conv => lhs; whnf
    | refine req_i (by assumption) ?_; conv => lhs; whnf
    | refine bnd_c fun _ => ?_; conv => lhs; whnf
    | refine sum_c (fun _ => ?_) (fun _ => ?_)
    | refine S.loop ?_; conv => lhs; whnf
    | refine S.back_n ?_; conv => lhs; whnf
    | refine S.back_x ?_; conv => lhs; whnf
    | refine S.back_r ?_; conv => lhs; whnf
    | refine S.fin_r ?_; conv => lhs; whnf
    | refine S.fin_n ?_; conv => lhs; whnf
    | exact ret_c rfl
    | exact none_c
    | refine S.draw_op ?_; conv => lhs; whnf; arg 1; whnf
    | refine S.dk_n ?_; conv => lhs; whnf
    | refine S.draw_nil ?_; conv => lhs; whnf
    | refine andK_br ?_
    | refine andK_req ?_
    | refine andK_b ?_
    | refine andK_none ?_
def sp34 (k : Nat) : FSpec := ⟨[.rd, .rd], fun args objs K => match args, objs with | [.agg [v0, v1], v2], [] => listB (.int .i64) true v0 fun a0_0 => listB (.int .i64) true v1 fun a0_1 => listB (.int .i64) true v2 fun a1 => bindO (tensor_Get.f k a0_0 a0_1 a1) fun x : Int × Bool => K (.tup [.i .i64 x.1, .b x.2]) [] | _, _ => none⟩
theorem snd34 (k : Nat) : Sound Try.prog 34 (sp34 k) := by
  refine ⟨⟨Try.f34, rfl, by kernel_rfl, rfl⟩, fun args objs K r h => ?_⟩
  unfold sp34 at h; dsimp only at h; split at h
  · rename_i v0 v1 v2
    obtain ⟨a0_0, h9, ca0_0⟩ := listB_spec h; clear h
    have h := h9; clear h9
    obtain ⟨a0_1, h9, ca0_1⟩ := listB_spec h; clear h
    have h := h9; clear h9
    obtain ⟨a1, h9, ca1⟩ := listB_spec h; clear h
    have h := h9; clear h9
    obtain ⟨x, hx, h⟩ := bindO_some h
    exact ⟨_, _, h, FnOK.args2 (relL_c (rel_agg (relL_c ca0_0 (relL_c ca0_1 relL_n))) (relL_c ca1 relL_n)) (fn_run tab_ok (en34 k) mixed rfl ((r34 seals k a0_0 a0_1 a1).trans (bindO_eq hx)))⟩
  · cases h
end Go.Vm

/- axes_at -/
namespace Go.Vm
open Go Go.Proofs Go.Pf
def lv26 : Live := look ⟨[], [], [], [], []⟩ []
noncomputable def g26 (k : Nat) : FEnv := (addF 34 (sp34 k) (fun _ => none))
theorem en26 (k : Nat) : EnvOK Try.prog (g26 k) := (envOK_add (snd34 k) (envOK_nil _))
set_option maxRecDepth 60000 in
set_option maxHeartbeats 4000000 in
theorem r26 (S : Seals) (k : Nat) (a0_0 : List Int) (a0_1 : List Int) (a1 : List Int) : runF tt (g26 k) lv26 Try.f26 k [.agg [.dat (.int .i64) a0_0 true, .dat (.int .i64) a0_1 true], .dat (.int .i64) a1 true] [] = bindO (axes_at.f k a0_0 a0_1 a1) (fun x : Int => some (.i .i64 x, [])) := by
  unfold axes_at.f; refine S.run_s rfl rfl ?_; conv => lhs; arg 5; whnf
  conv => lhs; arg 6; whnf
  repeat' first
    | refine S.seq_op rfl ?_; conv => lhs; whnf
    | refine S.op_n ?_; conv => lhs; whnf
    | refine S.seq_nil ?_
    | refine S.reg_n ?_
    | refine S.region rfl ?_
    | refine S.two ?_
    | refine S.blok ?_
    | refine S.cond rfl ?_
    | refine S.after_n ?_
    | refine S.block_n ?_
    | refine S.block_x ?_; conv => lhs; whnf
    | refine S.block_r ?_
    | refine S.after_x ?_
    | refine S.after_r ?_
    | refine S.skip ?_
    | refine S.exit ?_
    | refine S.ret ?_
    | refine br_lt ?_; conv => lhs; whnf
    | refine br_lf ?_; conv => lhs; whnf
    | refine br_t (by assumption) ?_; conv => lhs; whnf
    | refine br_f (by assumption) ?_; conv => lhs; whnf
    | refine req_i (by with_reducible assumption) ?_; conv => lhs; whnf
    | (refine br_nd (fun _ => ?_) (fun _ => ?_) <;> conv => lhs; whnf)
    | (refine br_d (fun _ => ?_) (fun _ => ?_) <;> conv => lhs; whnf)
    | (refine br_n (fun _ => ?_) (fun _ => ?_) <;> conv => lhs; whnf)
    | (refine br_c (fun _ => ?_) (fun _ => ?_) <;> conv => lhs; whnf)
    | refine req_c fun _ => ?_; conv => lhs; whnf
    | refine req_i (by assumption) ?_; conv => lhs; whnf
    | refine bnd_c fun _ => ?_; conv => lhs; whnf
    | refine sum_c (fun _ => ?_) (fun _ => ?_)
    | refine S.loop ?_; conv => lhs; whnf
    | refine S.back_n ?_; conv => lhs; whnf
    | refine S.back_x ?_; conv => lhs; whnf
    | refine S.back_r ?_; conv => lhs; whnf
    | refine S.fin_r ?_; conv => lhs; whnf
    | refine S.fin_n ?_; conv => lhs; whnf
    | exact ret_c rfl
    | exact none_c
    | refine S.draw_op ?_; conv => lhs; whnf; arg 1; whnf
    | refine S.dk_n ?_; conv => lhs; whnf
    | refine S.draw_nil ?_; conv => lhs; whnf
    | refine andK_br ?_
    | refine andK_req ?_
    | refine andK_b ?_
    | refine andK_none ?_
def sp26 (k : Nat) : FSpec := ⟨[.rd, .rd], fun args objs K => match args, objs with | [.agg [v0, v1], v2], [] => listB (.int .i64) true v0 fun a0_0 => listB (.int .i64) true v1 fun a0_1 => listB (.int .i64) true v2 fun a1 => bindO (axes_at.f k a0_0 a0_1 a1) fun x : Int => K (.i .i64 x) [] | _, _ => none⟩
theorem snd26 (k : Nat) : Sound Try.prog 26 (sp26 k) := by
  refine ⟨⟨Try.f26, rfl, by kernel_rfl, rfl⟩, fun args objs K r h => ?_⟩
  unfold sp26 at h; dsimp only at h; split at h
  · rename_i v0 v1 v2
    obtain ⟨a0_0, h9, ca0_0⟩ := listB_spec h; clear h
    have h := h9; clear h9
    obtain ⟨a0_1, h9, ca0_1⟩ := listB_spec h; clear h
    have h := h9; clear h9
    obtain ⟨a1, h9, ca1⟩ := listB_spec h; clear h
    have h := h9; clear h9
    obtain ⟨x, hx, h⟩ := bindO_some h
    exact ⟨_, _, h, FnOK.args2 (relL_c (rel_agg (relL_c ca0_0 (relL_c ca0_1 relL_n))) (relL_c ca1 relL_n)) (fn_run tab_ok (en26 k) mixed rfl ((r26 seals k a0_0 a0_1 a1).trans (bindO_eq hx)))⟩
  · cases h
end Go.Vm

/- axes_Join_1 -/
namespace Go.Vm
open Go Go.Proofs Go.Pf
def lv25 : Live := look ⟨[], [], [], [], []⟩ [(2, ⟨[0, 2, 7, 8, 9], [], [4], [], []⟩)]
noncomputable def g25 (k : Nat) : FEnv := (addF 26 (sp26 k) (fun _ => none))
theorem en25 (k : Nat) : EnvOK Try.prog (g25 k) := (envOK_add (snd26 k) (envOK_nil _))
set_option maxRecDepth 60000 in
set_option maxHeartbeats 4000000 in
theorem w25_0 (S : Seals) (k : Nat) : ∀ (n : Nat) {x7 : List ((List Int) × (List Int))} {x8 : Int} {x9 : Int} {y0 : List Int} {y1 : List ((List Int) × (List Int))} {y2 : Int} {K : CK}, S.lp tt (g25 k) lv25 3 n (loopN Try.f25 0) ⟨[(0, .own 0), (2, .ptr 2 0), (7, .dat (.pair (.sl (.int .i64)) (.sl (.int .i64))) x7 false), (8, .i .i64 x8), (9, .i .i64 x9)], [(0, .row (.int .i64) y0 false), (1, .var [.dat (.pair (.sl (.int .i64)) (.sl (.int .i64))) y1 false]), (2, .var [.i .i64 y2])], 3, 38⟩ K = bindO (axes_Join_1.l0 k n x7 x8 x9 y0 y1 y2) (Sum.elim (fun x : (List Int) => K (.exit 0) ⟨[], [(0, .row (.int .i64) x false), (1, .var [.dat (.pair (.sl (.int .i64)) (.sl (.int .i64))) y1 false]), (2, .var [.i .i64 y2])], 3, 38⟩) (fun x : Int × (List Int) => K .ret ⟨[(4, .i .i64 x.1)], [(0, .row (.int .i64) x.2 false), (1, .var [.dat (.pair (.sl (.int .i64)) (.sl (.int .i64))) y1 false]), (2, .var [.i .i64 y2])], 3, 38⟩)) := by
  intro n; induction n with
  | zero => intros; rw [S.lp_zero]; exact none_c
  | succ n ih =>
    intros; rw [axes_Join_1.l0]; refine S.lp_succ ?_; conv => lhs; arg 5; whnf
    repeat' first
      | refine S.seq_op rfl ?_; conv => lhs; whnf
      | refine S.op_n ?_; conv => lhs; whnf
      | refine S.seq_nil ?_
      | refine S.reg_n ?_
      | refine S.region rfl ?_
      | refine S.two ?_
      | refine S.blok ?_
      | refine S.cond rfl ?_
      | refine S.after_n ?_
      | refine S.block_n ?_
      | refine S.block_x ?_; conv => lhs; whnf
      | refine S.block_r ?_
      | refine S.after_x ?_
      | refine S.after_r ?_
      | refine S.skip ?_
      | refine S.exit ?_
      | refine S.ret ?_
      | refine br_lt ?_; conv => lhs; whnf
      | refine br_lf ?_; conv => lhs; whnf
      | refine br_t (by assumption) ?_; conv => lhs; whnf
      | refine br_f (by assumption) ?_; conv => lhs; whnf
      | refine req_i (by with_reducible assumption) ?_; conv => lhs; whnf
      | (refine br_nd (fun _ => ?_) (fun _ => ?_) <;> conv => lhs; whnf)
      | (refine br_d (fun _ => ?_) (fun _ => ?_) <;> conv => lhs; whnf)
      | (refine br_n (fun _ => ?_) (fun _ => ?_) <;> conv => lhs; whnf)
      | (refine br_c (fun _ => ?_) (fun _ => ?_) <;> conv => lhs; whnf)
      | refine req_c fun _ => ?_; conv => lhs; whnf
      | refine req_i (by assumption) ?_; conv => lhs; whnf
      | refine bnd_c fun _ => ?_; conv => lhs; whnf
      | refine sum_c (fun _ => ?_) (fun _ => ?_)
      | refine S.region_d (id := 4) (ds := [0, 0, 3, 7, 0, 16, 0, 112, 240, 511]) (mds := [[], [], [], [], [], [], [], [], [], []]) (hm := []) (by kernel_rfl) (by kernel_rfl) rfl rfl ?_
      | refine S.region_d (id := 6) (ds := [0, 0, 3, 7, 0, 16, 0, 112, 240, 511, 1023, 2047]) (mds := [[], [], [], [], [], [], [], [], [], [], [], [0]]) (hm := [(11, [0])]) (by kernel_rfl) (by kernel_rfl) rfl rfl ?_
      | exact ih
      | refine S.loop ?_; conv => lhs; whnf
      | refine S.back_n ?_; conv => lhs; whnf
      | refine S.back_x ?_; conv => lhs; whnf
      | refine S.back_r ?_; conv => lhs; whnf
      | refine S.fin_r ?_; conv => lhs; whnf
      | refine S.fin_n ?_; conv => lhs; whnf
      | exact ret_c rfl
      | exact none_c
      | refine S.draw_op ?_; conv => lhs; whnf; arg 1; whnf
      | refine S.dk_n ?_; conv => lhs; whnf
      | refine S.draw_nil ?_; conv => lhs; whnf
      | refine andK_br ?_
      | refine andK_req ?_
      | refine andK_b ?_
      | refine andK_none ?_
set_option maxRecDepth 60000 in
set_option maxHeartbeats 4000000 in
theorem r25 (S : Seals) (k : Nat) (o0 : List Int) (o1 : List ((List Int) × (List Int))) (o2 : Int) : runF tt (g25 k) lv25 Try.f25 k [.own 0, .ptr 1 0, .ptr 2 0] [.row (.int .i64) o0 false, .var [.dat (.pair (.sl (.int .i64)) (.sl (.int .i64))) o1 false], .var [.i .i64 o2]] = bindO (axes_Join_1.f k o0 o1 o2) (fun x : Int × (List Int) => some (.i .i64 x.1, [.row (.int .i64) x.2 false, .var [.dat (.pair (.sl (.int .i64)) (.sl (.int .i64))) o1 false], .var [.i .i64 o2]])) := by
  unfold axes_Join_1.f; refine S.run_s rfl rfl ?_; conv => lhs; arg 5; whnf
  conv => lhs; arg 6; whnf
  repeat' first
    | refine S.seq_op rfl ?_; conv => lhs; whnf
    | refine S.op_n ?_; conv => lhs; whnf
    | refine S.seq_nil ?_
    | refine S.reg_n ?_
    | refine S.region rfl ?_
    | refine S.two ?_
    | refine S.blok ?_
    | refine S.cond rfl ?_
    | refine S.after_n ?_
    | refine S.block_n ?_
    | refine S.block_x ?_; conv => lhs; whnf
    | refine S.block_r ?_
    | refine S.after_x ?_
    | refine S.after_r ?_
    | refine S.skip ?_
    | refine S.exit ?_
    | refine S.ret ?_
    | refine br_lt ?_; conv => lhs; whnf
    | refine br_lf ?_; conv => lhs; whnf
    | refine br_t (by assumption) ?_; conv => lhs; whnf
    | refine br_f (by assumption) ?_; conv => lhs; whnf
    | refine req_i (by with_reducible assumption) ?_; conv => lhs; whnf
    | (refine br_nd (fun _ => ?_) (fun _ => ?_) <;> conv => lhs; whnf)
    | (refine br_d (fun _ => ?_) (fun _ => ?_) <;> conv => lhs; whnf)
    | (refine br_n (fun _ => ?_) (fun _ => ?_) <;> conv => lhs; whnf)
    | (refine br_c (fun _ => ?_) (fun _ => ?_) <;> conv => lhs; whnf)
    | refine req_c fun _ => ?_; conv => lhs; whnf
    | refine req_i (by assumption) ?_; conv => lhs; whnf
    | refine bnd_c fun _ => ?_; conv => lhs; whnf
    | refine sum_c (fun _ => ?_) (fun _ => ?_)
    | refine (w25_0 S k _).trans ?_
    | refine S.loop ?_; conv => lhs; whnf
    | refine S.back_n ?_; conv => lhs; whnf
    | refine S.back_x ?_; conv => lhs; whnf
    | refine S.back_r ?_; conv => lhs; whnf
    | refine S.fin_r ?_; conv => lhs; whnf
    | refine S.fin_n ?_; conv => lhs; whnf
    | exact ret_c rfl
    | exact none_c
    | refine S.draw_op ?_; conv => lhs; whnf; arg 1; whnf
    | refine S.dk_n ?_; conv => lhs; whnf
    | refine S.draw_nil ?_; conv => lhs; whnf
    | refine andK_br ?_
    | refine andK_req ?_
    | refine andK_b ?_
    | refine andK_none ?_
def sp25 (k : Nat) : FSpec := ⟨[.kp, .kp, .kp], fun args objs K => match args, objs with | [.own 0, .ptr 1 0, .ptr 2 0], [w0, .var [v0], .var [.i .i64 o2]] => rowK (.int .i64) false w0 fun o0 => datK (.pair (.sl (.int .i64)) (.sl (.int .i64))) false v0 fun o1 => bindO (axes_Join_1.f k o0 o1 o2) fun x : Int × (List Int) => K (.i .i64 x.1) [.row (.int .i64) x.2 false, .var [.dat (.pair (.sl (.int .i64)) (.sl (.int .i64))) o1 false], .var [.i .i64 o2]] | _, _ => none⟩
theorem snd25 (k : Nat) : Sound Try.prog 25 (sp25 k) := by
  refine ⟨⟨Try.f25, rfl, by kernel_rfl, rfl⟩, fun args objs K r h => ?_⟩
  unfold sp25 at h; dsimp only at h; split at h
  · rename_i w0 v0 o2
    obtain ⟨o0, h9, eo0⟩ := rowK_spec h; clear h; subst eo0
    have h := h9; clear h9
    obtain ⟨o1, h9, eo1⟩ := datK_spec h; clear h; subst eo1
    have h := h9; clear h9
    obtain ⟨x, hx, h⟩ := bindO_some h
    exact ⟨_, _, h, FnOK.args2 (relL_c rel_i (relL_c rel_i (relL_c rel_i relL_n))) (fn_run tab_ok (en25 k) mixed rfl ((r25 seals k o0 o1 o2).trans (bindO_eq hx)))⟩
  · cases h
end Go.Vm

/- shape_Place -/
namespace Go.Vm
open Go Go.Proofs Go.Pf
def lv47 : Live := look ⟨[], [], [], [], []⟩ [(5, ⟨[0, 1, 5, 6], [5], [4], [], []⟩), (1000000, ⟨[], [], [], [(4, 0, .own (.int .i64))], []⟩)]
noncomputable def g47 (k : Nat) : FEnv := (addF 45 (sp45 k) (fun _ => none))
theorem en47 (k : Nat) : EnvOK Try.prog (g47 k) := (envOK_add (snd45 k) (envOK_nil _))
set_option maxRecDepth 60000 in
set_option maxHeartbeats 4000000 in
theorem w47_0 (S : Seals) (k : Nat) : ∀ (n : Nat) {x0 : List Int} {x1 : Int} {x6 : Int} {y0 : List Int} {K : CK}, S.lp tt (g47 k) lv47 0 n (loopN Try.f47 0) ⟨[(0, .dat (.int .i64) x0 true), (1, .i .i64 x1), (5, .own 0), (6, .i .i64 x6)], [(0, .row (.int .i64) y0 false)], 1, 41⟩ K = bindO (shape_Place.l0 n x0 x1 x6 y0) (fun x : (List Int) => K (.exit 0) ⟨[(5, .own 0)], [(0, .row (.int .i64) x false)], 1, 41⟩) := by
  intro n; induction n with
  | zero => intros; rw [S.lp_zero]; exact none_c
  | succ n ih =>
    intros; rw [shape_Place.l0]; refine S.lp_succ ?_; conv => lhs; arg 5; whnf
    repeat' first
      | refine S.seq_op rfl ?_; conv => lhs; whnf
      | refine S.op_n ?_; conv => lhs; whnf
      | refine S.seq_nil ?_
      | refine S.reg_n ?_
      | refine S.region rfl ?_
      | refine S.two ?_
      | refine S.blok ?_
      | refine S.cond rfl ?_
      | refine S.after_n ?_
      | refine S.block_n ?_
      | refine S.block_x ?_; conv => lhs; whnf
      | refine S.block_r ?_
      | refine S.after_x ?_
      | refine S.after_r ?_
      | refine S.skip ?_
      | refine S.exit ?_
      | refine S.ret ?_
      | refine br_lt ?_; conv => lhs; whnf
      | refine br_lf ?_; conv => lhs; whnf
      | refine br_t (by assumption) ?_; conv => lhs; whnf
      | refine br_f (by assumption) ?_; conv => lhs; whnf
      | refine req_i (by with_reducible assumption) ?_; conv => lhs; whnf
      | (refine br_nd (fun _ => ?_) (fun _ => ?_) <;> conv => lhs; whnf)
      | (refine br_d (fun _ => ?_) (fun _ => ?_) <;> conv => lhs; whnf)
      | (refine br_n (fun _ => ?_) (fun _ => ?_) <;> conv => lhs; whnf)
      | (refine br_c (fun _ => ?_) (fun _ => ?_) <;> conv => lhs; whnf)
      | refine req_c fun _ => ?_; conv => lhs; whnf
      | refine req_i (by assumption) ?_; conv => lhs; whnf
      | refine bnd_c fun _ => ?_; conv => lhs; whnf
      | refine sum_c (fun _ => ?_) (fun _ => ?_)
      | exact ih
      | refine S.loop ?_; conv => lhs; whnf
      | refine S.back_n ?_; conv => lhs; whnf
      | refine S.back_x ?_; conv => lhs; whnf
      | refine S.back_r ?_; conv => lhs; whnf
      | refine S.fin_r ?_; conv => lhs; whnf
      | refine S.fin_n ?_; conv => lhs; whnf
      | exact ret_c rfl
      | exact none_c
      | refine S.draw_op ?_; conv => lhs; whnf; arg 1; whnf
      | refine S.dk_n ?_; conv => lhs; whnf
      | refine S.draw_nil ?_; conv => lhs; whnf
      | refine andK_br ?_
      | refine andK_req ?_
      | refine andK_b ?_
      | refine andK_none ?_
set_option maxRecDepth 60000 in
set_option maxHeartbeats 4000000 in
theorem r47 (S : Seals) (k : Nat) (a0 : List Int) (a1 : Int) : runF tt (g47 k) lv47 Try.f47 k [.dat (.int .i64) a0 true, .i .i64 a1] [] = bindO (shape_Place.f k a0 a1) (fun x : (List Int) => some (.own 0, [.row (.int .i64) x false])) := by
  unfold shape_Place.f; refine S.run_s rfl rfl ?_; conv => lhs; arg 5; whnf
  conv => lhs; arg 6; whnf
  repeat' first
    | refine S.seq_op rfl ?_; conv => lhs; whnf
    | refine S.op_n ?_; conv => lhs; whnf
    | refine S.seq_nil ?_
    | refine S.reg_n ?_
    | refine S.region rfl ?_
    | refine S.two ?_
    | refine S.blok ?_
    | refine S.cond rfl ?_
    | refine S.after_n ?_
    | refine S.block_n ?_
    | refine S.block_x ?_; conv => lhs; whnf
    | refine S.block_r ?_
    | refine S.after_x ?_
    | refine S.after_r ?_
    | refine S.skip ?_
    | refine S.exit ?_
    | refine S.ret ?_
    | refine br_lt ?_; conv => lhs; whnf
    | refine br_lf ?_; conv => lhs; whnf
    | refine br_t (by assumption) ?_; conv => lhs; whnf
    | refine br_f (by assumption) ?_; conv => lhs; whnf
    | refine req_i (by with_reducible assumption) ?_; conv => lhs; whnf
    | (refine br_nd (fun _ => ?_) (fun _ => ?_) <;> conv => lhs; whnf)
    | (refine br_d (fun _ => ?_) (fun _ => ?_) <;> conv => lhs; whnf)
    | (refine br_n (fun _ => ?_) (fun _ => ?_) <;> conv => lhs; whnf)
    | (refine br_c (fun _ => ?_) (fun _ => ?_) <;> conv => lhs; whnf)
    | refine req_c fun _ => ?_; conv => lhs; whnf
    | refine req_i (by assumption) ?_; conv => lhs; whnf
    | refine bnd_c fun _ => ?_; conv => lhs; whnf
    | refine sum_c (fun _ => ?_) (fun _ => ?_)
    | refine (w47_0 S k _).trans ?_
    | refine S.loop ?_; conv => lhs; whnf
    | refine S.back_n ?_; conv => lhs; whnf
    | refine S.back_x ?_; conv => lhs; whnf
    | refine S.back_r ?_; conv => lhs; whnf
    | refine S.fin_r ?_; conv => lhs; whnf
    | refine S.fin_n ?_; conv => lhs; whnf
    | exact ret_c rfl
    | exact none_c
    | refine S.draw_op ?_; conv => lhs; whnf; arg 1; whnf
    | refine S.dk_n ?_; conv => lhs; whnf
    | refine S.draw_nil ?_; conv => lhs; whnf
    | refine andK_br ?_
    | refine andK_req ?_
    | refine andK_b ?_
    | refine andK_none ?_
def sp47 (k : Nat) : FSpec := ⟨[.rd, .rd], fun args objs K => match args, objs with | [v0, .i .i64 a1], [] => listB (.int .i64) true v0 fun a0 => bindO (shape_Place.f k a0 a1) fun x : (List Int) => K (.own 0) [.row (.int .i64) x false] | _, _ => none⟩
theorem snd47 (k : Nat) : Sound Try.prog 47 (sp47 k) := by
  refine ⟨⟨Try.f47, rfl, by kernel_rfl, rfl⟩, fun args objs K r h => ?_⟩
  unfold sp47 at h; dsimp only at h; split at h
  · rename_i v0 a1
    obtain ⟨a0, h9, ca0⟩ := listB_spec h; clear h
    have h := h9; clear h9
    obtain ⟨x, hx, h⟩ := bindO_some h
    exact ⟨_, _, h, FnOK.args2 (relL_c ca0 (relL_c rel_i relL_n)) (fn_run tab_ok (en47 k) mixed rfl ((r47 seals k a0 a1).trans (bindO_eq hx)))⟩
  · cases h
end Go.Vm

/- tensor_Made__axes_Join_1 -/
namespace Go.Vm
open Go Go.Proofs Go.Pf
def lv24_1 : Live := look ⟨[], [], [], [], []⟩ [(3, ⟨[0, 1, 4, 5, 15, 16], [4, 5], [4], [], []⟩)]
noncomputable def g24_1 (k : Nat) : FEnv := (addF 25 (sp25 k) (addF 47 (sp47 k) (addF 45 (sp45 k) (addF 46 sp46 (fun _ => none)))))
theorem en24_1 (k : Nat) : EnvOK Try.prog (g24_1 k) := (envOK_add (snd25 k) (envOK_add (snd47 k) (envOK_add (snd45 k) (envOK_add snd46 (envOK_nil _)))))
set_option maxRecDepth 60000 in
set_option maxHeartbeats 4000000 in
theorem w24_1_0 (S : Seals) (k : Nat) : ∀ (n : Nat) {x15 : Int} {x16 : Int} {y0 : List Int} {y1 : List ((List Int) × (List Int))} {y2 : Int} {y5 : List Int} {y6 : List Int} {K : CK}, S.lp tt (g24_1 k) lv24_1 3 n (loopN Try.f24 0) ⟨[(0, .own 0), (1, .fn 25 [.ptr 1 0, .ptr 2 0]), (4, .ptr 3 0), (5, .ptr 4 0), (15, .i .i64 x15), (16, .i .i64 x16)], [(0, .row (.int .i64) y0 false), (1, .var [.dat (.pair (.sl (.int .i64)) (.sl (.int .i64))) y1 false]), (2, .var [.i .i64 y2]), (3, .var [.nilsl, .nilsl]), (4, .var [.own 5, .own 6]), (5, .row (.int .i64) y5 false), (6, .row (.int .i64) y6 false)], 7, 30⟩ K = bindO (tensor_Made__axes_Join_1.l0 k n x15 x16 y0 y1 y2 y5 y6) (fun x : (List Int) => K (.exit 0) ⟨[(4, .ptr 3 0), (5, .ptr 4 0)], [(0, .row (.int .i64) y0 false), (1, .var [.dat (.pair (.sl (.int .i64)) (.sl (.int .i64))) y1 false]), (2, .var [.i .i64 y2]), (3, .var [.nilsl, .nilsl]), (4, .var [.own 5, .own 6]), (5, .row (.int .i64) y5 false), (6, .row (.int .i64) x false)], 7, 30⟩) := by
  intro n; induction n with
  | zero => intros; rw [S.lp_zero]; exact none_c
  | succ n ih =>
    intros; rw [tensor_Made__axes_Join_1.l0]; refine S.lp_succ ?_; conv => lhs; arg 5; whnf
    repeat' first
      | refine S.seq_op rfl ?_; conv => lhs; whnf
      | refine S.op_n ?_; conv => lhs; whnf
      | refine S.seq_nil ?_
      | refine S.reg_n ?_
      | refine S.region rfl ?_
      | refine S.two ?_
      | refine S.blok ?_
      | refine S.cond rfl ?_
      | refine S.after_n ?_
      | refine S.block_n ?_
      | refine S.block_x ?_; conv => lhs; whnf
      | refine S.block_r ?_
      | refine S.after_x ?_
      | refine S.after_r ?_
      | refine S.skip ?_
      | refine S.exit ?_
      | refine S.ret ?_
      | refine br_lt ?_; conv => lhs; whnf
      | refine br_lf ?_; conv => lhs; whnf
      | refine br_t (by assumption) ?_; conv => lhs; whnf
      | refine br_f (by assumption) ?_; conv => lhs; whnf
      | refine req_i (by with_reducible assumption) ?_; conv => lhs; whnf
      | (refine br_nd (fun _ => ?_) (fun _ => ?_) <;> conv => lhs; whnf)
      | (refine br_d (fun _ => ?_) (fun _ => ?_) <;> conv => lhs; whnf)
      | (refine br_n (fun _ => ?_) (fun _ => ?_) <;> conv => lhs; whnf)
      | (refine br_c (fun _ => ?_) (fun _ => ?_) <;> conv => lhs; whnf)
      | refine req_c fun _ => ?_; conv => lhs; whnf
      | refine req_i (by assumption) ?_; conv => lhs; whnf
      | refine bnd_c fun _ => ?_; conv => lhs; whnf
      | refine sum_c (fun _ => ?_) (fun _ => ?_)
      | refine S.region_d (id := 5) (ds := [0, 1, 0, 0, 0, 0, 48, 120, 255, 511]) (mds := [[], [], [], [], [], [], [0, 0], [1, 2], [], [6]]) (hm := [(6, [0, 0]), (7, [1, 2]), (9, [6])]) (by kernel_rfl) (by kernel_rfl) rfl rfl ?_
      | exact ih
      | refine S.loop ?_; conv => lhs; whnf
      | refine S.back_n ?_; conv => lhs; whnf
      | refine S.back_x ?_; conv => lhs; whnf
      | refine S.back_r ?_; conv => lhs; whnf
      | refine S.fin_r ?_; conv => lhs; whnf
      | refine S.fin_n ?_; conv => lhs; whnf
      | exact ret_c rfl
      | exact none_c
      | refine S.draw_op ?_; conv => lhs; whnf; arg 1; whnf
      | refine S.dk_n ?_; conv => lhs; whnf
      | refine S.draw_nil ?_; conv => lhs; whnf
      | refine andK_br ?_
      | refine andK_req ?_
      | refine andK_b ?_
      | refine andK_none ?_
set_option maxRecDepth 60000 in
set_option maxHeartbeats 4000000 in
theorem r24_1 (S : Seals) (k : Nat) (o0 : List Int) (o1 : List ((List Int) × (List Int))) (o2 : Int) : runF tt (g24_1 k) lv24_1 Try.f24 k [.own 0, .fn 25 [.ptr 1 0, .ptr 2 0]] [.row (.int .i64) o0 false, .var [.dat (.pair (.sl (.int .i64)) (.sl (.int .i64))) o1 false], .var [.i .i64 o2]] = bindO (tensor_Made__axes_Join_1.f k o0 o1 o2) (fun x : (List Int) × (List Int) => some (.agg [.own 3, .own 4], [.row (.int .i64) o0 false, .var [.dat (.pair (.sl (.int .i64)) (.sl (.int .i64))) o1 false], .var [.i .i64 o2], .row (.int .i64) x.1 false, .row (.int .i64) x.2 false])) := by
  unfold tensor_Made__axes_Join_1.f; refine S.run_s rfl rfl ?_; conv => lhs; arg 5; whnf
  conv => lhs; arg 6; whnf
  repeat' first
    | refine S.seq_op rfl ?_; conv => lhs; whnf
    | refine S.op_n ?_; conv => lhs; whnf
    | refine S.seq_nil ?_
    | refine S.reg_n ?_
    | refine S.region rfl ?_
    | refine S.two ?_
    | refine S.blok ?_
    | refine S.cond rfl ?_
    | refine S.after_n ?_
    | refine S.block_n ?_
    | refine S.block_x ?_; conv => lhs; whnf
    | refine S.block_r ?_
    | refine S.after_x ?_
    | refine S.after_r ?_
    | refine S.skip ?_
    | refine S.exit ?_
    | refine S.ret ?_
    | refine br_lt ?_; conv => lhs; whnf
    | refine br_lf ?_; conv => lhs; whnf
    | refine br_t (by assumption) ?_; conv => lhs; whnf
    | refine br_f (by assumption) ?_; conv => lhs; whnf
    | refine req_i (by with_reducible assumption) ?_; conv => lhs; whnf
    | (refine br_nd (fun _ => ?_) (fun _ => ?_) <;> conv => lhs; whnf)
    | (refine br_d (fun _ => ?_) (fun _ => ?_) <;> conv => lhs; whnf)
    | (refine br_n (fun _ => ?_) (fun _ => ?_) <;> conv => lhs; whnf)
    | (refine br_c (fun _ => ?_) (fun _ => ?_) <;> conv => lhs; whnf)
    | refine req_c fun _ => ?_; conv => lhs; whnf
    | refine req_i (by assumption) ?_; conv => lhs; whnf
    | refine bnd_c fun _ => ?_; conv => lhs; whnf
    | refine sum_c (fun _ => ?_) (fun _ => ?_)
    | refine (w24_1_0 S k _).trans ?_
    | refine S.loop ?_; conv => lhs; whnf
    | refine S.back_n ?_; conv => lhs; whnf
    | refine S.back_x ?_; conv => lhs; whnf
    | refine S.back_r ?_; conv => lhs; whnf
    | refine S.fin_r ?_; conv => lhs; whnf
    | refine S.fin_n ?_; conv => lhs; whnf
    | exact ret_c rfl
    | exact none_c
    | refine S.draw_op ?_; conv => lhs; whnf; arg 1; whnf
    | refine S.dk_n ?_; conv => lhs; whnf
    | refine S.draw_nil ?_; conv => lhs; whnf
    | refine andK_br ?_
    | refine andK_req ?_
    | refine andK_b ?_
    | refine andK_none ?_
def sp24_1 (k : Nat) : FSpec := ⟨[.kp, .kp], fun args objs K => match args, objs with | [.own 0, .fn 25 [.ptr 1 0, .ptr 2 0]], [w0, .var [v0], .var [.i .i64 o2]] => rowK (.int .i64) false w0 fun o0 => datK (.pair (.sl (.int .i64)) (.sl (.int .i64))) false v0 fun o1 => bindO (tensor_Made__axes_Join_1.f k o0 o1 o2) fun x : (List Int) × (List Int) => K (.agg [.own 3, .own 4]) [.row (.int .i64) o0 false, .var [.dat (.pair (.sl (.int .i64)) (.sl (.int .i64))) o1 false], .var [.i .i64 o2], .row (.int .i64) x.1 false, .row (.int .i64) x.2 false] | _, _ => none⟩
theorem snd24_1 (k : Nat) : Sound Try.prog 24 (sp24_1 k) := by
  refine ⟨⟨Try.f24, rfl, by kernel_rfl, rfl⟩, fun args objs K r h => ?_⟩
  unfold sp24_1 at h; dsimp only at h; split at h
  · rename_i w0 v0 o2
    obtain ⟨o0, h9, eo0⟩ := rowK_spec h; clear h; subst eo0
    have h := h9; clear h9
    obtain ⟨o1, h9, eo1⟩ := datK_spec h; clear h; subst eo1
    have h := h9; clear h9
    obtain ⟨x, hx, h⟩ := bindO_some h
    exact ⟨_, _, h, FnOK.args2 (relL_c rel_i (relL_c rel_i relL_n)) (fn_run tab_ok (en24_1 k) mixed rfl ((r24_1 seals k o0 o1 o2).trans (bindO_eq hx)))⟩
  · cases h
end Go.Vm

/- axes_Join -/
namespace Go.Vm
open Go Go.Proofs Go.Pf
def lv10 : Live := look ⟨[], [], [], [], []⟩ [(3, ⟨[2, 3, 4, 6, 11, 12, 13], [2, 3, 4, 6], [4, 5], [(6, 0, .own (.sl (.int .i64)))], []⟩), (1000000, ⟨[], [], [], [(4, 0, .own (.int .i64)), (4, 1, .own (.int .i64))], []⟩)]
noncomputable def g10 (k : Nat) : FEnv := (addF 24 (sp24_1 k) (addF 23 (sp23 k) (addF 22 (sp22 k) (fun _ => none))))
theorem en10 (k : Nat) : EnvOK Try.prog (g10 k) := (envOK_add (snd24_1 k) (envOK_add (snd23 k) (envOK_add (snd22 k) (envOK_nil _))))
set_option maxRecDepth 60000 in
set_option maxHeartbeats 4000000 in
theorem w10_0 (S : Seals) (k : Nat) : ∀ (n : Nat) {x11 : List ((List Int) × (List Int))} {x12 : Int} {x13 : Int} {y0 : Int} {y1 : List ((List Int) × (List Int))} {y3 : List (List Int)} {K : CK}, S.lp tt (g10 k) lv10 0 n (loopN Try.f10 0) ⟨[(2, .ptr 0 0), (3, .ptr 1 0), (4, .ptr 2 0), (6, .own 3), (11, .dat (.pair (.sl (.int .i64)) (.sl (.int .i64))) x11 false), (12, .i .i64 x12), (13, .i .i64 x13)], [(0, .var [.i .i64 y0]), (1, .var [.dat (.pair (.sl (.int .i64)) (.sl (.int .i64))) y1 false]), (2, .var [.nilsl, .nilsl]), (3, .row (.sl (.int .i64)) y3 false)], 4, 40⟩ K = bindO (axes_Join.l0 k n x11 x12 x13 y0 y1 y3) (Sum.elim (fun x : (List (List Int)) => K (.exit 0) ⟨[(2, .ptr 0 0), (3, .ptr 1 0), (4, .ptr 2 0), (6, .own 3)], [(0, .var [.i .i64 y0]), (1, .var [.dat (.pair (.sl (.int .i64)) (.sl (.int .i64))) y1 false]), (2, .var [.nilsl, .nilsl]), (3, .row (.sl (.int .i64)) x false)], 4, 40⟩) (fun x : Int => K .ret ⟨[(4, .ptr 0 0), (5, .i .i64 x)], [(0, .var [.nilsl, .nilsl])], 1, 40⟩)) := by
  intro n; induction n with
  | zero => intros; rw [S.lp_zero]; exact none_c
  | succ n ih =>
    intros; rw [axes_Join.l0]; refine S.lp_succ ?_; conv => lhs; arg 5; whnf
    repeat' first
      | refine S.seq_op rfl ?_; conv => lhs; whnf
      | refine S.op_n ?_; conv => lhs; whnf
      | refine S.seq_nil ?_
      | refine S.reg_n ?_
      | refine S.region rfl ?_
      | refine S.two ?_
      | refine S.blok ?_
      | refine S.cond rfl ?_
      | refine S.after_n ?_
      | refine S.block_n ?_
      | refine S.block_x ?_; conv => lhs; whnf
      | refine S.block_r ?_
      | refine S.after_x ?_
      | refine S.after_r ?_
      | refine S.skip ?_
      | refine S.exit ?_
      | refine S.ret ?_
      | refine br_lt ?_; conv => lhs; whnf
      | refine br_lf ?_; conv => lhs; whnf
      | refine br_t (by assumption) ?_; conv => lhs; whnf
      | refine br_f (by assumption) ?_; conv => lhs; whnf
      | refine req_i (by with_reducible assumption) ?_; conv => lhs; whnf
      | (refine br_nd (fun _ => ?_) (fun _ => ?_) <;> conv => lhs; whnf)
      | (refine br_d (fun _ => ?_) (fun _ => ?_) <;> conv => lhs; whnf)
      | (refine br_n (fun _ => ?_) (fun _ => ?_) <;> conv => lhs; whnf)
      | (refine br_c (fun _ => ?_) (fun _ => ?_) <;> conv => lhs; whnf)
      | refine req_c fun _ => ?_; conv => lhs; whnf
      | refine req_i (by assumption) ?_; conv => lhs; whnf
      | refine bnd_c fun _ => ?_; conv => lhs; whnf
      | refine sum_c (fun _ => ?_) (fun _ => ?_)
      | exact ih
      | refine S.loop ?_; conv => lhs; whnf
      | refine S.back_n ?_; conv => lhs; whnf
      | refine S.back_x ?_; conv => lhs; whnf
      | refine S.back_r ?_; conv => lhs; whnf
      | refine S.fin_r ?_; conv => lhs; whnf
      | refine S.fin_n ?_; conv => lhs; whnf
      | exact ret_c rfl
      | exact none_c
      | refine S.draw_op ?_; conv => lhs; whnf; arg 1; whnf
      | refine S.dk_n ?_; conv => lhs; whnf
      | refine S.draw_nil ?_; conv => lhs; whnf
      | refine andK_br ?_
      | refine andK_req ?_
      | refine andK_b ?_
      | refine andK_none ?_
set_option maxRecDepth 60000 in
set_option maxHeartbeats 4000000 in
theorem r10 (S : Seals) (k : Nat) (a0 : Int) (a1 : List ((List Int) × (List Int))) : runF tt (g10 k) lv10 Try.f10 k [.i .i64 a0, .dat (.pair (.sl (.int .i64)) (.sl (.int .i64))) a1 false] [] = bindO (axes_Join.f k a0 a1) (fun x : Int × (List Int) × (List Int) => some (.tup [.agg [.own 0, .own 1], .i .i64 x.1], [.row (.int .i64) x.2.1 false, .row (.int .i64) x.2.2 false])) := by
  unfold axes_Join.f; refine S.run_s rfl rfl ?_; conv => lhs; arg 5; whnf
  conv => lhs; arg 6; whnf
  repeat' first
    | refine S.seq_op rfl ?_; conv => lhs; whnf
    | refine S.op_n ?_; conv => lhs; whnf
    | refine S.seq_nil ?_
    | refine S.reg_n ?_
    | refine S.region rfl ?_
    | refine S.two ?_
    | refine S.blok ?_
    | refine S.cond rfl ?_
    | refine S.after_n ?_
    | refine S.block_n ?_
    | refine S.block_x ?_; conv => lhs; whnf
    | refine S.block_r ?_
    | refine S.after_x ?_
    | refine S.after_r ?_
    | refine S.skip ?_
    | refine S.exit ?_
    | refine S.ret ?_
    | refine br_lt ?_; conv => lhs; whnf
    | refine br_lf ?_; conv => lhs; whnf
    | refine br_t (by assumption) ?_; conv => lhs; whnf
    | refine br_f (by assumption) ?_; conv => lhs; whnf
    | refine req_i (by with_reducible assumption) ?_; conv => lhs; whnf
    | (refine br_nd (fun _ => ?_) (fun _ => ?_) <;> conv => lhs; whnf)
    | (refine br_d (fun _ => ?_) (fun _ => ?_) <;> conv => lhs; whnf)
    | (refine br_n (fun _ => ?_) (fun _ => ?_) <;> conv => lhs; whnf)
    | (refine br_c (fun _ => ?_) (fun _ => ?_) <;> conv => lhs; whnf)
    | refine req_c fun _ => ?_; conv => lhs; whnf
    | refine req_i (by assumption) ?_; conv => lhs; whnf
    | refine bnd_c fun _ => ?_; conv => lhs; whnf
    | refine sum_c (fun _ => ?_) (fun _ => ?_)
    | refine (w10_0 S k _).trans ?_
    | refine S.loop ?_; conv => lhs; whnf
    | refine S.back_n ?_; conv => lhs; whnf
    | refine S.back_x ?_; conv => lhs; whnf
    | refine S.back_r ?_; conv => lhs; whnf
    | refine S.fin_r ?_; conv => lhs; whnf
    | refine S.fin_n ?_; conv => lhs; whnf
    | exact ret_c rfl
    | exact none_c
    | refine S.draw_op ?_; conv => lhs; whnf; arg 1; whnf
    | refine S.dk_n ?_; conv => lhs; whnf
    | refine S.draw_nil ?_; conv => lhs; whnf
    | refine andK_br ?_
    | refine andK_req ?_
    | refine andK_b ?_
    | refine andK_none ?_
def sp10 (k : Nat) : FSpec := ⟨[.st, .st], fun args objs K => match args, objs with | [.i .i64 a0, v0], [] => listB (.pair (.sl (.int .i64)) (.sl (.int .i64))) false v0 fun a1 => bindO (axes_Join.f k a0 a1) fun x : Int × (List Int) × (List Int) => K (.tup [.agg [.own 0, .own 1], .i .i64 x.1]) [.row (.int .i64) x.2.1 false, .row (.int .i64) x.2.2 false] | _, _ => none⟩
theorem snd10 (k : Nat) : Sound Try.prog 10 (sp10 k) := by
  refine ⟨⟨Try.f10, rfl, by kernel_rfl, rfl⟩, fun args objs K r h => ?_⟩
  unfold sp10 at h; dsimp only at h; split at h
  · rename_i a0 v0
    obtain ⟨a1, h9, ca1⟩ := listB_spec h; clear h
    have h := h9; clear h9
    obtain ⟨x, hx, h⟩ := bindO_some h
    exact ⟨_, _, h, FnOK.args2 (relL_c rel_i (relL_c ca1 relL_n)) (fn_run tab_ok (en10 k) mixed rfl ((r10 seals k a0 a1).trans (bindO_eq hx)))⟩
  · cases h
end Go.Vm

/- axes_Turn_1 -/
namespace Go.Vm
open Go Go.Proofs Go.Pf
def lv31 : Live := look ⟨[], [], [], [], []⟩ [(2, ⟨[0, 2, 3, 8, 9, 10], [2, 3], [5], [], []⟩)]
noncomputable def g31 (k : Nat) : FEnv := (addF 26 (sp26 k) (fun _ => none))
theorem en31 (k : Nat) : EnvOK Try.prog (g31 k) := (envOK_add (snd26 k) (envOK_nil _))
set_option maxRecDepth 60000 in
set_option maxHeartbeats 4000000 in
theorem w31_0 (S : Seals) (k : Nat) : ∀ (n : Nat) {x8 : List Int} {x9 : Int} {x10 : Int} {y0 : List Int} {y1 : List Int} {y3_0 : List Int} {y3_1 : List Int} {y4 : List Int} {K : CK}, S.lp tt (g31 k) lv31 5 n (loopN Try.f31 0) ⟨[(0, .own 0), (2, .ptr 2 0), (3, .ptr 3 0), (8, .dat (.int .i64) x8 true), (9, .i .i64 x9), (10, .i .i64 x10)], [(0, .row (.int .i64) y0 false), (1, .var [.dat (.int .i64) y1 true]), (2, .var [.own 4]), (3, .var [.dat (.int .i64) y3_0 true, .dat (.int .i64) y3_1 true]), (4, .row (.int .i64) y4 false)], 5, 26⟩ K = bindO (axes_Turn_1.l0 n x8 x9 x10 y0 y1 y3_0 y3_1 y4) (fun x : (List Int) => K (.exit 0) ⟨[(2, .ptr 2 0), (3, .ptr 3 0)], [(0, .row (.int .i64) y0 false), (1, .var [.dat (.int .i64) y1 true]), (2, .var [.own 4]), (3, .var [.dat (.int .i64) y3_0 true, .dat (.int .i64) y3_1 true]), (4, .row (.int .i64) x false)], 5, 26⟩) := by
  intro n; induction n with
  | zero => intros; rw [S.lp_zero]; exact none_c
  | succ n ih =>
    intros; rw [axes_Turn_1.l0]; refine S.lp_succ ?_; conv => lhs; arg 5; whnf
    repeat' first
      | refine S.seq_op rfl ?_; conv => lhs; whnf
      | refine S.op_n ?_; conv => lhs; whnf
      | refine S.seq_nil ?_
      | refine S.reg_n ?_
      | refine S.region rfl ?_
      | refine S.two ?_
      | refine S.blok ?_
      | refine S.cond rfl ?_
      | refine S.after_n ?_
      | refine S.block_n ?_
      | refine S.block_x ?_; conv => lhs; whnf
      | refine S.block_r ?_
      | refine S.after_x ?_
      | refine S.after_r ?_
      | refine S.skip ?_
      | refine S.exit ?_
      | refine S.ret ?_
      | refine br_lt ?_; conv => lhs; whnf
      | refine br_lf ?_; conv => lhs; whnf
      | refine br_t (by assumption) ?_; conv => lhs; whnf
      | refine br_f (by assumption) ?_; conv => lhs; whnf
      | refine req_i (by with_reducible assumption) ?_; conv => lhs; whnf
      | (refine br_nd (fun _ => ?_) (fun _ => ?_) <;> conv => lhs; whnf)
      | (refine br_d (fun _ => ?_) (fun _ => ?_) <;> conv => lhs; whnf)
      | (refine br_n (fun _ => ?_) (fun _ => ?_) <;> conv => lhs; whnf)
      | (refine br_c (fun _ => ?_) (fun _ => ?_) <;> conv => lhs; whnf)
      | refine req_c fun _ => ?_; conv => lhs; whnf
      | refine req_i (by assumption) ?_; conv => lhs; whnf
      | refine bnd_c fun _ => ?_; conv => lhs; whnf
      | refine sum_c (fun _ => ?_) (fun _ => ?_)
      | refine S.region_d (id := 4) (ds := [0, 0, 0, 0, 12, 28, 63, 127]) (mds := [[], [], [], [], [], [], [], [4]]) (hm := [(7, [4])]) (by kernel_rfl) (by kernel_rfl) rfl rfl ?_
      | exact ih
      | refine S.loop ?_; conv => lhs; whnf
      | refine S.back_n ?_; conv => lhs; whnf
      | refine S.back_x ?_; conv => lhs; whnf
      | refine S.back_r ?_; conv => lhs; whnf
      | refine S.fin_r ?_; conv => lhs; whnf
      | refine S.fin_n ?_; conv => lhs; whnf
      | exact ret_c rfl
      | exact none_c
      | refine S.draw_op ?_; conv => lhs; whnf; arg 1; whnf
      | refine S.dk_n ?_; conv => lhs; whnf
      | refine S.draw_nil ?_; conv => lhs; whnf
      | refine andK_br ?_
      | refine andK_req ?_
      | refine andK_b ?_
      | refine andK_none ?_
set_option maxRecDepth 60000 in
set_option maxHeartbeats 4000000 in
theorem r31 (S : Seals) (k : Nat) (o0 : List Int) (o1 : List Int) (o3_0 : List Int) (o3_1 : List Int) (o4 : List Int) : runF tt (g31 k) lv31 Try.f31 k [.own 0, .ptr 1 0, .ptr 2 0, .ptr 3 0] [.row (.int .i64) o0 false, .var [.dat (.int .i64) o1 true], .var [.own 4], .var [.dat (.int .i64) o3_0 true, .dat (.int .i64) o3_1 true], .row (.int .i64) o4 false] = bindO (axes_Turn_1.f k o0 o1 o3_0 o3_1 o4) (fun x : Int × (List Int) => some (.i .i64 x.1, [.row (.int .i64) o0 false, .var [.dat (.int .i64) o1 true], .var [.own 4], .var [.dat (.int .i64) o3_0 true, .dat (.int .i64) o3_1 true], .row (.int .i64) x.2 false])) := by
  unfold axes_Turn_1.f; refine S.run_s rfl rfl ?_; conv => lhs; arg 5; whnf
  conv => lhs; arg 6; whnf
  repeat' first
    | refine S.seq_op rfl ?_; conv => lhs; whnf
    | refine S.op_n ?_; conv => lhs; whnf
    | refine S.seq_nil ?_
    | refine S.reg_n ?_
    | refine S.region rfl ?_
    | refine S.two ?_
    | refine S.blok ?_
    | refine S.cond rfl ?_
    | refine S.after_n ?_
    | refine S.block_n ?_
    | refine S.block_x ?_; conv => lhs; whnf
    | refine S.block_r ?_
    | refine S.after_x ?_
    | refine S.after_r ?_
    | refine S.skip ?_
    | refine S.exit ?_
    | refine S.ret ?_
    | refine br_lt ?_; conv => lhs; whnf
    | refine br_lf ?_; conv => lhs; whnf
    | refine br_t (by assumption) ?_; conv => lhs; whnf
    | refine br_f (by assumption) ?_; conv => lhs; whnf
    | refine req_i (by with_reducible assumption) ?_; conv => lhs; whnf
    | (refine br_nd (fun _ => ?_) (fun _ => ?_) <;> conv => lhs; whnf)
    | (refine br_d (fun _ => ?_) (fun _ => ?_) <;> conv => lhs; whnf)
    | (refine br_n (fun _ => ?_) (fun _ => ?_) <;> conv => lhs; whnf)
    | (refine br_c (fun _ => ?_) (fun _ => ?_) <;> conv => lhs; whnf)
    | refine req_c fun _ => ?_; conv => lhs; whnf
    | refine req_i (by assumption) ?_; conv => lhs; whnf
    | refine bnd_c fun _ => ?_; conv => lhs; whnf
    | refine sum_c (fun _ => ?_) (fun _ => ?_)
    | refine (w31_0 S k _).trans ?_
    | refine S.loop ?_; conv => lhs; whnf
    | refine S.back_n ?_; conv => lhs; whnf
    | refine S.back_x ?_; conv => lhs; whnf
    | refine S.back_r ?_; conv => lhs; whnf
    | refine S.fin_r ?_; conv => lhs; whnf
    | refine S.fin_n ?_; conv => lhs; whnf
    | exact ret_c rfl
    | exact none_c
    | refine S.draw_op ?_; conv => lhs; whnf; arg 1; whnf
    | refine S.dk_n ?_; conv => lhs; whnf
    | refine S.draw_nil ?_; conv => lhs; whnf
    | refine andK_br ?_
    | refine andK_req ?_
    | refine andK_b ?_
    | refine andK_none ?_
def sp31 (k : Nat) : FSpec := ⟨[.kp, .kp, .kp, .kp], fun args objs K => match args, objs with | [.own 0, .ptr 1 0, .ptr 2 0, .ptr 3 0], [w0, .var [v0], .var [.own 4], .var [v1, v2], w4] => rowK (.int .i64) false w0 fun o0 => datK (.int .i64) true v0 fun o1 => datK (.int .i64) true v1 fun o3_0 => datK (.int .i64) true v2 fun o3_1 => rowK (.int .i64) false w4 fun o4 => bindO (axes_Turn_1.f k o0 o1 o3_0 o3_1 o4) fun x : Int × (List Int) => K (.i .i64 x.1) [.row (.int .i64) o0 false, .var [.dat (.int .i64) o1 true], .var [.own 4], .var [.dat (.int .i64) o3_0 true, .dat (.int .i64) o3_1 true], .row (.int .i64) x.2 false] | _, _ => none⟩
theorem snd31 (k : Nat) : Sound Try.prog 31 (sp31 k) := by
  refine ⟨⟨Try.f31, rfl, by kernel_rfl, rfl⟩, fun args objs K r h => ?_⟩
  unfold sp31 at h; dsimp only at h; split at h
  · rename_i w0 v0 v1 v2 w4
    obtain ⟨o0, h9, eo0⟩ := rowK_spec h; clear h; subst eo0
    have h := h9; clear h9
    obtain ⟨o1, h9, eo1⟩ := datK_spec h; clear h; subst eo1
    have h := h9; clear h9
    obtain ⟨o3_0, h9, eo3_0⟩ := datK_spec h; clear h; subst eo3_0
    have h := h9; clear h9
    obtain ⟨o3_1, h9, eo3_1⟩ := datK_spec h; clear h; subst eo3_1
    have h := h9; clear h9
    obtain ⟨o4, h9, eo4⟩ := rowK_spec h; clear h; subst eo4
    have h := h9; clear h9
    obtain ⟨x, hx, h⟩ := bindO_some h
    exact ⟨_, _, h, FnOK.args2 (relL_c rel_i (relL_c rel_i (relL_c rel_i (relL_c rel_i relL_n)))) (fn_run tab_ok (en31 k) mixed rfl ((r31 seals k o0 o1 o3_0 o3_1 o4).trans (bindO_eq hx)))⟩
  · cases h
end Go.Vm

/- tensor_Made__axes_Turn_1 -/
namespace Go.Vm
open Go Go.Proofs Go.Pf
def lv24_2 : Live := look ⟨[], [], [], [], []⟩ [(3, ⟨[0, 1, 4, 5, 15, 16], [4, 5], [4], [], []⟩)]
noncomputable def g24_2 (k : Nat) : FEnv := (addF 31 (sp31 k) (addF 47 (sp47 k) (addF 45 (sp45 k) (addF 46 sp46 (fun _ => none)))))
theorem en24_2 (k : Nat) : EnvOK Try.prog (g24_2 k) := (envOK_add (snd31 k) (envOK_add (snd47 k) (envOK_add (snd45 k) (envOK_add snd46 (envOK_nil _)))))
set_option maxRecDepth 60000 in
set_option maxHeartbeats 4000000 in
theorem w24_2_0 (S : Seals) (k : Nat) : ∀ (n : Nat) {x15 : Int} {x16 : Int} {y0 : List Int} {y1 : List Int} {y3_0 : List Int} {y3_1 : List Int} {y4 : List Int} {y7 : List Int} {y8 : List Int} {K : CK}, S.lp tt (g24_2 k) lv24_2 5 n (loopN Try.f24 0) ⟨[(0, .own 0), (1, .fn 31 [.ptr 1 0, .ptr 2 0, .ptr 3 0]), (4, .ptr 5 0), (5, .ptr 6 0), (15, .i .i64 x15), (16, .i .i64 x16)], [(0, .row (.int .i64) y0 false), (1, .var [.dat (.int .i64) y1 true]), (2, .var [.own 4]), (3, .var [.dat (.int .i64) y3_0 true, .dat (.int .i64) y3_1 true]), (4, .row (.int .i64) y4 false), (5, .var [.nilsl, .nilsl]), (6, .var [.own 7, .own 8]), (7, .row (.int .i64) y7 false), (8, .row (.int .i64) y8 false)], 9, 30⟩ K = bindO (tensor_Made__axes_Turn_1.l0 k n x15 x16 y0 y1 y3_0 y3_1 y4 y7 y8) (fun x : (List Int) × (List Int) => K (.exit 0) ⟨[(4, .ptr 5 0), (5, .ptr 6 0)], [(0, .row (.int .i64) y0 false), (1, .var [.dat (.int .i64) y1 true]), (2, .var [.own 4]), (3, .var [.dat (.int .i64) y3_0 true, .dat (.int .i64) y3_1 true]), (4, .row (.int .i64) x.1 false), (5, .var [.nilsl, .nilsl]), (6, .var [.own 7, .own 8]), (7, .row (.int .i64) y7 false), (8, .row (.int .i64) x.2 false)], 9, 30⟩) := by
  intro n; induction n with
  | zero => intros; rw [S.lp_zero]; exact none_c
  | succ n ih =>
    intros; rw [tensor_Made__axes_Turn_1.l0]; refine S.lp_succ ?_; conv => lhs; arg 5; whnf
    repeat' first
      | refine S.seq_op rfl ?_; conv => lhs; whnf
      | refine S.op_n ?_; conv => lhs; whnf
      | refine S.seq_nil ?_
      | refine S.reg_n ?_
      | refine S.region rfl ?_
      | refine S.two ?_
      | refine S.blok ?_
      | refine S.cond rfl ?_
      | refine S.after_n ?_
      | refine S.block_n ?_
      | refine S.block_x ?_; conv => lhs; whnf
      | refine S.block_r ?_
      | refine S.after_x ?_
      | refine S.after_r ?_
      | refine S.skip ?_
      | refine S.exit ?_
      | refine S.ret ?_
      | refine br_lt ?_; conv => lhs; whnf
      | refine br_lf ?_; conv => lhs; whnf
      | refine br_t (by assumption) ?_; conv => lhs; whnf
      | refine br_f (by assumption) ?_; conv => lhs; whnf
      | refine req_i (by with_reducible assumption) ?_; conv => lhs; whnf
      | (refine br_nd (fun _ => ?_) (fun _ => ?_) <;> conv => lhs; whnf)
      | (refine br_d (fun _ => ?_) (fun _ => ?_) <;> conv => lhs; whnf)
      | (refine br_n (fun _ => ?_) (fun _ => ?_) <;> conv => lhs; whnf)
      | (refine br_c (fun _ => ?_) (fun _ => ?_) <;> conv => lhs; whnf)
      | refine req_c fun _ => ?_; conv => lhs; whnf
      | refine req_i (by assumption) ?_; conv => lhs; whnf
      | refine bnd_c fun _ => ?_; conv => lhs; whnf
      | refine sum_c (fun _ => ?_) (fun _ => ?_)
      | refine S.region_d (id := 5) (ds := [0, 1, 0, 0, 0, 0, 48, 120, 255, 511]) (mds := [[], [], [], [], [], [], [0, 0], [1, 2, 3, 4], [], [8]]) (hm := [(6, [0, 0]), (7, [1, 2, 3, 4]), (9, [8])]) (by kernel_rfl) (by kernel_rfl) rfl rfl ?_
      | exact ih
      | refine S.loop ?_; conv => lhs; whnf
      | refine S.back_n ?_; conv => lhs; whnf
      | refine S.back_x ?_; conv => lhs; whnf
      | refine S.back_r ?_; conv => lhs; whnf
      | refine S.fin_r ?_; conv => lhs; whnf
      | refine S.fin_n ?_; conv => lhs; whnf
      | exact ret_c rfl
      | exact none_c
      | refine S.draw_op ?_; conv => lhs; whnf; arg 1; whnf
      | refine S.dk_n ?_; conv => lhs; whnf
      | refine S.draw_nil ?_; conv => lhs; whnf
      | refine andK_br ?_
      | refine andK_req ?_
      | refine andK_b ?_
      | refine andK_none ?_
set_option maxRecDepth 60000 in
set_option maxHeartbeats 4000000 in
theorem r24_2 (S : Seals) (k : Nat) (o0 : List Int) (o1 : List Int) (o3_0 : List Int) (o3_1 : List Int) (o4 : List Int) : runF tt (g24_2 k) lv24_2 Try.f24 k [.own 0, .fn 31 [.ptr 1 0, .ptr 2 0, .ptr 3 0]] [.row (.int .i64) o0 false, .var [.dat (.int .i64) o1 true], .var [.own 4], .var [.dat (.int .i64) o3_0 true, .dat (.int .i64) o3_1 true], .row (.int .i64) o4 false] = bindO (tensor_Made__axes_Turn_1.f k o0 o1 o3_0 o3_1 o4) (fun x : (List Int) × (List Int) × (List Int) => some (.agg [.own 5, .own 6], [.row (.int .i64) o0 false, .var [.dat (.int .i64) o1 true], .var [.own 4], .var [.dat (.int .i64) o3_0 true, .dat (.int .i64) o3_1 true], .row (.int .i64) x.1 false, .row (.int .i64) x.2.1 false, .row (.int .i64) x.2.2 false])) := by
  unfold tensor_Made__axes_Turn_1.f; refine S.run_s rfl rfl ?_; conv => lhs; arg 5; whnf
  conv => lhs; arg 6; whnf
  repeat' first
    | refine S.seq_op rfl ?_; conv => lhs; whnf
    | refine S.op_n ?_; conv => lhs; whnf
    | refine S.seq_nil ?_
    | refine S.reg_n ?_
    | refine S.region rfl ?_
    | refine S.two ?_
    | refine S.blok ?_
    | refine S.cond rfl ?_
    | refine S.after_n ?_
    | refine S.block_n ?_
    | refine S.block_x ?_; conv => lhs; whnf
    | refine S.block_r ?_
    | refine S.after_x ?_
    | refine S.after_r ?_
    | refine S.skip ?_
    | refine S.exit ?_
    | refine S.ret ?_
    | refine br_lt ?_; conv => lhs; whnf
    | refine br_lf ?_; conv => lhs; whnf
    | refine br_t (by assumption) ?_; conv => lhs; whnf
    | refine br_f (by assumption) ?_; conv => lhs; whnf
    | refine req_i (by with_reducible assumption) ?_; conv => lhs; whnf
    | (refine br_nd (fun _ => ?_) (fun _ => ?_) <;> conv => lhs; whnf)
    | (refine br_d (fun _ => ?_) (fun _ => ?_) <;> conv => lhs; whnf)
    | (refine br_n (fun _ => ?_) (fun _ => ?_) <;> conv => lhs; whnf)
    | (refine br_c (fun _ => ?_) (fun _ => ?_) <;> conv => lhs; whnf)
    | refine req_c fun _ => ?_; conv => lhs; whnf
    | refine req_i (by assumption) ?_; conv => lhs; whnf
    | refine bnd_c fun _ => ?_; conv => lhs; whnf
    | refine sum_c (fun _ => ?_) (fun _ => ?_)
    | refine (w24_2_0 S k _).trans ?_
    | refine S.loop ?_; conv => lhs; whnf
    | refine S.back_n ?_; conv => lhs; whnf
    | refine S.back_x ?_; conv => lhs; whnf
    | refine S.back_r ?_; conv => lhs; whnf
    | refine S.fin_r ?_; conv => lhs; whnf
    | refine S.fin_n ?_; conv => lhs; whnf
    | exact ret_c rfl
    | exact none_c
    | refine S.draw_op ?_; conv => lhs; whnf; arg 1; whnf
    | refine S.dk_n ?_; conv => lhs; whnf
    | refine S.draw_nil ?_; conv => lhs; whnf
    | refine andK_br ?_
    | refine andK_req ?_
    | refine andK_b ?_
    | refine andK_none ?_
def sp24_2 (k : Nat) : FSpec := ⟨[.kp, .kp], fun args objs K => match args, objs with | [.own 0, .fn 31 [.ptr 1 0, .ptr 2 0, .ptr 3 0]], [w0, .var [v0], .var [.own 4], .var [v1, v2], w4] => rowK (.int .i64) false w0 fun o0 => datK (.int .i64) true v0 fun o1 => datK (.int .i64) true v1 fun o3_0 => datK (.int .i64) true v2 fun o3_1 => rowK (.int .i64) false w4 fun o4 => bindO (tensor_Made__axes_Turn_1.f k o0 o1 o3_0 o3_1 o4) fun x : (List Int) × (List Int) × (List Int) => K (.agg [.own 5, .own 6]) [.row (.int .i64) o0 false, .var [.dat (.int .i64) o1 true], .var [.own 4], .var [.dat (.int .i64) o3_0 true, .dat (.int .i64) o3_1 true], .row (.int .i64) x.1 false, .row (.int .i64) x.2.1 false, .row (.int .i64) x.2.2 false] | _, _ => none⟩
theorem snd24_2 (k : Nat) : Sound Try.prog 24 (sp24_2 k) := by
  refine ⟨⟨Try.f24, rfl, by kernel_rfl, rfl⟩, fun args objs K r h => ?_⟩
  unfold sp24_2 at h; dsimp only at h; split at h
  · rename_i w0 v0 v1 v2 w4
    obtain ⟨o0, h9, eo0⟩ := rowK_spec h; clear h; subst eo0
    have h := h9; clear h9
    obtain ⟨o1, h9, eo1⟩ := datK_spec h; clear h; subst eo1
    have h := h9; clear h9
    obtain ⟨o3_0, h9, eo3_0⟩ := datK_spec h; clear h; subst eo3_0
    have h := h9; clear h9
    obtain ⟨o3_1, h9, eo3_1⟩ := datK_spec h; clear h; subst eo3_1
    have h := h9; clear h9
    obtain ⟨o4, h9, eo4⟩ := rowK_spec h; clear h; subst eo4
    have h := h9; clear h9
    obtain ⟨x, hx, h⟩ := bindO_some h
    exact ⟨_, _, h, FnOK.args2 (relL_c rel_i (relL_c rel_i relL_n)) (fn_run tab_ok (en24_2 k) mixed rfl ((r24_2 seals k o0 o1 o3_0 o3_1 o4).trans (bindO_eq hx)))⟩
  · cases h
end Go.Vm

/- axes_Turned -/
namespace Go.Vm
open Go Go.Proofs Go.Pf
def lv30 : Live := look ⟨[], [], [], [], []⟩ [(6, ⟨[0, 6, 7, 21, 22, 23], [6], [4, 5], [], []⟩), (1000000, ⟨[], [], [], [(4, 0, .own (.int .i64))], []⟩)]
noncomputable def g30 : FEnv := (fun _ => none)
theorem en30 : EnvOK Try.prog (g30) := (envOK_nil _)
set_option maxRecDepth 60000 in
set_option maxHeartbeats 4000000 in
theorem w30_0 (S : Seals) (k : Nat) : ∀ (n : Nat) {x0 : List Int} {x21 : List Int} {x22 : Int} {x23 : Int} {y0 : List Int} {y1 : List Bool} {K : CK}, S.lp tt (g30) lv30 0 n (loopN Try.f30 0) ⟨[(0, .dat (.int .i64) x0 true), (6, .own 0), (7, .own 1), (21, .dat (.int .i64) x21 true), (22, .i .i64 x22), (23, .i .i64 x23)], [(0, .row (.int .i64) y0 false), (1, .row .bool y1 false)], 2, 54⟩ K = bindO (axes_Turned.l0 n x0 x21 x22 x23 y0 y1) (Sum.elim (fun x : (List Int) => K (.exit 0) ⟨[(6, .own 0)], [(0, .row (.int .i64) x false)], 1, 54⟩) (fun x : Int => K .ret ⟨[(4, .nilsl), (5, .i .i64 x)], [], 0, 54⟩)) := by
  intro n; induction n with
  | zero => intros; rw [S.lp_zero]; exact none_c
  | succ n ih =>
    intros; rw [axes_Turned.l0]; refine S.lp_succ ?_; conv => lhs; arg 5; whnf
    repeat' first
      | refine S.seq_op rfl ?_; conv => lhs; whnf
      | refine S.op_n ?_; conv => lhs; whnf
      | refine S.seq_nil ?_
      | refine S.reg_n ?_
      | refine S.region rfl ?_
      | refine S.two ?_
      | refine S.blok ?_
      | refine S.cond rfl ?_
      | refine S.after_n ?_
      | refine S.block_n ?_
      | refine S.block_x ?_; conv => lhs; whnf
      | refine S.block_r ?_
      | refine S.after_x ?_
      | refine S.after_r ?_
      | refine S.skip ?_
      | refine S.exit ?_
      | refine S.ret ?_
      | refine br_lt ?_; conv => lhs; whnf
      | refine br_lf ?_; conv => lhs; whnf
      | refine br_t (by assumption) ?_; conv => lhs; whnf
      | refine br_f (by assumption) ?_; conv => lhs; whnf
      | refine req_i (by with_reducible assumption) ?_; conv => lhs; whnf
      | (refine br_nd (fun _ => ?_) (fun _ => ?_) <;> conv => lhs; whnf)
      | (refine br_d (fun _ => ?_) (fun _ => ?_) <;> conv => lhs; whnf)
      | (refine br_n (fun _ => ?_) (fun _ => ?_) <;> conv => lhs; whnf)
      | (refine br_c (fun _ => ?_) (fun _ => ?_) <;> conv => lhs; whnf)
      | refine req_c fun _ => ?_; conv => lhs; whnf
      | refine req_i (by assumption) ?_; conv => lhs; whnf
      | refine bnd_c fun _ => ?_; conv => lhs; whnf
      | refine sum_c (fun _ => ?_) (fun _ => ?_)
      | exact ih
      | refine S.loop ?_; conv => lhs; whnf
      | refine S.back_n ?_; conv => lhs; whnf
      | refine S.back_x ?_; conv => lhs; whnf
      | refine S.back_r ?_; conv => lhs; whnf
      | refine S.fin_r ?_; conv => lhs; whnf
      | refine S.fin_n ?_; conv => lhs; whnf
      | exact ret_c rfl
      | exact none_c
      | refine S.draw_op ?_; conv => lhs; whnf; arg 1; whnf
      | refine S.dk_n ?_; conv => lhs; whnf
      | refine S.draw_nil ?_; conv => lhs; whnf
      | refine andK_br ?_
      | refine andK_req ?_
      | refine andK_b ?_
      | refine andK_none ?_
set_option maxRecDepth 60000 in
set_option maxHeartbeats 4000000 in
theorem r30 (S : Seals) (k : Nat) (a0 : List Int) (a1 : List Int) : runF tt (g30) lv30 Try.f30 k [.dat (.int .i64) a0 true, .dat (.int .i64) a1 true] [] = bindO (axes_Turned.f k a0 a1) (fun x : Int × (List Int) => some (.tup [.own 0, .i .i64 x.1], [.row (.int .i64) x.2 false])) := by
  unfold axes_Turned.f; refine S.run_s rfl rfl ?_; conv => lhs; arg 5; whnf
  conv => lhs; arg 6; whnf
  repeat' first
    | refine S.seq_op rfl ?_; conv => lhs; whnf
    | refine S.op_n ?_; conv => lhs; whnf
    | refine S.seq_nil ?_
    | refine S.reg_n ?_
    | refine S.region rfl ?_
    | refine S.two ?_
    | refine S.blok ?_
    | refine S.cond rfl ?_
    | refine S.after_n ?_
    | refine S.block_n ?_
    | refine S.block_x ?_; conv => lhs; whnf
    | refine S.block_r ?_
    | refine S.after_x ?_
    | refine S.after_r ?_
    | refine S.skip ?_
    | refine S.exit ?_
    | refine S.ret ?_
    | refine br_lt ?_; conv => lhs; whnf
    | refine br_lf ?_; conv => lhs; whnf
    | refine br_t (by assumption) ?_; conv => lhs; whnf
    | refine br_f (by assumption) ?_; conv => lhs; whnf
    | refine req_i (by with_reducible assumption) ?_; conv => lhs; whnf
    | (refine br_nd (fun _ => ?_) (fun _ => ?_) <;> conv => lhs; whnf)
    | (refine br_d (fun _ => ?_) (fun _ => ?_) <;> conv => lhs; whnf)
    | (refine br_n (fun _ => ?_) (fun _ => ?_) <;> conv => lhs; whnf)
    | (refine br_c (fun _ => ?_) (fun _ => ?_) <;> conv => lhs; whnf)
    | refine req_c fun _ => ?_; conv => lhs; whnf
    | refine req_i (by assumption) ?_; conv => lhs; whnf
    | refine bnd_c fun _ => ?_; conv => lhs; whnf
    | refine sum_c (fun _ => ?_) (fun _ => ?_)
    | refine (w30_0 S k _).trans ?_
    | refine S.loop ?_; conv => lhs; whnf
    | refine S.back_n ?_; conv => lhs; whnf
    | refine S.back_x ?_; conv => lhs; whnf
    | refine S.back_r ?_; conv => lhs; whnf
    | refine S.fin_r ?_; conv => lhs; whnf
    | refine S.fin_n ?_; conv => lhs; whnf
    | exact ret_c rfl
    | exact none_c
    | refine S.draw_op ?_; conv => lhs; whnf; arg 1; whnf
    | refine S.dk_n ?_; conv => lhs; whnf
    | refine S.draw_nil ?_; conv => lhs; whnf
    | refine andK_br ?_
    | refine andK_req ?_
    | refine andK_b ?_
    | refine andK_none ?_
def sp30 (k : Nat) : FSpec := ⟨[.rd, .rd], fun args objs K => match args, objs with | [v0, v1], [] => listB (.int .i64) true v0 fun a0 => listB (.int .i64) true v1 fun a1 => bindO (axes_Turned.f k a0 a1) fun x : Int × (List Int) => K (.tup [.own 0, .i .i64 x.1]) [.row (.int .i64) x.2 false] | _, _ => none⟩
theorem snd30 (k : Nat) : Sound Try.prog 30 (sp30 k) := by
  refine ⟨⟨Try.f30, rfl, by kernel_rfl, rfl⟩, fun args objs K r h => ?_⟩
  unfold sp30 at h; dsimp only at h; split at h
  · rename_i v0 v1
    obtain ⟨a0, h9, ca0⟩ := listB_spec h; clear h
    have h := h9; clear h9
    obtain ⟨a1, h9, ca1⟩ := listB_spec h; clear h
    have h := h9; clear h9
    obtain ⟨x, hx, h⟩ := bindO_some h
    exact ⟨_, _, h, FnOK.args2 (relL_c ca0 (relL_c ca1 relL_n)) (fn_run tab_ok (en30) mixed rfl ((r30 seals k a0 a1).trans (bindO_eq hx)))⟩
  · cases h
end Go.Vm

/- axes_Turn -/
namespace Go.Vm
open Go Go.Proofs Go.Pf
def lv14 : Live := look ⟨[], [], [], [], []⟩ [(1000000, ⟨[], [], [], [(4, 0, .own (.int .i64)), (4, 1, .own (.int .i64))], []⟩)]
noncomputable def g14 (k : Nat) : FEnv := (addF 24 (sp24_2 k) (addF 30 (sp30 k) (addF 22 (sp22 k) (fun _ => none))))
theorem en14 (k : Nat) : EnvOK Try.prog (g14 k) := (envOK_add (snd24_2 k) (envOK_add (snd30 k) (envOK_add (snd22 k) (envOK_nil _))))
set_option maxRecDepth 60000 in
set_option maxHeartbeats 4000000 in
theorem r14 (S : Seals) (k : Nat) (a0_0 : List Int) (a0_1 : List Int) (a1 : List Int) : runF tt (g14 k) lv14 Try.f14 k [.agg [.dat (.int .i64) a0_0 true, .dat (.int .i64) a0_1 true], .dat (.int .i64) a1 true] [] = bindO (axes_Turn.f k a0_0 a0_1 a1) (fun x : Int × (List Int) × (List Int) => some (.tup [.agg [.own 0, .own 1], .i .i64 x.1], [.row (.int .i64) x.2.1 false, .row (.int .i64) x.2.2 false])) := by
  unfold axes_Turn.f; refine S.run_s rfl rfl ?_; conv => lhs; arg 5; whnf
  conv => lhs; arg 6; whnf
  repeat' first
    | refine S.seq_op rfl ?_; conv => lhs; whnf
    | refine S.op_n ?_; conv => lhs; whnf
    | refine S.seq_nil ?_
    | refine S.reg_n ?_
    | refine S.region rfl ?_
    | refine S.two ?_
    | refine S.blok ?_
    | refine S.cond rfl ?_
    | refine S.after_n ?_
    | refine S.block_n ?_
    | refine S.block_x ?_; conv => lhs; whnf
    | refine S.block_r ?_
    | refine S.after_x ?_
    | refine S.after_r ?_
    | refine S.skip ?_
    | refine S.exit ?_
    | refine S.ret ?_
    | refine br_lt ?_; conv => lhs; whnf
    | refine br_lf ?_; conv => lhs; whnf
    | refine br_t (by assumption) ?_; conv => lhs; whnf
    | refine br_f (by assumption) ?_; conv => lhs; whnf
    | refine req_i (by with_reducible assumption) ?_; conv => lhs; whnf
    | (refine br_nd (fun _ => ?_) (fun _ => ?_) <;> conv => lhs; whnf)
    | (refine br_d (fun _ => ?_) (fun _ => ?_) <;> conv => lhs; whnf)
    | (refine br_n (fun _ => ?_) (fun _ => ?_) <;> conv => lhs; whnf)
    | (refine br_c (fun _ => ?_) (fun _ => ?_) <;> conv => lhs; whnf)
    | refine req_c fun _ => ?_; conv => lhs; whnf
    | refine req_i (by assumption) ?_; conv => lhs; whnf
    | refine bnd_c fun _ => ?_; conv => lhs; whnf
    | refine sum_c (fun _ => ?_) (fun _ => ?_)
    | refine S.loop ?_; conv => lhs; whnf
    | refine S.back_n ?_; conv => lhs; whnf
    | refine S.back_x ?_; conv => lhs; whnf
    | refine S.back_r ?_; conv => lhs; whnf
    | refine S.fin_r ?_; conv => lhs; whnf
    | refine S.fin_n ?_; conv => lhs; whnf
    | exact ret_c rfl
    | exact none_c
    | refine S.draw_op ?_; conv => lhs; whnf; arg 1; whnf
    | refine S.dk_n ?_; conv => lhs; whnf
    | refine S.draw_nil ?_; conv => lhs; whnf
    | refine andK_br ?_
    | refine andK_req ?_
    | refine andK_b ?_
    | refine andK_none ?_
def sp14 (k : Nat) : FSpec := ⟨[.rd, .rd], fun args objs K => match args, objs with | [.agg [v0, v1], v2], [] => listB (.int .i64) true v0 fun a0_0 => listB (.int .i64) true v1 fun a0_1 => listB (.int .i64) true v2 fun a1 => bindO (axes_Turn.f k a0_0 a0_1 a1) fun x : Int × (List Int) × (List Int) => K (.tup [.agg [.own 0, .own 1], .i .i64 x.1]) [.row (.int .i64) x.2.1 false, .row (.int .i64) x.2.2 false] | _, _ => none⟩
theorem snd14 (k : Nat) : Sound Try.prog 14 (sp14 k) := by
  refine ⟨⟨Try.f14, rfl, by kernel_rfl, rfl⟩, fun args objs K r h => ?_⟩
  unfold sp14 at h; dsimp only at h; split at h
  · rename_i v0 v1 v2
    obtain ⟨a0_0, h9, ca0_0⟩ := listB_spec h; clear h
    have h := h9; clear h9
    obtain ⟨a0_1, h9, ca0_1⟩ := listB_spec h; clear h
    have h := h9; clear h9
    obtain ⟨a1, h9, ca1⟩ := listB_spec h; clear h
    have h := h9; clear h9
    obtain ⟨x, hx, h⟩ := bindO_some h
    exact ⟨_, _, h, FnOK.args2 (relL_c (rel_agg (relL_c ca0_0 (relL_c ca0_1 relL_n))) (relL_c ca1 relL_n)) (fn_run tab_ok (en14 k) mixed rfl ((r14 seals k a0_0 a0_1 a1).trans (bindO_eq hx)))⟩
  · cases h
end Go.Vm

/- law5_known -/
namespace Go.Vm
open Go Go.Proofs Go.Pf
def lv11 : Live := look ⟨[], [], [], [], []⟩ []
noncomputable def g11 (k : Nat) : FEnv := (addF 10 (sp10 k) (addF 14 (sp14 k) (fun _ => none)))
theorem en11 (k : Nat) : EnvOK Try.prog (g11 k) := (envOK_add (snd10 k) (envOK_add (snd14 k) (envOK_nil _)))
set_option maxRecDepth 60000 in
set_option maxHeartbeats 4000000 in
theorem r11 (S : Seals) (k : Nat) : runF tt (g11 k) lv11 Try.f11 k [] [] = bindO (law5_known.f k) (fun x : Bool => some (.b x, [])) := by
  unfold law5_known.f; refine S.run_s rfl rfl ?_; conv => lhs; arg 5; whnf
  conv => lhs; arg 6; whnf
  repeat' first
    | refine S.seq_op rfl ?_; conv => lhs; whnf
    | refine S.op_n ?_; conv => lhs; whnf
    | refine S.seq_nil ?_
    | refine S.reg_n ?_
    | refine S.region rfl ?_
    | refine S.two ?_
    | refine S.blok ?_
    | refine S.cond rfl ?_
    | refine S.after_n ?_
    | refine S.block_n ?_
    | refine S.block_x ?_; conv => lhs; whnf
    | refine S.block_r ?_
    | refine S.after_x ?_
    | refine S.after_r ?_
    | refine S.skip ?_
    | refine S.exit ?_
    | refine S.ret ?_
    | refine br_lt ?_; conv => lhs; whnf
    | refine br_lf ?_; conv => lhs; whnf
    | refine br_t (by assumption) ?_; conv => lhs; whnf
    | refine br_f (by assumption) ?_; conv => lhs; whnf
    | refine req_i (by with_reducible assumption) ?_; conv => lhs; whnf
    | (refine br_nd (fun _ => ?_) (fun _ => ?_) <;> conv => lhs; whnf)
    | (refine br_d (fun _ => ?_) (fun _ => ?_) <;> conv => lhs; whnf)
    | (refine br_n (fun _ => ?_) (fun _ => ?_) <;> conv => lhs; whnf)
    | (refine br_c (fun _ => ?_) (fun _ => ?_) <;> conv => lhs; whnf)
    | refine req_c fun _ => ?_; conv => lhs; whnf
    | refine req_i (by assumption) ?_; conv => lhs; whnf
    | refine bnd_c fun _ => ?_; conv => lhs; whnf
    | refine sum_c (fun _ => ?_) (fun _ => ?_)
    | refine S.loop ?_; conv => lhs; whnf
    | refine S.back_n ?_; conv => lhs; whnf
    | refine S.back_x ?_; conv => lhs; whnf
    | refine S.back_r ?_; conv => lhs; whnf
    | refine S.fin_r ?_; conv => lhs; whnf
    | refine S.fin_n ?_; conv => lhs; whnf
    | exact ret_c rfl
    | exact none_c
    | refine S.draw_op ?_; conv => lhs; whnf; arg 1; whnf
    | refine S.dk_n ?_; conv => lhs; whnf
    | refine S.draw_nil ?_; conv => lhs; whnf
    | refine andK_br ?_
    | refine andK_req ?_
    | refine andK_b ?_
    | refine andK_none ?_
def sp11 (k : Nat) : FSpec := ⟨[], fun args objs K => match args, objs with | [], [] => bindO (law5_known.f k) fun x : Bool => K (.b x) [] | _, _ => none⟩
theorem snd11 (k : Nat) : Sound Try.prog 11 (sp11 k) := by
  refine ⟨⟨Try.f11, rfl, by kernel_rfl, rfl⟩, fun args objs K r h => ?_⟩
  unfold sp11 at h; dsimp only at h; split at h
  · skip
    obtain ⟨x, hx, h⟩ := bindO_some h
    exact ⟨_, _, h, FnOK.args2 relL_n (fn_run tab_ok (en11 k) mixed rfl ((r11 seals k).trans (bindO_eq hx)))⟩
  · cases h
end Go.Vm

/- axes_Slice_1 -/
namespace Go.Vm
open Go Go.Proofs Go.Pf
def lv28 : Live := look ⟨[], [], [], [], []⟩ [(2, ⟨[0, 2, 7, 8, 9], [0, 2], [4], [], []⟩)]
noncomputable def g28 (k : Nat) : FEnv := (addF 26 (sp26 k) (fun _ => none))
theorem en28 (k : Nat) : EnvOK Try.prog (g28 k) := (envOK_add (snd26 k) (envOK_nil _))
set_option maxRecDepth 60000 in
set_option maxHeartbeats 4000000 in
theorem w28_0 (S : Seals) (k : Nat) : ∀ (n : Nat) {x7 : List Int} {x8 : Int} {x9 : Int} {y0 : List Int} {y1 : List Int} {y2_0 : List Int} {y2_1 : List Int} {K : CK}, S.lp tt (g28 k) lv28 3 n (loopN Try.f28 0) ⟨[(0, .own 0), (2, .ptr 2 0), (7, .dat (.int .i64) x7 true), (8, .i .i64 x8), (9, .i .i64 x9)], [(0, .row (.int .i64) y0 false), (1, .var [.dat (.int .i64) y1 true]), (2, .var [.dat (.int .i64) y2_0 true, .dat (.int .i64) y2_1 true])], 3, 25⟩ K = bindO (axes_Slice_1.l0 n x7 x8 x9 y0 y1 y2_0 y2_1) (fun x : (List Int) => K (.exit 0) ⟨[(0, .own 0), (2, .ptr 2 0)], [(0, .row (.int .i64) x false), (1, .var [.dat (.int .i64) y1 true]), (2, .var [.dat (.int .i64) y2_0 true, .dat (.int .i64) y2_1 true])], 3, 25⟩) := by
  intro n; induction n with
  | zero => intros; rw [S.lp_zero]; exact none_c
  | succ n ih =>
    intros; rw [axes_Slice_1.l0]; refine S.lp_succ ?_; conv => lhs; arg 5; whnf
    repeat' first
      | refine S.seq_op rfl ?_; conv => lhs; whnf
      | refine S.op_n ?_; conv => lhs; whnf
      | refine S.seq_nil ?_
      | refine S.reg_n ?_
      | refine S.region rfl ?_
      | refine S.two ?_
      | refine S.blok ?_
      | refine S.cond rfl ?_
      | refine S.after_n ?_
      | refine S.block_n ?_
      | refine S.block_x ?_; conv => lhs; whnf
      | refine S.block_r ?_
      | refine S.after_x ?_
      | refine S.after_r ?_
      | refine S.skip ?_
      | refine S.exit ?_
      | refine S.ret ?_
      | refine br_lt ?_; conv => lhs; whnf
      | refine br_lf ?_; conv => lhs; whnf
      | refine br_t (by assumption) ?_; conv => lhs; whnf
      | refine br_f (by assumption) ?_; conv => lhs; whnf
      | refine req_i (by with_reducible assumption) ?_; conv => lhs; whnf
      | (refine br_nd (fun _ => ?_) (fun _ => ?_) <;> conv => lhs; whnf)
      | (refine br_d (fun _ => ?_) (fun _ => ?_) <;> conv => lhs; whnf)
      | (refine br_n (fun _ => ?_) (fun _ => ?_) <;> conv => lhs; whnf)
      | (refine br_c (fun _ => ?_) (fun _ => ?_) <;> conv => lhs; whnf)
      | refine req_c fun _ => ?_; conv => lhs; whnf
      | refine req_i (by assumption) ?_; conv => lhs; whnf
      | refine bnd_c fun _ => ?_; conv => lhs; whnf
      | refine sum_c (fun _ => ?_) (fun _ => ?_)
      | exact ih
      | refine S.loop ?_; conv => lhs; whnf
      | refine S.back_n ?_; conv => lhs; whnf
      | refine S.back_x ?_; conv => lhs; whnf
      | refine S.back_r ?_; conv => lhs; whnf
      | refine S.fin_r ?_; conv => lhs; whnf
      | refine S.fin_n ?_; conv => lhs; whnf
      | exact ret_c rfl
      | exact none_c
      | refine S.draw_op ?_; conv => lhs; whnf; arg 1; whnf
      | refine S.dk_n ?_; conv => lhs; whnf
      | refine S.draw_nil ?_; conv => lhs; whnf
      | refine andK_br ?_
      | refine andK_req ?_
      | refine andK_b ?_
      | refine andK_none ?_
set_option maxRecDepth 60000 in
set_option maxHeartbeats 4000000 in
theorem r28 (S : Seals) (k : Nat) (o0 : List Int) (o1 : List Int) (o2_0 : List Int) (o2_1 : List Int) : runF tt (g28 k) lv28 Try.f28 k [.own 0, .ptr 1 0, .ptr 2 0] [.row (.int .i64) o0 false, .var [.dat (.int .i64) o1 true], .var [.dat (.int .i64) o2_0 true, .dat (.int .i64) o2_1 true]] = bindO (axes_Slice_1.f k o0 o1 o2_0 o2_1) (fun x : Int × (List Int) => some (.i .i64 x.1, [.row (.int .i64) x.2 false, .var [.dat (.int .i64) o1 true], .var [.dat (.int .i64) o2_0 true, .dat (.int .i64) o2_1 true]])) := by
  unfold axes_Slice_1.f; refine S.run_s rfl rfl ?_; conv => lhs; arg 5; whnf
  conv => lhs; arg 6; whnf
  repeat' first
    | refine S.seq_op rfl ?_; conv => lhs; whnf
    | refine S.op_n ?_; conv => lhs; whnf
    | refine S.seq_nil ?_
    | refine S.reg_n ?_
    | refine S.region rfl ?_
    | refine S.two ?_
    | refine S.blok ?_
    | refine S.cond rfl ?_
    | refine S.after_n ?_
    | refine S.block_n ?_
    | refine S.block_x ?_; conv => lhs; whnf
    | refine S.block_r ?_
    | refine S.after_x ?_
    | refine S.after_r ?_
    | refine S.skip ?_
    | refine S.exit ?_
    | refine S.ret ?_
    | refine br_lt ?_; conv => lhs; whnf
    | refine br_lf ?_; conv => lhs; whnf
    | refine br_t (by assumption) ?_; conv => lhs; whnf
    | refine br_f (by assumption) ?_; conv => lhs; whnf
    | refine req_i (by with_reducible assumption) ?_; conv => lhs; whnf
    | (refine br_nd (fun _ => ?_) (fun _ => ?_) <;> conv => lhs; whnf)
    | (refine br_d (fun _ => ?_) (fun _ => ?_) <;> conv => lhs; whnf)
    | (refine br_n (fun _ => ?_) (fun _ => ?_) <;> conv => lhs; whnf)
    | (refine br_c (fun _ => ?_) (fun _ => ?_) <;> conv => lhs; whnf)
    | refine req_c fun _ => ?_; conv => lhs; whnf
    | refine req_i (by assumption) ?_; conv => lhs; whnf
    | refine bnd_c fun _ => ?_; conv => lhs; whnf
    | refine sum_c (fun _ => ?_) (fun _ => ?_)
    | refine (w28_0 S k _).trans ?_
    | refine S.loop ?_; conv => lhs; whnf
    | refine S.back_n ?_; conv => lhs; whnf
    | refine S.back_x ?_; conv => lhs; whnf
    | refine S.back_r ?_; conv => lhs; whnf
    | refine S.fin_r ?_; conv => lhs; whnf
    | refine S.fin_n ?_; conv => lhs; whnf
    | exact ret_c rfl
    | exact none_c
    | refine S.draw_op ?_; conv => lhs; whnf; arg 1; whnf
    | refine S.dk_n ?_; conv => lhs; whnf
    | refine S.draw_nil ?_; conv => lhs; whnf
    | refine andK_br ?_
    | refine andK_req ?_
    | refine andK_b ?_
    | refine andK_none ?_
def sp28 (k : Nat) : FSpec := ⟨[.kp, .kp, .kp], fun args objs K => match args, objs with | [.own 0, .ptr 1 0, .ptr 2 0], [w0, .var [v0], .var [v1, v2]] => rowK (.int .i64) false w0 fun o0 => datK (.int .i64) true v0 fun o1 => datK (.int .i64) true v1 fun o2_0 => datK (.int .i64) true v2 fun o2_1 => bindO (axes_Slice_1.f k o0 o1 o2_0 o2_1) fun x : Int × (List Int) => K (.i .i64 x.1) [.row (.int .i64) x.2 false, .var [.dat (.int .i64) o1 true], .var [.dat (.int .i64) o2_0 true, .dat (.int .i64) o2_1 true]] | _, _ => none⟩
theorem snd28 (k : Nat) : Sound Try.prog 28 (sp28 k) := by
  refine ⟨⟨Try.f28, rfl, by kernel_rfl, rfl⟩, fun args objs K r h => ?_⟩
  unfold sp28 at h; dsimp only at h; split at h
  · rename_i w0 v0 v1 v2
    obtain ⟨o0, h9, eo0⟩ := rowK_spec h; clear h; subst eo0
    have h := h9; clear h9
    obtain ⟨o1, h9, eo1⟩ := datK_spec h; clear h; subst eo1
    have h := h9; clear h9
    obtain ⟨o2_0, h9, eo2_0⟩ := datK_spec h; clear h; subst eo2_0
    have h := h9; clear h9
    obtain ⟨o2_1, h9, eo2_1⟩ := datK_spec h; clear h; subst eo2_1
    have h := h9; clear h9
    obtain ⟨x, hx, h⟩ := bindO_some h
    exact ⟨_, _, h, FnOK.args2 (relL_c rel_i (relL_c rel_i (relL_c rel_i relL_n))) (fn_run tab_ok (en28 k) mixed rfl ((r28 seals k o0 o1 o2_0 o2_1).trans (bindO_eq hx)))⟩
  · cases h
end Go.Vm

/- tensor_Made__axes_Slice_1 -/
namespace Go.Vm
open Go Go.Proofs Go.Pf
def lv24_3 : Live := look ⟨[], [], [], [], []⟩ [(3, ⟨[0, 1, 4, 5, 15, 16], [4, 5], [4], [], []⟩)]
noncomputable def g24_3 (k : Nat) : FEnv := (addF 28 (sp28 k) (addF 47 (sp47 k) (addF 45 (sp45 k) (addF 46 sp46 (fun _ => none)))))
theorem en24_3 (k : Nat) : EnvOK Try.prog (g24_3 k) := (envOK_add (snd28 k) (envOK_add (snd47 k) (envOK_add (snd45 k) (envOK_add snd46 (envOK_nil _)))))
set_option maxRecDepth 60000 in
set_option maxHeartbeats 4000000 in
theorem w24_3_0 (S : Seals) (k : Nat) : ∀ (n : Nat) {x0 : List Int} {x15 : Int} {x16 : Int} {y0 : List Int} {y1_0 : List Int} {y1_1 : List Int} {y4 : List Int} {y5 : List Int} {K : CK}, S.lp tt (g24_3 k) lv24_3 2 n (loopN Try.f24 0) ⟨[(0, .dat (.int .i64) x0 true), (1, .fn 28 [.ptr 0 0, .ptr 1 0]), (4, .ptr 2 0), (5, .ptr 3 0), (15, .i .i64 x15), (16, .i .i64 x16)], [(0, .var [.dat (.int .i64) y0 true]), (1, .var [.dat (.int .i64) y1_0 true, .dat (.int .i64) y1_1 true]), (2, .var [.nilsl, .nilsl]), (3, .var [.own 4, .own 5]), (4, .row (.int .i64) y4 false), (5, .row (.int .i64) y5 false)], 6, 30⟩ K = bindO (tensor_Made__axes_Slice_1.l0 k n x0 x15 x16 y0 y1_0 y1_1 y4 y5) (fun x : (List Int) => K (.exit 0) ⟨[(4, .ptr 2 0), (5, .ptr 3 0)], [(0, .var [.dat (.int .i64) y0 true]), (1, .var [.dat (.int .i64) y1_0 true, .dat (.int .i64) y1_1 true]), (2, .var [.nilsl, .nilsl]), (3, .var [.own 4, .own 5]), (4, .row (.int .i64) y4 false), (5, .row (.int .i64) x false)], 6, 30⟩) := by
  intro n; induction n with
  | zero => intros; rw [S.lp_zero]; exact none_c
  | succ n ih =>
    intros; rw [tensor_Made__axes_Slice_1.l0]; refine S.lp_succ ?_; conv => lhs; arg 5; whnf
    repeat' first
      | refine S.seq_op rfl ?_; conv => lhs; whnf
      | refine S.op_n ?_; conv => lhs; whnf
      | refine S.seq_nil ?_
      | refine S.reg_n ?_
      | refine S.region rfl ?_
      | refine S.two ?_
      | refine S.blok ?_
      | refine S.cond rfl ?_
      | refine S.after_n ?_
      | refine S.block_n ?_
      | refine S.block_x ?_; conv => lhs; whnf
      | refine S.block_r ?_
      | refine S.after_x ?_
      | refine S.after_r ?_
      | refine S.skip ?_
      | refine S.exit ?_
      | refine S.ret ?_
      | refine br_lt ?_; conv => lhs; whnf
      | refine br_lf ?_; conv => lhs; whnf
      | refine br_t (by assumption) ?_; conv => lhs; whnf
      | refine br_f (by assumption) ?_; conv => lhs; whnf
      | refine req_i (by with_reducible assumption) ?_; conv => lhs; whnf
      | (refine br_nd (fun _ => ?_) (fun _ => ?_) <;> conv => lhs; whnf)
      | (refine br_d (fun _ => ?_) (fun _ => ?_) <;> conv => lhs; whnf)
      | (refine br_n (fun _ => ?_) (fun _ => ?_) <;> conv => lhs; whnf)
      | (refine br_c (fun _ => ?_) (fun _ => ?_) <;> conv => lhs; whnf)
      | refine req_c fun _ => ?_; conv => lhs; whnf
      | refine req_i (by assumption) ?_; conv => lhs; whnf
      | refine bnd_c fun _ => ?_; conv => lhs; whnf
      | refine sum_c (fun _ => ?_) (fun _ => ?_)
      | refine S.region_d (id := 5) (ds := [0, 1, 0, 0, 0, 0, 48, 120, 255, 511]) (mds := [[], [], [], [], [], [], [], [0, 1], [], [5]]) (hm := [(7, [0, 1]), (9, [5])]) (by kernel_rfl) (by kernel_rfl) rfl rfl ?_
      | exact ih
      | refine S.loop ?_; conv => lhs; whnf
      | refine S.back_n ?_; conv => lhs; whnf
      | refine S.back_x ?_; conv => lhs; whnf
      | refine S.back_r ?_; conv => lhs; whnf
      | refine S.fin_r ?_; conv => lhs; whnf
      | refine S.fin_n ?_; conv => lhs; whnf
      | exact ret_c rfl
      | exact none_c
      | refine S.draw_op ?_; conv => lhs; whnf; arg 1; whnf
      | refine S.dk_n ?_; conv => lhs; whnf
      | refine S.draw_nil ?_; conv => lhs; whnf
      | refine andK_br ?_
      | refine andK_req ?_
      | refine andK_b ?_
      | refine andK_none ?_
set_option maxRecDepth 60000 in
set_option maxHeartbeats 4000000 in
theorem r24_3 (S : Seals) (k : Nat) (a0 : List Int) (o0 : List Int) (o1_0 : List Int) (o1_1 : List Int) : runF tt (g24_3 k) lv24_3 Try.f24 k [.dat (.int .i64) a0 true, .fn 28 [.ptr 0 0, .ptr 1 0]] [.var [.dat (.int .i64) o0 true], .var [.dat (.int .i64) o1_0 true, .dat (.int .i64) o1_1 true]] = bindO (tensor_Made__axes_Slice_1.f k a0 o0 o1_0 o1_1) (fun x : (List Int) × (List Int) => some (.agg [.own 2, .own 3], [.var [.dat (.int .i64) o0 true], .var [.dat (.int .i64) o1_0 true, .dat (.int .i64) o1_1 true], .row (.int .i64) x.1 false, .row (.int .i64) x.2 false])) := by
  unfold tensor_Made__axes_Slice_1.f; refine S.run_s rfl rfl ?_; conv => lhs; arg 5; whnf
  conv => lhs; arg 6; whnf
  repeat' first
    | refine S.seq_op rfl ?_; conv => lhs; whnf
    | refine S.op_n ?_; conv => lhs; whnf
    | refine S.seq_nil ?_
    | refine S.reg_n ?_
    | refine S.region rfl ?_
    | refine S.two ?_
    | refine S.blok ?_
    | refine S.cond rfl ?_
    | refine S.after_n ?_
    | refine S.block_n ?_
    | refine S.block_x ?_; conv => lhs; whnf
    | refine S.block_r ?_
    | refine S.after_x ?_
    | refine S.after_r ?_
    | refine S.skip ?_
    | refine S.exit ?_
    | refine S.ret ?_
    | refine br_lt ?_; conv => lhs; whnf
    | refine br_lf ?_; conv => lhs; whnf
    | refine br_t (by assumption) ?_; conv => lhs; whnf
    | refine br_f (by assumption) ?_; conv => lhs; whnf
    | refine req_i (by with_reducible assumption) ?_; conv => lhs; whnf
    | (refine br_nd (fun _ => ?_) (fun _ => ?_) <;> conv => lhs; whnf)
    | (refine br_d (fun _ => ?_) (fun _ => ?_) <;> conv => lhs; whnf)
    | (refine br_n (fun _ => ?_) (fun _ => ?_) <;> conv => lhs; whnf)
    | (refine br_c (fun _ => ?_) (fun _ => ?_) <;> conv => lhs; whnf)
    | refine req_c fun _ => ?_; conv => lhs; whnf
    | refine req_i (by assumption) ?_; conv => lhs; whnf
    | refine bnd_c fun _ => ?_; conv => lhs; whnf
    | refine sum_c (fun _ => ?_) (fun _ => ?_)
    | refine (w24_3_0 S k _).trans ?_
    | refine S.loop ?_; conv => lhs; whnf
    | refine S.back_n ?_; conv => lhs; whnf
    | refine S.back_x ?_; conv => lhs; whnf
    | refine S.back_r ?_; conv => lhs; whnf
    | refine S.fin_r ?_; conv => lhs; whnf
    | refine S.fin_n ?_; conv => lhs; whnf
    | exact ret_c rfl
    | exact none_c
    | refine S.draw_op ?_; conv => lhs; whnf; arg 1; whnf
    | refine S.dk_n ?_; conv => lhs; whnf
    | refine S.draw_nil ?_; conv => lhs; whnf
    | refine andK_br ?_
    | refine andK_req ?_
    | refine andK_b ?_
    | refine andK_none ?_
def sp24_3 (k : Nat) : FSpec := ⟨[.kp, .kp], fun args objs K => match args, objs with | [v0, .fn 28 [.ptr 0 0, .ptr 1 0]], [.var [v1], .var [v2, v3]] => listB (.int .i64) true v0 fun a0 => datK (.int .i64) true v1 fun o0 => datK (.int .i64) true v2 fun o1_0 => datK (.int .i64) true v3 fun o1_1 => bindO (tensor_Made__axes_Slice_1.f k a0 o0 o1_0 o1_1) fun x : (List Int) × (List Int) => K (.agg [.own 2, .own 3]) [.var [.dat (.int .i64) o0 true], .var [.dat (.int .i64) o1_0 true, .dat (.int .i64) o1_1 true], .row (.int .i64) x.1 false, .row (.int .i64) x.2 false] | _, _ => none⟩
theorem snd24_3 (k : Nat) : Sound Try.prog 24 (sp24_3 k) := by
  refine ⟨⟨Try.f24, rfl, by kernel_rfl, rfl⟩, fun args objs K r h => ?_⟩
  unfold sp24_3 at h; dsimp only at h; split at h
  · rename_i v0 v1 v2 v3
    obtain ⟨a0, h9, ca0⟩ := listB_spec h; clear h
    have h := h9; clear h9
    obtain ⟨o0, h9, eo0⟩ := datK_spec h; clear h; subst eo0
    have h := h9; clear h9
    obtain ⟨o1_0, h9, eo1_0⟩ := datK_spec h; clear h; subst eo1_0
    have h := h9; clear h9
    obtain ⟨o1_1, h9, eo1_1⟩ := datK_spec h; clear h; subst eo1_1
    have h := h9; clear h9
    obtain ⟨x, hx, h⟩ := bindO_some h
    exact ⟨_, _, h, FnOK.args2 (relL_c ca0 (relL_c rel_i relL_n)) (fn_run tab_ok (en24_3 k) mixed rfl ((r24_3 seals k a0 o0 o1_0 o1_1).trans (bindO_eq hx)))⟩
  · cases h
end Go.Vm

/- axes_Sliced -/
namespace Go.Vm
open Go Go.Proofs Go.Pf
def lv27 : Live := look ⟨[], [], [], [], []⟩ [(4, ⟨[1, 2, 21, 22, 23], [], [6], [], []⟩)]
noncomputable def g27 : FEnv := (fun _ => none)
theorem en27 : EnvOK Try.prog (g27) := (envOK_nil _)
set_option maxRecDepth 60000 in
set_option maxHeartbeats 4000000 in
theorem w27_0 (S : Seals) (k : Nat) : ∀ (n : Nat) {x1 : List Int} {x2 : List Int} {x21 : List Int} {x22 : Int} {x23 : Int} {K : CK}, S.lp tt (g27) lv27 0 n (loopN Try.f27 0) ⟨[(1, .dat (.int .i64) x1 true), (2, .dat (.int .i64) x2 true), (21, .dat (.int .i64) x21 true), (22, .i .i64 x22), (23, .i .i64 x23)], [], 0, 62⟩ K = bindO (axes_Sliced.l0 n x1 x2 x21 x22 x23) (Sum.elim (fun x : Unit => K (.exit 0) ⟨[], [], 0, 62⟩) (fun x : Int => K .ret ⟨[(6, .i .i64 x)], [], 0, 62⟩)) := by
  intro n; induction n with
  | zero => intros; rw [S.lp_zero]; exact none_c
  | succ n ih =>
    intros; rw [axes_Sliced.l0]; refine S.lp_succ ?_; conv => lhs; arg 5; whnf
    repeat' first
      | refine S.seq_op rfl ?_; conv => lhs; whnf
      | refine S.op_n ?_; conv => lhs; whnf
      | refine S.seq_nil ?_
      | refine S.reg_n ?_
      | refine S.region rfl ?_
      | refine S.two ?_
      | refine S.blok ?_
      | refine S.cond rfl ?_
      | refine S.after_n ?_
      | refine S.block_n ?_
      | refine S.block_x ?_; conv => lhs; whnf
      | refine S.block_r ?_
      | refine S.after_x ?_
      | refine S.after_r ?_
      | refine S.skip ?_
      | refine S.exit ?_
      | refine S.ret ?_
      | refine br_lt ?_; conv => lhs; whnf
      | refine br_lf ?_; conv => lhs; whnf
      | refine br_t (by assumption) ?_; conv => lhs; whnf
      | refine br_f (by assumption) ?_; conv => lhs; whnf
      | refine req_i (by with_reducible assumption) ?_; conv => lhs; whnf
      | (refine br_nd (fun _ => ?_) (fun _ => ?_) <;> conv => lhs; whnf)
      | (refine br_d (fun _ => ?_) (fun _ => ?_) <;> conv => lhs; whnf)
      | (refine br_n (fun _ => ?_) (fun _ => ?_) <;> conv => lhs; whnf)
      | (refine br_c (fun _ => ?_) (fun _ => ?_) <;> conv => lhs; whnf)
      | refine req_c fun _ => ?_; conv => lhs; whnf
      | refine req_i (by assumption) ?_; conv => lhs; whnf
      | refine bnd_c fun _ => ?_; conv => lhs; whnf
      | refine sum_c (fun _ => ?_) (fun _ => ?_)
      | refine S.region_d (id := 6) (ds := [0, 0, 3, 7, 15, 31, 63, 63, 255, 511, 63, 2047, 4095, 8191, 16383, 16383, 65535, 131071, 262143, 524287, 1048575, 2097151, 2097151, 8388607, 16777215, 2097151, 2097151, 2097151, 203423743, 471859199, 1042284543, 2147483647, 4294967295]) (mds := [[], [], [], [], [], [], [], [], [], [], [], [], [], [], [], [], [], [], [], [], [], [], [], [], [], [], [], [], [], [], [], [], []]) (hm := []) (by kernel_rfl) (by kernel_rfl) rfl rfl ?_
      | exact ih
      | refine S.loop ?_; conv => lhs; whnf
      | refine S.back_n ?_; conv => lhs; whnf
      | refine S.back_x ?_; conv => lhs; whnf
      | refine S.back_r ?_; conv => lhs; whnf
      | refine S.fin_r ?_; conv => lhs; whnf
      | refine S.fin_n ?_; conv => lhs; whnf
      | exact ret_c rfl
      | exact none_c
      | refine S.draw_op ?_; conv => lhs; whnf; arg 1; whnf
      | refine S.dk_n ?_; conv => lhs; whnf
      | refine S.draw_nil ?_; conv => lhs; whnf
      | refine andK_br ?_
      | refine andK_req ?_
      | refine andK_b ?_
      | refine andK_none ?_
set_option maxRecDepth 60000 in
set_option maxHeartbeats 4000000 in
theorem r27 (S : Seals) (k : Nat) (a0 : List Int) (a1 : List Int) (a2 : List Int) : runF tt (g27) lv27 Try.f27 k [.dat (.int .i64) a0 true, .dat (.int .i64) a1 true, .dat (.int .i64) a2 true] [] = bindO (axes_Sliced.f k a0 a1 a2) (fun x : Int => some (.i .i64 x, [])) := by
  unfold axes_Sliced.f; refine S.run_s rfl rfl ?_; conv => lhs; arg 5; whnf
  conv => lhs; arg 6; whnf
  repeat' first
    | refine S.seq_op rfl ?_; conv => lhs; whnf
    | refine S.op_n ?_; conv => lhs; whnf
    | refine S.seq_nil ?_
    | refine S.reg_n ?_
    | refine S.region rfl ?_
    | refine S.two ?_
    | refine S.blok ?_
    | refine S.cond rfl ?_
    | refine S.after_n ?_
    | refine S.block_n ?_
    | refine S.block_x ?_; conv => lhs; whnf
    | refine S.block_r ?_
    | refine S.after_x ?_
    | refine S.after_r ?_
    | refine S.skip ?_
    | refine S.exit ?_
    | refine S.ret ?_
    | refine br_lt ?_; conv => lhs; whnf
    | refine br_lf ?_; conv => lhs; whnf
    | refine br_t (by assumption) ?_; conv => lhs; whnf
    | refine br_f (by assumption) ?_; conv => lhs; whnf
    | refine req_i (by with_reducible assumption) ?_; conv => lhs; whnf
    | (refine br_nd (fun _ => ?_) (fun _ => ?_) <;> conv => lhs; whnf)
    | (refine br_d (fun _ => ?_) (fun _ => ?_) <;> conv => lhs; whnf)
    | (refine br_n (fun _ => ?_) (fun _ => ?_) <;> conv => lhs; whnf)
    | (refine br_c (fun _ => ?_) (fun _ => ?_) <;> conv => lhs; whnf)
    | refine req_c fun _ => ?_; conv => lhs; whnf
    | refine req_i (by assumption) ?_; conv => lhs; whnf
    | refine bnd_c fun _ => ?_; conv => lhs; whnf
    | refine sum_c (fun _ => ?_) (fun _ => ?_)
    | refine (w27_0 S k _).trans ?_
    | refine S.loop ?_; conv => lhs; whnf
    | refine S.back_n ?_; conv => lhs; whnf
    | refine S.back_x ?_; conv => lhs; whnf
    | refine S.back_r ?_; conv => lhs; whnf
    | refine S.fin_r ?_; conv => lhs; whnf
    | refine S.fin_n ?_; conv => lhs; whnf
    | exact ret_c rfl
    | exact none_c
    | refine S.draw_op ?_; conv => lhs; whnf; arg 1; whnf
    | refine S.dk_n ?_; conv => lhs; whnf
    | refine S.draw_nil ?_; conv => lhs; whnf
    | refine andK_br ?_
    | refine andK_req ?_
    | refine andK_b ?_
    | refine andK_none ?_
def sp27 (k : Nat) : FSpec := ⟨[.rd, .rd, .rd], fun args objs K => match args, objs with | [v0, v1, v2], [] => listB (.int .i64) true v0 fun a0 => listB (.int .i64) true v1 fun a1 => listB (.int .i64) true v2 fun a2 => bindO (axes_Sliced.f k a0 a1 a2) fun x : Int => K (.i .i64 x) [] | _, _ => none⟩
theorem snd27 (k : Nat) : Sound Try.prog 27 (sp27 k) := by
  refine ⟨⟨Try.f27, rfl, by kernel_rfl, rfl⟩, fun args objs K r h => ?_⟩
  unfold sp27 at h; dsimp only at h; split at h
  · rename_i v0 v1 v2
    obtain ⟨a0, h9, ca0⟩ := listB_spec h; clear h
    have h := h9; clear h9
    obtain ⟨a1, h9, ca1⟩ := listB_spec h; clear h
    have h := h9; clear h9
    obtain ⟨a2, h9, ca2⟩ := listB_spec h; clear h
    have h := h9; clear h9
    obtain ⟨x, hx, h⟩ := bindO_some h
    exact ⟨_, _, h, FnOK.args2 (relL_c ca0 (relL_c ca1 (relL_c ca2 relL_n))) (fn_run tab_ok (en27) mixed rfl ((r27 seals k a0 a1 a2).trans (bindO_eq hx)))⟩
  · cases h
end Go.Vm

/- axes_Slice -/
namespace Go.Vm
open Go Go.Proofs Go.Pf
def lv12 : Live := look ⟨[], [], [], [], []⟩ [(1000000, ⟨[], [], [], [(6, 0, .own (.int .i64)), (6, 1, .own (.int .i64))], []⟩)]
noncomputable def g12 (k : Nat) : FEnv := (addF 24 (sp24_3 k) (addF 27 (sp27 k) (addF 22 (sp22 k) (fun _ => none))))
theorem en12 (k : Nat) : EnvOK Try.prog (g12 k) := (envOK_add (snd24_3 k) (envOK_add (snd27 k) (envOK_add (snd22 k) (envOK_nil _))))
set_option maxRecDepth 60000 in
set_option maxHeartbeats 4000000 in
theorem r12 (S : Seals) (k : Nat) (a0_0 : List Int) (a0_1 : List Int) (a1 : List Int) (a2 : List Int) : runF tt (g12 k) lv12 Try.f12 k [.agg [.dat (.int .i64) a0_0 true, .dat (.int .i64) a0_1 true], .dat (.int .i64) a1 true, .dat (.int .i64) a2 true] [] = bindO (axes_Slice.f k a0_0 a0_1 a1 a2) (fun x : Int × (List Int) × (List Int) => some (.tup [.agg [.own 0, .own 1], .i .i64 x.1], [.row (.int .i64) x.2.1 false, .row (.int .i64) x.2.2 false])) := by
  unfold axes_Slice.f; refine S.run_s rfl rfl ?_; conv => lhs; arg 5; whnf
  conv => lhs; arg 6; whnf
  repeat' first
    | refine S.seq_op rfl ?_; conv => lhs; whnf
    | refine S.op_n ?_; conv => lhs; whnf
    | refine S.seq_nil ?_
    | refine S.reg_n ?_
    | refine S.region rfl ?_
    | refine S.two ?_
    | refine S.blok ?_
    | refine S.cond rfl ?_
    | refine S.after_n ?_
    | refine S.block_n ?_
    | refine S.block_x ?_; conv => lhs; whnf
    | refine S.block_r ?_
    | refine S.after_x ?_
    | refine S.after_r ?_
    | refine S.skip ?_
    | refine S.exit ?_
    | refine S.ret ?_
    | refine br_lt ?_; conv => lhs; whnf
    | refine br_lf ?_; conv => lhs; whnf
    | refine br_t (by assumption) ?_; conv => lhs; whnf
    | refine br_f (by assumption) ?_; conv => lhs; whnf
    | refine req_i (by with_reducible assumption) ?_; conv => lhs; whnf
    | (refine br_nd (fun _ => ?_) (fun _ => ?_) <;> conv => lhs; whnf)
    | (refine br_d (fun _ => ?_) (fun _ => ?_) <;> conv => lhs; whnf)
    | (refine br_n (fun _ => ?_) (fun _ => ?_) <;> conv => lhs; whnf)
    | (refine br_c (fun _ => ?_) (fun _ => ?_) <;> conv => lhs; whnf)
    | refine req_c fun _ => ?_; conv => lhs; whnf
    | refine req_i (by assumption) ?_; conv => lhs; whnf
    | refine bnd_c fun _ => ?_; conv => lhs; whnf
    | refine sum_c (fun _ => ?_) (fun _ => ?_)
    | refine S.loop ?_; conv => lhs; whnf
    | refine S.back_n ?_; conv => lhs; whnf
    | refine S.back_x ?_; conv => lhs; whnf
    | refine S.back_r ?_; conv => lhs; whnf
    | refine S.fin_r ?_; conv => lhs; whnf
    | refine S.fin_n ?_; conv => lhs; whnf
    | exact ret_c rfl
    | exact none_c
    | refine S.draw_op ?_; conv => lhs; whnf; arg 1; whnf
    | refine S.dk_n ?_; conv => lhs; whnf
    | refine S.draw_nil ?_; conv => lhs; whnf
    | refine andK_br ?_
    | refine andK_req ?_
    | refine andK_b ?_
    | refine andK_none ?_
def sp12 (k : Nat) : FSpec := ⟨[.rd, .rd, .rd], fun args objs K => match args, objs with | [.agg [v0, v1], v2, v3], [] => listB (.int .i64) true v0 fun a0_0 => listB (.int .i64) true v1 fun a0_1 => listB (.int .i64) true v2 fun a1 => listB (.int .i64) true v3 fun a2 => bindO (axes_Slice.f k a0_0 a0_1 a1 a2) fun x : Int × (List Int) × (List Int) => K (.tup [.agg [.own 0, .own 1], .i .i64 x.1]) [.row (.int .i64) x.2.1 false, .row (.int .i64) x.2.2 false] | _, _ => none⟩
theorem snd12 (k : Nat) : Sound Try.prog 12 (sp12 k) := by
  refine ⟨⟨Try.f12, rfl, by kernel_rfl, rfl⟩, fun args objs K r h => ?_⟩
  unfold sp12 at h; dsimp only at h; split at h
  · rename_i v0 v1 v2 v3
    obtain ⟨a0_0, h9, ca0_0⟩ := listB_spec h; clear h
    have h := h9; clear h9
    obtain ⟨a0_1, h9, ca0_1⟩ := listB_spec h; clear h
    have h := h9; clear h9
    obtain ⟨a1, h9, ca1⟩ := listB_spec h; clear h
    have h := h9; clear h9
    obtain ⟨a2, h9, ca2⟩ := listB_spec h; clear h
    have h := h9; clear h9
    obtain ⟨x, hx, h⟩ := bindO_some h
    exact ⟨_, _, h, FnOK.args2 (relL_c (rel_agg (relL_c ca0_0 (relL_c ca0_1 relL_n))) (relL_c ca1 (relL_c ca2 relL_n))) (fn_run tab_ok (en12 k) mixed rfl ((r12 seals k a0_0 a0_1 a1 a2).trans (bindO_eq hx)))⟩
  · cases h
end Go.Vm

/- ref1_Ints -/
namespace Go.Vm
open Go Go.Proofs Go.Pf
def lv29 : Live := look ⟨[], [], [], [], []⟩ [(4, ⟨[0, 1, 5], [], [4], [], []⟩)]
noncomputable def g29 : FEnv := (fun _ => none)
theorem en29 : EnvOK Try.prog (g29) := (envOK_nil _)
set_option maxRecDepth 60000 in
set_option maxHeartbeats 4000000 in
theorem w29_0 (S : Seals) (k : Nat) : ∀ (n : Nat) {x0 : List Int} {x1 : List Int} {x5 : Int} {K : CK}, S.lp tt (g29) lv29 0 n (loopN Try.f29 0) ⟨[(0, .dat (.int .i64) x0 true), (1, .dat (.int .i64) x1 true), (5, .i .i64 x5)], [], 0, 26⟩ K = bindO (ref1_Ints.l0 n x0 x1 x5) (Sum.elim (fun x : Unit => K (.exit 0) ⟨[], [], 0, 26⟩) (fun x : Bool => K .ret ⟨[(4, .b x)], [], 0, 26⟩)) := by
  intro n; induction n with
  | zero => intros; rw [S.lp_zero]; exact none_c
  | succ n ih =>
    intros; rw [ref1_Ints.l0]; refine S.lp_succ ?_; conv => lhs; arg 5; whnf
    repeat' first
      | refine S.seq_op rfl ?_; conv => lhs; whnf
      | refine S.op_n ?_; conv => lhs; whnf
      | refine S.seq_nil ?_
      | refine S.reg_n ?_
      | refine S.region rfl ?_
      | refine S.two ?_
      | refine S.blok ?_
      | refine S.cond rfl ?_
      | refine S.after_n ?_
      | refine S.block_n ?_
      | refine S.block_x ?_; conv => lhs; whnf
      | refine S.block_r ?_
      | refine S.after_x ?_
      | refine S.after_r ?_
      | refine S.skip ?_
      | refine S.exit ?_
      | refine S.ret ?_
      | refine br_lt ?_; conv => lhs; whnf
      | refine br_lf ?_; conv => lhs; whnf
      | refine br_t (by assumption) ?_; conv => lhs; whnf
      | refine br_f (by assumption) ?_; conv => lhs; whnf
      | refine req_i (by with_reducible assumption) ?_; conv => lhs; whnf
      | (refine br_nd (fun _ => ?_) (fun _ => ?_) <;> conv => lhs; whnf)
      | (refine br_d (fun _ => ?_) (fun _ => ?_) <;> conv => lhs; whnf)
      | (refine br_n (fun _ => ?_) (fun _ => ?_) <;> conv => lhs; whnf)
      | (refine br_c (fun _ => ?_) (fun _ => ?_) <;> conv => lhs; whnf)
      | refine req_c fun _ => ?_; conv => lhs; whnf
      | refine req_i (by assumption) ?_; conv => lhs; whnf
      | refine bnd_c fun _ => ?_; conv => lhs; whnf
      | refine sum_c (fun _ => ?_) (fun _ => ?_)
      | refine S.region_d (id := 6) (ds := [0, 0, 3, 7, 0, 0, 48, 112, 255]) (mds := [[], [], [], [], [], [], [], [], []]) (hm := []) (by kernel_rfl) (by kernel_rfl) rfl rfl ?_
      | exact ih
      | refine S.loop ?_; conv => lhs; whnf
      | refine S.back_n ?_; conv => lhs; whnf
      | refine S.back_x ?_; conv => lhs; whnf
      | refine S.back_r ?_; conv => lhs; whnf
      | refine S.fin_r ?_; conv => lhs; whnf
      | refine S.fin_n ?_; conv => lhs; whnf
      | exact ret_c rfl
      | exact none_c
      | refine S.draw_op ?_; conv => lhs; whnf; arg 1; whnf
      | refine S.dk_n ?_; conv => lhs; whnf
      | refine S.draw_nil ?_; conv => lhs; whnf
      | refine andK_br ?_
      | refine andK_req ?_
      | refine andK_b ?_
      | refine andK_none ?_
set_option maxRecDepth 60000 in
set_option maxHeartbeats 4000000 in
theorem r29 (S : Seals) (k : Nat) (a0 : List Int) (a1 : List Int) : runF tt (g29) lv29 Try.f29 k [.dat (.int .i64) a0 true, .dat (.int .i64) a1 true] [] = bindO (ref1_Ints.f k a0 a1) (fun x : Bool => some (.b x, [])) := by
  unfold ref1_Ints.f; refine S.run_s rfl rfl ?_; conv => lhs; arg 5; whnf
  conv => lhs; arg 6; whnf
  repeat' first
    | refine S.seq_op rfl ?_; conv => lhs; whnf
    | refine S.op_n ?_; conv => lhs; whnf
    | refine S.seq_nil ?_
    | refine S.reg_n ?_
    | refine S.region rfl ?_
    | refine S.two ?_
    | refine S.blok ?_
    | refine S.cond rfl ?_
    | refine S.after_n ?_
    | refine S.block_n ?_
    | refine S.block_x ?_; conv => lhs; whnf
    | refine S.block_r ?_
    | refine S.after_x ?_
    | refine S.after_r ?_
    | refine S.skip ?_
    | refine S.exit ?_
    | refine S.ret ?_
    | refine br_lt ?_; conv => lhs; whnf
    | refine br_lf ?_; conv => lhs; whnf
    | refine br_t (by assumption) ?_; conv => lhs; whnf
    | refine br_f (by assumption) ?_; conv => lhs; whnf
    | refine req_i (by with_reducible assumption) ?_; conv => lhs; whnf
    | (refine br_nd (fun _ => ?_) (fun _ => ?_) <;> conv => lhs; whnf)
    | (refine br_d (fun _ => ?_) (fun _ => ?_) <;> conv => lhs; whnf)
    | (refine br_n (fun _ => ?_) (fun _ => ?_) <;> conv => lhs; whnf)
    | (refine br_c (fun _ => ?_) (fun _ => ?_) <;> conv => lhs; whnf)
    | refine req_c fun _ => ?_; conv => lhs; whnf
    | refine req_i (by assumption) ?_; conv => lhs; whnf
    | refine bnd_c fun _ => ?_; conv => lhs; whnf
    | refine sum_c (fun _ => ?_) (fun _ => ?_)
    | refine (w29_0 S k _).trans ?_
    | refine S.loop ?_; conv => lhs; whnf
    | refine S.back_n ?_; conv => lhs; whnf
    | refine S.back_x ?_; conv => lhs; whnf
    | refine S.back_r ?_; conv => lhs; whnf
    | refine S.fin_r ?_; conv => lhs; whnf
    | refine S.fin_n ?_; conv => lhs; whnf
    | exact ret_c rfl
    | exact none_c
    | refine S.draw_op ?_; conv => lhs; whnf; arg 1; whnf
    | refine S.dk_n ?_; conv => lhs; whnf
    | refine S.draw_nil ?_; conv => lhs; whnf
    | refine andK_br ?_
    | refine andK_req ?_
    | refine andK_b ?_
    | refine andK_none ?_
def sp29 (k : Nat) : FSpec := ⟨[.rd, .rd], fun args objs K => match args, objs with | [v0, v1], [] => listB (.int .i64) true v0 fun a0 => listB (.int .i64) true v1 fun a1 => bindO (ref1_Ints.f k a0 a1) fun x : Bool => K (.b x) [] | _, _ => none⟩
theorem snd29 (k : Nat) : Sound Try.prog 29 (sp29 k) := by
  refine ⟨⟨Try.f29, rfl, by kernel_rfl, rfl⟩, fun args objs K r h => ?_⟩
  unfold sp29 at h; dsimp only at h; split at h
  · rename_i v0 v1
    obtain ⟨a0, h9, ca0⟩ := listB_spec h; clear h
    have h := h9; clear h9
    obtain ⟨a1, h9, ca1⟩ := listB_spec h; clear h
    have h := h9; clear h9
    obtain ⟨x, hx, h⟩ := bindO_some h
    exact ⟨_, _, h, FnOK.args2 (relL_c ca0 (relL_c ca1 relL_n)) (fn_run tab_ok (en29) mixed rfl ((r29 seals k a0 a1).trans (bindO_eq hx)))⟩
  · cases h
end Go.Vm

/- ref1_Same -/
namespace Go.Vm
open Go Go.Proofs Go.Pf
def lv13 : Live := look ⟨[], [], [], [], []⟩ [(4, ⟨[2, 3, 5], [], [4], [], []⟩)]
noncomputable def g13 (k : Nat) : FEnv := (addF 29 (sp29 k) (fun _ => none))
theorem en13 (k : Nat) : EnvOK Try.prog (g13 k) := (envOK_add (snd29 k) (envOK_nil _))
set_option maxRecDepth 60000 in
set_option maxHeartbeats 4000000 in
theorem w13_0 (S : Seals) (k : Nat) : ∀ (n : Nat) {x5 : Int} {y0_0 : List Int} {y0_1 : List Int} {y1_0 : List Int} {y1_1 : List Int} {K : CK}, S.lp tt (g13 k) lv13 0 n (loopN Try.f13 0) ⟨[(2, .ptr 0 0), (3, .ptr 1 0), (5, .i .i64 x5)], [(0, .var [.dat (.int .i64) y0_0 true, .dat (.int .i64) y0_1 true]), (1, .var [.dat (.int .i64) y1_0 true, .dat (.int .i64) y1_1 true])], 2, 39⟩ K = bindO (ref1_Same.l0 n x5 y0_0 y0_1 y1_0 y1_1) (Sum.elim (fun x : Unit => K (.exit 0) ⟨[], [], 0, 39⟩) (fun x : Bool => K .ret ⟨[(4, .b x)], [], 0, 39⟩)) := by
  intro n; induction n with
  | zero => intros; rw [S.lp_zero]; exact none_c
  | succ n ih =>
    intros; rw [ref1_Same.l0]; refine S.lp_succ ?_; conv => lhs; arg 5; whnf
    repeat' first
      | refine S.seq_op rfl ?_; conv => lhs; whnf
      | refine S.op_n ?_; conv => lhs; whnf
      | refine S.seq_nil ?_
      | refine S.reg_n ?_
      | refine S.region rfl ?_
      | refine S.two ?_
      | refine S.blok ?_
      | refine S.cond rfl ?_
      | refine S.after_n ?_
      | refine S.block_n ?_
      | refine S.block_x ?_; conv => lhs; whnf
      | refine S.block_r ?_
      | refine S.after_x ?_
      | refine S.after_r ?_
      | refine S.skip ?_
      | refine S.exit ?_
      | refine S.ret ?_
      | refine br_lt ?_; conv => lhs; whnf
      | refine br_lf ?_; conv => lhs; whnf
      | refine br_t (by assumption) ?_; conv => lhs; whnf
      | refine br_f (by assumption) ?_; conv => lhs; whnf
      | refine req_i (by with_reducible assumption) ?_; conv => lhs; whnf
      | (refine br_nd (fun _ => ?_) (fun _ => ?_) <;> conv => lhs; whnf)
      | (refine br_d (fun _ => ?_) (fun _ => ?_) <;> conv => lhs; whnf)
      | (refine br_n (fun _ => ?_) (fun _ => ?_) <;> conv => lhs; whnf)
      | (refine br_c (fun _ => ?_) (fun _ => ?_) <;> conv => lhs; whnf)
      | refine req_c fun _ => ?_; conv => lhs; whnf
      | refine req_i (by assumption) ?_; conv => lhs; whnf
      | refine bnd_c fun _ => ?_; conv => lhs; whnf
      | refine sum_c (fun _ => ?_) (fun _ => ?_)
      | refine S.region_d (id := 6) (ds := [0, 1, 0, 7, 15, 0, 32, 0, 224, 480, 1023]) (mds := [[], [], [], [], [], [], [], [], [], [], []]) (hm := []) (by kernel_rfl) (by kernel_rfl) rfl rfl ?_
      | exact ih
      | refine S.loop ?_; conv => lhs; whnf
      | refine S.back_n ?_; conv => lhs; whnf
      | refine S.back_x ?_; conv => lhs; whnf
      | refine S.back_r ?_; conv => lhs; whnf
      | refine S.fin_r ?_; conv => lhs; whnf
      | refine S.fin_n ?_; conv => lhs; whnf
      | exact ret_c rfl
      | exact none_c
      | refine S.draw_op ?_; conv => lhs; whnf; arg 1; whnf
      | refine S.dk_n ?_; conv => lhs; whnf
      | refine S.draw_nil ?_; conv => lhs; whnf
      | refine andK_br ?_
      | refine andK_req ?_
      | refine andK_b ?_
      | refine andK_none ?_
set_option maxRecDepth 60000 in
set_option maxHeartbeats 4000000 in
theorem r13 (S : Seals) (k : Nat) (a0_0 : List Int) (a0_1 : List Int) (a1_0 : List Int) (a1_1 : List Int) : runF tt (g13 k) lv13 Try.f13 k [.agg [.dat (.int .i64) a0_0 true, .dat (.int .i64) a0_1 true], .agg [.dat (.int .i64) a1_0 true, .dat (.int .i64) a1_1 true]] [] = bindO (ref1_Same.f k a0_0 a0_1 a1_0 a1_1) (fun x : Bool => some (.b x, [])) := by
  unfold ref1_Same.f; refine S.run_s rfl rfl ?_; conv => lhs; arg 5; whnf
  conv => lhs; arg 6; whnf
  repeat' first
    | refine S.seq_op rfl ?_; conv => lhs; whnf
    | refine S.op_n ?_; conv => lhs; whnf
    | refine S.seq_nil ?_
    | refine S.reg_n ?_
    | refine S.region rfl ?_
    | refine S.two ?_
    | refine S.blok ?_
    | refine S.cond rfl ?_
    | refine S.after_n ?_
    | refine S.block_n ?_
    | refine S.block_x ?_; conv => lhs; whnf
    | refine S.block_r ?_
    | refine S.after_x ?_
    | refine S.after_r ?_
    | refine S.skip ?_
    | refine S.exit ?_
    | refine S.ret ?_
    | refine br_lt ?_; conv => lhs; whnf
    | refine br_lf ?_; conv => lhs; whnf
    | refine br_t (by assumption) ?_; conv => lhs; whnf
    | refine br_f (by assumption) ?_; conv => lhs; whnf
    | refine req_i (by with_reducible assumption) ?_; conv => lhs; whnf
    | (refine br_nd (fun _ => ?_) (fun _ => ?_) <;> conv => lhs; whnf)
    | (refine br_d (fun _ => ?_) (fun _ => ?_) <;> conv => lhs; whnf)
    | (refine br_n (fun _ => ?_) (fun _ => ?_) <;> conv => lhs; whnf)
    | (refine br_c (fun _ => ?_) (fun _ => ?_) <;> conv => lhs; whnf)
    | refine req_c fun _ => ?_; conv => lhs; whnf
    | refine req_i (by assumption) ?_; conv => lhs; whnf
    | refine bnd_c fun _ => ?_; conv => lhs; whnf
    | refine sum_c (fun _ => ?_) (fun _ => ?_)
    | refine (w13_0 S k _).trans ?_
    | refine S.loop ?_; conv => lhs; whnf
    | refine S.back_n ?_; conv => lhs; whnf
    | refine S.back_x ?_; conv => lhs; whnf
    | refine S.back_r ?_; conv => lhs; whnf
    | refine S.fin_r ?_; conv => lhs; whnf
    | refine S.fin_n ?_; conv => lhs; whnf
    | exact ret_c rfl
    | exact none_c
    | refine S.draw_op ?_; conv => lhs; whnf; arg 1; whnf
    | refine S.dk_n ?_; conv => lhs; whnf
    | refine S.draw_nil ?_; conv => lhs; whnf
    | refine andK_br ?_
    | refine andK_req ?_
    | refine andK_b ?_
    | refine andK_none ?_
def sp13 (k : Nat) : FSpec := ⟨[.rd, .rd], fun args objs K => match args, objs with | [.agg [v0, v1], .agg [v2, v3]], [] => listB (.int .i64) true v0 fun a0_0 => listB (.int .i64) true v1 fun a0_1 => listB (.int .i64) true v2 fun a1_0 => listB (.int .i64) true v3 fun a1_1 => bindO (ref1_Same.f k a0_0 a0_1 a1_0 a1_1) fun x : Bool => K (.b x) [] | _, _ => none⟩
theorem snd13 (k : Nat) : Sound Try.prog 13 (sp13 k) := by
  refine ⟨⟨Try.f13, rfl, by kernel_rfl, rfl⟩, fun args objs K r h => ?_⟩
  unfold sp13 at h; dsimp only at h; split at h
  · rename_i v0 v1 v2 v3
    obtain ⟨a0_0, h9, ca0_0⟩ := listB_spec h; clear h
    have h := h9; clear h9
    obtain ⟨a0_1, h9, ca0_1⟩ := listB_spec h; clear h
    have h := h9; clear h9
    obtain ⟨a1_0, h9, ca1_0⟩ := listB_spec h; clear h
    have h := h9; clear h9
    obtain ⟨a1_1, h9, ca1_1⟩ := listB_spec h; clear h
    have h := h9; clear h9
    obtain ⟨x, hx, h⟩ := bindO_some h
    exact ⟨_, _, h, FnOK.args2 (relL_c (rel_agg (relL_c ca0_0 (relL_c ca0_1 relL_n))) (relL_c (rel_agg (relL_c ca1_0 (relL_c ca1_1 relL_n))) relL_n)) (fn_run tab_ok (en13 k) mixed rfl ((r13 seals k a0_0 a0_1 a1_0 a1_1).trans (bindO_eq hx)))⟩
  · cases h
end Go.Vm

/- axes_Pad_1 -/
namespace Go.Vm
open Go Go.Proofs Go.Pf
def lv33 : Live := look ⟨[], [], [], [], []⟩ [(2, ⟨[0, 2, 3, 10, 11, 12], [0, 2, 3], [5], [], []⟩)]
noncomputable def g33 (k : Nat) : FEnv := (addF 34 (sp34 k) (fun _ => none))
theorem en33 (k : Nat) : EnvOK Try.prog (g33 k) := (envOK_add (snd34 k) (envOK_nil _))
set_option maxRecDepth 60000 in
set_option maxHeartbeats 4000000 in
theorem w33_0 (S : Seals) (k : Nat) : ∀ (n : Nat) {x10 : List Int} {x11 : Int} {x12 : Int} {y0 : List Int} {y1 : List Int} {y2_0 : List Int} {y2_1 : List Int} {y3 : Int} {K : CK}, S.lp tt (g33 k) lv33 4 n (loopN Try.f33 0) ⟨[(0, .own 0), (2, .ptr 2 0), (3, .ptr 3 0), (10, .dat (.int .i64) x10 true), (11, .i .i64 x11), (12, .i .i64 x12)], [(0, .row (.int .i64) y0 false), (1, .var [.dat (.int .i64) y1 true]), (2, .var [.dat (.int .i64) y2_0 true, .dat (.int .i64) y2_1 true]), (3, .var [.i .i64 y3])], 4, 34⟩ K = bindO (axes_Pad_1.l0 n x10 x11 x12 y0 y1 y2_0 y2_1 y3) (fun x : (List Int) => K (.exit 0) ⟨[(0, .own 0), (2, .ptr 2 0), (3, .ptr 3 0)], [(0, .row (.int .i64) x false), (1, .var [.dat (.int .i64) y1 true]), (2, .var [.dat (.int .i64) y2_0 true, .dat (.int .i64) y2_1 true]), (3, .var [.i .i64 y3])], 4, 34⟩) := by
  intro n; induction n with
  | zero => intros; rw [S.lp_zero]; exact none_c
  | succ n ih =>
    intros; rw [axes_Pad_1.l0]; refine S.lp_succ ?_; conv => lhs; arg 5; whnf
    repeat' first
      | refine S.seq_op rfl ?_; conv => lhs; whnf
      | refine S.op_n ?_; conv => lhs; whnf
      | refine S.seq_nil ?_
      | refine S.reg_n ?_
      | refine S.region rfl ?_
      | refine S.two ?_
      | refine S.blok ?_
      | refine S.cond rfl ?_
      | refine S.after_n ?_
      | refine S.block_n ?_
      | refine S.block_x ?_; conv => lhs; whnf
      | refine S.block_r ?_
      | refine S.after_x ?_
      | refine S.after_r ?_
      | refine S.skip ?_
      | refine S.exit ?_
      | refine S.ret ?_
      | refine br_lt ?_; conv => lhs; whnf
      | refine br_lf ?_; conv => lhs; whnf
      | refine br_t (by assumption) ?_; conv => lhs; whnf
      | refine br_f (by assumption) ?_; conv => lhs; whnf
      | refine req_i (by with_reducible assumption) ?_; conv => lhs; whnf
      | (refine br_nd (fun _ => ?_) (fun _ => ?_) <;> conv => lhs; whnf)
      | (refine br_d (fun _ => ?_) (fun _ => ?_) <;> conv => lhs; whnf)
      | (refine br_n (fun _ => ?_) (fun _ => ?_) <;> conv => lhs; whnf)
      | (refine br_c (fun _ => ?_) (fun _ => ?_) <;> conv => lhs; whnf)
      | refine req_c fun _ => ?_; conv => lhs; whnf
      | refine req_i (by assumption) ?_; conv => lhs; whnf
      | refine bnd_c fun _ => ?_; conv => lhs; whnf
      | refine sum_c (fun _ => ?_) (fun _ => ?_)
      | exact ih
      | refine S.loop ?_; conv => lhs; whnf
      | refine S.back_n ?_; conv => lhs; whnf
      | refine S.back_x ?_; conv => lhs; whnf
      | refine S.back_r ?_; conv => lhs; whnf
      | refine S.fin_r ?_; conv => lhs; whnf
      | refine S.fin_n ?_; conv => lhs; whnf
      | exact ret_c rfl
      | exact none_c
      | refine S.draw_op ?_; conv => lhs; whnf; arg 1; whnf
      | refine S.dk_n ?_; conv => lhs; whnf
      | refine S.draw_nil ?_; conv => lhs; whnf
      | refine andK_br ?_
      | refine andK_req ?_
      | refine andK_b ?_
      | refine andK_none ?_
set_option maxRecDepth 60000 in
set_option maxHeartbeats 4000000 in
theorem r33 (S : Seals) (k : Nat) (o0 : List Int) (o1 : List Int) (o2_0 : List Int) (o2_1 : List Int) (o3 : Int) : runF tt (g33 k) lv33 Try.f33 k [.own 0, .ptr 1 0, .ptr 2 0, .ptr 3 0] [.row (.int .i64) o0 false, .var [.dat (.int .i64) o1 true], .var [.dat (.int .i64) o2_0 true, .dat (.int .i64) o2_1 true], .var [.i .i64 o3]] = bindO (axes_Pad_1.f k o0 o1 o2_0 o2_1 o3) (fun x : Int × (List Int) => some (.i .i64 x.1, [.row (.int .i64) x.2 false, .var [.dat (.int .i64) o1 true], .var [.dat (.int .i64) o2_0 true, .dat (.int .i64) o2_1 true], .var [.i .i64 o3]])) := by
  unfold axes_Pad_1.f; refine S.run_s rfl rfl ?_; conv => lhs; arg 5; whnf
  conv => lhs; arg 6; whnf
  repeat' first
    | refine S.seq_op rfl ?_; conv => lhs; whnf
    | refine S.op_n ?_; conv => lhs; whnf
    | refine S.seq_nil ?_
    | refine S.reg_n ?_
    | refine S.region rfl ?_
    | refine S.two ?_
    | refine S.blok ?_
    | refine S.cond rfl ?_
    | refine S.after_n ?_
    | refine S.block_n ?_
    | refine S.block_x ?_; conv => lhs; whnf
    | refine S.block_r ?_
    | refine S.after_x ?_
    | refine S.after_r ?_
    | refine S.skip ?_
    | refine S.exit ?_
    | refine S.ret ?_
    | refine br_lt ?_; conv => lhs; whnf
    | refine br_lf ?_; conv => lhs; whnf
    | refine br_t (by assumption) ?_; conv => lhs; whnf
    | refine br_f (by assumption) ?_; conv => lhs; whnf
    | refine req_i (by with_reducible assumption) ?_; conv => lhs; whnf
    | (refine br_nd (fun _ => ?_) (fun _ => ?_) <;> conv => lhs; whnf)
    | (refine br_d (fun _ => ?_) (fun _ => ?_) <;> conv => lhs; whnf)
    | (refine br_n (fun _ => ?_) (fun _ => ?_) <;> conv => lhs; whnf)
    | (refine br_c (fun _ => ?_) (fun _ => ?_) <;> conv => lhs; whnf)
    | refine req_c fun _ => ?_; conv => lhs; whnf
    | refine req_i (by assumption) ?_; conv => lhs; whnf
    | refine bnd_c fun _ => ?_; conv => lhs; whnf
    | refine sum_c (fun _ => ?_) (fun _ => ?_)
    | refine (w33_0 S k _).trans ?_
    | refine S.loop ?_; conv => lhs; whnf
    | refine S.back_n ?_; conv => lhs; whnf
    | refine S.back_x ?_; conv => lhs; whnf
    | refine S.back_r ?_; conv => lhs; whnf
    | refine S.fin_r ?_; conv => lhs; whnf
    | refine S.fin_n ?_; conv => lhs; whnf
    | exact ret_c rfl
    | exact none_c
    | refine S.draw_op ?_; conv => lhs; whnf; arg 1; whnf
    | refine S.dk_n ?_; conv => lhs; whnf
    | refine S.draw_nil ?_; conv => lhs; whnf
    | refine andK_br ?_
    | refine andK_req ?_
    | refine andK_b ?_
    | refine andK_none ?_
def sp33 (k : Nat) : FSpec := ⟨[.kp, .kp, .kp, .kp], fun args objs K => match args, objs with | [.own 0, .ptr 1 0, .ptr 2 0, .ptr 3 0], [w0, .var [v0], .var [v1, v2], .var [.i .i64 o3]] => rowK (.int .i64) false w0 fun o0 => datK (.int .i64) true v0 fun o1 => datK (.int .i64) true v1 fun o2_0 => datK (.int .i64) true v2 fun o2_1 => bindO (axes_Pad_1.f k o0 o1 o2_0 o2_1 o3) fun x : Int × (List Int) => K (.i .i64 x.1) [.row (.int .i64) x.2 false, .var [.dat (.int .i64) o1 true], .var [.dat (.int .i64) o2_0 true, .dat (.int .i64) o2_1 true], .var [.i .i64 o3]] | _, _ => none⟩
theorem snd33 (k : Nat) : Sound Try.prog 33 (sp33 k) := by
  refine ⟨⟨Try.f33, rfl, by kernel_rfl, rfl⟩, fun args objs K r h => ?_⟩
  unfold sp33 at h; dsimp only at h; split at h
  · rename_i w0 v0 v1 v2 o3
    obtain ⟨o0, h9, eo0⟩ := rowK_spec h; clear h; subst eo0
    have h := h9; clear h9
    obtain ⟨o1, h9, eo1⟩ := datK_spec h; clear h; subst eo1
    have h := h9; clear h9
    obtain ⟨o2_0, h9, eo2_0⟩ := datK_spec h; clear h; subst eo2_0
    have h := h9; clear h9
    obtain ⟨o2_1, h9, eo2_1⟩ := datK_spec h; clear h; subst eo2_1
    have h := h9; clear h9
    obtain ⟨x, hx, h⟩ := bindO_some h
    exact ⟨_, _, h, FnOK.args2 (relL_c rel_i (relL_c rel_i (relL_c rel_i (relL_c rel_i relL_n)))) (fn_run tab_ok (en33 k) mixed rfl ((r33 seals k o0 o1 o2_0 o2_1 o3).trans (bindO_eq hx)))⟩
  · cases h
end Go.Vm

/- tensor_Made__axes_Pad_1 -/
namespace Go.Vm
open Go Go.Proofs Go.Pf
def lv24_4 : Live := look ⟨[], [], [], [], []⟩ [(3, ⟨[0, 1, 4, 5, 15, 16], [4, 5], [4], [], []⟩)]
noncomputable def g24_4 (k : Nat) : FEnv := (addF 33 (sp33 k) (addF 47 (sp47 k) (addF 45 (sp45 k) (addF 46 sp46 (fun _ => none)))))
theorem en24_4 (k : Nat) : EnvOK Try.prog (g24_4 k) := (envOK_add (snd33 k) (envOK_add (snd47 k) (envOK_add (snd45 k) (envOK_add snd46 (envOK_nil _)))))
set_option maxRecDepth 60000 in
set_option maxHeartbeats 4000000 in
theorem w24_4_0 (S : Seals) (k : Nat) : ∀ (n : Nat) {x15 : Int} {x16 : Int} {y0 : List Int} {y1 : List Int} {y2_0 : List Int} {y2_1 : List Int} {y3 : Int} {y6 : List Int} {y7 : List Int} {K : CK}, S.lp tt (g24_4 k) lv24_4 4 n (loopN Try.f24 0) ⟨[(0, .own 0), (1, .fn 33 [.ptr 1 0, .ptr 2 0, .ptr 3 0]), (4, .ptr 4 0), (5, .ptr 5 0), (15, .i .i64 x15), (16, .i .i64 x16)], [(0, .row (.int .i64) y0 false), (1, .var [.dat (.int .i64) y1 true]), (2, .var [.dat (.int .i64) y2_0 true, .dat (.int .i64) y2_1 true]), (3, .var [.i .i64 y3]), (4, .var [.nilsl, .nilsl]), (5, .var [.own 6, .own 7]), (6, .row (.int .i64) y6 false), (7, .row (.int .i64) y7 false)], 8, 30⟩ K = bindO (tensor_Made__axes_Pad_1.l0 k n x15 x16 y0 y1 y2_0 y2_1 y3 y6 y7) (fun x : (List Int) => K (.exit 0) ⟨[(4, .ptr 4 0), (5, .ptr 5 0)], [(0, .row (.int .i64) y0 false), (1, .var [.dat (.int .i64) y1 true]), (2, .var [.dat (.int .i64) y2_0 true, .dat (.int .i64) y2_1 true]), (3, .var [.i .i64 y3]), (4, .var [.nilsl, .nilsl]), (5, .var [.own 6, .own 7]), (6, .row (.int .i64) y6 false), (7, .row (.int .i64) x false)], 8, 30⟩) := by
  intro n; induction n with
  | zero => intros; rw [S.lp_zero]; exact none_c
  | succ n ih =>
    intros; rw [tensor_Made__axes_Pad_1.l0]; refine S.lp_succ ?_; conv => lhs; arg 5; whnf
    repeat' first
      | refine S.seq_op rfl ?_; conv => lhs; whnf
      | refine S.op_n ?_; conv => lhs; whnf
      | refine S.seq_nil ?_
      | refine S.reg_n ?_
      | refine S.region rfl ?_
      | refine S.two ?_
      | refine S.blok ?_
      | refine S.cond rfl ?_
      | refine S.after_n ?_
      | refine S.block_n ?_
      | refine S.block_x ?_; conv => lhs; whnf
      | refine S.block_r ?_
      | refine S.after_x ?_
      | refine S.after_r ?_
      | refine S.skip ?_
      | refine S.exit ?_
      | refine S.ret ?_
      | refine br_lt ?_; conv => lhs; whnf
      | refine br_lf ?_; conv => lhs; whnf
      | refine br_t (by assumption) ?_; conv => lhs; whnf
      | refine br_f (by assumption) ?_; conv => lhs; whnf
      | refine req_i (by with_reducible assumption) ?_; conv => lhs; whnf
      | (refine br_nd (fun _ => ?_) (fun _ => ?_) <;> conv => lhs; whnf)
      | (refine br_d (fun _ => ?_) (fun _ => ?_) <;> conv => lhs; whnf)
      | (refine br_n (fun _ => ?_) (fun _ => ?_) <;> conv => lhs; whnf)
      | (refine br_c (fun _ => ?_) (fun _ => ?_) <;> conv => lhs; whnf)
      | refine req_c fun _ => ?_; conv => lhs; whnf
      | refine req_i (by assumption) ?_; conv => lhs; whnf
      | refine bnd_c fun _ => ?_; conv => lhs; whnf
      | refine sum_c (fun _ => ?_) (fun _ => ?_)
      | refine S.region_d (id := 5) (ds := [0, 1, 0, 0, 0, 0, 48, 120, 255, 511]) (mds := [[], [], [], [], [], [], [0, 0], [1, 2, 3], [], [7]]) (hm := [(6, [0, 0]), (7, [1, 2, 3]), (9, [7])]) (by kernel_rfl) (by kernel_rfl) rfl rfl ?_
      | exact ih
      | refine S.loop ?_; conv => lhs; whnf
      | refine S.back_n ?_; conv => lhs; whnf
      | refine S.back_x ?_; conv => lhs; whnf
      | refine S.back_r ?_; conv => lhs; whnf
      | refine S.fin_r ?_; conv => lhs; whnf
      | refine S.fin_n ?_; conv => lhs; whnf
      | exact ret_c rfl
      | exact none_c
      | refine S.draw_op ?_; conv => lhs; whnf; arg 1; whnf
      | refine S.dk_n ?_; conv => lhs; whnf
      | refine S.draw_nil ?_; conv => lhs; whnf
      | refine andK_br ?_
      | refine andK_req ?_
      | refine andK_b ?_
      | refine andK_none ?_
set_option maxRecDepth 60000 in
set_option maxHeartbeats 4000000 in
theorem r24_4 (S : Seals) (k : Nat) (o0 : List Int) (o1 : List Int) (o2_0 : List Int) (o2_1 : List Int) (o3 : Int) : runF tt (g24_4 k) lv24_4 Try.f24 k [.own 0, .fn 33 [.ptr 1 0, .ptr 2 0, .ptr 3 0]] [.row (.int .i64) o0 false, .var [.dat (.int .i64) o1 true], .var [.dat (.int .i64) o2_0 true, .dat (.int .i64) o2_1 true], .var [.i .i64 o3]] = bindO (tensor_Made__axes_Pad_1.f k o0 o1 o2_0 o2_1 o3) (fun x : (List Int) × (List Int) => some (.agg [.own 4, .own 5], [.row (.int .i64) o0 false, .var [.dat (.int .i64) o1 true], .var [.dat (.int .i64) o2_0 true, .dat (.int .i64) o2_1 true], .var [.i .i64 o3], .row (.int .i64) x.1 false, .row (.int .i64) x.2 false])) := by
  unfold tensor_Made__axes_Pad_1.f; refine S.run_s rfl rfl ?_; conv => lhs; arg 5; whnf
  conv => lhs; arg 6; whnf
  repeat' first
    | refine S.seq_op rfl ?_; conv => lhs; whnf
    | refine S.op_n ?_; conv => lhs; whnf
    | refine S.seq_nil ?_
    | refine S.reg_n ?_
    | refine S.region rfl ?_
    | refine S.two ?_
    | refine S.blok ?_
    | refine S.cond rfl ?_
    | refine S.after_n ?_
    | refine S.block_n ?_
    | refine S.block_x ?_; conv => lhs; whnf
    | refine S.block_r ?_
    | refine S.after_x ?_
    | refine S.after_r ?_
    | refine S.skip ?_
    | refine S.exit ?_
    | refine S.ret ?_
    | refine br_lt ?_; conv => lhs; whnf
    | refine br_lf ?_; conv => lhs; whnf
    | refine br_t (by assumption) ?_; conv => lhs; whnf
    | refine br_f (by assumption) ?_; conv => lhs; whnf
    | refine req_i (by with_reducible assumption) ?_; conv => lhs; whnf
    | (refine br_nd (fun _ => ?_) (fun _ => ?_) <;> conv => lhs; whnf)
    | (refine br_d (fun _ => ?_) (fun _ => ?_) <;> conv => lhs; whnf)
    | (refine br_n (fun _ => ?_) (fun _ => ?_) <;> conv => lhs; whnf)
    | (refine br_c (fun _ => ?_) (fun _ => ?_) <;> conv => lhs; whnf)
    | refine req_c fun _ => ?_; conv => lhs; whnf
    | refine req_i (by assumption) ?_; conv => lhs; whnf
    | refine bnd_c fun _ => ?_; conv => lhs; whnf
    | refine sum_c (fun _ => ?_) (fun _ => ?_)
    | refine (w24_4_0 S k _).trans ?_
    | refine S.loop ?_; conv => lhs; whnf
    | refine S.back_n ?_; conv => lhs; whnf
    | refine S.back_x ?_; conv => lhs; whnf
    | refine S.back_r ?_; conv => lhs; whnf
    | refine S.fin_r ?_; conv => lhs; whnf
    | refine S.fin_n ?_; conv => lhs; whnf
    | exact ret_c rfl
    | exact none_c
    | refine S.draw_op ?_; conv => lhs; whnf; arg 1; whnf
    | refine S.dk_n ?_; conv => lhs; whnf
    | refine S.draw_nil ?_; conv => lhs; whnf
    | refine andK_br ?_
    | refine andK_req ?_
    | refine andK_b ?_
    | refine andK_none ?_
def sp24_4 (k : Nat) : FSpec := ⟨[.kp, .kp], fun args objs K => match args, objs with | [.own 0, .fn 33 [.ptr 1 0, .ptr 2 0, .ptr 3 0]], [w0, .var [v0], .var [v1, v2], .var [.i .i64 o3]] => rowK (.int .i64) false w0 fun o0 => datK (.int .i64) true v0 fun o1 => datK (.int .i64) true v1 fun o2_0 => datK (.int .i64) true v2 fun o2_1 => bindO (tensor_Made__axes_Pad_1.f k o0 o1 o2_0 o2_1 o3) fun x : (List Int) × (List Int) => K (.agg [.own 4, .own 5]) [.row (.int .i64) o0 false, .var [.dat (.int .i64) o1 true], .var [.dat (.int .i64) o2_0 true, .dat (.int .i64) o2_1 true], .var [.i .i64 o3], .row (.int .i64) x.1 false, .row (.int .i64) x.2 false] | _, _ => none⟩
theorem snd24_4 (k : Nat) : Sound Try.prog 24 (sp24_4 k) := by
  refine ⟨⟨Try.f24, rfl, by kernel_rfl, rfl⟩, fun args objs K r h => ?_⟩
  unfold sp24_4 at h; dsimp only at h; split at h
  · rename_i w0 v0 v1 v2 o3
    obtain ⟨o0, h9, eo0⟩ := rowK_spec h; clear h; subst eo0
    have h := h9; clear h9
    obtain ⟨o1, h9, eo1⟩ := datK_spec h; clear h; subst eo1
    have h := h9; clear h9
    obtain ⟨o2_0, h9, eo2_0⟩ := datK_spec h; clear h; subst eo2_0
    have h := h9; clear h9
    obtain ⟨o2_1, h9, eo2_1⟩ := datK_spec h; clear h; subst eo2_1
    have h := h9; clear h9
    obtain ⟨x, hx, h⟩ := bindO_some h
    exact ⟨_, _, h, FnOK.args2 (relL_c rel_i (relL_c rel_i relL_n)) (fn_run tab_ok (en24_4 k) mixed rfl ((r24_4 seals k o0 o1 o2_0 o2_1 o3).trans (bindO_eq hx)))⟩
  · cases h
end Go.Vm

/- axes_Padded_1 -/
namespace Go.Vm
open Go Go.Proofs Go.Pf
def lv48 : Live := look ⟨[], [], [], [], []⟩ []
noncomputable def g48 : FEnv := (fun _ => none)
theorem en48 : EnvOK Try.prog (g48) := (envOK_nil _)
set_option maxRecDepth 60000 in
set_option maxHeartbeats 4000000 in
theorem r48 (S : Seals) (k : Nat) (a0 : Int) : runF tt (g48) lv48 Try.f48 k [.i .i64 a0] [] = bindO (axes_Padded_1.f a0) (fun x : Bool => some (.b x, [])) := by
  unfold axes_Padded_1.f; refine S.run_s rfl rfl ?_; conv => lhs; arg 5; whnf
  conv => lhs; arg 6; whnf
  repeat' first
    | refine S.seq_op rfl ?_; conv => lhs; whnf
    | refine S.op_n ?_; conv => lhs; whnf
    | refine S.seq_nil ?_
    | refine S.reg_n ?_
    | refine S.region rfl ?_
    | refine S.two ?_
    | refine S.blok ?_
    | refine S.cond rfl ?_
    | refine S.after_n ?_
    | refine S.block_n ?_
    | refine S.block_x ?_; conv => lhs; whnf
    | refine S.block_r ?_
    | refine S.after_x ?_
    | refine S.after_r ?_
    | refine S.skip ?_
    | refine S.exit ?_
    | refine S.ret ?_
    | refine br_lt ?_; conv => lhs; whnf
    | refine br_lf ?_; conv => lhs; whnf
    | refine br_t (by assumption) ?_; conv => lhs; whnf
    | refine br_f (by assumption) ?_; conv => lhs; whnf
    | refine req_i (by with_reducible assumption) ?_; conv => lhs; whnf
    | (refine br_nd (fun _ => ?_) (fun _ => ?_) <;> conv => lhs; whnf)
    | (refine br_d (fun _ => ?_) (fun _ => ?_) <;> conv => lhs; whnf)
    | (refine br_n (fun _ => ?_) (fun _ => ?_) <;> conv => lhs; whnf)
    | (refine br_c (fun _ => ?_) (fun _ => ?_) <;> conv => lhs; whnf)
    | refine req_c fun _ => ?_; conv => lhs; whnf
    | refine req_i (by assumption) ?_; conv => lhs; whnf
    | refine bnd_c fun _ => ?_; conv => lhs; whnf
    | refine sum_c (fun _ => ?_) (fun _ => ?_)
    | refine S.loop ?_; conv => lhs; whnf
    | refine S.back_n ?_; conv => lhs; whnf
    | refine S.back_x ?_; conv => lhs; whnf
    | refine S.back_r ?_; conv => lhs; whnf
    | refine S.fin_r ?_; conv => lhs; whnf
    | refine S.fin_n ?_; conv => lhs; whnf
    | exact ret_c rfl
    | exact none_c
    | refine S.draw_op ?_; conv => lhs; whnf; arg 1; whnf
    | refine S.dk_n ?_; conv => lhs; whnf
    | refine S.draw_nil ?_; conv => lhs; whnf
    | refine andK_br ?_
    | refine andK_req ?_
    | refine andK_b ?_
    | refine andK_none ?_
def sp48 : FSpec := ⟨[.rd], fun args objs K => match args, objs with | [.i .i64 a0], [] => bindO (axes_Padded_1.f a0) fun x : Bool => K (.b x) [] | _, _ => none⟩
theorem snd48 : Sound Try.prog 48 (sp48) := by
  refine ⟨⟨Try.f48, rfl, by kernel_rfl, rfl⟩, fun args objs K r h => ?_⟩
  unfold sp48 at h; dsimp only at h; split at h
  · rename_i a0
    obtain ⟨x, hx, h⟩ := bindO_some h
    exact ⟨_, _, h, FnOK.args2 (relL_c rel_i relL_n) (fn_run tab_ok (en48) mixed rfl ((r48 seals 0 a0).trans (bindO_eq hx)))⟩
  · cases h
end Go.Vm

/- axes_Padded -/
namespace Go.Vm
open Go Go.Proofs Go.Pf
def lv32 : Live := look ⟨[], [], [], [], []⟩ [(6, ⟨[1, 2, 8, 9, 27, 28, 29], [9], [6, 7], [], []⟩), (1000000, ⟨[], [], [], [(6, 0, .own (.int .i64))], []⟩)]
noncomputable def g32 (k : Nat) : FEnv := (addF 44 (sp44 k) (addF 48 sp48 (fun _ => none)))
theorem en32 (k : Nat) : EnvOK Try.prog (g32 k) := (envOK_add (snd44 k) (envOK_add snd48 (envOK_nil _)))
set_option maxRecDepth 60000 in
set_option maxHeartbeats 4000000 in
theorem w32_0 (S : Seals) (k : Nat) : ∀ (n : Nat) {x1 : List Int} {x2 : List Int} {x27 : List Int} {x28 : Int} {x29 : Int} {y0 : List Int} {K : CK}, S.lp tt (g32 k) lv32 0 n (loopN Try.f32 0) ⟨[(1, .dat (.int .i64) x1 true), (2, .dat (.int .i64) x2 true), (8, .fn 48 []), (9, .own 0), (27, .dat (.int .i64) x27 true), (28, .i .i64 x28), (29, .i .i64 x29)], [(0, .row (.int .i64) y0 false)], 1, 69⟩ K = bindO (axes_Padded.l0 n x1 x2 x27 x28 x29 y0) (Sum.elim (fun x : (List Int) => K (.exit 0) ⟨[(9, .own 0)], [(0, .row (.int .i64) x false)], 1, 69⟩) (fun x : Int => K .ret ⟨[(6, .nilsl), (7, .i .i64 x)], [], 0, 69⟩)) := by
  intro n; induction n with
  | zero => intros; rw [S.lp_zero]; exact none_c
  | succ n ih =>
    intros; rw [axes_Padded.l0]; refine S.lp_succ ?_; conv => lhs; arg 5; whnf
    repeat' first
      | refine S.seq_op rfl ?_; conv => lhs; whnf
      | refine S.op_n ?_; conv => lhs; whnf
      | refine S.seq_nil ?_
      | refine S.reg_n ?_
      | refine S.region rfl ?_
      | refine S.two ?_
      | refine S.blok ?_
      | refine S.cond rfl ?_
      | refine S.after_n ?_
      | refine S.block_n ?_
      | refine S.block_x ?_; conv => lhs; whnf
      | refine S.block_r ?_
      | refine S.after_x ?_
      | refine S.after_r ?_
      | refine S.skip ?_
      | refine S.exit ?_
      | refine S.ret ?_
      | refine br_lt ?_; conv => lhs; whnf
      | refine br_lf ?_; conv => lhs; whnf
      | refine br_t (by assumption) ?_; conv => lhs; whnf
      | refine br_f (by assumption) ?_; conv => lhs; whnf
      | refine req_i (by with_reducible assumption) ?_; conv => lhs; whnf
      | (refine br_nd (fun _ => ?_) (fun _ => ?_) <;> conv => lhs; whnf)
      | (refine br_d (fun _ => ?_) (fun _ => ?_) <;> conv => lhs; whnf)
      | (refine br_n (fun _ => ?_) (fun _ => ?_) <;> conv => lhs; whnf)
      | (refine br_c (fun _ => ?_) (fun _ => ?_) <;> conv => lhs; whnf)
      | refine req_c fun _ => ?_; conv => lhs; whnf
      | refine req_i (by assumption) ?_; conv => lhs; whnf
      | refine bnd_c fun _ => ?_; conv => lhs; whnf
      | refine sum_c (fun _ => ?_) (fun _ => ?_)
      | refine S.region_d (id := 10) (ds := [0, 0, 0, 0, 12, 28, 0, 124, 0, 0, 768, 1792, 4092, 8191, 16383]) (mds := [[], [], [], [], [], [], [], [], [], [], [], [], [], [], [0]]) (hm := [(14, [0])]) (by kernel_rfl) (by kernel_rfl) rfl rfl ?_
      | exact ih
      | refine S.loop ?_; conv => lhs; whnf
      | refine S.back_n ?_; conv => lhs; whnf
      | refine S.back_x ?_; conv => lhs; whnf
      | refine S.back_r ?_; conv => lhs; whnf
      | refine S.fin_r ?_; conv => lhs; whnf
      | refine S.fin_n ?_; conv => lhs; whnf
      | exact ret_c rfl
      | exact none_c
      | refine S.draw_op ?_; conv => lhs; whnf; arg 1; whnf
      | refine S.dk_n ?_; conv => lhs; whnf
      | refine S.draw_nil ?_; conv => lhs; whnf
      | refine andK_br ?_
      | refine andK_req ?_
      | refine andK_b ?_
      | refine andK_none ?_
set_option maxRecDepth 60000 in
set_option maxHeartbeats 4000000 in
theorem r32 (S : Seals) (k : Nat) (a0 : List Int) (a1 : List Int) (a2 : List Int) : runF tt (g32 k) lv32 Try.f32 k [.dat (.int .i64) a0 true, .dat (.int .i64) a1 true, .dat (.int .i64) a2 true] [] = bindO (axes_Padded.f k a0 a1 a2) (fun x : Int × (List Int) => some (.tup [.own 0, .i .i64 x.1], [.row (.int .i64) x.2 false])) := by
  unfold axes_Padded.f; refine S.run_s rfl rfl ?_; conv => lhs; arg 5; whnf
  conv => lhs; arg 6; whnf
  repeat' first
    | refine S.seq_op rfl ?_; conv => lhs; whnf
    | refine S.op_n ?_; conv => lhs; whnf
    | refine S.seq_nil ?_
    | refine S.reg_n ?_
    | refine S.region rfl ?_
    | refine S.two ?_
    | refine S.blok ?_
    | refine S.cond rfl ?_
    | refine S.after_n ?_
    | refine S.block_n ?_
    | refine S.block_x ?_; conv => lhs; whnf
    | refine S.block_r ?_
    | refine S.after_x ?_
    | refine S.after_r ?_
    | refine S.skip ?_
    | refine S.exit ?_
    | refine S.ret ?_
    | refine br_lt ?_; conv => lhs; whnf
    | refine br_lf ?_; conv => lhs; whnf
    | refine br_t (by assumption) ?_; conv => lhs; whnf
    | refine br_f (by assumption) ?_; conv => lhs; whnf
    | refine req_i (by with_reducible assumption) ?_; conv => lhs; whnf
    | (refine br_nd (fun _ => ?_) (fun _ => ?_) <;> conv => lhs; whnf)
    | (refine br_d (fun _ => ?_) (fun _ => ?_) <;> conv => lhs; whnf)
    | (refine br_n (fun _ => ?_) (fun _ => ?_) <;> conv => lhs; whnf)
    | (refine br_c (fun _ => ?_) (fun _ => ?_) <;> conv => lhs; whnf)
    | refine req_c fun _ => ?_; conv => lhs; whnf
    | refine req_i (by assumption) ?_; conv => lhs; whnf
    | refine bnd_c fun _ => ?_; conv => lhs; whnf
    | refine sum_c (fun _ => ?_) (fun _ => ?_)
    | refine (w32_0 S k _).trans ?_
    | refine S.loop ?_; conv => lhs; whnf
    | refine S.back_n ?_; conv => lhs; whnf
    | refine S.back_x ?_; conv => lhs; whnf
    | refine S.back_r ?_; conv => lhs; whnf
    | refine S.fin_r ?_; conv => lhs; whnf
    | refine S.fin_n ?_; conv => lhs; whnf
    | exact ret_c rfl
    | exact none_c
    | refine S.draw_op ?_; conv => lhs; whnf; arg 1; whnf
    | refine S.dk_n ?_; conv => lhs; whnf
    | refine S.draw_nil ?_; conv => lhs; whnf
    | refine andK_br ?_
    | refine andK_req ?_
    | refine andK_b ?_
    | refine andK_none ?_
def sp32 (k : Nat) : FSpec := ⟨[.rd, .rd, .rd], fun args objs K => match args, objs with | [v0, v1, v2], [] => listB (.int .i64) true v0 fun a0 => listB (.int .i64) true v1 fun a1 => listB (.int .i64) true v2 fun a2 => bindO (axes_Padded.f k a0 a1 a2) fun x : Int × (List Int) => K (.tup [.own 0, .i .i64 x.1]) [.row (.int .i64) x.2 false] | _, _ => none⟩
theorem snd32 (k : Nat) : Sound Try.prog 32 (sp32 k) := by
  refine ⟨⟨Try.f32, rfl, by kernel_rfl, rfl⟩, fun args objs K r h => ?_⟩
  unfold sp32 at h; dsimp only at h; split at h
  · rename_i v0 v1 v2
    obtain ⟨a0, h9, ca0⟩ := listB_spec h; clear h
    have h := h9; clear h9
    obtain ⟨a1, h9, ca1⟩ := listB_spec h; clear h
    have h := h9; clear h9
    obtain ⟨a2, h9, ca2⟩ := listB_spec h; clear h
    have h := h9; clear h9
    obtain ⟨x, hx, h⟩ := bindO_some h
    exact ⟨_, _, h, FnOK.args2 (relL_c ca0 (relL_c ca1 (relL_c ca2 relL_n))) (fn_run tab_ok (en32 k) mixed rfl ((r32 seals k a0 a1 a2).trans (bindO_eq hx)))⟩
  · cases h
end Go.Vm

/- axes_Pad -/
namespace Go.Vm
open Go Go.Proofs Go.Pf
def lv15 : Live := look ⟨[], [], [], [], []⟩ [(1000000, ⟨[], [], [], [(8, 0, .own (.int .i64)), (8, 1, .own (.int .i64))], []⟩)]
noncomputable def g15 (k : Nat) : FEnv := (addF 24 (sp24_4 k) (addF 32 (sp32 k) (addF 22 (sp22 k) (fun _ => none))))
theorem en15 (k : Nat) : EnvOK Try.prog (g15 k) := (envOK_add (snd24_4 k) (envOK_add (snd32 k) (envOK_add (snd22 k) (envOK_nil _))))
set_option maxRecDepth 60000 in
set_option maxHeartbeats 4000000 in
theorem r15 (S : Seals) (k : Nat) (a0_0 : List Int) (a0_1 : List Int) (a1 : List Int) (a2 : List Int) (a3 : Int) : runF tt (g15 k) lv15 Try.f15 k [.agg [.dat (.int .i64) a0_0 true, .dat (.int .i64) a0_1 true], .dat (.int .i64) a1 true, .dat (.int .i64) a2 true, .i .i64 a3] [] = bindO (axes_Pad.f k a0_0 a0_1 a1 a2 a3) (fun x : Int × (List Int) × (List Int) => some (.tup [.agg [.own 0, .own 1], .i .i64 x.1], [.row (.int .i64) x.2.1 false, .row (.int .i64) x.2.2 false])) := by
  unfold axes_Pad.f; refine S.run_s rfl rfl ?_; conv => lhs; arg 5; whnf
  conv => lhs; arg 6; whnf
  repeat' first
    | refine S.seq_op rfl ?_; conv => lhs; whnf
    | refine S.op_n ?_; conv => lhs; whnf
    | refine S.seq_nil ?_
    | refine S.reg_n ?_
    | refine S.region rfl ?_
    | refine S.two ?_
    | refine S.blok ?_
    | refine S.cond rfl ?_
    | refine S.after_n ?_
    | refine S.block_n ?_
    | refine S.block_x ?_; conv => lhs; whnf
    | refine S.block_r ?_
    | refine S.after_x ?_
    | refine S.after_r ?_
    | refine S.skip ?_
    | refine S.exit ?_
    | refine S.ret ?_
    | refine br_lt ?_; conv => lhs; whnf
    | refine br_lf ?_; conv => lhs; whnf
    | refine br_t (by assumption) ?_; conv => lhs; whnf
    | refine br_f (by assumption) ?_; conv => lhs; whnf
    | refine req_i (by with_reducible assumption) ?_; conv => lhs; whnf
    | (refine br_nd (fun _ => ?_) (fun _ => ?_) <;> conv => lhs; whnf)
    | (refine br_d (fun _ => ?_) (fun _ => ?_) <;> conv => lhs; whnf)
    | (refine br_n (fun _ => ?_) (fun _ => ?_) <;> conv => lhs; whnf)
    | (refine br_c (fun _ => ?_) (fun _ => ?_) <;> conv => lhs; whnf)
    | refine req_c fun _ => ?_; conv => lhs; whnf
    | refine req_i (by assumption) ?_; conv => lhs; whnf
    | refine bnd_c fun _ => ?_; conv => lhs; whnf
    | refine sum_c (fun _ => ?_) (fun _ => ?_)
    | refine S.loop ?_; conv => lhs; whnf
    | refine S.back_n ?_; conv => lhs; whnf
    | refine S.back_x ?_; conv => lhs; whnf
    | refine S.back_r ?_; conv => lhs; whnf
    | refine S.fin_r ?_; conv => lhs; whnf
    | refine S.fin_n ?_; conv => lhs; whnf
    | exact ret_c rfl
    | exact none_c
    | refine S.draw_op ?_; conv => lhs; whnf; arg 1; whnf
    | refine S.dk_n ?_; conv => lhs; whnf
    | refine S.draw_nil ?_; conv => lhs; whnf
    | refine andK_br ?_
    | refine andK_req ?_
    | refine andK_b ?_
    | refine andK_none ?_
def sp15 (k : Nat) : FSpec := ⟨[.rd, .rd, .rd, .rd], fun args objs K => match args, objs with | [.agg [v0, v1], v2, v3, .i .i64 a3], [] => listB (.int .i64) true v0 fun a0_0 => listB (.int .i64) true v1 fun a0_1 => listB (.int .i64) true v2 fun a1 => listB (.int .i64) true v3 fun a2 => bindO (axes_Pad.f k a0_0 a0_1 a1 a2 a3) fun x : Int × (List Int) × (List Int) => K (.tup [.agg [.own 0, .own 1], .i .i64 x.1]) [.row (.int .i64) x.2.1 false, .row (.int .i64) x.2.2 false] | _, _ => none⟩
theorem snd15 (k : Nat) : Sound Try.prog 15 (sp15 k) := by
  refine ⟨⟨Try.f15, rfl, by kernel_rfl, rfl⟩, fun args objs K r h => ?_⟩
  unfold sp15 at h; dsimp only at h; split at h
  · rename_i v0 v1 v2 v3 a3
    obtain ⟨a0_0, h9, ca0_0⟩ := listB_spec h; clear h
    have h := h9; clear h9
    obtain ⟨a0_1, h9, ca0_1⟩ := listB_spec h; clear h
    have h := h9; clear h9
    obtain ⟨a1, h9, ca1⟩ := listB_spec h; clear h
    have h := h9; clear h9
    obtain ⟨a2, h9, ca2⟩ := listB_spec h; clear h
    have h := h9; clear h9
    obtain ⟨x, hx, h⟩ := bindO_some h
    exact ⟨_, _, h, FnOK.args2 (relL_c (rel_agg (relL_c ca0_0 (relL_c ca0_1 relL_n))) (relL_c ca1 (relL_c ca2 (relL_c rel_i relL_n)))) (fn_run tab_ok (en15 k) mixed rfl ((r15 seals k a0_0 a0_1 a1 a2 a3).trans (bindO_eq hx)))⟩
  · cases h
end Go.Vm

/- book_Within -/
namespace Go.Vm
open Go Go.Proofs Go.Pf
def lv19 : Live := look ⟨[], [], [], [], []⟩ []
noncomputable def g19 : FEnv := (fun _ => none)
theorem en19 : EnvOK Try.prog (g19) := (envOK_nil _)
set_option maxRecDepth 60000 in
set_option maxHeartbeats 4000000 in
theorem r19 (S : Seals) (k : Nat) (a0 : Int) (a1 : Int) (a2 : Int) : runF tt (g19) lv19 Try.f19 k [.i .i64 a0, .i .i64 a1, .i .i64 a2] [] = bindO (book_Within.f a0 a1 a2) (fun x : Int => some (.i .i64 x, [])) := by
  unfold book_Within.f; refine S.run_s rfl rfl ?_; conv => lhs; arg 5; whnf
  conv => lhs; arg 6; whnf
  repeat' first
    | refine S.seq_op rfl ?_; conv => lhs; whnf
    | refine S.op_n ?_; conv => lhs; whnf
    | refine S.seq_nil ?_
    | refine S.reg_n ?_
    | refine S.region rfl ?_
    | refine S.two ?_
    | refine S.blok ?_
    | refine S.cond rfl ?_
    | refine S.after_n ?_
    | refine S.block_n ?_
    | refine S.block_x ?_; conv => lhs; whnf
    | refine S.block_r ?_
    | refine S.after_x ?_
    | refine S.after_r ?_
    | refine S.skip ?_
    | refine S.exit ?_
    | refine S.ret ?_
    | refine br_lt ?_; conv => lhs; whnf
    | refine br_lf ?_; conv => lhs; whnf
    | refine br_t (by assumption) ?_; conv => lhs; whnf
    | refine br_f (by assumption) ?_; conv => lhs; whnf
    | refine req_i (by with_reducible assumption) ?_; conv => lhs; whnf
    | (refine br_nd (fun _ => ?_) (fun _ => ?_) <;> conv => lhs; whnf)
    | (refine br_d (fun _ => ?_) (fun _ => ?_) <;> conv => lhs; whnf)
    | (refine br_n (fun _ => ?_) (fun _ => ?_) <;> conv => lhs; whnf)
    | (refine br_c (fun _ => ?_) (fun _ => ?_) <;> conv => lhs; whnf)
    | refine req_c fun _ => ?_; conv => lhs; whnf
    | refine req_i (by assumption) ?_; conv => lhs; whnf
    | refine bnd_c fun _ => ?_; conv => lhs; whnf
    | refine sum_c (fun _ => ?_) (fun _ => ?_)
    | refine S.loop ?_; conv => lhs; whnf
    | refine S.back_n ?_; conv => lhs; whnf
    | refine S.back_x ?_; conv => lhs; whnf
    | refine S.back_r ?_; conv => lhs; whnf
    | refine S.fin_r ?_; conv => lhs; whnf
    | refine S.fin_n ?_; conv => lhs; whnf
    | exact ret_c rfl
    | exact none_c
    | refine S.draw_op ?_; conv => lhs; whnf; arg 1; whnf
    | refine S.dk_n ?_; conv => lhs; whnf
    | refine S.draw_nil ?_; conv => lhs; whnf
    | refine andK_br ?_
    | refine andK_req ?_
    | refine andK_b ?_
    | refine andK_none ?_
def sp19 : FSpec := ⟨[.rd, .rd, .rd], fun args objs K => match args, objs with | [.i .i64 a0, .i .i64 a1, .i .i64 a2], [] => bindO (book_Within.f a0 a1 a2) fun x : Int => K (.i .i64 x) [] | _, _ => none⟩
theorem snd19 : Sound Try.prog 19 (sp19) := by
  refine ⟨⟨Try.f19, rfl, by kernel_rfl, rfl⟩, fun args objs K r h => ?_⟩
  unfold sp19 at h; dsimp only at h; split at h
  · rename_i a0 a1 a2
    obtain ⟨x, hx, h⟩ := bindO_some h
    exact ⟨_, _, h, FnOK.args2 (relL_c rel_i (relL_c rel_i (relL_c rel_i relL_n))) (fn_run tab_ok (en19) mixed rfl ((r19 seals 0 a0 a1 a2).trans (bindO_eq hx)))⟩
  · cases h
end Go.Vm

/- keep_Tape_Next -/
namespace Go.Vm
open Go Go.Proofs Go.Pf
def lv7 : Live := look ⟨[], [], [], [], []⟩ []
noncomputable def g7 : FEnv := (addF 19 sp19 (fun _ => none))
theorem en7 : EnvOK Try.prog (g7) := (envOK_add snd19 (envOK_nil _))
set_option maxRecDepth 60000 in
set_option maxHeartbeats 4000000 in
theorem r7 (S : Seals) (k : Nat) (a1 : Int) (o0_0 : List Int) (o0_1 : Int) : runF tt (g7) lv7 Try.f7 k [.ptr 0 0, .i .i64 a1] [.var [.dat (.int .i64) o0_0 false, .i .i64 o0_1]] = bindO (keep_Tape_Next.f a1 o0_0 o0_1) (fun x : Int × Int => some (.i .i64 x.1, [.var [.dat (.int .i64) o0_0 false, .i .i64 x.2]])) := by
  unfold keep_Tape_Next.f; refine S.run_s rfl rfl ?_; conv => lhs; arg 5; whnf
  conv => lhs; arg 6; whnf
  repeat' first
    | refine S.seq_op rfl ?_; conv => lhs; whnf
    | refine S.op_n ?_; conv => lhs; whnf
    | refine S.seq_nil ?_
    | refine S.reg_n ?_
    | refine S.region rfl ?_
    | refine S.two ?_
    | refine S.blok ?_
    | refine S.cond rfl ?_
    | refine S.after_n ?_
    | refine S.block_n ?_
    | refine S.block_x ?_; conv => lhs; whnf
    | refine S.block_r ?_
    | refine S.after_x ?_
    | refine S.after_r ?_
    | refine S.skip ?_
    | refine S.exit ?_
    | refine S.ret ?_
    | refine br_lt ?_; conv => lhs; whnf
    | refine br_lf ?_; conv => lhs; whnf
    | refine br_t (by assumption) ?_; conv => lhs; whnf
    | refine br_f (by assumption) ?_; conv => lhs; whnf
    | refine req_i (by with_reducible assumption) ?_; conv => lhs; whnf
    | (refine br_nd (fun _ => ?_) (fun _ => ?_) <;> conv => lhs; whnf)
    | (refine br_d (fun _ => ?_) (fun _ => ?_) <;> conv => lhs; whnf)
    | (refine br_n (fun _ => ?_) (fun _ => ?_) <;> conv => lhs; whnf)
    | (refine br_c (fun _ => ?_) (fun _ => ?_) <;> conv => lhs; whnf)
    | refine req_c fun _ => ?_; conv => lhs; whnf
    | refine req_i (by assumption) ?_; conv => lhs; whnf
    | refine bnd_c fun _ => ?_; conv => lhs; whnf
    | refine sum_c (fun _ => ?_) (fun _ => ?_)
    | refine S.region_d (id := 1) (ds := [0, 1, 3, 7, 0, 16, 48, 112, 240, 511, 1023, 2047, 4095, 8191]) (mds := [[], [], [], [], [], [], [], [], [], [], [], [], [], []]) (hm := []) (by kernel_rfl) (by kernel_rfl) rfl rfl ?_
    | refine S.region_d (id := 4) (ds := [0, 1, 3, 7, 0, 16, 48, 112, 240, 511, 1023, 2047, 0, 8191, 16383]) (mds := [[], [], [], [], [], [], [], [], [], [], [], [], [], [], []]) (hm := []) (by kernel_rfl) (by kernel_rfl) rfl rfl ?_
    | refine S.loop ?_; conv => lhs; whnf
    | refine S.back_n ?_; conv => lhs; whnf
    | refine S.back_x ?_; conv => lhs; whnf
    | refine S.back_r ?_; conv => lhs; whnf
    | refine S.fin_r ?_; conv => lhs; whnf
    | refine S.fin_n ?_; conv => lhs; whnf
    | exact ret_c rfl
    | exact none_c
    | refine S.draw_op ?_; conv => lhs; whnf; arg 1; whnf
    | refine S.dk_n ?_; conv => lhs; whnf
    | refine S.draw_nil ?_; conv => lhs; whnf
    | refine andK_br ?_
    | refine andK_req ?_
    | refine andK_b ?_
    | refine andK_none ?_
def sp7 : FSpec := ⟨[.rd, .rd], fun args objs K => match args, objs with | [.ptr 0 0, .i .i64 a1], [.var [v0, .i .i64 o0_1]] => datK (.int .i64) false v0 fun o0_0 => bindO (keep_Tape_Next.f a1 o0_0 o0_1) fun x : Int × Int => K (.i .i64 x.1) [.var [.dat (.int .i64) o0_0 false, .i .i64 x.2]] | _, _ => none⟩
theorem snd7 : Sound Try.prog 7 (sp7) := by
  refine ⟨⟨Try.f7, rfl, by kernel_rfl, rfl⟩, fun args objs K r h => ?_⟩
  unfold sp7 at h; dsimp only at h; split at h
  · rename_i a1 v0 o0_1
    obtain ⟨o0_0, h9, eo0_0⟩ := datK_spec h; clear h; subst eo0_0
    have h := h9; clear h9
    obtain ⟨x, hx, h⟩ := bindO_some h
    exact ⟨_, _, h, FnOK.args2 (relL_c rel_i (relL_c rel_i relL_n)) (fn_run tab_ok (en7) mixed rfl ((r7 seals 0 a1 o0_0 o0_1).trans (bindO_eq hx)))⟩
  · cases h
end Go.Vm

/- keep_Tape_Shape -/
namespace Go.Vm
open Go Go.Proofs Go.Pf
def lv8 : Live := look ⟨[], [], [], [], []⟩ [(3, ⟨[0, 3, 4], [3], [2], [(3, 0, .own (.int .i64))], []⟩)]
noncomputable def g8 : FEnv := (addF 7 sp7 (fun _ => none))
theorem en8 : EnvOK Try.prog (g8) := (envOK_add snd7 (envOK_nil _))
set_option maxRecDepth 60000 in
set_option maxHeartbeats 4000000 in
theorem w8_0 (S : Seals) (k : Nat) : ∀ (n : Nat) {x4 : Int} {y0_0 : List Int} {y0_1 : Int} {y1 : List Int} {K : CK}, S.lp tt (g8) lv8 1 n (loopN Try.f8 0) ⟨[(0, .ptr 0 0), (3, .own 1), (4, .i .i64 x4)], [(0, .var [.dat (.int .i64) y0_0 false, .i .i64 y0_1]), (1, .row (.int .i64) y1 false)], 2, 20⟩ K = bindO (keep_Tape_Shape.l0 n x4 y0_0 y0_1 y1) (fun x : Int × (List Int) => K (.exit 0) ⟨[(3, .own 1)], [(0, .var [.dat (.int .i64) y0_0 false, .i .i64 x.1]), (1, .row (.int .i64) x.2 false)], 2, 20⟩) := by
  intro n; induction n with
  | zero => intros; rw [S.lp_zero]; exact none_c
  | succ n ih =>
    intros; rw [keep_Tape_Shape.l0]; refine S.lp_succ ?_; conv => lhs; arg 5; whnf
    repeat' first
      | refine S.seq_op rfl ?_; conv => lhs; whnf
      | refine S.op_n ?_; conv => lhs; whnf
      | refine S.seq_nil ?_
      | refine S.reg_n ?_
      | refine S.region rfl ?_
      | refine S.two ?_
      | refine S.blok ?_
      | refine S.cond rfl ?_
      | refine S.after_n ?_
      | refine S.block_n ?_
      | refine S.block_x ?_; conv => lhs; whnf
      | refine S.block_r ?_
      | refine S.after_x ?_
      | refine S.after_r ?_
      | refine S.skip ?_
      | refine S.exit ?_
      | refine S.ret ?_
      | refine br_lt ?_; conv => lhs; whnf
      | refine br_lf ?_; conv => lhs; whnf
      | refine br_t (by assumption) ?_; conv => lhs; whnf
      | refine br_f (by assumption) ?_; conv => lhs; whnf
      | refine req_i (by with_reducible assumption) ?_; conv => lhs; whnf
      | (refine br_nd (fun _ => ?_) (fun _ => ?_) <;> conv => lhs; whnf)
      | (refine br_d (fun _ => ?_) (fun _ => ?_) <;> conv => lhs; whnf)
      | (refine br_n (fun _ => ?_) (fun _ => ?_) <;> conv => lhs; whnf)
      | (refine br_c (fun _ => ?_) (fun _ => ?_) <;> conv => lhs; whnf)
      | refine req_c fun _ => ?_; conv => lhs; whnf
      | refine req_i (by assumption) ?_; conv => lhs; whnf
      | refine bnd_c fun _ => ?_; conv => lhs; whnf
      | refine sum_c (fun _ => ?_) (fun _ => ?_)
      | exact ih
      | refine S.loop ?_; conv => lhs; whnf
      | refine S.back_n ?_; conv => lhs; whnf
      | refine S.back_x ?_; conv => lhs; whnf
      | refine S.back_r ?_; conv => lhs; whnf
      | refine S.fin_r ?_; conv => lhs; whnf
      | refine S.fin_n ?_; conv => lhs; whnf
      | exact ret_c rfl
      | exact none_c
      | refine S.draw_op ?_; conv => lhs; whnf; arg 1; whnf
      | refine S.dk_n ?_; conv => lhs; whnf
      | refine S.draw_nil ?_; conv => lhs; whnf
      | refine andK_br ?_
      | refine andK_req ?_
      | refine andK_b ?_
      | refine andK_none ?_
set_option maxRecDepth 60000 in
set_option maxHeartbeats 4000000 in
theorem r8 (S : Seals) (k : Nat) (o0_0 : List Int) (o0_1 : Int) : runF tt (g8) lv8 Try.f8 k [.ptr 0 0] [.var [.dat (.int .i64) o0_0 false, .i .i64 o0_1]] = bindO (keep_Tape_Shape.f k o0_0 o0_1) (fun x : Int × (List Int) => some (.own 1, [.var [.dat (.int .i64) o0_0 false, .i .i64 x.1], .row (.int .i64) x.2 false])) := by
  unfold keep_Tape_Shape.f; refine S.run_s rfl rfl ?_; conv => lhs; arg 5; whnf
  conv => lhs; arg 6; whnf
  repeat' first
    | refine S.seq_op rfl ?_; conv => lhs; whnf
    | refine S.op_n ?_; conv => lhs; whnf
    | refine S.seq_nil ?_
    | refine S.reg_n ?_
    | refine S.region rfl ?_
    | refine S.two ?_
    | refine S.blok ?_
    | refine S.cond rfl ?_
    | refine S.after_n ?_
    | refine S.block_n ?_
    | refine S.block_x ?_; conv => lhs; whnf
    | refine S.block_r ?_
    | refine S.after_x ?_
    | refine S.after_r ?_
    | refine S.skip ?_
    | refine S.exit ?_
    | refine S.ret ?_
    | refine br_lt ?_; conv => lhs; whnf
    | refine br_lf ?_; conv => lhs; whnf
    | refine br_t (by assumption) ?_; conv => lhs; whnf
    | refine br_f (by assumption) ?_; conv => lhs; whnf
    | refine req_i (by with_reducible assumption) ?_; conv => lhs; whnf
    | (refine br_nd (fun _ => ?_) (fun _ => ?_) <;> conv => lhs; whnf)
    | (refine br_d (fun _ => ?_) (fun _ => ?_) <;> conv => lhs; whnf)
    | (refine br_n (fun _ => ?_) (fun _ => ?_) <;> conv => lhs; whnf)
    | (refine br_c (fun _ => ?_) (fun _ => ?_) <;> conv => lhs; whnf)
    | refine req_c fun _ => ?_; conv => lhs; whnf
    | refine req_i (by assumption) ?_; conv => lhs; whnf
    | refine bnd_c fun _ => ?_; conv => lhs; whnf
    | refine sum_c (fun _ => ?_) (fun _ => ?_)
    | refine (w8_0 S k _).trans ?_
    | refine S.loop ?_; conv => lhs; whnf
    | refine S.back_n ?_; conv => lhs; whnf
    | refine S.back_x ?_; conv => lhs; whnf
    | refine S.back_r ?_; conv => lhs; whnf
    | refine S.fin_r ?_; conv => lhs; whnf
    | refine S.fin_n ?_; conv => lhs; whnf
    | exact ret_c rfl
    | exact none_c
    | refine S.draw_op ?_; conv => lhs; whnf; arg 1; whnf
    | refine S.dk_n ?_; conv => lhs; whnf
    | refine S.draw_nil ?_; conv => lhs; whnf
    | refine andK_br ?_
    | refine andK_req ?_
    | refine andK_b ?_
    | refine andK_none ?_
def sp8 (k : Nat) : FSpec := ⟨[.rd], fun args objs K => match args, objs with | [.ptr 0 0], [.var [v0, .i .i64 o0_1]] => datK (.int .i64) false v0 fun o0_0 => bindO (keep_Tape_Shape.f k o0_0 o0_1) fun x : Int × (List Int) => K (.own 1) [.var [.dat (.int .i64) o0_0 false, .i .i64 x.1], .row (.int .i64) x.2 false] | _, _ => none⟩
theorem snd8 (k : Nat) : Sound Try.prog 8 (sp8 k) := by
  refine ⟨⟨Try.f8, rfl, by kernel_rfl, rfl⟩, fun args objs K r h => ?_⟩
  unfold sp8 at h; dsimp only at h; split at h
  · rename_i v0 o0_1
    obtain ⟨o0_0, h9, eo0_0⟩ := datK_spec h; clear h; subst eo0_0
    have h := h9; clear h9
    obtain ⟨x, hx, h⟩ := bindO_some h
    exact ⟨_, _, h, FnOK.args2 (relL_c rel_i relL_n) (fn_run tab_ok (en8) mixed rfl ((r8 seals k o0_0 o0_1).trans (bindO_eq hx)))⟩
  · cases h
end Go.Vm

/- ref1_Right -/
namespace Go.Vm
open Go Go.Proofs Go.Pf
def lv17 : Live := look ⟨[], [], [], [], []⟩ [(3, ⟨[0, 3, 4], [3], [2], [], []⟩)]
noncomputable def g17 : FEnv := (fun _ => none)
theorem en17 : EnvOK Try.prog (g17) := (envOK_nil _)
set_option maxRecDepth 60000 in
set_option maxHeartbeats 4000000 in
theorem w17_0 (S : Seals) (k : Nat) : ∀ (n : Nat) {x0 : List Int} {x3 : Int} {x4 : Int} {K : CK}, S.lp tt (g17) lv17 0 n (loopN Try.f17 0) ⟨[(0, .dat (.int .i64) x0 true), (3, .i .i64 x3), (4, .i .i64 x4)], [], 0, 35⟩ K = bindO (ref1_Right.l0 n x0 x3 x4) (Sum.elim (fun x : Int => K (.exit 0) ⟨[(3, .i .i64 x)], [], 0, 35⟩) (fun x : Bool => K .ret ⟨[(2, .b x)], [], 0, 35⟩)) := by
  intro n; induction n with
  | zero => intros; rw [S.lp_zero]; exact none_c
  | succ n ih =>
    intros; rw [ref1_Right.l0]; refine S.lp_succ ?_; conv => lhs; arg 5; whnf
    repeat' first
      | refine S.seq_op rfl ?_; conv => lhs; whnf
      | refine S.op_n ?_; conv => lhs; whnf
      | refine S.seq_nil ?_
      | refine S.reg_n ?_
      | refine S.region rfl ?_
      | refine S.two ?_
      | refine S.blok ?_
      | refine S.cond rfl ?_
      | refine S.after_n ?_
      | refine S.block_n ?_
      | refine S.block_x ?_; conv => lhs; whnf
      | refine S.block_r ?_
      | refine S.after_x ?_
      | refine S.after_r ?_
      | refine S.skip ?_
      | refine S.exit ?_
      | refine S.ret ?_
      | refine br_lt ?_; conv => lhs; whnf
      | refine br_lf ?_; conv => lhs; whnf
      | refine br_t (by assumption) ?_; conv => lhs; whnf
      | refine br_f (by assumption) ?_; conv => lhs; whnf
      | refine req_i (by with_reducible assumption) ?_; conv => lhs; whnf
      | (refine br_nd (fun _ => ?_) (fun _ => ?_) <;> conv => lhs; whnf)
      | (refine br_d (fun _ => ?_) (fun _ => ?_) <;> conv => lhs; whnf)
      | (refine br_n (fun _ => ?_) (fun _ => ?_) <;> conv => lhs; whnf)
      | (refine br_c (fun _ => ?_) (fun _ => ?_) <;> conv => lhs; whnf)
      | refine req_c fun _ => ?_; conv => lhs; whnf
      | refine req_i (by assumption) ?_; conv => lhs; whnf
      | refine bnd_c fun _ => ?_; conv => lhs; whnf
      | refine sum_c (fun _ => ?_) (fun _ => ?_)
      | exact ih
      | refine S.loop ?_; conv => lhs; whnf
      | refine S.back_n ?_; conv => lhs; whnf
      | refine S.back_x ?_; conv => lhs; whnf
      | refine S.back_r ?_; conv => lhs; whnf
      | refine S.fin_r ?_; conv => lhs; whnf
      | refine S.fin_n ?_; conv => lhs; whnf
      | exact ret_c rfl
      | exact none_c
      | refine S.draw_op ?_; conv => lhs; whnf; arg 1; whnf
      | refine S.dk_n ?_; conv => lhs; whnf
      | refine S.draw_nil ?_; conv => lhs; whnf
      | refine andK_br ?_
      | refine andK_req ?_
      | refine andK_b ?_
      | refine andK_none ?_
set_option maxRecDepth 60000 in
set_option maxHeartbeats 4000000 in
theorem r17 (S : Seals) (k : Nat) (a0 : List Int) : runF tt (g17) lv17 Try.f17 k [.dat (.int .i64) a0 true] [] = bindO (ref1_Right.f k a0) (fun x : Bool => some (.b x, [])) := by
  unfold ref1_Right.f; refine S.run_s rfl rfl ?_; conv => lhs; arg 5; whnf
  conv => lhs; arg 6; whnf
  repeat' first
    | refine S.seq_op rfl ?_; conv => lhs; whnf
    | refine S.op_n ?_; conv => lhs; whnf
    | refine S.seq_nil ?_
    | refine S.reg_n ?_
    | refine S.region rfl ?_
    | refine S.two ?_
    | refine S.blok ?_
    | refine S.cond rfl ?_
    | refine S.after_n ?_
    | refine S.block_n ?_
    | refine S.block_x ?_; conv => lhs; whnf
    | refine S.block_r ?_
    | refine S.after_x ?_
    | refine S.after_r ?_
    | refine S.skip ?_
    | refine S.exit ?_
    | refine S.ret ?_
    | refine br_lt ?_; conv => lhs; whnf
    | refine br_lf ?_; conv => lhs; whnf
    | refine br_t (by assumption) ?_; conv => lhs; whnf
    | refine br_f (by assumption) ?_; conv => lhs; whnf
    | refine req_i (by with_reducible assumption) ?_; conv => lhs; whnf
    | (refine br_nd (fun _ => ?_) (fun _ => ?_) <;> conv => lhs; whnf)
    | (refine br_d (fun _ => ?_) (fun _ => ?_) <;> conv => lhs; whnf)
    | (refine br_n (fun _ => ?_) (fun _ => ?_) <;> conv => lhs; whnf)
    | (refine br_c (fun _ => ?_) (fun _ => ?_) <;> conv => lhs; whnf)
    | refine req_c fun _ => ?_; conv => lhs; whnf
    | refine req_i (by assumption) ?_; conv => lhs; whnf
    | refine bnd_c fun _ => ?_; conv => lhs; whnf
    | refine sum_c (fun _ => ?_) (fun _ => ?_)
    | refine (w17_0 S k _).trans ?_
    | refine S.loop ?_; conv => lhs; whnf
    | refine S.back_n ?_; conv => lhs; whnf
    | refine S.back_x ?_; conv => lhs; whnf
    | refine S.back_r ?_; conv => lhs; whnf
    | refine S.fin_r ?_; conv => lhs; whnf
    | refine S.fin_n ?_; conv => lhs; whnf
    | exact ret_c rfl
    | exact none_c
    | refine S.draw_op ?_; conv => lhs; whnf; arg 1; whnf
    | refine S.dk_n ?_; conv => lhs; whnf
    | refine S.draw_nil ?_; conv => lhs; whnf
    | refine andK_br ?_
    | refine andK_req ?_
    | refine andK_b ?_
    | refine andK_none ?_
def sp17 (k : Nat) : FSpec := ⟨[.rd], fun args objs K => match args, objs with | [v0], [] => listB (.int .i64) true v0 fun a0 => bindO (ref1_Right.f k a0) fun x : Bool => K (.b x) [] | _, _ => none⟩
theorem snd17 (k : Nat) : Sound Try.prog 17 (sp17 k) := by
  refine ⟨⟨Try.f17, rfl, by kernel_rfl, rfl⟩, fun args objs K r h => ?_⟩
  unfold sp17 at h; dsimp only at h; split at h
  · rename_i v0
    obtain ⟨a0, h9, ca0⟩ := listB_spec h; clear h
    have h := h9; clear h9
    obtain ⟨x, hx, h⟩ := bindO_some h
    exact ⟨_, _, h, FnOK.args2 (relL_c ca0 relL_n) (fn_run tab_ok (en17) mixed rfl ((r17 seals k a0).trans (bindO_eq hx)))⟩
  · cases h
end Go.Vm

/- ref1_Size -/
namespace Go.Vm
open Go Go.Proofs Go.Pf
def lv43 : Live := look ⟨[], [], [], [], []⟩ [(5, ⟨[0, 3, 4], [3], [2], [], []⟩)]
noncomputable def g43 (k : Nat) : FEnv := (addF 17 (sp17 k) (fun _ => none))
theorem en43 (k : Nat) : EnvOK Try.prog (g43 k) := (envOK_add (snd17 k) (envOK_nil _))
set_option maxRecDepth 60000 in
set_option maxHeartbeats 4000000 in
theorem w43_0 (S : Seals) (k : Nat) : ∀ (n : Nat) {x0 : List Int} {x3 : Int} {x4 : Int} {K : CK}, S.lp tt (g43 k) lv43 0 n (loopN Try.f43 0) ⟨[(0, .dat (.int .i64) x0 true), (3, .i .i64 x3), (4, .i .i64 x4)], [], 0, 21⟩ K = bindO (ref1_Size.l0 n x0 x3 x4) (fun x : Int => K (.exit 0) ⟨[(3, .i .i64 x)], [], 0, 21⟩) := by
  intro n; induction n with
  | zero => intros; rw [S.lp_zero]; exact none_c
  | succ n ih =>
    intros; rw [ref1_Size.l0]; refine S.lp_succ ?_; conv => lhs; arg 5; whnf
    repeat' first
      | refine S.seq_op rfl ?_; conv => lhs; whnf
      | refine S.op_n ?_; conv => lhs; whnf
      | refine S.seq_nil ?_
      | refine S.reg_n ?_
      | refine S.region rfl ?_
      | refine S.two ?_
      | refine S.blok ?_
      | refine S.cond rfl ?_
      | refine S.after_n ?_
      | refine S.block_n ?_
      | refine S.block_x ?_; conv => lhs; whnf
      | refine S.block_r ?_
      | refine S.after_x ?_
      | refine S.after_r ?_
      | refine S.skip ?_
      | refine S.exit ?_
      | refine S.ret ?_
      | refine br_lt ?_; conv => lhs; whnf
      | refine br_lf ?_; conv => lhs; whnf
      | refine br_t (by assumption) ?_; conv => lhs; whnf
      | refine br_f (by assumption) ?_; conv => lhs; whnf
      | refine req_i (by with_reducible assumption) ?_; conv => lhs; whnf
      | (refine br_nd (fun _ => ?_) (fun _ => ?_) <;> conv => lhs; whnf)
      | (refine br_d (fun _ => ?_) (fun _ => ?_) <;> conv => lhs; whnf)
      | (refine br_n (fun _ => ?_) (fun _ => ?_) <;> conv => lhs; whnf)
      | (refine br_c (fun _ => ?_) (fun _ => ?_) <;> conv => lhs; whnf)
      | refine req_c fun _ => ?_; conv => lhs; whnf
      | refine req_i (by assumption) ?_; conv => lhs; whnf
      | refine bnd_c fun _ => ?_; conv => lhs; whnf
      | refine sum_c (fun _ => ?_) (fun _ => ?_)
      | exact ih
      | refine S.loop ?_; conv => lhs; whnf
      | refine S.back_n ?_; conv => lhs; whnf
      | refine S.back_x ?_; conv => lhs; whnf
      | refine S.back_r ?_; conv => lhs; whnf
      | refine S.fin_r ?_; conv => lhs; whnf
      | refine S.fin_n ?_; conv => lhs; whnf
      | exact ret_c rfl
      | exact none_c
      | refine S.draw_op ?_; conv => lhs; whnf; arg 1; whnf
      | refine S.dk_n ?_; conv => lhs; whnf
      | refine S.draw_nil ?_; conv => lhs; whnf
      | refine andK_br ?_
      | refine andK_req ?_
      | refine andK_b ?_
      | refine andK_none ?_
set_option maxRecDepth 60000 in
set_option maxHeartbeats 4000000 in
theorem r43 (S : Seals) (k : Nat) (a0 : List Int) : runF tt (g43 k) lv43 Try.f43 k [.dat (.int .i64) a0 true] [] = bindO (ref1_Size.f k a0) (fun x : Int => some (.i .i64 x, [])) := by
  unfold ref1_Size.f; refine S.run_s rfl rfl ?_; conv => lhs; arg 5; whnf
  conv => lhs; arg 6; whnf
  repeat' first
    | refine S.seq_op rfl ?_; conv => lhs; whnf
    | refine S.op_n ?_; conv => lhs; whnf
    | refine S.seq_nil ?_
    | refine S.reg_n ?_
    | refine S.region rfl ?_
    | refine S.two ?_
    | refine S.blok ?_
    | refine S.cond rfl ?_
    | refine S.after_n ?_
    | refine S.block_n ?_
    | refine S.block_x ?_; conv => lhs; whnf
    | refine S.block_r ?_
    | refine S.after_x ?_
    | refine S.after_r ?_
    | refine S.skip ?_
    | refine S.exit ?_
    | refine S.ret ?_
    | refine br_lt ?_; conv => lhs; whnf
    | refine br_lf ?_; conv => lhs; whnf
    | refine br_t (by assumption) ?_; conv => lhs; whnf
    | refine br_f (by assumption) ?_; conv => lhs; whnf
    | refine req_i (by with_reducible assumption) ?_; conv => lhs; whnf
    | (refine br_nd (fun _ => ?_) (fun _ => ?_) <;> conv => lhs; whnf)
    | (refine br_d (fun _ => ?_) (fun _ => ?_) <;> conv => lhs; whnf)
    | (refine br_n (fun _ => ?_) (fun _ => ?_) <;> conv => lhs; whnf)
    | (refine br_c (fun _ => ?_) (fun _ => ?_) <;> conv => lhs; whnf)
    | refine req_c fun _ => ?_; conv => lhs; whnf
    | refine req_i (by assumption) ?_; conv => lhs; whnf
    | refine bnd_c fun _ => ?_; conv => lhs; whnf
    | refine sum_c (fun _ => ?_) (fun _ => ?_)
    | refine (w43_0 S k _).trans ?_
    | refine S.loop ?_; conv => lhs; whnf
    | refine S.back_n ?_; conv => lhs; whnf
    | refine S.back_x ?_; conv => lhs; whnf
    | refine S.back_r ?_; conv => lhs; whnf
    | refine S.fin_r ?_; conv => lhs; whnf
    | refine S.fin_n ?_; conv => lhs; whnf
    | exact ret_c rfl
    | exact none_c
    | refine S.draw_op ?_; conv => lhs; whnf; arg 1; whnf
    | refine S.dk_n ?_; conv => lhs; whnf
    | refine S.draw_nil ?_; conv => lhs; whnf
    | refine andK_br ?_
    | refine andK_req ?_
    | refine andK_b ?_
    | refine andK_none ?_
def sp43 (k : Nat) : FSpec := ⟨[.rd], fun args objs K => match args, objs with | [v0], [] => listB (.int .i64) true v0 fun a0 => bindO (ref1_Size.f k a0) fun x : Int => K (.i .i64 x) [] | _, _ => none⟩
theorem snd43 (k : Nat) : Sound Try.prog 43 (sp43 k) := by
  refine ⟨⟨Try.f43, rfl, by kernel_rfl, rfl⟩, fun args objs K r h => ?_⟩
  unfold sp43 at h; dsimp only at h; split at h
  · rename_i v0
    obtain ⟨a0, h9, ca0⟩ := listB_spec h; clear h
    have h := h9; clear h9
    obtain ⟨x, hx, h⟩ := bindO_some h
    exact ⟨_, _, h, FnOK.args2 (relL_c ca0 relL_n) (fn_run tab_ok (en43 k) mixed rfl ((r43 seals k a0).trans (bindO_eq hx)))⟩
  · cases h
end Go.Vm

/- ref1_Fill -/
namespace Go.Vm
open Go Go.Proofs Go.Pf
def lv20 : Live := look ⟨[], [], [], [], []⟩ [(3, ⟨[0, 1, 4, 5, 6], [4, 5], [4], [(5, 1, .own (.int .i64))], []⟩)]
noncomputable def g20 (k : Nat) : FEnv := (addF 43 (sp43 k) (fun _ => none))
theorem en20 (k : Nat) : EnvOK Try.prog (g20 k) := (envOK_add (snd43 k) (envOK_nil _))
set_option maxRecDepth 60000 in
set_option maxHeartbeats 4000000 in
theorem w20_0 (S : Seals) (k : Nat) : ∀ (n : Nat) {x0 : List Int} {x1 : Int} {x6 : Int} {y2 : List Int} {y3 : List Int} {K : CK}, S.lp tt (g20 k) lv20 0 n (loopN Try.f20 0) ⟨[(0, .dat (.int .i64) x0 true), (1, .i .i64 x1), (4, .ptr 0 0), (5, .ptr 1 0), (6, .i .i64 x6)], [(0, .var [.nilsl, .nilsl]), (1, .var [.own 2, .own 3]), (2, .row (.int .i64) y2 false), (3, .row (.int .i64) y3 false)], 4, 24⟩ K = bindO (ref1_Fill.l0 k n x0 x1 x6 y2 y3) (fun x : (List Int) => K (.exit 0) ⟨[(4, .ptr 0 0), (5, .ptr 1 0)], [(0, .var [.nilsl, .nilsl]), (1, .var [.own 2, .own 3]), (2, .row (.int .i64) y2 false), (3, .row (.int .i64) x false)], 4, 24⟩) := by
  intro n; induction n with
  | zero => intros; rw [S.lp_zero]; exact none_c
  | succ n ih =>
    intros; rw [ref1_Fill.l0]; refine S.lp_succ ?_; conv => lhs; arg 5; whnf
    repeat' first
      | refine S.seq_op rfl ?_; conv => lhs; whnf
      | refine S.op_n ?_; conv => lhs; whnf
      | refine S.seq_nil ?_
      | refine S.reg_n ?_
      | refine S.region rfl ?_
      | refine S.two ?_
      | refine S.blok ?_
      | refine S.cond rfl ?_
      | refine S.after_n ?_
      | refine S.block_n ?_
      | refine S.block_x ?_; conv => lhs; whnf
      | refine S.block_r ?_
      | refine S.after_x ?_
      | refine S.after_r ?_
      | refine S.skip ?_
      | refine S.exit ?_
      | refine S.ret ?_
      | refine br_lt ?_; conv => lhs; whnf
      | refine br_lf ?_; conv => lhs; whnf
      | refine br_t (by assumption) ?_; conv => lhs; whnf
      | refine br_f (by assumption) ?_; conv => lhs; whnf
      | refine req_i (by with_reducible assumption) ?_; conv => lhs; whnf
      | (refine br_nd (fun _ => ?_) (fun _ => ?_) <;> conv => lhs; whnf)
      | (refine br_d (fun _ => ?_) (fun _ => ?_) <;> conv => lhs; whnf)
      | (refine br_n (fun _ => ?_) (fun _ => ?_) <;> conv => lhs; whnf)
      | (refine br_c (fun _ => ?_) (fun _ => ?_) <;> conv => lhs; whnf)
      | refine req_c fun _ => ?_; conv => lhs; whnf
      | refine req_i (by assumption) ?_; conv => lhs; whnf
      | refine bnd_c fun _ => ?_; conv => lhs; whnf
      | refine sum_c (fun _ => ?_) (fun _ => ?_)
      | exact ih
      | refine S.loop ?_; conv => lhs; whnf
      | refine S.back_n ?_; conv => lhs; whnf
      | refine S.back_x ?_; conv => lhs; whnf
      | refine S.back_r ?_; conv => lhs; whnf
      | refine S.fin_r ?_; conv => lhs; whnf
      | refine S.fin_n ?_; conv => lhs; whnf
      | exact ret_c rfl
      | exact none_c
      | refine S.draw_op ?_; conv => lhs; whnf; arg 1; whnf
      | refine S.dk_n ?_; conv => lhs; whnf
      | refine S.draw_nil ?_; conv => lhs; whnf
      | refine andK_br ?_
      | refine andK_req ?_
      | refine andK_b ?_
      | refine andK_none ?_
set_option maxRecDepth 60000 in
set_option maxHeartbeats 4000000 in
theorem r20 (S : Seals) (k : Nat) (a0 : List Int) (a1 : Int) : runF tt (g20 k) lv20 Try.f20 k [.dat (.int .i64) a0 true, .i .i64 a1] [] = bindO (ref1_Fill.f k a0 a1) (fun x : (List Int) × (List Int) => some (.agg [.own 0, .own 1], [.row (.int .i64) x.1 false, .row (.int .i64) x.2 false])) := by
  unfold ref1_Fill.f; refine S.run_s rfl rfl ?_; conv => lhs; arg 5; whnf
  conv => lhs; arg 6; whnf
  repeat' first
    | refine S.seq_op rfl ?_; conv => lhs; whnf
    | refine S.op_n ?_; conv => lhs; whnf
    | refine S.seq_nil ?_
    | refine S.reg_n ?_
    | refine S.region rfl ?_
    | refine S.two ?_
    | refine S.blok ?_
    | refine S.cond rfl ?_
    | refine S.after_n ?_
    | refine S.block_n ?_
    | refine S.block_x ?_; conv => lhs; whnf
    | refine S.block_r ?_
    | refine S.after_x ?_
    | refine S.after_r ?_
    | refine S.skip ?_
    | refine S.exit ?_
    | refine S.ret ?_
    | refine br_lt ?_; conv => lhs; whnf
    | refine br_lf ?_; conv => lhs; whnf
    | refine br_t (by assumption) ?_; conv => lhs; whnf
    | refine br_f (by assumption) ?_; conv => lhs; whnf
    | refine req_i (by with_reducible assumption) ?_; conv => lhs; whnf
    | (refine br_nd (fun _ => ?_) (fun _ => ?_) <;> conv => lhs; whnf)
    | (refine br_d (fun _ => ?_) (fun _ => ?_) <;> conv => lhs; whnf)
    | (refine br_n (fun _ => ?_) (fun _ => ?_) <;> conv => lhs; whnf)
    | (refine br_c (fun _ => ?_) (fun _ => ?_) <;> conv => lhs; whnf)
    | refine req_c fun _ => ?_; conv => lhs; whnf
    | refine req_i (by assumption) ?_; conv => lhs; whnf
    | refine bnd_c fun _ => ?_; conv => lhs; whnf
    | refine sum_c (fun _ => ?_) (fun _ => ?_)
    | refine (w20_0 S k _).trans ?_
    | refine S.loop ?_; conv => lhs; whnf
    | refine S.back_n ?_; conv => lhs; whnf
    | refine S.back_x ?_; conv => lhs; whnf
    | refine S.back_r ?_; conv => lhs; whnf
    | refine S.fin_r ?_; conv => lhs; whnf
    | refine S.fin_n ?_; conv => lhs; whnf
    | exact ret_c rfl
    | exact none_c
    | refine S.draw_op ?_; conv => lhs; whnf; arg 1; whnf
    | refine S.dk_n ?_; conv => lhs; whnf
    | refine S.draw_nil ?_; conv => lhs; whnf
    | refine andK_br ?_
    | refine andK_req ?_
    | refine andK_b ?_
    | refine andK_none ?_
def sp20 (k : Nat) : FSpec := ⟨[.rd, .rd], fun args objs K => match args, objs with | [v0, .i .i64 a1], [] => listB (.int .i64) true v0 fun a0 => bindO (ref1_Fill.f k a0 a1) fun x : (List Int) × (List Int) => K (.agg [.own 0, .own 1]) [.row (.int .i64) x.1 false, .row (.int .i64) x.2 false] | _, _ => none⟩
theorem snd20 (k : Nat) : Sound Try.prog 20 (sp20 k) := by
  refine ⟨⟨Try.f20, rfl, by kernel_rfl, rfl⟩, fun args objs K r h => ?_⟩
  unfold sp20 at h; dsimp only at h; split at h
  · rename_i v0 a1
    obtain ⟨a0, h9, ca0⟩ := listB_spec h; clear h
    have h := h9; clear h9
    obtain ⟨x, hx, h⟩ := bindO_some h
    exact ⟨_, _, h, FnOK.args2 (relL_c ca0 (relL_c rel_i relL_n)) (fn_run tab_ok (en20 k) mixed rfl ((r20 seals k a0 a1).trans (bindO_eq hx)))⟩
  · cases h
end Go.Vm

/- keep_Tape_Number -/
namespace Go.Vm
open Go Go.Proofs Go.Pf
def lv21 : Live := look ⟨[], [], [], [], []⟩ []
noncomputable def g21 : FEnv := (addF 7 sp7 (fun _ => none))
theorem en21 : EnvOK Try.prog (g21) := (envOK_add snd7 (envOK_nil _))
set_option maxRecDepth 60000 in
set_option maxHeartbeats 4000000 in
theorem r21 (S : Seals) (k : Nat) (o0_0 : List Int) (o0_1 : Int) : runF tt (g21) lv21 Try.f21 k [.ptr 0 0] [.var [.dat (.int .i64) o0_0 false, .i .i64 o0_1]] = bindO (keep_Tape_Number.f o0_0 o0_1) (fun x : Int × Int => some (.i .i64 x.1, [.var [.dat (.int .i64) o0_0 false, .i .i64 x.2]])) := by
  unfold keep_Tape_Number.f; refine S.run_s rfl rfl ?_; conv => lhs; arg 5; whnf
  conv => lhs; arg 6; whnf
  repeat' first
    | refine S.seq_op rfl ?_; conv => lhs; whnf
    | refine S.op_n ?_; conv => lhs; whnf
    | refine S.seq_nil ?_
    | refine S.reg_n ?_
    | refine S.region rfl ?_
    | refine S.two ?_
    | refine S.blok ?_
    | refine S.cond rfl ?_
    | refine S.after_n ?_
    | refine S.block_n ?_
    | refine S.block_x ?_; conv => lhs; whnf
    | refine S.block_r ?_
    | refine S.after_x ?_
    | refine S.after_r ?_
    | refine S.skip ?_
    | refine S.exit ?_
    | refine S.ret ?_
    | refine br_lt ?_; conv => lhs; whnf
    | refine br_lf ?_; conv => lhs; whnf
    | refine br_t (by assumption) ?_; conv => lhs; whnf
    | refine br_f (by assumption) ?_; conv => lhs; whnf
    | refine req_i (by with_reducible assumption) ?_; conv => lhs; whnf
    | (refine br_nd (fun _ => ?_) (fun _ => ?_) <;> conv => lhs; whnf)
    | (refine br_d (fun _ => ?_) (fun _ => ?_) <;> conv => lhs; whnf)
    | (refine br_n (fun _ => ?_) (fun _ => ?_) <;> conv => lhs; whnf)
    | (refine br_c (fun _ => ?_) (fun _ => ?_) <;> conv => lhs; whnf)
    | refine req_c fun _ => ?_; conv => lhs; whnf
    | refine req_i (by assumption) ?_; conv => lhs; whnf
    | refine bnd_c fun _ => ?_; conv => lhs; whnf
    | refine sum_c (fun _ => ?_) (fun _ => ?_)
    | refine S.loop ?_; conv => lhs; whnf
    | refine S.back_n ?_; conv => lhs; whnf
    | refine S.back_x ?_; conv => lhs; whnf
    | refine S.back_r ?_; conv => lhs; whnf
    | refine S.fin_r ?_; conv => lhs; whnf
    | refine S.fin_n ?_; conv => lhs; whnf
    | exact ret_c rfl
    | exact none_c
    | refine S.draw_op ?_; conv => lhs; whnf; arg 1; whnf
    | refine S.dk_n ?_; conv => lhs; whnf
    | refine S.draw_nil ?_; conv => lhs; whnf
    | refine andK_br ?_
    | refine andK_req ?_
    | refine andK_b ?_
    | refine andK_none ?_
def sp21 : FSpec := ⟨[.rd], fun args objs K => match args, objs with | [.ptr 0 0], [.var [v0, .i .i64 o0_1]] => datK (.int .i64) false v0 fun o0_0 => bindO (keep_Tape_Number.f o0_0 o0_1) fun x : Int × Int => K (.i .i64 x.1) [.var [.dat (.int .i64) o0_0 false, .i .i64 x.2]] | _, _ => none⟩
theorem snd21 : Sound Try.prog 21 (sp21) := by
  refine ⟨⟨Try.f21, rfl, by kernel_rfl, rfl⟩, fun args objs K r h => ?_⟩
  unfold sp21 at h; dsimp only at h; split at h
  · rename_i v0 o0_1
    obtain ⟨o0_0, h9, eo0_0⟩ := datK_spec h; clear h; subst eo0_0
    have h := h9; clear h9
    obtain ⟨x, hx, h⟩ := bindO_some h
    exact ⟨_, _, h, FnOK.args2 (relL_c rel_i relL_n) (fn_run tab_ok (en21) mixed rfl ((r21 seals 0 o0_0 o0_1).trans (bindO_eq hx)))⟩
  · cases h
end Go.Vm

/- keep_Tape_Tensor -/
namespace Go.Vm
open Go Go.Proofs Go.Pf
def lv9 : Live := look ⟨[], [], [], [], []⟩ [(3, ⟨[0, 4, 5, 11, 12], [4, 5], [4], [], []⟩)]
noncomputable def g9 (k : Nat) : FEnv := (addF 21 sp21 (addF 20 (sp20 k) (fun _ => none)))
theorem en9 (k : Nat) : EnvOK Try.prog (g9 k) := (envOK_add snd21 (envOK_add (snd20 k) (envOK_nil _)))
set_option maxRecDepth 60000 in
set_option maxHeartbeats 4000000 in
theorem w9_0 (S : Seals) (k : Nat) : ∀ (n : Nat) {x11 : Int} {x12 : Int} {y0_0 : List Int} {y0_1 : Int} {y3 : List Int} {y4 : List Int} {K : CK}, S.lp tt (g9 k) lv9 1 n (loopN Try.f9 0) ⟨[(0, .ptr 0 0), (4, .ptr 1 0), (5, .ptr 2 0), (11, .i .i64 x11), (12, .i .i64 x12)], [(0, .var [.dat (.int .i64) y0_0 false, .i .i64 y0_1]), (1, .var [.nilsl, .nilsl]), (2, .var [.own 3, .own 4]), (3, .row (.int .i64) y3 false), (4, .row (.int .i64) y4 false)], 5, 23⟩ K = bindO (keep_Tape_Tensor.l0 n x11 x12 y0_0 y0_1 y3 y4) (fun x : Int × (List Int) => K (.exit 0) ⟨[(4, .ptr 1 0), (5, .ptr 2 0)], [(0, .var [.dat (.int .i64) y0_0 false, .i .i64 x.1]), (1, .var [.nilsl, .nilsl]), (2, .var [.own 3, .own 4]), (3, .row (.int .i64) y3 false), (4, .row (.int .i64) x.2 false)], 5, 23⟩) := by
  intro n; induction n with
  | zero => intros; rw [S.lp_zero]; exact none_c
  | succ n ih =>
    intros; rw [keep_Tape_Tensor.l0]; refine S.lp_succ ?_; conv => lhs; arg 5; whnf
    repeat' first
      | refine S.seq_op rfl ?_; conv => lhs; whnf
      | refine S.op_n ?_; conv => lhs; whnf
      | refine S.seq_nil ?_
      | refine S.reg_n ?_
      | refine S.region rfl ?_
      | refine S.two ?_
      | refine S.blok ?_
      | refine S.cond rfl ?_
      | refine S.after_n ?_
      | refine S.block_n ?_
      | refine S.block_x ?_; conv => lhs; whnf
      | refine S.block_r ?_
      | refine S.after_x ?_
      | refine S.after_r ?_
      | refine S.skip ?_
      | refine S.exit ?_
      | refine S.ret ?_
      | refine br_lt ?_; conv => lhs; whnf
      | refine br_lf ?_; conv => lhs; whnf
      | refine br_t (by assumption) ?_; conv => lhs; whnf
      | refine br_f (by assumption) ?_; conv => lhs; whnf
      | refine req_i (by with_reducible assumption) ?_; conv => lhs; whnf
      | (refine br_nd (fun _ => ?_) (fun _ => ?_) <;> conv => lhs; whnf)
      | (refine br_d (fun _ => ?_) (fun _ => ?_) <;> conv => lhs; whnf)
      | (refine br_n (fun _ => ?_) (fun _ => ?_) <;> conv => lhs; whnf)
      | (refine br_c (fun _ => ?_) (fun _ => ?_) <;> conv => lhs; whnf)
      | refine req_c fun _ => ?_; conv => lhs; whnf
      | refine req_i (by assumption) ?_; conv => lhs; whnf
      | refine bnd_c fun _ => ?_; conv => lhs; whnf
      | refine sum_c (fun _ => ?_) (fun _ => ?_)
      | refine S.region_d (id := 5) (ds := [0, 1, 0, 0, 8, 31, 63]) (mds := [[], [], [], [], [0], [], [4]]) (hm := [(4, [0]), (6, [4])]) (by kernel_rfl) (by kernel_rfl) rfl rfl ?_
      | exact ih
      | refine S.loop ?_; conv => lhs; whnf
      | refine S.back_n ?_; conv => lhs; whnf
      | refine S.back_x ?_; conv => lhs; whnf
      | refine S.back_r ?_; conv => lhs; whnf
      | refine S.fin_r ?_; conv => lhs; whnf
      | refine S.fin_n ?_; conv => lhs; whnf
      | exact ret_c rfl
      | exact none_c
      | refine S.draw_op ?_; conv => lhs; whnf; arg 1; whnf
      | refine S.dk_n ?_; conv => lhs; whnf
      | refine S.draw_nil ?_; conv => lhs; whnf
      | refine andK_br ?_
      | refine andK_req ?_
      | refine andK_b ?_
      | refine andK_none ?_
set_option maxRecDepth 60000 in
set_option maxHeartbeats 4000000 in
theorem r9 (S : Seals) (k : Nat) (a1 : List Int) (o0_0 : List Int) (o0_1 : Int) : runF tt (g9 k) lv9 Try.f9 k [.ptr 0 0, .dat (.int .i64) a1 true] [.var [.dat (.int .i64) o0_0 false, .i .i64 o0_1]] = bindO (keep_Tape_Tensor.f k a1 o0_0 o0_1) (fun x : Int × (List Int) × (List Int) => some (.agg [.own 1, .own 2], [.var [.dat (.int .i64) o0_0 false, .i .i64 x.1], .row (.int .i64) x.2.1 false, .row (.int .i64) x.2.2 false])) := by
  unfold keep_Tape_Tensor.f; refine S.run_s rfl rfl ?_; conv => lhs; arg 5; whnf
  conv => lhs; arg 6; whnf
  repeat' first
    | refine S.seq_op rfl ?_; conv => lhs; whnf
    | refine S.op_n ?_; conv => lhs; whnf
    | refine S.seq_nil ?_
    | refine S.reg_n ?_
    | refine S.region rfl ?_
    | refine S.two ?_
    | refine S.blok ?_
    | refine S.cond rfl ?_
    | refine S.after_n ?_
    | refine S.block_n ?_
    | refine S.block_x ?_; conv => lhs; whnf
    | refine S.block_r ?_
    | refine S.after_x ?_
    | refine S.after_r ?_
    | refine S.skip ?_
    | refine S.exit ?_
    | refine S.ret ?_
    | refine br_lt ?_; conv => lhs; whnf
    | refine br_lf ?_; conv => lhs; whnf
    | refine br_t (by assumption) ?_; conv => lhs; whnf
    | refine br_f (by assumption) ?_; conv => lhs; whnf
    | refine req_i (by with_reducible assumption) ?_; conv => lhs; whnf
    | (refine br_nd (fun _ => ?_) (fun _ => ?_) <;> conv => lhs; whnf)
    | (refine br_d (fun _ => ?_) (fun _ => ?_) <;> conv => lhs; whnf)
    | (refine br_n (fun _ => ?_) (fun _ => ?_) <;> conv => lhs; whnf)
    | (refine br_c (fun _ => ?_) (fun _ => ?_) <;> conv => lhs; whnf)
    | refine req_c fun _ => ?_; conv => lhs; whnf
    | refine req_i (by assumption) ?_; conv => lhs; whnf
    | refine bnd_c fun _ => ?_; conv => lhs; whnf
    | refine sum_c (fun _ => ?_) (fun _ => ?_)
    | refine (w9_0 S k _).trans ?_
    | refine S.loop ?_; conv => lhs; whnf
    | refine S.back_n ?_; conv => lhs; whnf
    | refine S.back_x ?_; conv => lhs; whnf
    | refine S.back_r ?_; conv => lhs; whnf
    | refine S.fin_r ?_; conv => lhs; whnf
    | refine S.fin_n ?_; conv => lhs; whnf
    | exact ret_c rfl
    | exact none_c
    | refine S.draw_op ?_; conv => lhs; whnf; arg 1; whnf
    | refine S.dk_n ?_; conv => lhs; whnf
    | refine S.draw_nil ?_; conv => lhs; whnf
    | refine andK_br ?_
    | refine andK_req ?_
    | refine andK_b ?_
    | refine andK_none ?_
def sp9 (k : Nat) : FSpec := ⟨[.rd, .rd], fun args objs K => match args, objs with | [.ptr 0 0, v0], [.var [v1, .i .i64 o0_1]] => listB (.int .i64) true v0 fun a1 => datK (.int .i64) false v1 fun o0_0 => bindO (keep_Tape_Tensor.f k a1 o0_0 o0_1) fun x : Int × (List Int) × (List Int) => K (.agg [.own 1, .own 2]) [.var [.dat (.int .i64) o0_0 false, .i .i64 x.1], .row (.int .i64) x.2.1 false, .row (.int .i64) x.2.2 false] | _, _ => none⟩
theorem snd9 (k : Nat) : Sound Try.prog 9 (sp9 k) := by
  refine ⟨⟨Try.f9, rfl, by kernel_rfl, rfl⟩, fun args objs K r h => ?_⟩
  unfold sp9 at h; dsimp only at h; split at h
  · rename_i v0 v1 o0_1
    obtain ⟨a1, h9, ca1⟩ := listB_spec h; clear h
    have h := h9; clear h9
    obtain ⟨o0_0, h9, eo0_0⟩ := datK_spec h; clear h; subst eo0_0
    have h := h9; clear h9
    obtain ⟨x, hx, h⟩ := bindO_some h
    exact ⟨_, _, h, FnOK.args2 (relL_c rel_i (relL_c ca1 relL_n)) (fn_run tab_ok (en9 k) mixed rfl ((r9 seals k a1 o0_0 o0_1).trans (bindO_eq hx)))⟩
  · cases h
end Go.Vm

/- law5_AxesBack -/
namespace Go.Vm
open Go Go.Proofs Go.Pf
def lv4 : Live := look ⟨[], [], [], [], []⟩ [(6, ⟨[1, 5, 6, 7, 8, 9, 10, 11, 12, 44, 45], [1, 5, 6, 7, 8, 9, 10, 11, 12], [4], [(8, 0, .own (.int .i64)), (9, 0, .own (.int .i64)), (10, 0, .own (.int .i64)), (11, 0, .own (.int .i64)), (12, 0, .own (.int .i64))], []⟩), (13, ⟨[1, 5, 6, 7, 8, 9, 10, 11, 12, 82, 83], [1, 5, 6, 7, 8, 9, 10, 11, 12], [4], [], []⟩), (27, ⟨[5, 6, 7, 12, 144, 145], [], [4], [], []⟩)]
noncomputable def g4 (k : Nat) : FEnv := (addF 11 (sp11 k) (addF 10 (sp10 k) (addF 12 (sp12 k) (addF 15 (sp15 k) (addF 13 (sp13 k) (addF 14 (sp14 k) (addF 7 sp7 (addF 9 (sp9 k) (addF 8 (sp8 k) (fun _ => none))))))))))
theorem en4 (k : Nat) : EnvOK Try.prog (g4 k) := (envOK_add (snd11 k) (envOK_add (snd10 k) (envOK_add (snd12 k) (envOK_add (snd15 k) (envOK_add (snd13 k) (envOK_add (snd14 k) (envOK_add snd7 (envOK_add (snd9 k) (envOK_add (snd8 k) (envOK_nil _))))))))))
set_option maxRecDepth 60000 in
set_option maxHeartbeats 4000000 in
theorem w4_0 (S : Seals) (k : Nat) : ∀ (n : Nat) {x1 : Int} {x44 : Int} {x45 : Int} {y0_0 : List Int} {y0_1 : Int} {y1 : List Int} {y3 : List Int} {y4 : List Int} {y5 : List Int} {y6 : List Int} {y7 : List Int} {y8 : List Int} {y9 : List Int} {K : CK}, S.lp tt (g4 k) lv4 0 n (loopN Try.f4 0) ⟨[(1, .i .i64 x1), (5, .ptr 0 0), (6, .own 1), (7, .ptr 2 0), (8, .own 3), (9, .own 4), (10, .own 5), (11, .own 6), (12, .own 7), (44, .i .i64 x44), (45, .i .i64 x45)], [(0, .var [.dat (.int .i64) y0_0 false, .i .i64 y0_1]), (1, .row (.int .i64) y1 false), (2, .var [.own 8, .own 9]), (3, .row (.int .i64) y3 false), (4, .row (.int .i64) y4 false), (5, .row (.int .i64) y5 false), (6, .row (.int .i64) y6 false), (7, .row (.int .i64) y7 false), (8, .row (.int .i64) y8 false), (9, .row (.int .i64) y9 false)], 10, 213⟩ K = bindO (law5_AxesBack.l0 n x1 x44 x45 y0_0 y0_1 y1 y3 y4 y5 y6 y7 y8 y9) (fun x : Int × (List Int) × (List Int) × (List Int) × (List Int) × (List Int) => K (.exit 0) ⟨[(1, .i .i64 x1), (5, .ptr 0 0), (6, .own 1), (7, .ptr 2 0), (8, .own 3), (9, .own 4), (10, .own 5), (11, .own 6), (12, .own 7)], [(0, .var [.dat (.int .i64) y0_0 false, .i .i64 x.1]), (1, .row (.int .i64) y1 false), (2, .var [.own 8, .own 9]), (3, .row (.int .i64) x.2.1 false), (4, .row (.int .i64) x.2.2.1 false), (5, .row (.int .i64) x.2.2.2.1 false), (6, .row (.int .i64) x.2.2.2.2.1 false), (7, .row (.int .i64) x.2.2.2.2.2 false), (8, .row (.int .i64) y8 false), (9, .row (.int .i64) y9 false)], 10, 213⟩) := by
  intro n; induction n with
  | zero => intros; rw [S.lp_zero]; exact none_c
  | succ n ih =>
    intros; rw [law5_AxesBack.l0]; refine S.lp_succ ?_; conv => lhs; arg 5; whnf
    repeat' first
      | refine S.seq_op rfl ?_; conv => lhs; whnf
      | refine S.op_n ?_; conv => lhs; whnf
      | refine S.seq_nil ?_
      | refine S.reg_n ?_
      | refine S.region rfl ?_
      | refine S.two ?_
      | refine S.blok ?_
      | refine S.cond rfl ?_
      | refine S.after_n ?_
      | refine S.block_n ?_
      | refine S.block_x ?_; conv => lhs; whnf
      | refine S.block_r ?_
      | refine S.after_x ?_
      | refine S.after_r ?_
      | refine S.skip ?_
      | refine S.exit ?_
      | refine S.ret ?_
      | refine br_lt ?_; conv => lhs; whnf
      | refine br_lf ?_; conv => lhs; whnf
      | refine br_t (by assumption) ?_; conv => lhs; whnf
      | refine br_f (by assumption) ?_; conv => lhs; whnf
      | refine req_i (by with_reducible assumption) ?_; conv => lhs; whnf
      | (refine br_nd (fun _ => ?_) (fun _ => ?_) <;> conv => lhs; whnf)
      | (refine br_d (fun _ => ?_) (fun _ => ?_) <;> conv => lhs; whnf)
      | (refine br_n (fun _ => ?_) (fun _ => ?_) <;> conv => lhs; whnf)
      | (refine br_c (fun _ => ?_) (fun _ => ?_) <;> conv => lhs; whnf)
      | refine req_c fun _ => ?_; conv => lhs; whnf
      | refine req_i (by assumption) ?_; conv => lhs; whnf
      | refine bnd_c fun _ => ?_; conv => lhs; whnf
      | refine sum_c (fun _ => ?_) (fun _ => ?_)
      | refine S.region_d (id := 9) (ds := [0, 0, 0, 6, 15, 0, 32, 127, 0, 0, 768, 2047, 4095]) (mds := [[], [], [], [], [], [], [], [], [], [], [], [], []]) (hm := []) (by kernel_rfl) (by kernel_rfl) rfl rfl ?_
      | exact ih
      | refine S.loop ?_; conv => lhs; whnf
      | refine S.back_n ?_; conv => lhs; whnf
      | refine S.back_x ?_; conv => lhs; whnf
      | refine S.back_r ?_; conv => lhs; whnf
      | refine S.fin_r ?_; conv => lhs; whnf
      | refine S.fin_n ?_; conv => lhs; whnf
      | exact ret_c rfl
      | exact none_c
      | refine S.draw_op ?_; conv => lhs; whnf; arg 1; whnf
      | refine S.dk_n ?_; conv => lhs; whnf
      | refine S.draw_nil ?_; conv => lhs; whnf
      | refine andK_br ?_
      | refine andK_req ?_
      | refine andK_b ?_
      | refine andK_none ?_
set_option maxRecDepth 60000 in
set_option maxHeartbeats 4000000 in
theorem w4_1 (S : Seals) (k : Nat) : ∀ (n : Nat) {x1 : Int} {x82 : Int} {x83 : Int} {y0_0 : List Int} {y0_1 : Int} {y1 : List Int} {y3 : List Int} {y4 : List Int} {y5 : List Int} {y6 : List Int} {y7 : List Int} {y8 : List Int} {y9 : List Int} {K : CK}, S.lp tt (g4 k) lv4 0 n (loopN Try.f4 1) ⟨[(1, .i .i64 x1), (5, .ptr 0 0), (6, .own 1), (7, .ptr 2 0), (8, .own 3), (9, .own 4), (10, .own 5), (11, .own 6), (12, .own 7), (82, .i .i64 x82), (83, .i .i64 x83)], [(0, .var [.dat (.int .i64) y0_0 false, .i .i64 y0_1]), (1, .row (.int .i64) y1 false), (2, .var [.own 8, .own 9]), (3, .row (.int .i64) y3 false), (4, .row (.int .i64) y4 false), (5, .row (.int .i64) y5 false), (6, .row (.int .i64) y6 false), (7, .row (.int .i64) y7 false), (8, .row (.int .i64) y8 false), (9, .row (.int .i64) y9 false)], 10, 213⟩ K = bindO (law5_AxesBack.l1 n x1 x82 x83 y0_0 y0_1 y1 y3 y4 y5 y6 y7 y8 y9) (fun x : (List Int) => K (.exit 2) ⟨[(1, .i .i64 x1), (5, .ptr 0 0), (6, .own 1), (7, .ptr 2 0), (8, .own 3), (9, .own 4), (10, .own 5), (11, .own 6), (12, .own 7)], [(0, .var [.dat (.int .i64) y0_0 false, .i .i64 y0_1]), (1, .row (.int .i64) y1 false), (2, .var [.own 8, .own 9]), (3, .row (.int .i64) y3 false), (4, .row (.int .i64) x false), (5, .row (.int .i64) y5 false), (6, .row (.int .i64) y6 false), (7, .row (.int .i64) y7 false), (8, .row (.int .i64) y8 false), (9, .row (.int .i64) y9 false)], 10, 213⟩) := by
  intro n; induction n with
  | zero => intros; rw [S.lp_zero]; exact none_c
  | succ n ih =>
    intros; rw [law5_AxesBack.l1]; refine S.lp_succ ?_; conv => lhs; arg 5; whnf
    repeat' first
      | refine S.seq_op rfl ?_; conv => lhs; whnf
      | refine S.op_n ?_; conv => lhs; whnf
      | refine S.seq_nil ?_
      | refine S.reg_n ?_
      | refine S.region rfl ?_
      | refine S.two ?_
      | refine S.blok ?_
      | refine S.cond rfl ?_
      | refine S.after_n ?_
      | refine S.block_n ?_
      | refine S.block_x ?_; conv => lhs; whnf
      | refine S.block_r ?_
      | refine S.after_x ?_
      | refine S.after_r ?_
      | refine S.skip ?_
      | refine S.exit ?_
      | refine S.ret ?_
      | refine br_lt ?_; conv => lhs; whnf
      | refine br_lf ?_; conv => lhs; whnf
      | refine br_t (by assumption) ?_; conv => lhs; whnf
      | refine br_f (by assumption) ?_; conv => lhs; whnf
      | refine req_i (by with_reducible assumption) ?_; conv => lhs; whnf
      | (refine br_nd (fun _ => ?_) (fun _ => ?_) <;> conv => lhs; whnf)
      | (refine br_d (fun _ => ?_) (fun _ => ?_) <;> conv => lhs; whnf)
      | (refine br_n (fun _ => ?_) (fun _ => ?_) <;> conv => lhs; whnf)
      | (refine br_c (fun _ => ?_) (fun _ => ?_) <;> conv => lhs; whnf)
      | refine req_c fun _ => ?_; conv => lhs; whnf
      | refine req_i (by assumption) ?_; conv => lhs; whnf
      | refine bnd_c fun _ => ?_; conv => lhs; whnf
      | refine sum_c (fun _ => ?_) (fun _ => ?_)
      | exact ih
      | refine S.loop ?_; conv => lhs; whnf
      | refine S.back_n ?_; conv => lhs; whnf
      | refine S.back_x ?_; conv => lhs; whnf
      | refine S.back_r ?_; conv => lhs; whnf
      | refine S.fin_r ?_; conv => lhs; whnf
      | refine S.fin_n ?_; conv => lhs; whnf
      | exact ret_c rfl
      | exact none_c
      | refine S.draw_op ?_; conv => lhs; whnf; arg 1; whnf
      | refine S.dk_n ?_; conv => lhs; whnf
      | refine S.draw_nil ?_; conv => lhs; whnf
      | refine andK_br ?_
      | refine andK_req ?_
      | refine andK_b ?_
      | refine andK_none ?_
set_option maxRecDepth 60000 in
set_option maxHeartbeats 4000000 in
theorem w4_2 (S : Seals) (k : Nat) : ∀ (n : Nat) {x144 : Int} {x145 : Int} {y0_0 : List Int} {y0_1 : Int} {y1 : List Int} {y3 : List Int} {y4 : List Int} {y5 : List Int} {K : CK}, S.lp tt (g4 k) lv4 0 n (loopN Try.f4 2) ⟨[(5, .ptr 0 0), (6, .own 1), (7, .ptr 2 0), (12, .own 3), (144, .i .i64 x144), (145, .i .i64 x145)], [(0, .var [.dat (.int .i64) y0_0 false, .i .i64 y0_1]), (1, .row (.int .i64) y1 false), (2, .var [.own 4, .own 5]), (3, .row (.int .i64) y3 false), (4, .row (.int .i64) y4 false), (5, .row (.int .i64) y5 false)], 6, 213⟩ K = bindO (law5_AxesBack.l2 k n x144 x145 y0_0 y0_1 y1 y3 y4 y5) (Sum.elim (fun x : Unit => K (.exit 4) ⟨[], [], 0, 213⟩) (fun x : Bool => K .ret ⟨[(4, .b x)], [], 0, 213⟩)) := by
  intro n; induction n with
  | zero => intros; rw [S.lp_zero]; exact none_c
  | succ n ih =>
    intros; rw [law5_AxesBack.l2]; refine S.lp_succ ?_; conv => lhs; arg 5; whnf
    repeat' first
      | refine S.seq_op rfl ?_; conv => lhs; whnf
      | refine S.op_n ?_; conv => lhs; whnf
      | refine S.seq_nil ?_
      | refine S.reg_n ?_
      | refine S.region rfl ?_
      | refine S.two ?_
      | refine S.blok ?_
      | refine S.cond rfl ?_
      | refine S.after_n ?_
      | refine S.block_n ?_
      | refine S.block_x ?_; conv => lhs; whnf
      | refine S.block_r ?_
      | refine S.after_x ?_
      | refine S.after_r ?_
      | refine S.skip ?_
      | refine S.exit ?_
      | refine S.ret ?_
      | refine br_lt ?_; conv => lhs; whnf
      | refine br_lf ?_; conv => lhs; whnf
      | refine br_t (by assumption) ?_; conv => lhs; whnf
      | refine br_f (by assumption) ?_; conv => lhs; whnf
      | refine req_i (by with_reducible assumption) ?_; conv => lhs; whnf
      | (refine br_nd (fun _ => ?_) (fun _ => ?_) <;> conv => lhs; whnf)
      | (refine br_d (fun _ => ?_) (fun _ => ?_) <;> conv => lhs; whnf)
      | (refine br_n (fun _ => ?_) (fun _ => ?_) <;> conv => lhs; whnf)
      | (refine br_c (fun _ => ?_) (fun _ => ?_) <;> conv => lhs; whnf)
      | refine req_c fun _ => ?_; conv => lhs; whnf
      | refine req_i (by assumption) ?_; conv => lhs; whnf
      | refine bnd_c fun _ => ?_; conv => lhs; whnf
      | refine sum_c (fun _ => ?_) (fun _ => ?_)
      | exact ih
      | refine S.loop ?_; conv => lhs; whnf
      | refine S.back_n ?_; conv => lhs; whnf
      | refine S.back_x ?_; conv => lhs; whnf
      | refine S.back_r ?_; conv => lhs; whnf
      | refine S.fin_r ?_; conv => lhs; whnf
      | refine S.fin_n ?_; conv => lhs; whnf
      | exact ret_c rfl
      | exact none_c
      | refine S.draw_op ?_; conv => lhs; whnf; arg 1; whnf
      | refine S.dk_n ?_; conv => lhs; whnf
      | refine S.draw_nil ?_; conv => lhs; whnf
      | refine andK_br ?_
      | refine andK_req ?_
      | refine andK_b ?_
      | refine andK_none ?_
set_option maxRecDepth 60000 in
set_option maxHeartbeats 4000000 in
theorem r4 (S : Seals) (k : Nat) (a0 : List Int) (a1 : Int) : runF tt (g4 k) lv4 Try.f4 k [.dat (.int .i64) a0 false, .i .i64 a1] [] = bindO (law5_AxesBack.f k a0 a1) (fun x : Bool => some (.b x, [])) := by
  unfold law5_AxesBack.f; refine S.run_s rfl rfl ?_; conv => lhs; arg 5; whnf
  conv => lhs; arg 6; whnf
  repeat' first
    | refine S.seq_op rfl ?_; conv => lhs; whnf
    | refine S.op_n ?_; conv => lhs; whnf
    | refine S.seq_nil ?_
    | refine S.reg_n ?_
    | refine S.region rfl ?_
    | refine S.two ?_
    | refine S.blok ?_
    | refine S.cond rfl ?_
    | refine S.after_n ?_
    | refine S.block_n ?_
    | refine S.block_x ?_; conv => lhs; whnf
    | refine S.block_r ?_
    | refine S.after_x ?_
    | refine S.after_r ?_
    | refine S.skip ?_
    | refine S.exit ?_
    | refine S.ret ?_
    | refine br_lt ?_; conv => lhs; whnf
    | refine br_lf ?_; conv => lhs; whnf
    | refine br_t (by assumption) ?_; conv => lhs; whnf
    | refine br_f (by assumption) ?_; conv => lhs; whnf
    | refine req_i (by with_reducible assumption) ?_; conv => lhs; whnf
    | (refine br_nd (fun _ => ?_) (fun _ => ?_) <;> conv => lhs; whnf)
    | (refine br_d (fun _ => ?_) (fun _ => ?_) <;> conv => lhs; whnf)
    | (refine br_n (fun _ => ?_) (fun _ => ?_) <;> conv => lhs; whnf)
    | (refine br_c (fun _ => ?_) (fun _ => ?_) <;> conv => lhs; whnf)
    | refine req_c fun _ => ?_; conv => lhs; whnf
    | refine req_i (by assumption) ?_; conv => lhs; whnf
    | refine bnd_c fun _ => ?_; conv => lhs; whnf
    | refine sum_c (fun _ => ?_) (fun _ => ?_)
    | refine (w4_0 S k _).trans ?_
    | refine (w4_1 S k _).trans ?_
    | refine (w4_2 S k _).trans ?_
    | refine S.loop ?_; conv => lhs; whnf
    | refine S.back_n ?_; conv => lhs; whnf
    | refine S.back_x ?_; conv => lhs; whnf
    | refine S.back_r ?_; conv => lhs; whnf
    | refine S.fin_r ?_; conv => lhs; whnf
    | refine S.fin_n ?_; conv => lhs; whnf
    | exact ret_c rfl
    | exact none_c
    | refine S.draw_op ?_; conv => lhs; whnf; arg 1; whnf
    | refine S.dk_n ?_; conv => lhs; whnf
    | refine S.draw_nil ?_; conv => lhs; whnf
    | refine andK_br ?_
    | refine andK_req ?_
    | refine andK_b ?_
    | refine andK_none ?_
def sp4 (k : Nat) : FSpec := ⟨[.st, .st], fun args objs K => match args, objs with | [v0, .i .i64 a1], [] => listB (.int .i64) false v0 fun a0 => bindO (law5_AxesBack.f k a0 a1) fun x : Bool => K (.b x) [] | _, _ => none⟩
theorem snd4 (k : Nat) : Sound Try.prog 4 (sp4 k) := by
  refine ⟨⟨Try.f4, rfl, by kernel_rfl, rfl⟩, fun args objs K r h => ?_⟩
  unfold sp4 at h; dsimp only at h; split at h
  · rename_i v0 a1
    obtain ⟨a0, h9, ca0⟩ := listB_spec h; clear h
    have h := h9; clear h9
    obtain ⟨x, hx, h⟩ := bindO_some h
    exact ⟨_, _, h, FnOK.args2 (relL_c ca0 (relL_c rel_i relL_n)) (fn_run tab_ok (en4 k) mixed rfl ((r4 seals k a0 a1).trans (bindO_eq hx)))⟩
  · cases h
end Go.Vm
