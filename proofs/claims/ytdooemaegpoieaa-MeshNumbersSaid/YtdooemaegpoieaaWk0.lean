/- Own texts put together: W14T, W14f18, W14f12 .. -/
import Derived.Test.YtdooemaegpoieaaVm1
import Derived.Test.YtdooemaegpoieaaPl0
import Derived.Test.YtdooemaegpoieaaProg
set_option linter.unusedVariables false
set_option linter.unusedSimpArgs false
namespace Go.Vm
open Go Go.Proofs Go.Pf
def tt : Tab := [default,
  default,
  default,
  ⟨.int .i64, 1, 8, [.i .i64 0], some (.int .i64)⟩,
  ⟨.bool, 1, 1, [.b false], some .bool⟩,
  default,
  default,
  default,
  default,
  default,
  default,
  default,
  default,
  default,
  default,
  default,
  default,
  default,
  default,
  default,
  default,
  default,
  ⟨.sl 24, 1, 24, [.nilsl], some (.sl (.sl (.int .i64)))⟩,
  default,
  ⟨.sl 3, 1, 24, [.nilsl], some (.sl (.int .i64))⟩]
theorem tab_ok : TabOK Try.prog tt := tabOK_of (by kernel_rfl)
theorem mixed : Try.prog.follows .mixedOrders = true := by kernel_rfl
end Go.Vm

/- mesh_Right -/
namespace Go.Vm
open Go Go.Proofs Go.Pf
def lv18 : Live := look ⟨[], [], [], [], []⟩ [(5, ⟨[3, 9, 10, 11], [3], [2], [], []⟩)]
noncomputable def g18 : FEnv := (fun _ => none)
theorem en18 : EnvOK Try.prog (g18) := (envOK_nil _)
set_option maxHeartbeats 4000000 in
theorem w18_0 (S : Seals) (k : Nat) : ∀ (n : Nat) {x3 : Int} {x9 : List Int} {x10 : Int} {x11 : Int} {K : CK}, S.lp tt (g18) lv18 0 n (loopN Try.f18 0) ⟨[(3, .i .i64 x3), (9, .dat (.int .i64) x9 true), (10, .i .i64 x10), (11, .i .i64 x11)], [], 0, 27⟩ K = bindO (mesh_Right.l0 n x3 x9 x10 x11) (Sum.elim (fun x : Int => K (.exit 0) ⟨[(3, .i .i64 x)], [], 0, 27⟩) (fun x : Bool => K .ret ⟨[(2, .b x)], [], 0, 27⟩)) := by
  intro n; induction n with
  | zero => intros; rw [S.lp_zero]; exact none_c
  | succ n ih =>
    intros; rw [mesh_Right.l0]; refine S.lp_succ ?_; conv => lhs; arg 5; whnf
    repeat' first
      | refine S.seq_op rfl ?_; conv => lhs; whnf
      | refine S.op_n ?_; conv => lhs; whnf
      | refine S.seq_nil ?_
      | refine S.reg_n ?_
      | refine S.region rfl ?_
      | refine S.two ?_
      | refine S.blok ?_
      | refine S.cond rfl ?_
      | refine S.after_n ?_
      | refine S.block_n ?_
      | refine S.block_x ?_; conv => lhs; whnf
      | refine S.block_r ?_
      | refine S.after_x ?_
      | refine S.after_r ?_
      | refine S.skip ?_
      | refine S.exit ?_
      | refine S.ret ?_
      | refine br_lt ?_; conv => lhs; whnf
      | refine br_lf ?_; conv => lhs; whnf
      | refine br_t (by assumption) ?_; conv => lhs; whnf
      | refine br_f (by assumption) ?_; conv => lhs; whnf
      | refine req_i (by assumption) ?_; conv => lhs; whnf
      | (refine br_nd (fun _ => ?_) (fun _ => ?_) <;> conv => lhs; whnf)
      | (refine br_d (fun _ => ?_) (fun _ => ?_) <;> conv => lhs; whnf)
      | (refine br_n (fun _ => ?_) (fun _ => ?_) <;> conv => lhs; whnf)
      | (refine br_c (fun _ => ?_) (fun _ => ?_) <;> conv => lhs; whnf)
      | refine req_c fun _ => ?_; conv => lhs; whnf
      | refine bnd_c fun _ => ?_; conv => lhs; whnf
      | refine sum_c (fun _ => ?_) (fun _ => ?_)
      | exact ih
      | refine S.loop ?_; conv => lhs; whnf
      | refine S.back_n ?_; conv => lhs; whnf
      | refine S.back_x ?_; conv => lhs; whnf
      | refine S.back_r ?_; conv => lhs; whnf
      | refine S.fin_r ?_; conv => lhs; whnf
      | refine S.fin_n ?_; conv => lhs; whnf
      | exact ret_c rfl
      | exact none_c
      | refine S.draw_op ?_; conv => lhs; whnf; arg 1; whnf
      | refine S.dk_n ?_; conv => lhs; whnf
      | refine S.draw_nil ?_; conv => lhs; whnf
      | refine andK_br ?_
      | refine andK_req ?_
      | refine andK_b ?_
set_option maxHeartbeats 4000000 in
theorem r18 (S : Seals) (k : Nat) (a0 : List Int) : runF tt (g18) lv18 Try.f18 k [.dat (.int .i64) a0 true] [] = bindO (mesh_Right.f k a0) (fun x : Bool => some (.b x, [])) := by
  unfold mesh_Right.f; refine S.run_s rfl rfl ?_; conv => lhs; arg 5; whnf
  conv => lhs; arg 6; whnf
  repeat' first
    | refine S.seq_op rfl ?_; conv => lhs; whnf
    | refine S.op_n ?_; conv => lhs; whnf
    | refine S.seq_nil ?_
    | refine S.reg_n ?_
    | refine S.region rfl ?_
    | refine S.two ?_
    | refine S.blok ?_
    | refine S.cond rfl ?_
    | refine S.after_n ?_
    | refine S.block_n ?_
    | refine S.block_x ?_; conv => lhs; whnf
    | refine S.block_r ?_
    | refine S.after_x ?_
    | refine S.after_r ?_
    | refine S.skip ?_
    | refine S.exit ?_
    | refine S.ret ?_
    | refine br_lt ?_; conv => lhs; whnf
    | refine br_lf ?_; conv => lhs; whnf
    | refine br_t (by assumption) ?_; conv => lhs; whnf
    | refine br_f (by assumption) ?_; conv => lhs; whnf
    | refine req_i (by assumption) ?_; conv => lhs; whnf
    | (refine br_nd (fun _ => ?_) (fun _ => ?_) <;> conv => lhs; whnf)
    | (refine br_d (fun _ => ?_) (fun _ => ?_) <;> conv => lhs; whnf)
    | (refine br_n (fun _ => ?_) (fun _ => ?_) <;> conv => lhs; whnf)
    | (refine br_c (fun _ => ?_) (fun _ => ?_) <;> conv => lhs; whnf)
    | refine req_c fun _ => ?_; conv => lhs; whnf
    | refine bnd_c fun _ => ?_; conv => lhs; whnf
    | refine sum_c (fun _ => ?_) (fun _ => ?_)
    | refine (w18_0 S k _).trans ?_
    | refine S.loop ?_; conv => lhs; whnf
    | refine S.back_n ?_; conv => lhs; whnf
    | refine S.back_x ?_; conv => lhs; whnf
    | refine S.back_r ?_; conv => lhs; whnf
    | refine S.fin_r ?_; conv => lhs; whnf
    | refine S.fin_n ?_; conv => lhs; whnf
    | exact ret_c rfl
    | exact none_c
    | refine S.draw_op ?_; conv => lhs; whnf; arg 1; whnf
    | refine S.dk_n ?_; conv => lhs; whnf
    | refine S.draw_nil ?_; conv => lhs; whnf
    | refine andK_br ?_
    | refine andK_req ?_
    | refine andK_b ?_
def sp18 (k : Nat) : FSpec := ⟨[.rd], fun args objs K => match args, objs with | [v0], [] => listB (.int .i64) true v0 fun a0 => bindO (mesh_Right.f k a0) fun x : Bool => K (.b x) [] | _, _ => none⟩
theorem snd18 (k : Nat) : Sound Try.prog 18 (sp18 k) := by
  refine ⟨⟨Try.f18, rfl, by kernel_rfl, rfl⟩, fun args objs K r h => ?_⟩
  unfold sp18 at h; dsimp only at h; split at h
  · rename_i v0
    obtain ⟨a0, h, ca0⟩ := listB_spec h
    obtain ⟨x, hx, h⟩ := bindO_some h
    exact ⟨_, _, h, FnOK.args2 (relL_c ca0 relL_n) (fn_run tab_ok (en18) mixed rfl ((r18 seals k a0).trans (bindO_eq hx)))⟩
  · cases h
end Go.Vm

/- mesh_Devices -/
namespace Go.Vm
open Go Go.Proofs Go.Pf
def lv12 : Live := look ⟨[], [], [], [], []⟩ [(5, ⟨[3, 9, 10, 11], [3], [2], [], []⟩)]
noncomputable def g12 (k : Nat) : FEnv := (addF 18 (sp18 k) (fun _ => none))
theorem en12 (k : Nat) : EnvOK Try.prog (g12 k) := (envOK_add (snd18 k) (envOK_nil _))
set_option maxHeartbeats 4000000 in
theorem w12_0 (S : Seals) (k : Nat) : ∀ (n : Nat) {x3 : Int} {x9 : List Int} {x10 : Int} {x11 : Int} {K : CK}, S.lp tt (g12 k) lv12 0 n (loopN Try.f12 0) ⟨[(3, .i .i64 x3), (9, .dat (.int .i64) x9 true), (10, .i .i64 x10), (11, .i .i64 x11)], [], 0, 20⟩ K = bindO (mesh_Devices.l0 n x3 x9 x10 x11) (fun x : Int => K (.exit 0) ⟨[(3, .i .i64 x)], [], 0, 20⟩) := by
  intro n; induction n with
  | zero => intros; rw [S.lp_zero]; exact none_c
  | succ n ih =>
    intros; rw [mesh_Devices.l0]; refine S.lp_succ ?_; conv => lhs; arg 5; whnf
    repeat' first
      | refine S.seq_op rfl ?_; conv => lhs; whnf
      | refine S.op_n ?_; conv => lhs; whnf
      | refine S.seq_nil ?_
      | refine S.reg_n ?_
      | refine S.region rfl ?_
      | refine S.two ?_
      | refine S.blok ?_
      | refine S.cond rfl ?_
      | refine S.after_n ?_
      | refine S.block_n ?_
      | refine S.block_x ?_; conv => lhs; whnf
      | refine S.block_r ?_
      | refine S.after_x ?_
      | refine S.after_r ?_
      | refine S.skip ?_
      | refine S.exit ?_
      | refine S.ret ?_
      | refine br_lt ?_; conv => lhs; whnf
      | refine br_lf ?_; conv => lhs; whnf
      | refine br_t (by assumption) ?_; conv => lhs; whnf
      | refine br_f (by assumption) ?_; conv => lhs; whnf
      | refine req_i (by assumption) ?_; conv => lhs; whnf
      | (refine br_nd (fun _ => ?_) (fun _ => ?_) <;> conv => lhs; whnf)
      | (refine br_d (fun _ => ?_) (fun _ => ?_) <;> conv => lhs; whnf)
      | (refine br_n (fun _ => ?_) (fun _ => ?_) <;> conv => lhs; whnf)
      | (refine br_c (fun _ => ?_) (fun _ => ?_) <;> conv => lhs; whnf)
      | refine req_c fun _ => ?_; conv => lhs; whnf
      | refine bnd_c fun _ => ?_; conv => lhs; whnf
      | refine sum_c (fun _ => ?_) (fun _ => ?_)
      | exact ih
      | refine S.loop ?_; conv => lhs; whnf
      | refine S.back_n ?_; conv => lhs; whnf
      | refine S.back_x ?_; conv => lhs; whnf
      | refine S.back_r ?_; conv => lhs; whnf
      | refine S.fin_r ?_; conv => lhs; whnf
      | refine S.fin_n ?_; conv => lhs; whnf
      | exact ret_c rfl
      | exact none_c
      | refine S.draw_op ?_; conv => lhs; whnf; arg 1; whnf
      | refine S.dk_n ?_; conv => lhs; whnf
      | refine S.draw_nil ?_; conv => lhs; whnf
      | refine andK_br ?_
      | refine andK_req ?_
      | refine andK_b ?_
set_option maxHeartbeats 4000000 in
theorem r12 (S : Seals) (k : Nat) (a0 : List Int) : runF tt (g12 k) lv12 Try.f12 k [.dat (.int .i64) a0 true] [] = bindO (mesh_Devices.f k a0) (fun x : Int => some (.i .i64 x, [])) := by
  unfold mesh_Devices.f; refine S.run_s rfl rfl ?_; conv => lhs; arg 5; whnf
  conv => lhs; arg 6; whnf
  repeat' first
    | refine S.seq_op rfl ?_; conv => lhs; whnf
    | refine S.op_n ?_; conv => lhs; whnf
    | refine S.seq_nil ?_
    | refine S.reg_n ?_
    | refine S.region rfl ?_
    | refine S.two ?_
    | refine S.blok ?_
    | refine S.cond rfl ?_
    | refine S.after_n ?_
    | refine S.block_n ?_
    | refine S.block_x ?_; conv => lhs; whnf
    | refine S.block_r ?_
    | refine S.after_x ?_
    | refine S.after_r ?_
    | refine S.skip ?_
    | refine S.exit ?_
    | refine S.ret ?_
    | refine br_lt ?_; conv => lhs; whnf
    | refine br_lf ?_; conv => lhs; whnf
    | refine br_t (by assumption) ?_; conv => lhs; whnf
    | refine br_f (by assumption) ?_; conv => lhs; whnf
    | refine req_i (by assumption) ?_; conv => lhs; whnf
    | (refine br_nd (fun _ => ?_) (fun _ => ?_) <;> conv => lhs; whnf)
    | (refine br_d (fun _ => ?_) (fun _ => ?_) <;> conv => lhs; whnf)
    | (refine br_n (fun _ => ?_) (fun _ => ?_) <;> conv => lhs; whnf)
    | (refine br_c (fun _ => ?_) (fun _ => ?_) <;> conv => lhs; whnf)
    | refine req_c fun _ => ?_; conv => lhs; whnf
    | refine bnd_c fun _ => ?_; conv => lhs; whnf
    | refine sum_c (fun _ => ?_) (fun _ => ?_)
    | refine (w12_0 S k _).trans ?_
    | refine S.loop ?_; conv => lhs; whnf
    | refine S.back_n ?_; conv => lhs; whnf
    | refine S.back_x ?_; conv => lhs; whnf
    | refine S.back_r ?_; conv => lhs; whnf
    | refine S.fin_r ?_; conv => lhs; whnf
    | refine S.fin_n ?_; conv => lhs; whnf
    | exact ret_c rfl
    | exact none_c
    | refine S.draw_op ?_; conv => lhs; whnf; arg 1; whnf
    | refine S.dk_n ?_; conv => lhs; whnf
    | refine S.draw_nil ?_; conv => lhs; whnf
    | refine andK_br ?_
    | refine andK_req ?_
    | refine andK_b ?_
def sp12 (k : Nat) : FSpec := ⟨[.rd], fun args objs K => match args, objs with | [v0], [] => listB (.int .i64) true v0 fun a0 => bindO (mesh_Devices.f k a0) fun x : Int => K (.i .i64 x) [] | _, _ => none⟩
theorem snd12 (k : Nat) : Sound Try.prog 12 (sp12 k) := by
  refine ⟨⟨Try.f12, rfl, by kernel_rfl, rfl⟩, fun args objs K r h => ?_⟩
  unfold sp12 at h; dsimp only at h; split at h
  · rename_i v0
    obtain ⟨a0, h, ca0⟩ := listB_spec h
    obtain ⟨x, hx, h⟩ := bindO_some h
    exact ⟨_, _, h, FnOK.args2 (relL_c ca0 relL_n) (fn_run tab_ok (en12 k) mixed rfl ((r12 seals k a0).trans (bindO_eq hx)))⟩
  · cases h
end Go.Vm

/- mesh_Of -/
namespace Go.Vm
open Go Go.Proofs Go.Pf
def lv13 : Live := look ⟨[], [], [], [], []⟩ [(5, ⟨[0, 5, 18, 19, 20], [5], [4], [], []⟩)]
noncomputable def g13 (k : Nat) : FEnv := (addF 18 (sp18 k) (fun _ => none))
theorem en13 (k : Nat) : EnvOK Try.prog (g13 k) := (envOK_add (snd18 k) (envOK_nil _))
set_option maxHeartbeats 4000000 in
theorem w13_0 (S : Seals) (k : Nat) : ∀ (n : Nat) {x0 : List Int} {x5 : Int} {x18 : List Int} {x19 : Int} {x20 : Int} {K : CK}, S.lp tt (g13 k) lv13 0 n (loopN Try.f13 0) ⟨[(0, .dat (.int .i64) x0 true), (5, .i .i64 x5), (18, .dat (.int .i64) x18 true), (19, .i .i64 x19), (20, .i .i64 x20)], [], 0, 45⟩ K = bindO (mesh_Of.l0 n x0 x5 x18 x19 x20) (Sum.elim (fun x : Int => K (.exit 0) ⟨[(5, .i .i64 x)], [], 0, 45⟩) (fun x : Int => K .ret ⟨[(4, .i .i64 x)], [], 0, 45⟩)) := by
  intro n; induction n with
  | zero => intros; rw [S.lp_zero]; exact none_c
  | succ n ih =>
    intros; rw [mesh_Of.l0]; refine S.lp_succ ?_; conv => lhs; arg 5; whnf
    repeat' first
      | refine S.seq_op rfl ?_; conv => lhs; whnf
      | refine S.op_n ?_; conv => lhs; whnf
      | refine S.seq_nil ?_
      | refine S.reg_n ?_
      | refine S.region rfl ?_
      | refine S.two ?_
      | refine S.blok ?_
      | refine S.cond rfl ?_
      | refine S.after_n ?_
      | refine S.block_n ?_
      | refine S.block_x ?_; conv => lhs; whnf
      | refine S.block_r ?_
      | refine S.after_x ?_
      | refine S.after_r ?_
      | refine S.skip ?_
      | refine S.exit ?_
      | refine S.ret ?_
      | refine br_lt ?_; conv => lhs; whnf
      | refine br_lf ?_; conv => lhs; whnf
      | refine br_t (by assumption) ?_; conv => lhs; whnf
      | refine br_f (by assumption) ?_; conv => lhs; whnf
      | refine req_i (by assumption) ?_; conv => lhs; whnf
      | (refine br_nd (fun _ => ?_) (fun _ => ?_) <;> conv => lhs; whnf)
      | (refine br_d (fun _ => ?_) (fun _ => ?_) <;> conv => lhs; whnf)
      | (refine br_n (fun _ => ?_) (fun _ => ?_) <;> conv => lhs; whnf)
      | (refine br_c (fun _ => ?_) (fun _ => ?_) <;> conv => lhs; whnf)
      | refine req_c fun _ => ?_; conv => lhs; whnf
      | refine bnd_c fun _ => ?_; conv => lhs; whnf
      | refine sum_c (fun _ => ?_) (fun _ => ?_)
      | exact ih
      | refine S.loop ?_; conv => lhs; whnf
      | refine S.back_n ?_; conv => lhs; whnf
      | refine S.back_x ?_; conv => lhs; whnf
      | refine S.back_r ?_; conv => lhs; whnf
      | refine S.fin_r ?_; conv => lhs; whnf
      | refine S.fin_n ?_; conv => lhs; whnf
      | exact ret_c rfl
      | exact none_c
      | refine S.draw_op ?_; conv => lhs; whnf; arg 1; whnf
      | refine S.dk_n ?_; conv => lhs; whnf
      | refine S.draw_nil ?_; conv => lhs; whnf
      | refine andK_br ?_
      | refine andK_req ?_
      | refine andK_b ?_
set_option maxHeartbeats 4000000 in
theorem r13 (S : Seals) (k : Nat) (a0 : List Int) (a1 : List Int) : runF tt (g13 k) lv13 Try.f13 k [.dat (.int .i64) a0 true, .dat (.int .i64) a1 true] [] = bindO (mesh_Of.f k a0 a1) (fun x : Int => some (.i .i64 x, [])) := by
  unfold mesh_Of.f; refine S.run_s rfl rfl ?_; conv => lhs; arg 5; whnf
  conv => lhs; arg 6; whnf
  repeat' first
    | refine S.seq_op rfl ?_; conv => lhs; whnf
    | refine S.op_n ?_; conv => lhs; whnf
    | refine S.seq_nil ?_
    | refine S.reg_n ?_
    | refine S.region rfl ?_
    | refine S.two ?_
    | refine S.blok ?_
    | refine S.cond rfl ?_
    | refine S.after_n ?_
    | refine S.block_n ?_
    | refine S.block_x ?_; conv => lhs; whnf
    | refine S.block_r ?_
    | refine S.after_x ?_
    | refine S.after_r ?_
    | refine S.skip ?_
    | refine S.exit ?_
    | refine S.ret ?_
    | refine br_lt ?_; conv => lhs; whnf
    | refine br_lf ?_; conv => lhs; whnf
    | refine br_t (by assumption) ?_; conv => lhs; whnf
    | refine br_f (by assumption) ?_; conv => lhs; whnf
    | refine req_i (by assumption) ?_; conv => lhs; whnf
    | (refine br_nd (fun _ => ?_) (fun _ => ?_) <;> conv => lhs; whnf)
    | (refine br_d (fun _ => ?_) (fun _ => ?_) <;> conv => lhs; whnf)
    | (refine br_n (fun _ => ?_) (fun _ => ?_) <;> conv => lhs; whnf)
    | (refine br_c (fun _ => ?_) (fun _ => ?_) <;> conv => lhs; whnf)
    | refine req_c fun _ => ?_; conv => lhs; whnf
    | refine bnd_c fun _ => ?_; conv => lhs; whnf
    | refine sum_c (fun _ => ?_) (fun _ => ?_)
    | refine (w13_0 S k _).trans ?_
    | refine S.loop ?_; conv => lhs; whnf
    | refine S.back_n ?_; conv => lhs; whnf
    | refine S.back_x ?_; conv => lhs; whnf
    | refine S.back_r ?_; conv => lhs; whnf
    | refine S.fin_r ?_; conv => lhs; whnf
    | refine S.fin_n ?_; conv => lhs; whnf
    | exact ret_c rfl
    | exact none_c
    | refine S.draw_op ?_; conv => lhs; whnf; arg 1; whnf
    | refine S.dk_n ?_; conv => lhs; whnf
    | refine S.draw_nil ?_; conv => lhs; whnf
    | refine andK_br ?_
    | refine andK_req ?_
    | refine andK_b ?_
def sp13 (k : Nat) : FSpec := ⟨[.rd, .rd], fun args objs K => match args, objs with | [v0, v1], [] => listB (.int .i64) true v0 fun a0 => listB (.int .i64) true v1 fun a1 => bindO (mesh_Of.f k a0 a1) fun x : Int => K (.i .i64 x) [] | _, _ => none⟩
theorem snd13 (k : Nat) : Sound Try.prog 13 (sp13 k) := by
  refine ⟨⟨Try.f13, rfl, by kernel_rfl, rfl⟩, fun args objs K r h => ?_⟩
  unfold sp13 at h; dsimp only at h; split at h
  · rename_i v0 v1
    obtain ⟨a0, h, ca0⟩ := listB_spec h
    obtain ⟨a1, h, ca1⟩ := listB_spec h
    obtain ⟨x, hx, h⟩ := bindO_some h
    exact ⟨_, _, h, FnOK.args2 (relL_c ca0 (relL_c ca1 relL_n)) (fn_run tab_ok (en13 k) mixed rfl ((r13 seals k a0 a1).trans (bindO_eq hx)))⟩
  · cases h
end Go.Vm

/- mesh_At -/
namespace Go.Vm
open Go Go.Proofs Go.Pf
def lv14 : Live := look ⟨[], [], [], [], []⟩ [(5, ⟨[0, 1, 5, 6], [5], [4], [], []⟩), (1000000, ⟨[], [], [], [(4, 0, .own (.int .i64))], []⟩)]
noncomputable def g14 (k : Nat) : FEnv := (addF 12 (sp12 k) (fun _ => none))
theorem en14 (k : Nat) : EnvOK Try.prog (g14 k) := (envOK_add (snd12 k) (envOK_nil _))
set_option maxHeartbeats 4000000 in
theorem w14_0 (S : Seals) (k : Nat) : ∀ (n : Nat) {x0 : List Int} {x1 : Int} {x6 : Int} {y0 : List Int} {K : CK}, S.lp tt (g14 k) lv14 0 n (loopN Try.f14 0) ⟨[(0, .dat (.int .i64) x0 true), (1, .i .i64 x1), (5, .own 0), (6, .i .i64 x6)], [(0, .row (.int .i64) y0 false)], 1, 41⟩ K = bindO (mesh_At.l0 n x0 x1 x6 y0) (fun x : (List Int) => K (.exit 0) ⟨[(5, .own 0)], [(0, .row (.int .i64) x false)], 1, 41⟩) := by
  intro n; induction n with
  | zero => intros; rw [S.lp_zero]; exact none_c
  | succ n ih =>
    intros; rw [mesh_At.l0]; refine S.lp_succ ?_; conv => lhs; arg 5; whnf
    repeat' first
      | refine S.seq_op rfl ?_; conv => lhs; whnf
      | refine S.op_n ?_; conv => lhs; whnf
      | refine S.seq_nil ?_
      | refine S.reg_n ?_
      | refine S.region rfl ?_
      | refine S.two ?_
      | refine S.blok ?_
      | refine S.cond rfl ?_
      | refine S.after_n ?_
      | refine S.block_n ?_
      | refine S.block_x ?_; conv => lhs; whnf
      | refine S.block_r ?_
      | refine S.after_x ?_
      | refine S.after_r ?_
      | refine S.skip ?_
      | refine S.exit ?_
      | refine S.ret ?_
      | refine br_lt ?_; conv => lhs; whnf
      | refine br_lf ?_; conv => lhs; whnf
      | refine br_t (by assumption) ?_; conv => lhs; whnf
      | refine br_f (by assumption) ?_; conv => lhs; whnf
      | refine req_i (by assumption) ?_; conv => lhs; whnf
      | (refine br_nd (fun _ => ?_) (fun _ => ?_) <;> conv => lhs; whnf)
      | (refine br_d (fun _ => ?_) (fun _ => ?_) <;> conv => lhs; whnf)
      | (refine br_n (fun _ => ?_) (fun _ => ?_) <;> conv => lhs; whnf)
      | (refine br_c (fun _ => ?_) (fun _ => ?_) <;> conv => lhs; whnf)
      | refine req_c fun _ => ?_; conv => lhs; whnf
      | refine bnd_c fun _ => ?_; conv => lhs; whnf
      | refine sum_c (fun _ => ?_) (fun _ => ?_)
      | exact ih
      | refine S.loop ?_; conv => lhs; whnf
      | refine S.back_n ?_; conv => lhs; whnf
      | refine S.back_x ?_; conv => lhs; whnf
      | refine S.back_r ?_; conv => lhs; whnf
      | refine S.fin_r ?_; conv => lhs; whnf
      | refine S.fin_n ?_; conv => lhs; whnf
      | exact ret_c rfl
      | exact none_c
      | refine S.draw_op ?_; conv => lhs; whnf; arg 1; whnf
      | refine S.dk_n ?_; conv => lhs; whnf
      | refine S.draw_nil ?_; conv => lhs; whnf
      | refine andK_br ?_
      | refine andK_req ?_
      | refine andK_b ?_
set_option maxHeartbeats 4000000 in
theorem r14 (S : Seals) (k : Nat) (a0 : List Int) (a1 : Int) : runF tt (g14 k) lv14 Try.f14 k [.dat (.int .i64) a0 true, .i .i64 a1] [] = bindO (mesh_At.f k a0 a1) (fun x : (List Int) => some (.own 0, [.row (.int .i64) x false])) := by
  unfold mesh_At.f; refine S.run_s rfl rfl ?_; conv => lhs; arg 5; whnf
  conv => lhs; arg 6; whnf
  repeat' first
    | refine S.seq_op rfl ?_; conv => lhs; whnf
    | refine S.op_n ?_; conv => lhs; whnf
    | refine S.seq_nil ?_
    | refine S.reg_n ?_
    | refine S.region rfl ?_
    | refine S.two ?_
    | refine S.blok ?_
    | refine S.cond rfl ?_
    | refine S.after_n ?_
    | refine S.block_n ?_
    | refine S.block_x ?_; conv => lhs; whnf
    | refine S.block_r ?_
    | refine S.after_x ?_
    | refine S.after_r ?_
    | refine S.skip ?_
    | refine S.exit ?_
    | refine S.ret ?_
    | refine br_lt ?_; conv => lhs; whnf
    | refine br_lf ?_; conv => lhs; whnf
    | refine br_t (by assumption) ?_; conv => lhs; whnf
    | refine br_f (by assumption) ?_; conv => lhs; whnf
    | refine req_i (by assumption) ?_; conv => lhs; whnf
    | (refine br_nd (fun _ => ?_) (fun _ => ?_) <;> conv => lhs; whnf)
    | (refine br_d (fun _ => ?_) (fun _ => ?_) <;> conv => lhs; whnf)
    | (refine br_n (fun _ => ?_) (fun _ => ?_) <;> conv => lhs; whnf)
    | (refine br_c (fun _ => ?_) (fun _ => ?_) <;> conv => lhs; whnf)
    | refine req_c fun _ => ?_; conv => lhs; whnf
    | refine bnd_c fun _ => ?_; conv => lhs; whnf
    | refine sum_c (fun _ => ?_) (fun _ => ?_)
    | refine (w14_0 S k _).trans ?_
    | refine S.loop ?_; conv => lhs; whnf
    | refine S.back_n ?_; conv => lhs; whnf
    | refine S.back_x ?_; conv => lhs; whnf
    | refine S.back_r ?_; conv => lhs; whnf
    | refine S.fin_r ?_; conv => lhs; whnf
    | refine S.fin_n ?_; conv => lhs; whnf
    | exact ret_c rfl
    | exact none_c
    | refine S.draw_op ?_; conv => lhs; whnf; arg 1; whnf
    | refine S.dk_n ?_; conv => lhs; whnf
    | refine S.draw_nil ?_; conv => lhs; whnf
    | refine andK_br ?_
    | refine andK_req ?_
    | refine andK_b ?_
def sp14 (k : Nat) : FSpec := ⟨[.rd, .rd], fun args objs K => match args, objs with | [v0, .i .i64 a1], [] => listB (.int .i64) true v0 fun a0 => bindO (mesh_At.f k a0 a1) fun x : (List Int) => K (.own 0) [.row (.int .i64) x false] | _, _ => none⟩
theorem snd14 (k : Nat) : Sound Try.prog 14 (sp14 k) := by
  refine ⟨⟨Try.f14, rfl, by kernel_rfl, rfl⟩, fun args objs K r h => ?_⟩
  unfold sp14 at h; dsimp only at h; split at h
  · rename_i v0 a1
    obtain ⟨a0, h, ca0⟩ := listB_spec h
    obtain ⟨x, hx, h⟩ := bindO_some h
    exact ⟨_, _, h, FnOK.args2 (relL_c ca0 (relL_c rel_i relL_n)) (fn_run tab_ok (en14 k) mixed rfl ((r14 seals k a0 a1).trans (bindO_eq hx)))⟩
  · cases h
end Go.Vm

/- mesh_there -/
namespace Go.Vm
open Go Go.Proofs Go.Pf
def lv24 : Live := look ⟨[], [], [], [], []⟩ []
noncomputable def g24 (k : Nat) : FEnv := (addF 12 (sp12 k) (fun _ => none))
theorem en24 (k : Nat) : EnvOK Try.prog (g24 k) := (envOK_add (snd12 k) (envOK_nil _))
set_option maxHeartbeats 4000000 in
theorem r24 (S : Seals) (k : Nat) (a0 : List Int) (a1 : Int) (a2 : Int) : runF tt (g24 k) lv24 Try.f24 k [.dat (.int .i64) a0 true, .i .i64 a1, .i .i64 a2] [] = bindO (mesh_there.f k a0 a1 a2) (fun x : Bool => some (.b x, [])) := by
  unfold mesh_there.f; refine S.run_s rfl rfl ?_; conv => lhs; arg 5; whnf
  conv => lhs; arg 6; whnf
  repeat' first
    | refine S.seq_op rfl ?_; conv => lhs; whnf
    | refine S.op_n ?_; conv => lhs; whnf
    | refine S.seq_nil ?_
    | refine S.reg_n ?_
    | refine S.region rfl ?_
    | refine S.two ?_
    | refine S.blok ?_
    | refine S.cond rfl ?_
    | refine S.after_n ?_
    | refine S.block_n ?_
    | refine S.block_x ?_; conv => lhs; whnf
    | refine S.block_r ?_
    | refine S.after_x ?_
    | refine S.after_r ?_
    | refine S.skip ?_
    | refine S.exit ?_
    | refine S.ret ?_
    | refine br_lt ?_; conv => lhs; whnf
    | refine br_lf ?_; conv => lhs; whnf
    | refine br_t (by assumption) ?_; conv => lhs; whnf
    | refine br_f (by assumption) ?_; conv => lhs; whnf
    | refine req_i (by assumption) ?_; conv => lhs; whnf
    | (refine br_nd (fun _ => ?_) (fun _ => ?_) <;> conv => lhs; whnf)
    | (refine br_d (fun _ => ?_) (fun _ => ?_) <;> conv => lhs; whnf)
    | (refine br_n (fun _ => ?_) (fun _ => ?_) <;> conv => lhs; whnf)
    | (refine br_c (fun _ => ?_) (fun _ => ?_) <;> conv => lhs; whnf)
    | refine req_c fun _ => ?_; conv => lhs; whnf
    | refine bnd_c fun _ => ?_; conv => lhs; whnf
    | refine sum_c (fun _ => ?_) (fun _ => ?_)
    | refine S.loop ?_; conv => lhs; whnf
    | refine S.back_n ?_; conv => lhs; whnf
    | refine S.back_x ?_; conv => lhs; whnf
    | refine S.back_r ?_; conv => lhs; whnf
    | refine S.fin_r ?_; conv => lhs; whnf
    | refine S.fin_n ?_; conv => lhs; whnf
    | exact ret_c rfl
    | exact none_c
    | refine S.draw_op ?_; conv => lhs; whnf; arg 1; whnf
    | refine S.dk_n ?_; conv => lhs; whnf
    | refine S.draw_nil ?_; conv => lhs; whnf
    | refine andK_br ?_
    | refine andK_req ?_
    | refine andK_b ?_
def sp24 (k : Nat) : FSpec := ⟨[.rd, .rd, .rd], fun args objs K => match args, objs with | [v0, .i .i64 a1, .i .i64 a2], [] => listB (.int .i64) true v0 fun a0 => bindO (mesh_there.f k a0 a1 a2) fun x : Bool => K (.b x) [] | _, _ => none⟩
theorem snd24 (k : Nat) : Sound Try.prog 24 (sp24 k) := by
  refine ⟨⟨Try.f24, rfl, by kernel_rfl, rfl⟩, fun args objs K r h => ?_⟩
  unfold sp24 at h; dsimp only at h; split at h
  · rename_i v0 a1 a2
    obtain ⟨a0, h, ca0⟩ := listB_spec h
    obtain ⟨x, hx, h⟩ := bindO_some h
    exact ⟨_, _, h, FnOK.args2 (relL_c ca0 (relL_c rel_i (relL_c rel_i relL_n))) (fn_run tab_ok (en24 k) mixed rfl ((r24 seals k a0 a1 a2).trans (bindO_eq hx)))⟩
  · cases h
end Go.Vm

/- mesh_Group -/
namespace Go.Vm
open Go Go.Proofs Go.Pf
def lv15 : Live := look ⟨[], [], [], [], []⟩ [(6, ⟨[0, 2, 7, 8], [8], [6], [(8, 0, .own (.int .i64))], []⟩), (1000000, ⟨[], [], [], [(6, 0, .own (.int .i64))], []⟩)]
noncomputable def g15 (k : Nat) : FEnv := (addF 13 (sp13 k) (addF 14 (sp14 k) (addF 24 (sp24 k) (fun _ => none))))
theorem en15 (k : Nat) : EnvOK Try.prog (g15 k) := (envOK_add (snd13 k) (envOK_add (snd14 k) (envOK_add (snd24 k) (envOK_nil _))))
set_option maxHeartbeats 4000000 in
theorem w15_0 (S : Seals) (k : Nat) : ∀ (n : Nat) {x0 : List Int} {x2 : Int} {y0 : List Int} {y1 : List Int} {K : CK}, S.lp tt (g15 k) lv15 0 n (loopN Try.f15 0) ⟨[(0, .dat (.int .i64) x0 true), (2, .i .i64 x2), (7, .own 0), (8, .own 1)], [(0, .row (.int .i64) y0 false), (1, .row (.int .i64) y1 false)], 2, 42⟩ K = bindO (mesh_Group.l0 k n x0 x2 y0 y1) (fun x : (List Int) => K (.exit 0) ⟨[(8, .own 0)], [(0, .row (.int .i64) x false)], 1, 42⟩) := by
  intro n; induction n with
  | zero => intros; rw [S.lp_zero]; exact none_c
  | succ n ih =>
    intros; rw [mesh_Group.l0]; refine S.lp_succ ?_; conv => lhs; arg 5; whnf
    repeat' first
      | refine S.seq_op rfl ?_; conv => lhs; whnf
      | refine S.op_n ?_; conv => lhs; whnf
      | refine S.seq_nil ?_
      | refine S.reg_n ?_
      | refine S.region rfl ?_
      | refine S.two ?_
      | refine S.blok ?_
      | refine S.cond rfl ?_
      | refine S.after_n ?_
      | refine S.block_n ?_
      | refine S.block_x ?_; conv => lhs; whnf
      | refine S.block_r ?_
      | refine S.after_x ?_
      | refine S.after_r ?_
      | refine S.skip ?_
      | refine S.exit ?_
      | refine S.ret ?_
      | refine br_lt ?_; conv => lhs; whnf
      | refine br_lf ?_; conv => lhs; whnf
      | refine br_t (by assumption) ?_; conv => lhs; whnf
      | refine br_f (by assumption) ?_; conv => lhs; whnf
      | refine req_i (by assumption) ?_; conv => lhs; whnf
      | (refine br_nd (fun _ => ?_) (fun _ => ?_) <;> conv => lhs; whnf)
      | (refine br_d (fun _ => ?_) (fun _ => ?_) <;> conv => lhs; whnf)
      | (refine br_n (fun _ => ?_) (fun _ => ?_) <;> conv => lhs; whnf)
      | (refine br_c (fun _ => ?_) (fun _ => ?_) <;> conv => lhs; whnf)
      | refine req_c fun _ => ?_; conv => lhs; whnf
      | refine bnd_c fun _ => ?_; conv => lhs; whnf
      | refine sum_c (fun _ => ?_) (fun _ => ?_)
      | refine S.region_d (id := 6) (ds := [0, 0, 3, 7, 0, 0, 48, 112, 255]) (mds := [[], [], [], [], [], [], [], [], []]) (hm := []) (by kernel_rfl) (by kernel_rfl) rfl rfl ?_
      | exact ih
      | refine S.loop ?_; conv => lhs; whnf
      | refine S.back_n ?_; conv => lhs; whnf
      | refine S.back_x ?_; conv => lhs; whnf
      | refine S.back_r ?_; conv => lhs; whnf
      | refine S.fin_r ?_; conv => lhs; whnf
      | refine S.fin_n ?_; conv => lhs; whnf
      | exact ret_c rfl
      | exact none_c
      | refine S.draw_op ?_; conv => lhs; whnf; arg 1; whnf
      | refine S.dk_n ?_; conv => lhs; whnf
      | refine S.draw_nil ?_; conv => lhs; whnf
      | refine andK_br ?_
      | refine andK_req ?_
      | refine andK_b ?_
set_option maxHeartbeats 4000000 in
theorem r15 (S : Seals) (k : Nat) (a0 : List Int) (a1 : Int) (a2 : Int) : runF tt (g15 k) lv15 Try.f15 k [.dat (.int .i64) a0 true, .i .i64 a1, .i .i64 a2] [] = bindO (mesh_Group.f k a0 a1 a2) (fun x : (List Int) => some (.own 0, [.row (.int .i64) x false])) := by
  unfold mesh_Group.f; refine S.run_s rfl rfl ?_; conv => lhs; arg 5; whnf
  conv => lhs; arg 6; whnf
  repeat' first
    | refine S.seq_op rfl ?_; conv => lhs; whnf
    | refine S.op_n ?_; conv => lhs; whnf
    | refine S.seq_nil ?_
    | refine S.reg_n ?_
    | refine S.region rfl ?_
    | refine S.two ?_
    | refine S.blok ?_
    | refine S.cond rfl ?_
    | refine S.after_n ?_
    | refine S.block_n ?_
    | refine S.block_x ?_; conv => lhs; whnf
    | refine S.block_r ?_
    | refine S.after_x ?_
    | refine S.after_r ?_
    | refine S.skip ?_
    | refine S.exit ?_
    | refine S.ret ?_
    | refine br_lt ?_; conv => lhs; whnf
    | refine br_lf ?_; conv => lhs; whnf
    | refine br_t (by assumption) ?_; conv => lhs; whnf
    | refine br_f (by assumption) ?_; conv => lhs; whnf
    | refine req_i (by assumption) ?_; conv => lhs; whnf
    | (refine br_nd (fun _ => ?_) (fun _ => ?_) <;> conv => lhs; whnf)
    | (refine br_d (fun _ => ?_) (fun _ => ?_) <;> conv => lhs; whnf)
    | (refine br_n (fun _ => ?_) (fun _ => ?_) <;> conv => lhs; whnf)
    | (refine br_c (fun _ => ?_) (fun _ => ?_) <;> conv => lhs; whnf)
    | refine req_c fun _ => ?_; conv => lhs; whnf
    | refine bnd_c fun _ => ?_; conv => lhs; whnf
    | refine sum_c (fun _ => ?_) (fun _ => ?_)
    | refine (w15_0 S k _).trans ?_
    | refine S.loop ?_; conv => lhs; whnf
    | refine S.back_n ?_; conv => lhs; whnf
    | refine S.back_x ?_; conv => lhs; whnf
    | refine S.back_r ?_; conv => lhs; whnf
    | refine S.fin_r ?_; conv => lhs; whnf
    | refine S.fin_n ?_; conv => lhs; whnf
    | exact ret_c rfl
    | exact none_c
    | refine S.draw_op ?_; conv => lhs; whnf; arg 1; whnf
    | refine S.dk_n ?_; conv => lhs; whnf
    | refine S.draw_nil ?_; conv => lhs; whnf
    | refine andK_br ?_
    | refine andK_req ?_
    | refine andK_b ?_
def sp15 (k : Nat) : FSpec := ⟨[.rd, .rd, .rd], fun args objs K => match args, objs with | [v0, .i .i64 a1, .i .i64 a2], [] => listB (.int .i64) true v0 fun a0 => bindO (mesh_Group.f k a0 a1 a2) fun x : (List Int) => K (.own 0) [.row (.int .i64) x false] | _, _ => none⟩
theorem snd15 (k : Nat) : Sound Try.prog 15 (sp15 k) := by
  refine ⟨⟨Try.f15, rfl, by kernel_rfl, rfl⟩, fun args objs K r h => ?_⟩
  unfold sp15 at h; dsimp only at h; split at h
  · rename_i v0 a1 a2
    obtain ⟨a0, h, ca0⟩ := listB_spec h
    obtain ⟨x, hx, h⟩ := bindO_some h
    exact ⟨_, _, h, FnOK.args2 (relL_c ca0 (relL_c rel_i (relL_c rel_i relL_n))) (fn_run tab_ok (en15 k) mixed rfl ((r15 seals k a0 a1 a2).trans (bindO_eq hx)))⟩
  · cases h
end Go.Vm

/- mesh_Step -/
namespace Go.Vm
open Go Go.Proofs Go.Pf
def lv16 : Live := look ⟨[], [], [], [], []⟩ []
noncomputable def g16 (k : Nat) : FEnv := (addF 13 (sp13 k) (addF 14 (sp14 k) (addF 24 (sp24 k) (fun _ => none))))
theorem en16 (k : Nat) : EnvOK Try.prog (g16 k) := (envOK_add (snd13 k) (envOK_add (snd14 k) (envOK_add (snd24 k) (envOK_nil _))))
set_option maxHeartbeats 4000000 in
theorem r16 (S : Seals) (k : Nat) (a0 : List Int) (a1 : Int) (a2 : Int) (a3 : Int) : runF tt (g16 k) lv16 Try.f16 k [.dat (.int .i64) a0 true, .i .i64 a1, .i .i64 a2, .i .i64 a3] [] = bindO (mesh_Step.f k a0 a1 a2 a3) (fun x : Int => some (.i .i64 x, [])) := by
  unfold mesh_Step.f; refine S.run_s rfl rfl ?_; conv => lhs; arg 5; whnf
  conv => lhs; arg 6; whnf
  repeat' first
    | refine S.seq_op rfl ?_; conv => lhs; whnf
    | refine S.op_n ?_; conv => lhs; whnf
    | refine S.seq_nil ?_
    | refine S.reg_n ?_
    | refine S.region rfl ?_
    | refine S.two ?_
    | refine S.blok ?_
    | refine S.cond rfl ?_
    | refine S.after_n ?_
    | refine S.block_n ?_
    | refine S.block_x ?_; conv => lhs; whnf
    | refine S.block_r ?_
    | refine S.after_x ?_
    | refine S.after_r ?_
    | refine S.skip ?_
    | refine S.exit ?_
    | refine S.ret ?_
    | refine br_lt ?_; conv => lhs; whnf
    | refine br_lf ?_; conv => lhs; whnf
    | refine br_t (by assumption) ?_; conv => lhs; whnf
    | refine br_f (by assumption) ?_; conv => lhs; whnf
    | refine req_i (by assumption) ?_; conv => lhs; whnf
    | (refine br_nd (fun _ => ?_) (fun _ => ?_) <;> conv => lhs; whnf)
    | (refine br_d (fun _ => ?_) (fun _ => ?_) <;> conv => lhs; whnf)
    | (refine br_n (fun _ => ?_) (fun _ => ?_) <;> conv => lhs; whnf)
    | (refine br_c (fun _ => ?_) (fun _ => ?_) <;> conv => lhs; whnf)
    | refine req_c fun _ => ?_; conv => lhs; whnf
    | refine bnd_c fun _ => ?_; conv => lhs; whnf
    | refine sum_c (fun _ => ?_) (fun _ => ?_)
    | refine S.region_d (id := 5) (ds := [0, 0, 0, 0, 12, 28, 0, 0, 192, 508, 0, 2044, 0, 8188, 16383, 32767]) (mds := [[], [], [], [], [], [], [], [], [], [], [], [], [], [], [], [0]]) (hm := [(15, [0])]) (by kernel_rfl) (by kernel_rfl) rfl rfl ?_
    | refine S.loop ?_; conv => lhs; whnf
    | refine S.back_n ?_; conv => lhs; whnf
    | refine S.back_x ?_; conv => lhs; whnf
    | refine S.back_r ?_; conv => lhs; whnf
    | refine S.fin_r ?_; conv => lhs; whnf
    | refine S.fin_n ?_; conv => lhs; whnf
    | exact ret_c rfl
    | exact none_c
    | refine S.draw_op ?_; conv => lhs; whnf; arg 1; whnf
    | refine S.dk_n ?_; conv => lhs; whnf
    | refine S.draw_nil ?_; conv => lhs; whnf
    | refine andK_br ?_
    | refine andK_req ?_
    | refine andK_b ?_
def sp16 (k : Nat) : FSpec := ⟨[.rd, .rd, .rd, .rd], fun args objs K => match args, objs with | [v0, .i .i64 a1, .i .i64 a2, .i .i64 a3], [] => listB (.int .i64) true v0 fun a0 => bindO (mesh_Step.f k a0 a1 a2 a3) fun x : Int => K (.i .i64 x) [] | _, _ => none⟩
theorem snd16 (k : Nat) : Sound Try.prog 16 (sp16 k) := by
  refine ⟨⟨Try.f16, rfl, by kernel_rfl, rfl⟩, fun args objs K r h => ?_⟩
  unfold sp16 at h; dsimp only at h; split at h
  · rename_i v0 a1 a2 a3
    obtain ⟨a0, h, ca0⟩ := listB_spec h
    obtain ⟨x, hx, h⟩ := bindO_some h
    exact ⟨_, _, h, FnOK.args2 (relL_c ca0 (relL_c rel_i (relL_c rel_i (relL_c rel_i relL_n)))) (fn_run tab_ok (en16 k) mixed rfl ((r16 seals k a0 a1 a2 a3).trans (bindO_eq hx)))⟩
  · cases h
end Go.Vm

/- book_Same_int -/
namespace Go.Vm
open Go Go.Proofs Go.Pf
def lv17 : Live := look ⟨[], [], [], [], []⟩ [(4, ⟨[0, 1, 5], [], [4], [], []⟩)]
noncomputable def g17 : FEnv := (fun _ => none)
theorem en17 : EnvOK Try.prog (g17) := (envOK_nil _)
set_option maxHeartbeats 4000000 in
theorem w17_0 (S : Seals) (k : Nat) : ∀ (n : Nat) {x0 : List Int} {x1 : List Int} {x5 : Int} {K : CK}, S.lp tt (g17) lv17 0 n (loopN Try.f17 0) ⟨[(0, .dat (.int .i64) x0 true), (1, .dat (.int .i64) x1 true), (5, .i .i64 x5)], [], 0, 26⟩ K = bindO (book_Same_int.l0 n x0 x1 x5) (Sum.elim (fun x : Unit => K (.exit 0) ⟨[], [], 0, 26⟩) (fun x : Bool => K .ret ⟨[(4, .b x)], [], 0, 26⟩)) := by
  intro n; induction n with
  | zero => intros; rw [S.lp_zero]; exact none_c
  | succ n ih =>
    intros; rw [book_Same_int.l0]; refine S.lp_succ ?_; conv => lhs; arg 5; whnf
    repeat' first
      | refine S.seq_op rfl ?_; conv => lhs; whnf
      | refine S.op_n ?_; conv => lhs; whnf
      | refine S.seq_nil ?_
      | refine S.reg_n ?_
      | refine S.region rfl ?_
      | refine S.two ?_
      | refine S.blok ?_
      | refine S.cond rfl ?_
      | refine S.after_n ?_
      | refine S.block_n ?_
      | refine S.block_x ?_; conv => lhs; whnf
      | refine S.block_r ?_
      | refine S.after_x ?_
      | refine S.after_r ?_
      | refine S.skip ?_
      | refine S.exit ?_
      | refine S.ret ?_
      | refine br_lt ?_; conv => lhs; whnf
      | refine br_lf ?_; conv => lhs; whnf
      | refine br_t (by assumption) ?_; conv => lhs; whnf
      | refine br_f (by assumption) ?_; conv => lhs; whnf
      | refine req_i (by assumption) ?_; conv => lhs; whnf
      | (refine br_nd (fun _ => ?_) (fun _ => ?_) <;> conv => lhs; whnf)
      | (refine br_d (fun _ => ?_) (fun _ => ?_) <;> conv => lhs; whnf)
      | (refine br_n (fun _ => ?_) (fun _ => ?_) <;> conv => lhs; whnf)
      | (refine br_c (fun _ => ?_) (fun _ => ?_) <;> conv => lhs; whnf)
      | refine req_c fun _ => ?_; conv => lhs; whnf
      | refine bnd_c fun _ => ?_; conv => lhs; whnf
      | refine sum_c (fun _ => ?_) (fun _ => ?_)
      | refine S.region_d (id := 6) (ds := [0, 0, 3, 7, 0, 0, 48, 112, 255]) (mds := [[], [], [], [], [], [], [], [], []]) (hm := []) (by kernel_rfl) (by kernel_rfl) rfl rfl ?_
      | exact ih
      | refine S.loop ?_; conv => lhs; whnf
      | refine S.back_n ?_; conv => lhs; whnf
      | refine S.back_x ?_; conv => lhs; whnf
      | refine S.back_r ?_; conv => lhs; whnf
      | refine S.fin_r ?_; conv => lhs; whnf
      | refine S.fin_n ?_; conv => lhs; whnf
      | exact ret_c rfl
      | exact none_c
      | refine S.draw_op ?_; conv => lhs; whnf; arg 1; whnf
      | refine S.dk_n ?_; conv => lhs; whnf
      | refine S.draw_nil ?_; conv => lhs; whnf
      | refine andK_br ?_
      | refine andK_req ?_
      | refine andK_b ?_
set_option maxHeartbeats 4000000 in
theorem r17 (S : Seals) (k : Nat) (a0 : List Int) (a1 : List Int) : runF tt (g17) lv17 Try.f17 k [.dat (.int .i64) a0 true, .dat (.int .i64) a1 true] [] = bindO (book_Same_int.f k a0 a1) (fun x : Bool => some (.b x, [])) := by
  unfold book_Same_int.f; refine S.run_s rfl rfl ?_; conv => lhs; arg 5; whnf
  conv => lhs; arg 6; whnf
  repeat' first
    | refine S.seq_op rfl ?_; conv => lhs; whnf
    | refine S.op_n ?_; conv => lhs; whnf
    | refine S.seq_nil ?_
    | refine S.reg_n ?_
    | refine S.region rfl ?_
    | refine S.two ?_
    | refine S.blok ?_
    | refine S.cond rfl ?_
    | refine S.after_n ?_
    | refine S.block_n ?_
    | refine S.block_x ?_; conv => lhs; whnf
    | refine S.block_r ?_
    | refine S.after_x ?_
    | refine S.after_r ?_
    | refine S.skip ?_
    | refine S.exit ?_
    | refine S.ret ?_
    | refine br_lt ?_; conv => lhs; whnf
    | refine br_lf ?_; conv => lhs; whnf
    | refine br_t (by assumption) ?_; conv => lhs; whnf
    | refine br_f (by assumption) ?_; conv => lhs; whnf
    | refine req_i (by assumption) ?_; conv => lhs; whnf
    | (refine br_nd (fun _ => ?_) (fun _ => ?_) <;> conv => lhs; whnf)
    | (refine br_d (fun _ => ?_) (fun _ => ?_) <;> conv => lhs; whnf)
    | (refine br_n (fun _ => ?_) (fun _ => ?_) <;> conv => lhs; whnf)
    | (refine br_c (fun _ => ?_) (fun _ => ?_) <;> conv => lhs; whnf)
    | refine req_c fun _ => ?_; conv => lhs; whnf
    | refine bnd_c fun _ => ?_; conv => lhs; whnf
    | refine sum_c (fun _ => ?_) (fun _ => ?_)
    | refine (w17_0 S k _).trans ?_
    | refine S.loop ?_; conv => lhs; whnf
    | refine S.back_n ?_; conv => lhs; whnf
    | refine S.back_x ?_; conv => lhs; whnf
    | refine S.back_r ?_; conv => lhs; whnf
    | refine S.fin_r ?_; conv => lhs; whnf
    | refine S.fin_n ?_; conv => lhs; whnf
    | exact ret_c rfl
    | exact none_c
    | refine S.draw_op ?_; conv => lhs; whnf; arg 1; whnf
    | refine S.dk_n ?_; conv => lhs; whnf
    | refine S.draw_nil ?_; conv => lhs; whnf
    | refine andK_br ?_
    | refine andK_req ?_
    | refine andK_b ?_
def sp17 (k : Nat) : FSpec := ⟨[.rd, .rd], fun args objs K => match args, objs with | [v0, v1], [] => listB (.int .i64) true v0 fun a0 => listB (.int .i64) true v1 fun a1 => bindO (book_Same_int.f k a0 a1) fun x : Bool => K (.b x) [] | _, _ => none⟩
theorem snd17 (k : Nat) : Sound Try.prog 17 (sp17 k) := by
  refine ⟨⟨Try.f17, rfl, by kernel_rfl, rfl⟩, fun args objs K r h => ?_⟩
  unfold sp17 at h; dsimp only at h; split at h
  · rename_i v0 v1
    obtain ⟨a0, h, ca0⟩ := listB_spec h
    obtain ⟨a1, h, ca1⟩ := listB_spec h
    obtain ⟨x, hx, h⟩ := bindO_some h
    exact ⟨_, _, h, FnOK.args2 (relL_c ca0 (relL_c ca1 relL_n)) (fn_run tab_ok (en17) mixed rfl ((r17 seals k a0 a1).trans (bindO_eq hx)))⟩
  · cases h
end Go.Vm

/- law14_known -/
namespace Go.Vm
open Go Go.Proofs Go.Pf
def lv10 : Live := look ⟨[], [], [], [], []⟩ []
noncomputable def g10 (k : Nat) : FEnv := (addF 18 (sp18 k) (addF 15 (sp15 k) (addF 13 (sp13 k) (addF 16 (sp16 k) (addF 12 (sp12 k) (addF 17 (sp17 k) (addF 14 (sp14 k) (fun _ => none))))))))
theorem en10 (k : Nat) : EnvOK Try.prog (g10 k) := (envOK_add (snd18 k) (envOK_add (snd15 k) (envOK_add (snd13 k) (envOK_add (snd16 k) (envOK_add (snd12 k) (envOK_add (snd17 k) (envOK_add (snd14 k) (envOK_nil _))))))))
set_option maxHeartbeats 4000000 in
theorem r10 (S : Seals) (k : Nat) : runF tt (g10 k) lv10 Try.f10 k [] [] = bindO (law14_known.f k) (fun x : Bool => some (.b x, [])) := by
  unfold law14_known.f; refine S.run_s rfl rfl ?_; conv => lhs; arg 5; whnf
  conv => lhs; arg 6; whnf
  repeat' first
    | refine S.seq_op rfl ?_; conv => lhs; whnf
    | refine S.op_n ?_; conv => lhs; whnf
    | refine S.seq_nil ?_
    | refine S.reg_n ?_
    | refine S.region rfl ?_
    | refine S.two ?_
    | refine S.blok ?_
    | refine S.cond rfl ?_
    | refine S.after_n ?_
    | refine S.block_n ?_
    | refine S.block_x ?_; conv => lhs; whnf
    | refine S.block_r ?_
    | refine S.after_x ?_
    | refine S.after_r ?_
    | refine S.skip ?_
    | refine S.exit ?_
    | refine S.ret ?_
    | refine br_lt ?_; conv => lhs; whnf
    | refine br_lf ?_; conv => lhs; whnf
    | refine br_t (by assumption) ?_; conv => lhs; whnf
    | refine br_f (by assumption) ?_; conv => lhs; whnf
    | refine req_i (by assumption) ?_; conv => lhs; whnf
    | (refine br_nd (fun _ => ?_) (fun _ => ?_) <;> conv => lhs; whnf)
    | (refine br_d (fun _ => ?_) (fun _ => ?_) <;> conv => lhs; whnf)
    | (refine br_n (fun _ => ?_) (fun _ => ?_) <;> conv => lhs; whnf)
    | (refine br_c (fun _ => ?_) (fun _ => ?_) <;> conv => lhs; whnf)
    | refine req_c fun _ => ?_; conv => lhs; whnf
    | refine bnd_c fun _ => ?_; conv => lhs; whnf
    | refine sum_c (fun _ => ?_) (fun _ => ?_)
    | refine S.loop ?_; conv => lhs; whnf
    | refine S.back_n ?_; conv => lhs; whnf
    | refine S.back_x ?_; conv => lhs; whnf
    | refine S.back_r ?_; conv => lhs; whnf
    | refine S.fin_r ?_; conv => lhs; whnf
    | refine S.fin_n ?_; conv => lhs; whnf
    | exact ret_c rfl
    | exact none_c
    | refine S.draw_op ?_; conv => lhs; whnf; arg 1; whnf
    | refine S.dk_n ?_; conv => lhs; whnf
    | refine S.draw_nil ?_; conv => lhs; whnf
    | refine andK_br ?_
    | refine andK_req ?_
    | refine andK_b ?_
def sp10 (k : Nat) : FSpec := ⟨[], fun args objs K => match args, objs with | [], [] => bindO (law14_known.f k) fun x : Bool => K (.b x) [] | _, _ => none⟩
theorem snd10 (k : Nat) : Sound Try.prog 10 (sp10 k) := by
  refine ⟨⟨Try.f10, rfl, by kernel_rfl, rfl⟩, fun args objs K r h => ?_⟩
  unfold sp10 at h; dsimp only at h; split at h
  · skip
    obtain ⟨x, hx, h⟩ := bindO_some h
    exact ⟨_, _, h, FnOK.args2 relL_n (fn_run tab_ok (en10 k) mixed rfl ((r10 seals k).trans (bindO_eq hx)))⟩
  · cases h
end Go.Vm

/- law14_meshes -/
namespace Go.Vm
open Go Go.Proofs Go.Pf
def lv7 : Live := look ⟨[], [], [], [], []⟩ []
noncomputable def g7 : FEnv := (fun _ => none)
theorem en7 : EnvOK Try.prog (g7) := (envOK_nil _)
set_option maxHeartbeats 4000000 in
theorem r7 (S : Seals) (k : Nat) : runF tt (g7) lv7 Try.f7 k [] [] = bindO (law14_meshes.f) (fun x : (List (List Int)) => some (.own 0, [.row (.sl (.int .i64)) x false])) := by
  unfold law14_meshes.f; refine S.run_s rfl rfl ?_; conv => lhs; arg 5; whnf
  conv => lhs; arg 6; whnf
  repeat' first
    | refine S.seq_op rfl ?_; conv => lhs; whnf
    | refine S.op_n ?_; conv => lhs; whnf
    | refine S.seq_nil ?_
    | refine S.reg_n ?_
    | refine S.region rfl ?_
    | refine S.two ?_
    | refine S.blok ?_
    | refine S.cond rfl ?_
    | refine S.after_n ?_
    | refine S.block_n ?_
    | refine S.block_x ?_; conv => lhs; whnf
    | refine S.block_r ?_
    | refine S.after_x ?_
    | refine S.after_r ?_
    | refine S.skip ?_
    | refine S.exit ?_
    | refine S.ret ?_
    | refine br_lt ?_; conv => lhs; whnf
    | refine br_lf ?_; conv => lhs; whnf
    | refine br_t (by assumption) ?_; conv => lhs; whnf
    | refine br_f (by assumption) ?_; conv => lhs; whnf
    | refine req_i (by assumption) ?_; conv => lhs; whnf
    | (refine br_nd (fun _ => ?_) (fun _ => ?_) <;> conv => lhs; whnf)
    | (refine br_d (fun _ => ?_) (fun _ => ?_) <;> conv => lhs; whnf)
    | (refine br_n (fun _ => ?_) (fun _ => ?_) <;> conv => lhs; whnf)
    | (refine br_c (fun _ => ?_) (fun _ => ?_) <;> conv => lhs; whnf)
    | refine req_c fun _ => ?_; conv => lhs; whnf
    | refine bnd_c fun _ => ?_; conv => lhs; whnf
    | refine sum_c (fun _ => ?_) (fun _ => ?_)
    | refine S.loop ?_; conv => lhs; whnf
    | refine S.back_n ?_; conv => lhs; whnf
    | refine S.back_x ?_; conv => lhs; whnf
    | refine S.back_r ?_; conv => lhs; whnf
    | refine S.fin_r ?_; conv => lhs; whnf
    | refine S.fin_n ?_; conv => lhs; whnf
    | exact ret_c rfl
    | exact none_c
    | refine S.draw_op ?_; conv => lhs; whnf; arg 1; whnf
    | refine S.dk_n ?_; conv => lhs; whnf
    | refine S.draw_nil ?_; conv => lhs; whnf
    | refine andK_br ?_
    | refine andK_req ?_
    | refine andK_b ?_
def sp7 : FSpec := ⟨[], fun args objs K => match args, objs with | [], [] => bindO (law14_meshes.f) fun x : (List (List Int)) => K (.own 0) [.row (.sl (.int .i64)) x false] | _, _ => none⟩
theorem snd7 : Sound Try.prog 7 (sp7) := by
  refine ⟨⟨Try.f7, rfl, by kernel_rfl, rfl⟩, fun args objs K r h => ?_⟩
  unfold sp7 at h; dsimp only at h; split at h
  · skip
    obtain ⟨x, hx, h⟩ := bindO_some h
    exact ⟨_, _, h, FnOK.args2 relL_n (fn_run tab_ok (en7) mixed rfl ((r7 seals 0).trans (bindO_eq hx)))⟩
  · cases h
end Go.Vm

/- ref14_Right -/
namespace Go.Vm
open Go Go.Proofs Go.Pf
def lv19 : Live := look ⟨[], [], [], [], []⟩ [(3, ⟨[0, 3, 6, 7], [3], [2], [], []⟩)]
noncomputable def g19 : FEnv := (fun _ => none)
theorem en19 : EnvOK Try.prog (g19) := (envOK_nil _)
set_option maxHeartbeats 4000000 in
theorem w19_0 (S : Seals) (k : Nat) : ∀ (n : Nat) {x0 : List Int} {x3 : Int} {x6 : Int} {x7 : Int} {K : CK}, S.lp tt (g19) lv19 0 n (loopN Try.f19 0) ⟨[(0, .dat (.int .i64) x0 true), (3, .i .i64 x3), (6, .i .i64 x6), (7, .i .i64 x7)], [], 0, 35⟩ K = bindO (ref14_Right.l0 n x0 x3 x6 x7) (Sum.elim (fun x : Int => K (.exit 0) ⟨[(3, .i .i64 x)], [], 0, 35⟩) (fun x : Bool => K .ret ⟨[(2, .b x)], [], 0, 35⟩)) := by
  intro n; induction n with
  | zero => intros; rw [S.lp_zero]; exact none_c
  | succ n ih =>
    intros; rw [ref14_Right.l0]; refine S.lp_succ ?_; conv => lhs; arg 5; whnf
    repeat' first
      | refine S.seq_op rfl ?_; conv => lhs; whnf
      | refine S.op_n ?_; conv => lhs; whnf
      | refine S.seq_nil ?_
      | refine S.reg_n ?_
      | refine S.region rfl ?_
      | refine S.two ?_
      | refine S.blok ?_
      | refine S.cond rfl ?_
      | refine S.after_n ?_
      | refine S.block_n ?_
      | refine S.block_x ?_; conv => lhs; whnf
      | refine S.block_r ?_
      | refine S.after_x ?_
      | refine S.after_r ?_
      | refine S.skip ?_
      | refine S.exit ?_
      | refine S.ret ?_
      | refine br_lt ?_; conv => lhs; whnf
      | refine br_lf ?_; conv => lhs; whnf
      | refine br_t (by assumption) ?_; conv => lhs; whnf
      | refine br_f (by assumption) ?_; conv => lhs; whnf
      | refine req_i (by assumption) ?_; conv => lhs; whnf
      | (refine br_nd (fun _ => ?_) (fun _ => ?_) <;> conv => lhs; whnf)
      | (refine br_d (fun _ => ?_) (fun _ => ?_) <;> conv => lhs; whnf)
      | (refine br_n (fun _ => ?_) (fun _ => ?_) <;> conv => lhs; whnf)
      | (refine br_c (fun _ => ?_) (fun _ => ?_) <;> conv => lhs; whnf)
      | refine req_c fun _ => ?_; conv => lhs; whnf
      | refine bnd_c fun _ => ?_; conv => lhs; whnf
      | refine sum_c (fun _ => ?_) (fun _ => ?_)
      | exact ih
      | refine S.loop ?_; conv => lhs; whnf
      | refine S.back_n ?_; conv => lhs; whnf
      | refine S.back_x ?_; conv => lhs; whnf
      | refine S.back_r ?_; conv => lhs; whnf
      | refine S.fin_r ?_; conv => lhs; whnf
      | refine S.fin_n ?_; conv => lhs; whnf
      | exact ret_c rfl
      | exact none_c
      | refine S.draw_op ?_; conv => lhs; whnf; arg 1; whnf
      | refine S.dk_n ?_; conv => lhs; whnf
      | refine S.draw_nil ?_; conv => lhs; whnf
      | refine andK_br ?_
      | refine andK_req ?_
      | refine andK_b ?_
set_option maxHeartbeats 4000000 in
theorem r19 (S : Seals) (k : Nat) (a0 : List Int) : runF tt (g19) lv19 Try.f19 k [.dat (.int .i64) a0 true] [] = bindO (ref14_Right.f k a0) (fun x : Bool => some (.b x, [])) := by
  unfold ref14_Right.f; refine S.run_s rfl rfl ?_; conv => lhs; arg 5; whnf
  conv => lhs; arg 6; whnf
  repeat' first
    | refine S.seq_op rfl ?_; conv => lhs; whnf
    | refine S.op_n ?_; conv => lhs; whnf
    | refine S.seq_nil ?_
    | refine S.reg_n ?_
    | refine S.region rfl ?_
    | refine S.two ?_
    | refine S.blok ?_
    | refine S.cond rfl ?_
    | refine S.after_n ?_
    | refine S.block_n ?_
    | refine S.block_x ?_; conv => lhs; whnf
    | refine S.block_r ?_
    | refine S.after_x ?_
    | refine S.after_r ?_
    | refine S.skip ?_
    | refine S.exit ?_
    | refine S.ret ?_
    | refine br_lt ?_; conv => lhs; whnf
    | refine br_lf ?_; conv => lhs; whnf
    | refine br_t (by assumption) ?_; conv => lhs; whnf
    | refine br_f (by assumption) ?_; conv => lhs; whnf
    | refine req_i (by assumption) ?_; conv => lhs; whnf
    | (refine br_nd (fun _ => ?_) (fun _ => ?_) <;> conv => lhs; whnf)
    | (refine br_d (fun _ => ?_) (fun _ => ?_) <;> conv => lhs; whnf)
    | (refine br_n (fun _ => ?_) (fun _ => ?_) <;> conv => lhs; whnf)
    | (refine br_c (fun _ => ?_) (fun _ => ?_) <;> conv => lhs; whnf)
    | refine req_c fun _ => ?_; conv => lhs; whnf
    | refine bnd_c fun _ => ?_; conv => lhs; whnf
    | refine sum_c (fun _ => ?_) (fun _ => ?_)
    | refine (w19_0 S k _).trans ?_
    | refine S.loop ?_; conv => lhs; whnf
    | refine S.back_n ?_; conv => lhs; whnf
    | refine S.back_x ?_; conv => lhs; whnf
    | refine S.back_r ?_; conv => lhs; whnf
    | refine S.fin_r ?_; conv => lhs; whnf
    | refine S.fin_n ?_; conv => lhs; whnf
    | exact ret_c rfl
    | exact none_c
    | refine S.draw_op ?_; conv => lhs; whnf; arg 1; whnf
    | refine S.dk_n ?_; conv => lhs; whnf
    | refine S.draw_nil ?_; conv => lhs; whnf
    | refine andK_br ?_
    | refine andK_req ?_
    | refine andK_b ?_
def sp19 (k : Nat) : FSpec := ⟨[.rd], fun args objs K => match args, objs with | [v0], [] => listB (.int .i64) true v0 fun a0 => bindO (ref14_Right.f k a0) fun x : Bool => K (.b x) [] | _, _ => none⟩
theorem snd19 (k : Nat) : Sound Try.prog 19 (sp19 k) := by
  refine ⟨⟨Try.f19, rfl, by kernel_rfl, rfl⟩, fun args objs K r h => ?_⟩
  unfold sp19 at h; dsimp only at h; split at h
  · rename_i v0
    obtain ⟨a0, h, ca0⟩ := listB_spec h
    obtain ⟨x, hx, h⟩ := bindO_some h
    exact ⟨_, _, h, FnOK.args2 (relL_c ca0 relL_n) (fn_run tab_ok (en19) mixed rfl ((r19 seals k a0).trans (bindO_eq hx)))⟩
  · cases h
end Go.Vm

/- ref14_Devices -/
namespace Go.Vm
open Go Go.Proofs Go.Pf
def lv20 : Live := look ⟨[], [], [], [], []⟩ [(5, ⟨[0, 3, 9, 10], [3], [2], [], []⟩)]
noncomputable def g20 (k : Nat) : FEnv := (addF 19 (sp19 k) (fun _ => none))
theorem en20 (k : Nat) : EnvOK Try.prog (g20 k) := (envOK_add (snd19 k) (envOK_nil _))
set_option maxHeartbeats 4000000 in
theorem w20_0 (S : Seals) (k : Nat) : ∀ (n : Nat) {x0 : List Int} {x3 : Int} {x9 : Int} {x10 : Int} {K : CK}, S.lp tt (g20 k) lv20 0 n (loopN Try.f20 0) ⟨[(0, .dat (.int .i64) x0 true), (3, .i .i64 x3), (9, .i .i64 x9), (10, .i .i64 x10)], [], 0, 21⟩ K = bindO (ref14_Devices.l0 n x0 x3 x9 x10) (fun x : Int => K (.exit 0) ⟨[(3, .i .i64 x)], [], 0, 21⟩) := by
  intro n; induction n with
  | zero => intros; rw [S.lp_zero]; exact none_c
  | succ n ih =>
    intros; rw [ref14_Devices.l0]; refine S.lp_succ ?_; conv => lhs; arg 5; whnf
    repeat' first
      | refine S.seq_op rfl ?_; conv => lhs; whnf
      | refine S.op_n ?_; conv => lhs; whnf
      | refine S.seq_nil ?_
      | refine S.reg_n ?_
      | refine S.region rfl ?_
      | refine S.two ?_
      | refine S.blok ?_
      | refine S.cond rfl ?_
      | refine S.after_n ?_
      | refine S.block_n ?_
      | refine S.block_x ?_; conv => lhs; whnf
      | refine S.block_r ?_
      | refine S.after_x ?_
      | refine S.after_r ?_
      | refine S.skip ?_
      | refine S.exit ?_
      | refine S.ret ?_
      | refine br_lt ?_; conv => lhs; whnf
      | refine br_lf ?_; conv => lhs; whnf
      | refine br_t (by assumption) ?_; conv => lhs; whnf
      | refine br_f (by assumption) ?_; conv => lhs; whnf
      | refine req_i (by assumption) ?_; conv => lhs; whnf
      | (refine br_nd (fun _ => ?_) (fun _ => ?_) <;> conv => lhs; whnf)
      | (refine br_d (fun _ => ?_) (fun _ => ?_) <;> conv => lhs; whnf)
      | (refine br_n (fun _ => ?_) (fun _ => ?_) <;> conv => lhs; whnf)
      | (refine br_c (fun _ => ?_) (fun _ => ?_) <;> conv => lhs; whnf)
      | refine req_c fun _ => ?_; conv => lhs; whnf
      | refine bnd_c fun _ => ?_; conv => lhs; whnf
      | refine sum_c (fun _ => ?_) (fun _ => ?_)
      | exact ih
      | refine S.loop ?_; conv => lhs; whnf
      | refine S.back_n ?_; conv => lhs; whnf
      | refine S.back_x ?_; conv => lhs; whnf
      | refine S.back_r ?_; conv => lhs; whnf
      | refine S.fin_r ?_; conv => lhs; whnf
      | refine S.fin_n ?_; conv => lhs; whnf
      | exact ret_c rfl
      | exact none_c
      | refine S.draw_op ?_; conv => lhs; whnf; arg 1; whnf
      | refine S.dk_n ?_; conv => lhs; whnf
      | refine S.draw_nil ?_; conv => lhs; whnf
      | refine andK_br ?_
      | refine andK_req ?_
      | refine andK_b ?_
set_option maxHeartbeats 4000000 in
theorem r20 (S : Seals) (k : Nat) (a0 : List Int) : runF tt (g20 k) lv20 Try.f20 k [.dat (.int .i64) a0 true] [] = bindO (ref14_Devices.f k a0) (fun x : Int => some (.i .i64 x, [])) := by
  unfold ref14_Devices.f; refine S.run_s rfl rfl ?_; conv => lhs; arg 5; whnf
  conv => lhs; arg 6; whnf
  repeat' first
    | refine S.seq_op rfl ?_; conv => lhs; whnf
    | refine S.op_n ?_; conv => lhs; whnf
    | refine S.seq_nil ?_
    | refine S.reg_n ?_
    | refine S.region rfl ?_
    | refine S.two ?_
    | refine S.blok ?_
    | refine S.cond rfl ?_
    | refine S.after_n ?_
    | refine S.block_n ?_
    | refine S.block_x ?_; conv => lhs; whnf
    | refine S.block_r ?_
    | refine S.after_x ?_
    | refine S.after_r ?_
    | refine S.skip ?_
    | refine S.exit ?_
    | refine S.ret ?_
    | refine br_lt ?_; conv => lhs; whnf
    | refine br_lf ?_; conv => lhs; whnf
    | refine br_t (by assumption) ?_; conv => lhs; whnf
    | refine br_f (by assumption) ?_; conv => lhs; whnf
    | refine req_i (by assumption) ?_; conv => lhs; whnf
    | (refine br_nd (fun _ => ?_) (fun _ => ?_) <;> conv => lhs; whnf)
    | (refine br_d (fun _ => ?_) (fun _ => ?_) <;> conv => lhs; whnf)
    | (refine br_n (fun _ => ?_) (fun _ => ?_) <;> conv => lhs; whnf)
    | (refine br_c (fun _ => ?_) (fun _ => ?_) <;> conv => lhs; whnf)
    | refine req_c fun _ => ?_; conv => lhs; whnf
    | refine bnd_c fun _ => ?_; conv => lhs; whnf
    | refine sum_c (fun _ => ?_) (fun _ => ?_)
    | refine (w20_0 S k _).trans ?_
    | refine S.loop ?_; conv => lhs; whnf
    | refine S.back_n ?_; conv => lhs; whnf
    | refine S.back_x ?_; conv => lhs; whnf
    | refine S.back_r ?_; conv => lhs; whnf
    | refine S.fin_r ?_; conv => lhs; whnf
    | refine S.fin_n ?_; conv => lhs; whnf
    | exact ret_c rfl
    | exact none_c
    | refine S.draw_op ?_; conv => lhs; whnf; arg 1; whnf
    | refine S.dk_n ?_; conv => lhs; whnf
    | refine S.draw_nil ?_; conv => lhs; whnf
    | refine andK_br ?_
    | refine andK_req ?_
    | refine andK_b ?_
def sp20 (k : Nat) : FSpec := ⟨[.rd], fun args objs K => match args, objs with | [v0], [] => listB (.int .i64) true v0 fun a0 => bindO (ref14_Devices.f k a0) fun x : Int => K (.i .i64 x) [] | _, _ => none⟩
theorem snd20 (k : Nat) : Sound Try.prog 20 (sp20 k) := by
  refine ⟨⟨Try.f20, rfl, by kernel_rfl, rfl⟩, fun args objs K r h => ?_⟩
  unfold sp20 at h; dsimp only at h; split at h
  · rename_i v0
    obtain ⟨a0, h, ca0⟩ := listB_spec h
    obtain ⟨x, hx, h⟩ := bindO_some h
    exact ⟨_, _, h, FnOK.args2 (relL_c ca0 relL_n) (fn_run tab_ok (en20 k) mixed rfl ((r20 seals k a0).trans (bindO_eq hx)))⟩
  · cases h
end Go.Vm

/- ref14_Of -/
namespace Go.Vm
open Go Go.Proofs Go.Pf
def lv21 : Live := look ⟨[], [], [], [], []⟩ [(5, ⟨[0, 1, 5, 18, 19], [5], [4], [], []⟩)]
noncomputable def g21 (k : Nat) : FEnv := (addF 19 (sp19 k) (fun _ => none))
theorem en21 (k : Nat) : EnvOK Try.prog (g21 k) := (envOK_add (snd19 k) (envOK_nil _))
set_option maxHeartbeats 4000000 in
theorem w21_0 (S : Seals) (k : Nat) : ∀ (n : Nat) {x0 : List Int} {x1 : List Int} {x5 : Int} {x18 : Int} {x19 : Int} {K : CK}, S.lp tt (g21 k) lv21 0 n (loopN Try.f21 0) ⟨[(0, .dat (.int .i64) x0 true), (1, .dat (.int .i64) x1 true), (5, .i .i64 x5), (18, .i .i64 x18), (19, .i .i64 x19)], [], 0, 51⟩ K = bindO (ref14_Of.l0 n x0 x1 x5 x18 x19) (Sum.elim (fun x : Int => K (.exit 0) ⟨[(5, .i .i64 x)], [], 0, 51⟩) (fun x : Int => K .ret ⟨[(4, .i .i64 x)], [], 0, 51⟩)) := by
  intro n; induction n with
  | zero => intros; rw [S.lp_zero]; exact none_c
  | succ n ih =>
    intros; rw [ref14_Of.l0]; refine S.lp_succ ?_; conv => lhs; arg 5; whnf
    repeat' first
      | refine S.seq_op rfl ?_; conv => lhs; whnf
      | refine S.op_n ?_; conv => lhs; whnf
      | refine S.seq_nil ?_
      | refine S.reg_n ?_
      | refine S.region rfl ?_
      | refine S.two ?_
      | refine S.blok ?_
      | refine S.cond rfl ?_
      | refine S.after_n ?_
      | refine S.block_n ?_
      | refine S.block_x ?_; conv => lhs; whnf
      | refine S.block_r ?_
      | refine S.after_x ?_
      | refine S.after_r ?_
      | refine S.skip ?_
      | refine S.exit ?_
      | refine S.ret ?_
      | refine br_lt ?_; conv => lhs; whnf
      | refine br_lf ?_; conv => lhs; whnf
      | refine br_t (by assumption) ?_; conv => lhs; whnf
      | refine br_f (by assumption) ?_; conv => lhs; whnf
      | refine req_i (by assumption) ?_; conv => lhs; whnf
      | (refine br_nd (fun _ => ?_) (fun _ => ?_) <;> conv => lhs; whnf)
      | (refine br_d (fun _ => ?_) (fun _ => ?_) <;> conv => lhs; whnf)
      | (refine br_n (fun _ => ?_) (fun _ => ?_) <;> conv => lhs; whnf)
      | (refine br_c (fun _ => ?_) (fun _ => ?_) <;> conv => lhs; whnf)
      | refine req_c fun _ => ?_; conv => lhs; whnf
      | refine bnd_c fun _ => ?_; conv => lhs; whnf
      | refine sum_c (fun _ => ?_) (fun _ => ?_)
      | refine S.region_d (id := 7) (ds := [0, 0, 3, 7, 15, 31, 63, 63, 255, 511, 63, 63, 3135, 7231, 16383, 32767]) (mds := [[], [], [], [], [], [], [], [], [], [], [], [], [], [], [], []]) (hm := []) (by kernel_rfl) (by kernel_rfl) rfl rfl ?_
      | refine S.region_d (id := 9) (ds := [0, 0, 0, 6, 14, 31, 0, 0, 192, 448, 1023, 2047]) (mds := [[], [], [], [], [], [], [], [], [], [], [], []]) (hm := []) (by kernel_rfl) (by kernel_rfl) rfl rfl ?_
      | exact ih
      | refine S.loop ?_; conv => lhs; whnf
      | refine S.back_n ?_; conv => lhs; whnf
      | refine S.back_x ?_; conv => lhs; whnf
      | refine S.back_r ?_; conv => lhs; whnf
      | refine S.fin_r ?_; conv => lhs; whnf
      | refine S.fin_n ?_; conv => lhs; whnf
      | exact ret_c rfl
      | exact none_c
      | refine S.draw_op ?_; conv => lhs; whnf; arg 1; whnf
      | refine S.dk_n ?_; conv => lhs; whnf
      | refine S.draw_nil ?_; conv => lhs; whnf
      | refine andK_br ?_
      | refine andK_req ?_
      | refine andK_b ?_
set_option maxHeartbeats 4000000 in
theorem r21 (S : Seals) (k : Nat) (a0 : List Int) (a1 : List Int) : runF tt (g21 k) lv21 Try.f21 k [.dat (.int .i64) a0 true, .dat (.int .i64) a1 true] [] = bindO (ref14_Of.f k a0 a1) (fun x : Int => some (.i .i64 x, [])) := by
  unfold ref14_Of.f; refine S.run_s rfl rfl ?_; conv => lhs; arg 5; whnf
  conv => lhs; arg 6; whnf
  repeat' first
    | refine S.seq_op rfl ?_; conv => lhs; whnf
    | refine S.op_n ?_; conv => lhs; whnf
    | refine S.seq_nil ?_
    | refine S.reg_n ?_
    | refine S.region rfl ?_
    | refine S.two ?_
    | refine S.blok ?_
    | refine S.cond rfl ?_
    | refine S.after_n ?_
    | refine S.block_n ?_
    | refine S.block_x ?_; conv => lhs; whnf
    | refine S.block_r ?_
    | refine S.after_x ?_
    | refine S.after_r ?_
    | refine S.skip ?_
    | refine S.exit ?_
    | refine S.ret ?_
    | refine br_lt ?_; conv => lhs; whnf
    | refine br_lf ?_; conv => lhs; whnf
    | refine br_t (by assumption) ?_; conv => lhs; whnf
    | refine br_f (by assumption) ?_; conv => lhs; whnf
    | refine req_i (by assumption) ?_; conv => lhs; whnf
    | (refine br_nd (fun _ => ?_) (fun _ => ?_) <;> conv => lhs; whnf)
    | (refine br_d (fun _ => ?_) (fun _ => ?_) <;> conv => lhs; whnf)
    | (refine br_n (fun _ => ?_) (fun _ => ?_) <;> conv => lhs; whnf)
    | (refine br_c (fun _ => ?_) (fun _ => ?_) <;> conv => lhs; whnf)
    | refine req_c fun _ => ?_; conv => lhs; whnf
    | refine bnd_c fun _ => ?_; conv => lhs; whnf
    | refine sum_c (fun _ => ?_) (fun _ => ?_)
    | refine (w21_0 S k _).trans ?_
    | refine S.loop ?_; conv => lhs; whnf
    | refine S.back_n ?_; conv => lhs; whnf
    | refine S.back_x ?_; conv => lhs; whnf
    | refine S.back_r ?_; conv => lhs; whnf
    | refine S.fin_r ?_; conv => lhs; whnf
    | refine S.fin_n ?_; conv => lhs; whnf
    | exact ret_c rfl
    | exact none_c
    | refine S.draw_op ?_; conv => lhs; whnf; arg 1; whnf
    | refine S.dk_n ?_; conv => lhs; whnf
    | refine S.draw_nil ?_; conv => lhs; whnf
    | refine andK_br ?_
    | refine andK_req ?_
    | refine andK_b ?_
def sp21 (k : Nat) : FSpec := ⟨[.rd, .rd], fun args objs K => match args, objs with | [v0, v1], [] => listB (.int .i64) true v0 fun a0 => listB (.int .i64) true v1 fun a1 => bindO (ref14_Of.f k a0 a1) fun x : Int => K (.i .i64 x) [] | _, _ => none⟩
theorem snd21 (k : Nat) : Sound Try.prog 21 (sp21 k) := by
  refine ⟨⟨Try.f21, rfl, by kernel_rfl, rfl⟩, fun args objs K r h => ?_⟩
  unfold sp21 at h; dsimp only at h; split at h
  · rename_i v0 v1
    obtain ⟨a0, h, ca0⟩ := listB_spec h
    obtain ⟨a1, h, ca1⟩ := listB_spec h
    obtain ⟨x, hx, h⟩ := bindO_some h
    exact ⟨_, _, h, FnOK.args2 (relL_c ca0 (relL_c ca1 relL_n)) (fn_run tab_ok (en21 k) mixed rfl ((r21 seals k a0 a1).trans (bindO_eq hx)))⟩
  · cases h
end Go.Vm

/- ref14_At -/
namespace Go.Vm
open Go Go.Proofs Go.Pf
def lv9 : Live := look ⟨[], [], [], [], []⟩ [(5, ⟨[0, 1, 5, 6], [5], [4], [], []⟩), (1000000, ⟨[], [], [], [(4, 0, .own (.int .i64))], []⟩)]
noncomputable def g9 (k : Nat) : FEnv := (addF 20 (sp20 k) (fun _ => none))
theorem en9 (k : Nat) : EnvOK Try.prog (g9 k) := (envOK_add (snd20 k) (envOK_nil _))
set_option maxHeartbeats 4000000 in
theorem w9_0 (S : Seals) (k : Nat) : ∀ (n : Nat) {x0 : List Int} {x1 : Int} {x6 : Int} {y0 : List Int} {K : CK}, S.lp tt (g9 k) lv9 0 n (loopN Try.f9 0) ⟨[(0, .dat (.int .i64) x0 true), (1, .i .i64 x1), (5, .own 0), (6, .i .i64 x6)], [(0, .row (.int .i64) y0 false)], 1, 41⟩ K = bindO (ref14_At.l0 n x0 x1 x6 y0) (fun x : (List Int) => K (.exit 0) ⟨[(5, .own 0)], [(0, .row (.int .i64) x false)], 1, 41⟩) := by
  intro n; induction n with
  | zero => intros; rw [S.lp_zero]; exact none_c
  | succ n ih =>
    intros; rw [ref14_At.l0]; refine S.lp_succ ?_; conv => lhs; arg 5; whnf
    repeat' first
      | refine S.seq_op rfl ?_; conv => lhs; whnf
      | refine S.op_n ?_; conv => lhs; whnf
      | refine S.seq_nil ?_
      | refine S.reg_n ?_
      | refine S.region rfl ?_
      | refine S.two ?_
      | refine S.blok ?_
      | refine S.cond rfl ?_
      | refine S.after_n ?_
      | refine S.block_n ?_
      | refine S.block_x ?_; conv => lhs; whnf
      | refine S.block_r ?_
      | refine S.after_x ?_
      | refine S.after_r ?_
      | refine S.skip ?_
      | refine S.exit ?_
      | refine S.ret ?_
      | refine br_lt ?_; conv => lhs; whnf
      | refine br_lf ?_; conv => lhs; whnf
      | refine br_t (by assumption) ?_; conv => lhs; whnf
      | refine br_f (by assumption) ?_; conv => lhs; whnf
      | refine req_i (by assumption) ?_; conv => lhs; whnf
      | (refine br_nd (fun _ => ?_) (fun _ => ?_) <;> conv => lhs; whnf)
      | (refine br_d (fun _ => ?_) (fun _ => ?_) <;> conv => lhs; whnf)
      | (refine br_n (fun _ => ?_) (fun _ => ?_) <;> conv => lhs; whnf)
      | (refine br_c (fun _ => ?_) (fun _ => ?_) <;> conv => lhs; whnf)
      | refine req_c fun _ => ?_; conv => lhs; whnf
      | refine bnd_c fun _ => ?_; conv => lhs; whnf
      | refine sum_c (fun _ => ?_) (fun _ => ?_)
      | exact ih
      | refine S.loop ?_; conv => lhs; whnf
      | refine S.back_n ?_; conv => lhs; whnf
      | refine S.back_x ?_; conv => lhs; whnf
      | refine S.back_r ?_; conv => lhs; whnf
      | refine S.fin_r ?_; conv => lhs; whnf
      | refine S.fin_n ?_; conv => lhs; whnf
      | exact ret_c rfl
      | exact none_c
      | refine S.draw_op ?_; conv => lhs; whnf; arg 1; whnf
      | refine S.dk_n ?_; conv => lhs; whnf
      | refine S.draw_nil ?_; conv => lhs; whnf
      | refine andK_br ?_
      | refine andK_req ?_
      | refine andK_b ?_
set_option maxHeartbeats 4000000 in
theorem r9 (S : Seals) (k : Nat) (a0 : List Int) (a1 : Int) : runF tt (g9 k) lv9 Try.f9 k [.dat (.int .i64) a0 true, .i .i64 a1] [] = bindO (ref14_At.f k a0 a1) (fun x : (List Int) => some (.own 0, [.row (.int .i64) x false])) := by
  unfold ref14_At.f; refine S.run_s rfl rfl ?_; conv => lhs; arg 5; whnf
  conv => lhs; arg 6; whnf
  repeat' first
    | refine S.seq_op rfl ?_; conv => lhs; whnf
    | refine S.op_n ?_; conv => lhs; whnf
    | refine S.seq_nil ?_
    | refine S.reg_n ?_
    | refine S.region rfl ?_
    | refine S.two ?_
    | refine S.blok ?_
    | refine S.cond rfl ?_
    | refine S.after_n ?_
    | refine S.block_n ?_
    | refine S.block_x ?_; conv => lhs; whnf
    | refine S.block_r ?_
    | refine S.after_x ?_
    | refine S.after_r ?_
    | refine S.skip ?_
    | refine S.exit ?_
    | refine S.ret ?_
    | refine br_lt ?_; conv => lhs; whnf
    | refine br_lf ?_; conv => lhs; whnf
    | refine br_t (by assumption) ?_; conv => lhs; whnf
    | refine br_f (by assumption) ?_; conv => lhs; whnf
    | refine req_i (by assumption) ?_; conv => lhs; whnf
    | (refine br_nd (fun _ => ?_) (fun _ => ?_) <;> conv => lhs; whnf)
    | (refine br_d (fun _ => ?_) (fun _ => ?_) <;> conv => lhs; whnf)
    | (refine br_n (fun _ => ?_) (fun _ => ?_) <;> conv => lhs; whnf)
    | (refine br_c (fun _ => ?_) (fun _ => ?_) <;> conv => lhs; whnf)
    | refine req_c fun _ => ?_; conv => lhs; whnf
    | refine bnd_c fun _ => ?_; conv => lhs; whnf
    | refine sum_c (fun _ => ?_) (fun _ => ?_)
    | refine (w9_0 S k _).trans ?_
    | refine S.loop ?_; conv => lhs; whnf
    | refine S.back_n ?_; conv => lhs; whnf
    | refine S.back_x ?_; conv => lhs; whnf
    | refine S.back_r ?_; conv => lhs; whnf
    | refine S.fin_r ?_; conv => lhs; whnf
    | refine S.fin_n ?_; conv => lhs; whnf
    | exact ret_c rfl
    | exact none_c
    | refine S.draw_op ?_; conv => lhs; whnf; arg 1; whnf
    | refine S.dk_n ?_; conv => lhs; whnf
    | refine S.draw_nil ?_; conv => lhs; whnf
    | refine andK_br ?_
    | refine andK_req ?_
    | refine andK_b ?_
def sp9 (k : Nat) : FSpec := ⟨[.rd, .rd], fun args objs K => match args, objs with | [v0, .i .i64 a1], [] => listB (.int .i64) true v0 fun a0 => bindO (ref14_At.f k a0 a1) fun x : (List Int) => K (.own 0) [.row (.int .i64) x false] | _, _ => none⟩
theorem snd9 (k : Nat) : Sound Try.prog 9 (sp9 k) := by
  refine ⟨⟨Try.f9, rfl, by kernel_rfl, rfl⟩, fun args objs K r h => ?_⟩
  unfold sp9 at h; dsimp only at h; split at h
  · rename_i v0 a1
    obtain ⟨a0, h, ca0⟩ := listB_spec h
    obtain ⟨x, hx, h⟩ := bindO_some h
    exact ⟨_, _, h, FnOK.args2 (relL_c ca0 (relL_c rel_i relL_n)) (fn_run tab_ok (en9 k) mixed rfl ((r9 seals k a0 a1).trans (bindO_eq hx)))⟩
  · cases h
end Go.Vm

/- ref14_Group -/
namespace Go.Vm
open Go Go.Proofs Go.Pf
def lv22 : Live := look ⟨[], [], [], [], []⟩ [(6, ⟨[0, 2, 7, 8, 9], [8], [6], [(8, 0, .own (.int .i64))], []⟩), (1000000, ⟨[], [], [], [(6, 0, .own (.int .i64))], []⟩)]
noncomputable def g22 (k : Nat) : FEnv := (addF 21 (sp21 k) (addF 9 (sp9 k) (addF 20 (sp20 k) (fun _ => none))))
theorem en22 (k : Nat) : EnvOK Try.prog (g22 k) := (envOK_add (snd21 k) (envOK_add (snd9 k) (envOK_add (snd20 k) (envOK_nil _))))
set_option maxHeartbeats 4000000 in
theorem w22_0 (S : Seals) (k : Nat) : ∀ (n : Nat) {x0 : List Int} {x2 : Int} {x9 : Int} {y0 : List Int} {y1 : List Int} {K : CK}, S.lp tt (g22 k) lv22 0 n (loopN Try.f22 0) ⟨[(0, .dat (.int .i64) x0 true), (2, .i .i64 x2), (7, .own 0), (8, .own 1), (9, .i .i64 x9)], [(0, .row (.int .i64) y0 false), (1, .row (.int .i64) y1 false)], 2, 50⟩ K = bindO (ref14_Group.l0 k n x0 x2 x9 y0 y1) (fun x : (List Int) => K (.exit 0) ⟨[(8, .own 0)], [(0, .row (.int .i64) x false)], 1, 50⟩) := by
  intro n; induction n with
  | zero => intros; rw [S.lp_zero]; exact none_c
  | succ n ih =>
    intros; rw [ref14_Group.l0]; refine S.lp_succ ?_; conv => lhs; arg 5; whnf
    repeat' first
      | refine S.seq_op rfl ?_; conv => lhs; whnf
      | refine S.op_n ?_; conv => lhs; whnf
      | refine S.seq_nil ?_
      | refine S.reg_n ?_
      | refine S.region rfl ?_
      | refine S.two ?_
      | refine S.blok ?_
      | refine S.cond rfl ?_
      | refine S.after_n ?_
      | refine S.block_n ?_
      | refine S.block_x ?_; conv => lhs; whnf
      | refine S.block_r ?_
      | refine S.after_x ?_
      | refine S.after_r ?_
      | refine S.skip ?_
      | refine S.exit ?_
      | refine S.ret ?_
      | refine br_lt ?_; conv => lhs; whnf
      | refine br_lf ?_; conv => lhs; whnf
      | refine br_t (by assumption) ?_; conv => lhs; whnf
      | refine br_f (by assumption) ?_; conv => lhs; whnf
      | refine req_i (by assumption) ?_; conv => lhs; whnf
      | (refine br_nd (fun _ => ?_) (fun _ => ?_) <;> conv => lhs; whnf)
      | (refine br_d (fun _ => ?_) (fun _ => ?_) <;> conv => lhs; whnf)
      | (refine br_n (fun _ => ?_) (fun _ => ?_) <;> conv => lhs; whnf)
      | (refine br_c (fun _ => ?_) (fun _ => ?_) <;> conv => lhs; whnf)
      | refine req_c fun _ => ?_; conv => lhs; whnf
      | refine bnd_c fun _ => ?_; conv => lhs; whnf
      | refine sum_c (fun _ => ?_) (fun _ => ?_)
      | exact ih
      | refine S.loop ?_; conv => lhs; whnf
      | refine S.back_n ?_; conv => lhs; whnf
      | refine S.back_x ?_; conv => lhs; whnf
      | refine S.back_r ?_; conv => lhs; whnf
      | refine S.fin_r ?_; conv => lhs; whnf
      | refine S.fin_n ?_; conv => lhs; whnf
      | exact ret_c rfl
      | exact none_c
      | refine S.draw_op ?_; conv => lhs; whnf; arg 1; whnf
      | refine S.dk_n ?_; conv => lhs; whnf
      | refine S.draw_nil ?_; conv => lhs; whnf
      | refine andK_br ?_
      | refine andK_req ?_
      | refine andK_b ?_
set_option maxHeartbeats 4000000 in
theorem r22 (S : Seals) (k : Nat) (a0 : List Int) (a1 : Int) (a2 : Int) : runF tt (g22 k) lv22 Try.f22 k [.dat (.int .i64) a0 true, .i .i64 a1, .i .i64 a2] [] = bindO (ref14_Group.f k a0 a1 a2) (fun x : (List Int) => some (.own 0, [.row (.int .i64) x false])) := by
  unfold ref14_Group.f; refine S.run_s rfl rfl ?_; conv => lhs; arg 5; whnf
  conv => lhs; arg 6; whnf
  repeat' first
    | refine S.seq_op rfl ?_; conv => lhs; whnf
    | refine S.op_n ?_; conv => lhs; whnf
    | refine S.seq_nil ?_
    | refine S.reg_n ?_
    | refine S.region rfl ?_
    | refine S.two ?_
    | refine S.blok ?_
    | refine S.cond rfl ?_
    | refine S.after_n ?_
    | refine S.block_n ?_
    | refine S.block_x ?_; conv => lhs; whnf
    | refine S.block_r ?_
    | refine S.after_x ?_
    | refine S.after_r ?_
    | refine S.skip ?_
    | refine S.exit ?_
    | refine S.ret ?_
    | refine br_lt ?_; conv => lhs; whnf
    | refine br_lf ?_; conv => lhs; whnf
    | refine br_t (by assumption) ?_; conv => lhs; whnf
    | refine br_f (by assumption) ?_; conv => lhs; whnf
    | refine req_i (by assumption) ?_; conv => lhs; whnf
    | (refine br_nd (fun _ => ?_) (fun _ => ?_) <;> conv => lhs; whnf)
    | (refine br_d (fun _ => ?_) (fun _ => ?_) <;> conv => lhs; whnf)
    | (refine br_n (fun _ => ?_) (fun _ => ?_) <;> conv => lhs; whnf)
    | (refine br_c (fun _ => ?_) (fun _ => ?_) <;> conv => lhs; whnf)
    | refine req_c fun _ => ?_; conv => lhs; whnf
    | refine bnd_c fun _ => ?_; conv => lhs; whnf
    | refine sum_c (fun _ => ?_) (fun _ => ?_)
    | refine (w22_0 S k _).trans ?_
    | refine S.loop ?_; conv => lhs; whnf
    | refine S.back_n ?_; conv => lhs; whnf
    | refine S.back_x ?_; conv => lhs; whnf
    | refine S.back_r ?_; conv => lhs; whnf
    | refine S.fin_r ?_; conv => lhs; whnf
    | refine S.fin_n ?_; conv => lhs; whnf
    | exact ret_c rfl
    | exact none_c
    | refine S.draw_op ?_; conv => lhs; whnf; arg 1; whnf
    | refine S.dk_n ?_; conv => lhs; whnf
    | refine S.draw_nil ?_; conv => lhs; whnf
    | refine andK_br ?_
    | refine andK_req ?_
    | refine andK_b ?_
def sp22 (k : Nat) : FSpec := ⟨[.rd, .rd, .rd], fun args objs K => match args, objs with | [v0, .i .i64 a1, .i .i64 a2], [] => listB (.int .i64) true v0 fun a0 => bindO (ref14_Group.f k a0 a1 a2) fun x : (List Int) => K (.own 0) [.row (.int .i64) x false] | _, _ => none⟩
theorem snd22 (k : Nat) : Sound Try.prog 22 (sp22 k) := by
  refine ⟨⟨Try.f22, rfl, by kernel_rfl, rfl⟩, fun args objs K r h => ?_⟩
  unfold sp22 at h; dsimp only at h; split at h
  · rename_i v0 a1 a2
    obtain ⟨a0, h, ca0⟩ := listB_spec h
    obtain ⟨x, hx, h⟩ := bindO_some h
    exact ⟨_, _, h, FnOK.args2 (relL_c ca0 (relL_c rel_i (relL_c rel_i relL_n))) (fn_run tab_ok (en22 k) mixed rfl ((r22 seals k a0 a1 a2).trans (bindO_eq hx)))⟩
  · cases h
end Go.Vm

/- ref14_Step -/
namespace Go.Vm
open Go Go.Proofs Go.Pf
def lv23 : Live := look ⟨[], [], [], [], []⟩ []
noncomputable def g23 (k : Nat) : FEnv := (addF 9 (sp9 k) (addF 22 (sp22 k) (fun _ => none)))
theorem en23 (k : Nat) : EnvOK Try.prog (g23 k) := (envOK_add (snd9 k) (envOK_add (snd22 k) (envOK_nil _)))
set_option maxHeartbeats 4000000 in
theorem r23 (S : Seals) (k : Nat) (a0 : List Int) (a1 : Int) (a2 : Int) (a3 : Int) : runF tt (g23 k) lv23 Try.f23 k [.dat (.int .i64) a0 true, .i .i64 a1, .i .i64 a2, .i .i64 a3] [] = bindO (ref14_Step.f k a0 a1 a2 a3) (fun x : Int => some (.i .i64 x, [])) := by
  unfold ref14_Step.f; refine S.run_s rfl rfl ?_; conv => lhs; arg 5; whnf
  conv => lhs; arg 6; whnf
  repeat' first
    | refine S.seq_op rfl ?_; conv => lhs; whnf
    | refine S.op_n ?_; conv => lhs; whnf
    | refine S.seq_nil ?_
    | refine S.reg_n ?_
    | refine S.region rfl ?_
    | refine S.two ?_
    | refine S.blok ?_
    | refine S.cond rfl ?_
    | refine S.after_n ?_
    | refine S.block_n ?_
    | refine S.block_x ?_; conv => lhs; whnf
    | refine S.block_r ?_
    | refine S.after_x ?_
    | refine S.after_r ?_
    | refine S.skip ?_
    | refine S.exit ?_
    | refine S.ret ?_
    | refine br_lt ?_; conv => lhs; whnf
    | refine br_lf ?_; conv => lhs; whnf
    | refine br_t (by assumption) ?_; conv => lhs; whnf
    | refine br_f (by assumption) ?_; conv => lhs; whnf
    | refine req_i (by assumption) ?_; conv => lhs; whnf
    | (refine br_nd (fun _ => ?_) (fun _ => ?_) <;> conv => lhs; whnf)
    | (refine br_d (fun _ => ?_) (fun _ => ?_) <;> conv => lhs; whnf)
    | (refine br_n (fun _ => ?_) (fun _ => ?_) <;> conv => lhs; whnf)
    | (refine br_c (fun _ => ?_) (fun _ => ?_) <;> conv => lhs; whnf)
    | refine req_c fun _ => ?_; conv => lhs; whnf
    | refine bnd_c fun _ => ?_; conv => lhs; whnf
    | refine sum_c (fun _ => ?_) (fun _ => ?_)
    | refine S.region_d (id := 5) (ds := [0, 0, 0, 6, 0, 30, 62, 0, 0, 384, 1022, 0, 4094, 0, 16382, 0, 65534, 131071, 262143, 524287]) (mds := [[], [], [], [], [], [], [], [], [], [], [], [], [], [], [], [], [], [], [], []]) (hm := []) (by kernel_rfl) (by kernel_rfl) rfl rfl ?_
    | refine S.loop ?_; conv => lhs; whnf
    | refine S.back_n ?_; conv => lhs; whnf
    | refine S.back_x ?_; conv => lhs; whnf
    | refine S.back_r ?_; conv => lhs; whnf
    | refine S.fin_r ?_; conv => lhs; whnf
    | refine S.fin_n ?_; conv => lhs; whnf
    | exact ret_c rfl
    | exact none_c
    | refine S.draw_op ?_; conv => lhs; whnf; arg 1; whnf
    | refine S.dk_n ?_; conv => lhs; whnf
    | refine S.draw_nil ?_; conv => lhs; whnf
    | refine andK_br ?_
    | refine andK_req ?_
    | refine andK_b ?_
def sp23 (k : Nat) : FSpec := ⟨[.rd, .rd, .rd, .rd], fun args objs K => match args, objs with | [v0, .i .i64 a1, .i .i64 a2, .i .i64 a3], [] => listB (.int .i64) true v0 fun a0 => bindO (ref14_Step.f k a0 a1 a2 a3) fun x : Int => K (.i .i64 x) [] | _, _ => none⟩
theorem snd23 (k : Nat) : Sound Try.prog 23 (sp23 k) := by
  refine ⟨⟨Try.f23, rfl, by kernel_rfl, rfl⟩, fun args objs K r h => ?_⟩
  unfold sp23 at h; dsimp only at h; split at h
  · rename_i v0 a1 a2 a3
    obtain ⟨a0, h, ca0⟩ := listB_spec h
    obtain ⟨x, hx, h⟩ := bindO_some h
    exact ⟨_, _, h, FnOK.args2 (relL_c ca0 (relL_c rel_i (relL_c rel_i (relL_c rel_i relL_n)))) (fn_run tab_ok (en23 k) mixed rfl ((r23 seals k a0 a1 a2 a3).trans (bindO_eq hx)))⟩
  · cases h
end Go.Vm

/- law14_same -/
namespace Go.Vm
open Go Go.Proofs Go.Pf
def lv8 : Live := look ⟨[], [], [], [], []⟩ []
noncomputable def g8 (k : Nat) : FEnv := (addF 23 (sp23 k) (addF 16 (sp16 k) (addF 22 (sp22 k) (addF 15 (sp15 k) (addF 21 (sp21 k) (addF 13 (sp13 k) (addF 17 (sp17 k) (addF 9 (sp9 k) (addF 14 (sp14 k) (addF 20 (sp20 k) (addF 12 (sp12 k) (addF 19 (sp19 k) (addF 18 (sp18 k) (fun _ => none))))))))))))))
theorem en8 (k : Nat) : EnvOK Try.prog (g8 k) := (envOK_add (snd23 k) (envOK_add (snd16 k) (envOK_add (snd22 k) (envOK_add (snd15 k) (envOK_add (snd21 k) (envOK_add (snd13 k) (envOK_add (snd17 k) (envOK_add (snd9 k) (envOK_add (snd14 k) (envOK_add (snd20 k) (envOK_add (snd12 k) (envOK_add (snd19 k) (envOK_add (snd18 k) (envOK_nil _))))))))))))))
set_option maxHeartbeats 4000000 in
theorem r8 (S : Seals) (k : Nat) (a0 : List Int) (a1 : List Int) (a2 : Int) (a3 : Int) (a4 : Int) : runF tt (g8 k) lv8 Try.f8 k [.dat (.int .i64) a0 true, .dat (.int .i64) a1 true, .i .i64 a2, .i .i64 a3, .i .i64 a4] [] = bindO (law14_same.f k a0 a1 a2 a3 a4) (fun x : Bool => some (.b x, [])) := by
  unfold law14_same.f; refine S.run_s rfl rfl ?_; conv => lhs; arg 5; whnf
  conv => lhs; arg 6; whnf
  repeat' first
    | refine S.seq_op rfl ?_; conv => lhs; whnf
    | refine S.op_n ?_; conv => lhs; whnf
    | refine S.seq_nil ?_
    | refine S.reg_n ?_
    | refine S.region rfl ?_
    | refine S.two ?_
    | refine S.blok ?_
    | refine S.cond rfl ?_
    | refine S.after_n ?_
    | refine S.block_n ?_
    | refine S.block_x ?_; conv => lhs; whnf
    | refine S.block_r ?_
    | refine S.after_x ?_
    | refine S.after_r ?_
    | refine S.skip ?_
    | refine S.exit ?_
    | refine S.ret ?_
    | refine br_lt ?_; conv => lhs; whnf
    | refine br_lf ?_; conv => lhs; whnf
    | refine br_t (by assumption) ?_; conv => lhs; whnf
    | refine br_f (by assumption) ?_; conv => lhs; whnf
    | refine req_i (by assumption) ?_; conv => lhs; whnf
    | (refine br_nd (fun _ => ?_) (fun _ => ?_) <;> conv => lhs; whnf)
    | (refine br_d (fun _ => ?_) (fun _ => ?_) <;> conv => lhs; whnf)
    | (refine br_n (fun _ => ?_) (fun _ => ?_) <;> conv => lhs; whnf)
    | (refine br_c (fun _ => ?_) (fun _ => ?_) <;> conv => lhs; whnf)
    | refine req_c fun _ => ?_; conv => lhs; whnf
    | refine bnd_c fun _ => ?_; conv => lhs; whnf
    | refine sum_c (fun _ => ?_) (fun _ => ?_)
    | refine S.loop ?_; conv => lhs; whnf
    | refine S.back_n ?_; conv => lhs; whnf
    | refine S.back_x ?_; conv => lhs; whnf
    | refine S.back_r ?_; conv => lhs; whnf
    | refine S.fin_r ?_; conv => lhs; whnf
    | refine S.fin_n ?_; conv => lhs; whnf
    | exact ret_c rfl
    | exact none_c
    | refine S.draw_op ?_; conv => lhs; whnf; arg 1; whnf
    | refine S.dk_n ?_; conv => lhs; whnf
    | refine S.draw_nil ?_; conv => lhs; whnf
    | refine andK_br ?_
    | refine andK_req ?_
    | refine andK_b ?_
def sp8 (k : Nat) : FSpec := ⟨[.rd, .rd, .rd, .rd, .rd], fun args objs K => match args, objs with | [v0, v1, .i .i64 a2, .i .i64 a3, .i .i64 a4], [] => listB (.int .i64) true v0 fun a0 => listB (.int .i64) true v1 fun a1 => bindO (law14_same.f k a0 a1 a2 a3 a4) fun x : Bool => K (.b x) [] | _, _ => none⟩
theorem snd8 (k : Nat) : Sound Try.prog 8 (sp8 k) := by
  refine ⟨⟨Try.f8, rfl, by kernel_rfl, rfl⟩, fun args objs K r h => ?_⟩
  unfold sp8 at h; dsimp only at h; split at h
  · rename_i v0 v1 a2 a3 a4
    obtain ⟨a0, h, ca0⟩ := listB_spec h
    obtain ⟨a1, h, ca1⟩ := listB_spec h
    obtain ⟨x, hx, h⟩ := bindO_some h
    exact ⟨_, _, h, FnOK.args2 (relL_c ca0 (relL_c ca1 (relL_c rel_i (relL_c rel_i (relL_c rel_i relL_n))))) (fn_run tab_ok (en8 k) mixed rfl ((r8 seals k a0 a1 a2 a3 a4).trans (bindO_eq hx)))⟩
  · cases h
end Go.Vm

/- law14_MeshNumbers -/
namespace Go.Vm
open Go Go.Proofs Go.Pf
def lv3 : Live := look ⟨[], [], [], [], []⟩ [(2, ⟨[14, 15, 16], [], [0], [], []⟩), (5, ⟨[2, 3, 14, 15, 16], [14, 15, 16], [0], [], []⟩), (8, ⟨[2, 3, 4, 14, 15, 16], [2, 3, 14, 15, 16], [0], [], []⟩), (11, ⟨[2, 3, 4, 5, 14, 15, 16], [2, 3, 4, 14, 15, 16], [0], [], []⟩)]
noncomputable def g3 (k : Nat) : FEnv := (addF 10 (sp10 k) (addF 8 (sp8 k) (addF 9 (sp9 k) (addF 7 sp7 (fun _ => none)))))
theorem en3 (k : Nat) : EnvOK Try.prog (g3 k) := (envOK_add (snd10 k) (envOK_add (snd8 k) (envOK_add (snd9 k) (envOK_add snd7 (envOK_nil _)))))
set_option maxHeartbeats 4000000 in
theorem w3_3 (S : Seals) (k : Nat) : ∀ (n : Nat) {x2 : List Int} {x3 : Int} {x4 : Int} {x5 : Int} {x15 : Int} {x16 : Int} {y0 : List (List Int)} {K : CK}, S.lp tt (g3 k) lv3 0 n (loopN Try.f3 3) ⟨[(2, .dat (.int .i64) x2 false), (3, .i .i64 x3), (4, .i .i64 x4), (5, .i .i64 x5), (14, .own 0), (15, .i .i64 x15), (16, .i .i64 x16)], [(0, .row (.sl (.int .i64)) y0 false)], 1, 64⟩ K = bindO (law14_MeshNumbers.l3 k n x2 x3 x4 x5 x15 x16 y0) (Sum.elim (fun x : Unit => K (.exit 6) ⟨[(2, .dat (.int .i64) x2 false), (3, .i .i64 x3), (4, .i .i64 x4), (14, .own 0), (15, .i .i64 x15), (16, .i .i64 x16)], [(0, .row (.sl (.int .i64)) y0 false)], 1, 64⟩) (fun x : Bool => K .ret ⟨[(0, .b x)], [], 0, 64⟩)) := by
  intro n; induction n with
  | zero => intros; rw [S.lp_zero]; exact none_c
  | succ n ih =>
    intros; rw [law14_MeshNumbers.l3]; refine S.lp_succ ?_; conv => lhs; arg 5; whnf
    repeat' first
      | refine S.seq_op rfl ?_; conv => lhs; whnf
      | refine S.op_n ?_; conv => lhs; whnf
      | refine S.seq_nil ?_
      | refine S.reg_n ?_
      | refine S.region rfl ?_
      | refine S.two ?_
      | refine S.blok ?_
      | refine S.cond rfl ?_
      | refine S.after_n ?_
      | refine S.block_n ?_
      | refine S.block_x ?_; conv => lhs; whnf
      | refine S.block_r ?_
      | refine S.after_x ?_
      | refine S.after_r ?_
      | refine S.skip ?_
      | refine S.exit ?_
      | refine S.ret ?_
      | refine br_lt ?_; conv => lhs; whnf
      | refine br_lf ?_; conv => lhs; whnf
      | refine br_t (by assumption) ?_; conv => lhs; whnf
      | refine br_f (by assumption) ?_; conv => lhs; whnf
      | refine req_i (by assumption) ?_; conv => lhs; whnf
      | (refine br_nd (fun _ => ?_) (fun _ => ?_) <;> conv => lhs; whnf)
      | (refine br_d (fun _ => ?_) (fun _ => ?_) <;> conv => lhs; whnf)
      | (refine br_n (fun _ => ?_) (fun _ => ?_) <;> conv => lhs; whnf)
      | (refine br_c (fun _ => ?_) (fun _ => ?_) <;> conv => lhs; whnf)
      | refine req_c fun _ => ?_; conv => lhs; whnf
      | refine bnd_c fun _ => ?_; conv => lhs; whnf
      | refine sum_c (fun _ => ?_) (fun _ => ?_)
      | exact ih
      | refine S.loop ?_; conv => lhs; whnf
      | refine S.back_n ?_; conv => lhs; whnf
      | refine S.back_x ?_; conv => lhs; whnf
      | refine S.back_r ?_; conv => lhs; whnf
      | refine S.fin_r ?_; conv => lhs; whnf
      | refine S.fin_n ?_; conv => lhs; whnf
      | exact ret_c rfl
      | exact none_c
      | refine S.draw_op ?_; conv => lhs; whnf; arg 1; whnf
      | refine S.dk_n ?_; conv => lhs; whnf
      | refine S.draw_nil ?_; conv => lhs; whnf
      | refine andK_br ?_
      | refine andK_req ?_
      | refine andK_b ?_
set_option maxHeartbeats 4000000 in
theorem w3_2 (S : Seals) (k : Nat) : ∀ (n : Nat) {x2 : List Int} {x3 : Int} {x4 : Int} {x15 : Int} {x16 : Int} {y0 : List (List Int)} {K : CK}, S.lp tt (g3 k) lv3 0 n (loopN Try.f3 2) ⟨[(2, .dat (.int .i64) x2 false), (3, .i .i64 x3), (4, .i .i64 x4), (14, .own 0), (15, .i .i64 x15), (16, .i .i64 x16)], [(0, .row (.sl (.int .i64)) y0 false)], 1, 64⟩ K = bindO (law14_MeshNumbers.l2 k n x2 x3 x4 x15 x16 y0) (Sum.elim (fun x : Unit => K (.exit 4) ⟨[(2, .dat (.int .i64) x2 false), (3, .i .i64 x3), (14, .own 0), (15, .i .i64 x15), (16, .i .i64 x16)], [(0, .row (.sl (.int .i64)) y0 false)], 1, 64⟩) (fun x : Bool => K .ret ⟨[(0, .b x)], [], 0, 64⟩)) := by
  intro n; induction n with
  | zero => intros; rw [S.lp_zero]; exact none_c
  | succ n ih =>
    intros; rw [law14_MeshNumbers.l2]; refine S.lp_succ ?_; conv => lhs; arg 5; whnf
    repeat' first
      | refine S.seq_op rfl ?_; conv => lhs; whnf
      | refine S.op_n ?_; conv => lhs; whnf
      | refine S.seq_nil ?_
      | refine S.reg_n ?_
      | refine S.region rfl ?_
      | refine S.two ?_
      | refine S.blok ?_
      | refine S.cond rfl ?_
      | refine S.after_n ?_
      | refine S.block_n ?_
      | refine S.block_x ?_; conv => lhs; whnf
      | refine S.block_r ?_
      | refine S.after_x ?_
      | refine S.after_r ?_
      | refine S.skip ?_
      | refine S.exit ?_
      | refine S.ret ?_
      | refine br_lt ?_; conv => lhs; whnf
      | refine br_lf ?_; conv => lhs; whnf
      | refine br_t (by assumption) ?_; conv => lhs; whnf
      | refine br_f (by assumption) ?_; conv => lhs; whnf
      | refine req_i (by assumption) ?_; conv => lhs; whnf
      | (refine br_nd (fun _ => ?_) (fun _ => ?_) <;> conv => lhs; whnf)
      | (refine br_d (fun _ => ?_) (fun _ => ?_) <;> conv => lhs; whnf)
      | (refine br_n (fun _ => ?_) (fun _ => ?_) <;> conv => lhs; whnf)
      | (refine br_c (fun _ => ?_) (fun _ => ?_) <;> conv => lhs; whnf)
      | refine req_c fun _ => ?_; conv => lhs; whnf
      | refine bnd_c fun _ => ?_; conv => lhs; whnf
      | refine sum_c (fun _ => ?_) (fun _ => ?_)
      | exact ih
      | refine (w3_3 S k _).trans ?_
      | refine S.loop ?_; conv => lhs; whnf
      | refine S.back_n ?_; conv => lhs; whnf
      | refine S.back_x ?_; conv => lhs; whnf
      | refine S.back_r ?_; conv => lhs; whnf
      | refine S.fin_r ?_; conv => lhs; whnf
      | refine S.fin_n ?_; conv => lhs; whnf
      | exact ret_c rfl
      | exact none_c
      | refine S.draw_op ?_; conv => lhs; whnf; arg 1; whnf
      | refine S.dk_n ?_; conv => lhs; whnf
      | refine S.draw_nil ?_; conv => lhs; whnf
      | refine andK_br ?_
      | refine andK_req ?_
      | refine andK_b ?_
set_option maxHeartbeats 4000000 in
theorem w3_1 (S : Seals) (k : Nat) : ∀ (n : Nat) {x2 : List Int} {x3 : Int} {x15 : Int} {x16 : Int} {y0 : List (List Int)} {K : CK}, S.lp tt (g3 k) lv3 0 n (loopN Try.f3 1) ⟨[(2, .dat (.int .i64) x2 false), (3, .i .i64 x3), (14, .own 0), (15, .i .i64 x15), (16, .i .i64 x16)], [(0, .row (.sl (.int .i64)) y0 false)], 1, 64⟩ K = bindO (law14_MeshNumbers.l1 k n x2 x3 x15 x16 y0) (Sum.elim (fun x : Unit => K (.exit 2) ⟨[(14, .own 0), (15, .i .i64 x15), (16, .i .i64 x16)], [(0, .row (.sl (.int .i64)) y0 false)], 1, 64⟩) (fun x : Bool => K .ret ⟨[(0, .b x)], [], 0, 64⟩)) := by
  intro n; induction n with
  | zero => intros; rw [S.lp_zero]; exact none_c
  | succ n ih =>
    intros; rw [law14_MeshNumbers.l1]; refine S.lp_succ ?_; conv => lhs; arg 5; whnf
    repeat' first
      | refine S.seq_op rfl ?_; conv => lhs; whnf
      | refine S.op_n ?_; conv => lhs; whnf
      | refine S.seq_nil ?_
      | refine S.reg_n ?_
      | refine S.region rfl ?_
      | refine S.two ?_
      | refine S.blok ?_
      | refine S.cond rfl ?_
      | refine S.after_n ?_
      | refine S.block_n ?_
      | refine S.block_x ?_; conv => lhs; whnf
      | refine S.block_r ?_
      | refine S.after_x ?_
      | refine S.after_r ?_
      | refine S.skip ?_
      | refine S.exit ?_
      | refine S.ret ?_
      | refine br_lt ?_; conv => lhs; whnf
      | refine br_lf ?_; conv => lhs; whnf
      | refine br_t (by assumption) ?_; conv => lhs; whnf
      | refine br_f (by assumption) ?_; conv => lhs; whnf
      | refine req_i (by assumption) ?_; conv => lhs; whnf
      | (refine br_nd (fun _ => ?_) (fun _ => ?_) <;> conv => lhs; whnf)
      | (refine br_d (fun _ => ?_) (fun _ => ?_) <;> conv => lhs; whnf)
      | (refine br_n (fun _ => ?_) (fun _ => ?_) <;> conv => lhs; whnf)
      | (refine br_c (fun _ => ?_) (fun _ => ?_) <;> conv => lhs; whnf)
      | refine req_c fun _ => ?_; conv => lhs; whnf
      | refine bnd_c fun _ => ?_; conv => lhs; whnf
      | refine sum_c (fun _ => ?_) (fun _ => ?_)
      | exact ih
      | refine (w3_2 S k _).trans ?_
      | refine S.loop ?_; conv => lhs; whnf
      | refine S.back_n ?_; conv => lhs; whnf
      | refine S.back_x ?_; conv => lhs; whnf
      | refine S.back_r ?_; conv => lhs; whnf
      | refine S.fin_r ?_; conv => lhs; whnf
      | refine S.fin_n ?_; conv => lhs; whnf
      | exact ret_c rfl
      | exact none_c
      | refine S.draw_op ?_; conv => lhs; whnf; arg 1; whnf
      | refine S.dk_n ?_; conv => lhs; whnf
      | refine S.draw_nil ?_; conv => lhs; whnf
      | refine andK_br ?_
      | refine andK_req ?_
      | refine andK_b ?_
set_option maxHeartbeats 4000000 in
theorem w3_0 (S : Seals) (k : Nat) : ∀ (n : Nat) {x15 : Int} {x16 : Int} {y0 : List (List Int)} {K : CK}, S.lp tt (g3 k) lv3 0 n (loopN Try.f3 0) ⟨[(14, .own 0), (15, .i .i64 x15), (16, .i .i64 x16)], [(0, .row (.sl (.int .i64)) y0 false)], 1, 64⟩ K = bindO (law14_MeshNumbers.l0 k n x15 x16 y0) (Sum.elim (fun x : Unit => K (.exit 0) ⟨[], [], 0, 64⟩) (fun x : Bool => K .ret ⟨[(0, .b x)], [], 0, 64⟩)) := by
  intro n; induction n with
  | zero => intros; rw [S.lp_zero]; exact none_c
  | succ n ih =>
    intros; rw [law14_MeshNumbers.l0]; refine S.lp_succ ?_; conv => lhs; arg 5; whnf
    repeat' first
      | refine S.seq_op rfl ?_; conv => lhs; whnf
      | refine S.op_n ?_; conv => lhs; whnf
      | refine S.seq_nil ?_
      | refine S.reg_n ?_
      | refine S.region rfl ?_
      | refine S.two ?_
      | refine S.blok ?_
      | refine S.cond rfl ?_
      | refine S.after_n ?_
      | refine S.block_n ?_
      | refine S.block_x ?_; conv => lhs; whnf
      | refine S.block_r ?_
      | refine S.after_x ?_
      | refine S.after_r ?_
      | refine S.skip ?_
      | refine S.exit ?_
      | refine S.ret ?_
      | refine br_lt ?_; conv => lhs; whnf
      | refine br_lf ?_; conv => lhs; whnf
      | refine br_t (by assumption) ?_; conv => lhs; whnf
      | refine br_f (by assumption) ?_; conv => lhs; whnf
      | refine req_i (by assumption) ?_; conv => lhs; whnf
      | (refine br_nd (fun _ => ?_) (fun _ => ?_) <;> conv => lhs; whnf)
      | (refine br_d (fun _ => ?_) (fun _ => ?_) <;> conv => lhs; whnf)
      | (refine br_n (fun _ => ?_) (fun _ => ?_) <;> conv => lhs; whnf)
      | (refine br_c (fun _ => ?_) (fun _ => ?_) <;> conv => lhs; whnf)
      | refine req_c fun _ => ?_; conv => lhs; whnf
      | refine bnd_c fun _ => ?_; conv => lhs; whnf
      | refine sum_c (fun _ => ?_) (fun _ => ?_)
      | exact ih
      | refine (w3_1 S k _).trans ?_
      | refine S.loop ?_; conv => lhs; whnf
      | refine S.back_n ?_; conv => lhs; whnf
      | refine S.back_x ?_; conv => lhs; whnf
      | refine S.back_r ?_; conv => lhs; whnf
      | refine S.fin_r ?_; conv => lhs; whnf
      | refine S.fin_n ?_; conv => lhs; whnf
      | exact ret_c rfl
      | exact none_c
      | refine S.draw_op ?_; conv => lhs; whnf; arg 1; whnf
      | refine S.dk_n ?_; conv => lhs; whnf
      | refine S.draw_nil ?_; conv => lhs; whnf
      | refine andK_br ?_
      | refine andK_req ?_
      | refine andK_b ?_
set_option maxHeartbeats 4000000 in
theorem r3 (S : Seals) (k : Nat) : runF tt (g3 k) lv3 Try.f3 k [] [] = bindO (law14_MeshNumbers.f k) (fun x : Bool => some (.b x, [])) := by
  unfold law14_MeshNumbers.f; refine S.run_s rfl rfl ?_; conv => lhs; arg 5; whnf
  conv => lhs; arg 6; whnf
  repeat' first
    | refine S.seq_op rfl ?_; conv => lhs; whnf
    | refine S.op_n ?_; conv => lhs; whnf
    | refine S.seq_nil ?_
    | refine S.reg_n ?_
    | refine S.region rfl ?_
    | refine S.two ?_
    | refine S.blok ?_
    | refine S.cond rfl ?_
    | refine S.after_n ?_
    | refine S.block_n ?_
    | refine S.block_x ?_; conv => lhs; whnf
    | refine S.block_r ?_
    | refine S.after_x ?_
    | refine S.after_r ?_
    | refine S.skip ?_
    | refine S.exit ?_
    | refine S.ret ?_
    | refine br_lt ?_; conv => lhs; whnf
    | refine br_lf ?_; conv => lhs; whnf
    | refine br_t (by assumption) ?_; conv => lhs; whnf
    | refine br_f (by assumption) ?_; conv => lhs; whnf
    | refine req_i (by assumption) ?_; conv => lhs; whnf
    | (refine br_nd (fun _ => ?_) (fun _ => ?_) <;> conv => lhs; whnf)
    | (refine br_d (fun _ => ?_) (fun _ => ?_) <;> conv => lhs; whnf)
    | (refine br_n (fun _ => ?_) (fun _ => ?_) <;> conv => lhs; whnf)
    | (refine br_c (fun _ => ?_) (fun _ => ?_) <;> conv => lhs; whnf)
    | refine req_c fun _ => ?_; conv => lhs; whnf
    | refine bnd_c fun _ => ?_; conv => lhs; whnf
    | refine sum_c (fun _ => ?_) (fun _ => ?_)
    | refine (w3_0 S k _).trans ?_
    | refine S.loop ?_; conv => lhs; whnf
    | refine S.back_n ?_; conv => lhs; whnf
    | refine S.back_x ?_; conv => lhs; whnf
    | refine S.back_r ?_; conv => lhs; whnf
    | refine S.fin_r ?_; conv => lhs; whnf
    | refine S.fin_n ?_; conv => lhs; whnf
    | exact ret_c rfl
    | exact none_c
    | refine S.draw_op ?_; conv => lhs; whnf; arg 1; whnf
    | refine S.dk_n ?_; conv => lhs; whnf
    | refine S.draw_nil ?_; conv => lhs; whnf
    | refine andK_br ?_
    | refine andK_req ?_
    | refine andK_b ?_
def sp3 (k : Nat) : FSpec := ⟨[], fun args objs K => match args, objs with | [], [] => bindO (law14_MeshNumbers.f k) fun x : Bool => K (.b x) [] | _, _ => none⟩
theorem snd3 (k : Nat) : Sound Try.prog 3 (sp3 k) := by
  refine ⟨⟨Try.f3, rfl, by kernel_rfl, rfl⟩, fun args objs K r h => ?_⟩
  unfold sp3 at h; dsimp only at h; split at h
  · skip
    obtain ⟨x, hx, h⟩ := bindO_some h
    exact ⟨_, _, h, FnOK.args2 relL_n (fn_run tab_ok (en3 k) mixed rfl ((r3 seals k).trans (bindO_eq hx)))⟩
  · cases h
end Go.Vm
