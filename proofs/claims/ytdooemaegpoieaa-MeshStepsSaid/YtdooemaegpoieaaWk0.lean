/- Own texts put together: W14T, W14f18, W14f12 .. -/
import Derived.Test.YtdooemaegpoieaaVm1
import Derived.Test.YtdooemaegpoieaaPl0
import Derived.Test.YtdooemaegpoieaaProg
set_option linter.unusedVariables false
set_option linter.unusedSimpArgs false
namespace Go.Vm
open Go Go.Proofs Go.Pf
def tt : Tab := [default,
  default,
  default,
  ⟨.int .i64, 1, 8, [.i .i64 0], some (.int .i64)⟩,
  ⟨.bool, 1, 1, [.b false], some .bool⟩,
  default,
  default,
  default,
  default,
  default,
  default,
  default,
  default,
  default,
  default,
  default,
  default,
  default,
  default,
  default,
  default,
  default,
  ⟨.sl 24, 1, 24, [.nilsl], some (.sl (.sl (.int .i64)))⟩,
  default,
  ⟨.sl 3, 1, 24, [.nilsl], some (.sl (.int .i64))⟩]
theorem tab_ok : TabOK Try.prog tt := tabOK_of (by kernel_rfl)
theorem mixed : Try.prog.follows .mixedOrders = true := by kernel_rfl
end Go.Vm

/- mesh_Right -/
namespace Go.Vm
open Go Go.Proofs Go.Pf
def lv18 : Live := look ⟨[], [], [], [], []⟩ [(5, ⟨[3, 9, 10, 11], [3], [2], [], []⟩)]
noncomputable def g18 : FEnv := (fun _ => none)
theorem en18 : EnvOK Try.prog (g18) := (envOK_nil _)
set_option maxHeartbeats 4000000 in
theorem w18_0 (S : Seals) (k : Nat) : ∀ (n : Nat) {x3 : Int} {x9 : List Int} {x10 : Int} {x11 : Int} {K : CK}, S.lp tt (g18) lv18 0 n (loopN Try.f18 0) ⟨[(3, .i .i64 x3), (9, .dat (.int .i64) x9 true), (10, .i .i64 x10), (11, .i .i64 x11)], [], 0, 27⟩ K = bindO (mesh_Right.l0 n x3 x9 x10 x11) (Sum.elim (fun x : Int => K (.exit 0) ⟨[(3, .i .i64 x)], [], 0, 27⟩) (fun x : Bool => K .ret ⟨[(2, .b x)], [], 0, 27⟩)) := by
  intro n; induction n with
  | zero => intros; rw [S.lp_zero]; exact none_c
  | succ n ih =>
    intros; rw [mesh_Right.l0]; refine S.lp_succ ?_; conv => lhs; arg 5; whnf
    repeat' first
      | refine S.seq_op rfl ?_; conv => lhs; whnf
      | refine S.op_n ?_; conv => lhs; whnf
      | refine S.seq_nil ?_
      | refine S.reg_n ?_
      | refine S.region rfl ?_
      | refine S.two ?_
      | refine S.blok ?_
      | refine S.cond rfl ?_
      | refine S.after_n ?_
      | refine S.block_n ?_
      | refine S.block_x ?_; conv => lhs; whnf
      | refine S.block_r ?_
      | refine S.after_x ?_
      | refine S.after_r ?_
      | refine S.skip ?_
      | refine S.exit ?_
      | refine S.ret ?_
      | refine br_lt ?_; conv => lhs; whnf
      | refine br_lf ?_; conv => lhs; whnf
      | refine br_t (by assumption) ?_; conv => lhs; whnf
      | refine br_f (by assumption) ?_; conv => lhs; whnf
      | refine req_i (by assumption) ?_; conv => lhs; whnf
      | (refine br_nd (fun _ => ?_) (fun _ => ?_) <;> conv => lhs; whnf)
      | (refine br_d (fun _ => ?_) (fun _ => ?_) <;> conv => lhs; whnf)
      | (refine br_n (fun _ => ?_) (fun _ => ?_) <;> conv => lhs; whnf)
      | (refine br_c (fun _ => ?_) (fun _ => ?_) <;> conv => lhs; whnf)
      | refine req_c fun _ => ?_; conv => lhs; whnf
      | refine bnd_c fun _ => ?_; conv => lhs; whnf
      | refine sum_c (fun _ => ?_) (fun _ => ?_)
      | exact ih
      | refine S.loop ?_; conv => lhs; whnf
      | refine S.back_n ?_; conv => lhs; whnf
      | refine S.back_x ?_; conv => lhs; whnf
      | refine S.back_r ?_; conv => lhs; whnf
      | refine S.fin_r ?_; conv => lhs; whnf
      | refine S.fin_n ?_; conv => lhs; whnf
      | exact ret_c rfl
      | exact none_c
      | refine S.draw_op ?_; conv => lhs; whnf; arg 1; whnf
      | refine S.dk_n ?_; conv => lhs; whnf
      | refine S.draw_nil ?_; conv => lhs; whnf
      | refine andK_br ?_
      | refine andK_req ?_
      | refine andK_b ?_
set_option maxHeartbeats 4000000 in
theorem r18 (S : Seals) (k : Nat) (a0 : List Int) : runF tt (g18) lv18 Try.f18 k [.dat (.int .i64) a0 true] [] = bindO (mesh_Right.f k a0) (fun x : Bool => some (.b x, [])) := by
  unfold mesh_Right.f; refine S.run_s rfl rfl ?_; conv => lhs; arg 5; whnf
  conv => lhs; arg 6; whnf
  repeat' first
    | refine S.seq_op rfl ?_; conv => lhs; whnf
    | refine S.op_n ?_; conv => lhs; whnf
    | refine S.seq_nil ?_
    | refine S.reg_n ?_
    | refine S.region rfl ?_
    | refine S.two ?_
    | refine S.blok ?_
    | refine S.cond rfl ?_
    | refine S.after_n ?_
    | refine S.block_n ?_
    | refine S.block_x ?_; conv => lhs; whnf
    | refine S.block_r ?_
    | refine S.after_x ?_
    | refine S.after_r ?_
    | refine S.skip ?_
    | refine S.exit ?_
    | refine S.ret ?_
    | refine br_lt ?_; conv => lhs; whnf
    | refine br_lf ?_; conv => lhs; whnf
    | refine br_t (by assumption) ?_; conv => lhs; whnf
    | refine br_f (by assumption) ?_; conv => lhs; whnf
    | refine req_i (by assumption) ?_; conv => lhs; whnf
    | (refine br_nd (fun _ => ?_) (fun _ => ?_) <;> conv => lhs; whnf)
    | (refine br_d (fun _ => ?_) (fun _ => ?_) <;> conv => lhs; whnf)
    | (refine br_n (fun _ => ?_) (fun _ => ?_) <;> conv => lhs; whnf)
    | (refine br_c (fun _ => ?_) (fun _ => ?_) <;> conv => lhs; whnf)
    | refine req_c fun _ => ?_; conv => lhs; whnf
    | refine bnd_c fun _ => ?_; conv => lhs; whnf
    | refine sum_c (fun _ => ?_) (fun _ => ?_)
    | refine (w18_0 S k _).trans ?_
    | refine S.loop ?_; conv => lhs; whnf
    | refine S.back_n ?_; conv => lhs; whnf
    | refine S.back_x ?_; conv => lhs; whnf
    | refine S.back_r ?_; conv => lhs; whnf
    | refine S.fin_r ?_; conv => lhs; whnf
    | refine S.fin_n ?_; conv => lhs; whnf
    | exact ret_c rfl
    | exact none_c
    | refine S.draw_op ?_; conv => lhs; whnf; arg 1; whnf
    | refine S.dk_n ?_; conv => lhs; whnf
    | refine S.draw_nil ?_; conv => lhs; whnf
    | refine andK_br ?_
    | refine andK_req ?_
    | refine andK_b ?_
def sp18 (k : Nat) : FSpec := ⟨[.rd], fun args objs K => match args, objs with | [v0], [] => listB (.int .i64) true v0 fun a0 => bindO (mesh_Right.f k a0) fun x : Bool => K (.b x) [] | _, _ => none⟩
theorem snd18 (k : Nat) : Sound Try.prog 18 (sp18 k) := by
  refine ⟨⟨Try.f18, rfl, by kernel_rfl, rfl⟩, fun args objs K r h => ?_⟩
  unfold sp18 at h; dsimp only at h; split at h
  · rename_i v0
    obtain ⟨a0, h, ca0⟩ := listB_spec h
    obtain ⟨x, hx, h⟩ := bindO_some h
    exact ⟨_, _, h, FnOK.args2 (relL_c ca0 relL_n) (fn_run tab_ok (en18) mixed rfl ((r18 seals k a0).trans (bindO_eq hx)))⟩
  · cases h
end Go.Vm

/- mesh_Devices -/
namespace Go.Vm
open Go Go.Proofs Go.Pf
def lv12 : Live := look ⟨[], [], [], [], []⟩ [(5, ⟨[3, 9, 10, 11], [3], [2], [], []⟩)]
noncomputable def g12 (k : Nat) : FEnv := (addF 18 (sp18 k) (fun _ => none))
theorem en12 (k : Nat) : EnvOK Try.prog (g12 k) := (envOK_add (snd18 k) (envOK_nil _))
set_option maxHeartbeats 4000000 in
theorem w12_0 (S : Seals) (k : Nat) : ∀ (n : Nat) {x3 : Int} {x9 : List Int} {x10 : Int} {x11 : Int} {K : CK}, S.lp tt (g12 k) lv12 0 n (loopN Try.f12 0) ⟨[(3, .i .i64 x3), (9, .dat (.int .i64) x9 true), (10, .i .i64 x10), (11, .i .i64 x11)], [], 0, 20⟩ K = bindO (mesh_Devices.l0 n x3 x9 x10 x11) (fun x : Int => K (.exit 0) ⟨[(3, .i .i64 x)], [], 0, 20⟩) := by
  intro n; induction n with
  | zero => intros; rw [S.lp_zero]; exact none_c
  | succ n ih =>
    intros; rw [mesh_Devices.l0]; refine S.lp_succ ?_; conv => lhs; arg 5; whnf
    repeat' first
      | refine S.seq_op rfl ?_; conv => lhs; whnf
      | refine S.op_n ?_; conv => lhs; whnf
      | refine S.seq_nil ?_
      | refine S.reg_n ?_
      | refine S.region rfl ?_
      | refine S.two ?_
      | refine S.blok ?_
      | refine S.cond rfl ?_
      | refine S.after_n ?_
      | refine S.block_n ?_
      | refine S.block_x ?_; conv => lhs; whnf
      | refine S.block_r ?_
      | refine S.after_x ?_
      | refine S.after_r ?_
      | refine S.skip ?_
      | refine S.exit ?_
      | refine S.ret ?_
      | refine br_lt ?_; conv => lhs; whnf
      | refine br_lf ?_; conv => lhs; whnf
      | refine br_t (by assumption) ?_; conv => lhs; whnf
      | refine br_f (by assumption) ?_; conv => lhs; whnf
      | refine req_i (by assumption) ?_; conv => lhs; whnf
      | (refine br_nd (fun _ => ?_) (fun _ => ?_) <;> conv => lhs; whnf)
      | (refine br_d (fun _ => ?_) (fun _ => ?_) <;> conv => lhs; whnf)
      | (refine br_n (fun _ => ?_) (fun _ => ?_) <;> conv => lhs; whnf)
      | (refine br_c (fun _ => ?_) (fun _ => ?_) <;> conv => lhs; whnf)
      | refine req_c fun _ => ?_; conv => lhs; whnf
      | refine bnd_c fun _ => ?_; conv => lhs; whnf
      | refine sum_c (fun _ => ?_) (fun _ => ?_)
      | exact ih
      | refine S.loop ?_; conv => lhs; whnf
      | refine S.back_n ?_; conv => lhs; whnf
      | refine S.back_x ?_; conv => lhs; whnf
      | refine S.back_r ?_; conv => lhs; whnf
      | refine S.fin_r ?_; conv => lhs; whnf
      | refine S.fin_n ?_; conv => lhs; whnf
      | exact ret_c rfl
      | exact none_c
      | refine S.draw_op ?_; conv => lhs; whnf; arg 1; whnf
      | refine S.dk_n ?_; conv => lhs; whnf
      | refine S.draw_nil ?_; conv => lhs; whnf
      | refine andK_br ?_
      | refine andK_req ?_
      | refine andK_b ?_
set_option maxHeartbeats 4000000 in
theorem r12 (S : Seals) (k : Nat) (a0 : List Int) : runF tt (g12 k) lv12 Try.f12 k [.dat (.int .i64) a0 true] [] = bindO (mesh_Devices.f k a0) (fun x : Int => some (.i .i64 x, [])) := by
  unfold mesh_Devices.f; refine S.run_s rfl rfl ?_; conv => lhs; arg 5; whnf
  conv => lhs; arg 6; whnf
  repeat' first
    | refine S.seq_op rfl ?_; conv => lhs; whnf
    | refine S.op_n ?_; conv => lhs; whnf
    | refine S.seq_nil ?_
    | refine S.reg_n ?_
    | refine S.region rfl ?_
    | refine S.two ?_
    | refine S.blok ?_
    | refine S.cond rfl ?_
    | refine S.after_n ?_
    | refine S.block_n ?_
    | refine S.block_x ?_; conv => lhs; whnf
    | refine S.block_r ?_
    | refine S.after_x ?_
    | refine S.after_r ?_
    | refine S.skip ?_
    | refine S.exit ?_
    | refine S.ret ?_
    | refine br_lt ?_; conv => lhs; whnf
    | refine br_lf ?_; conv => lhs; whnf
    | refine br_t (by assumption) ?_; conv => lhs; whnf
    | refine br_f (by assumption) ?_; conv => lhs; whnf
    | refine req_i (by assumption) ?_; conv => lhs; whnf
    | (refine br_nd (fun _ => ?_) (fun _ => ?_) <;> conv => lhs; whnf)
    | (refine br_d (fun _ => ?_) (fun _ => ?_) <;> conv => lhs; whnf)
    | (refine br_n (fun _ => ?_) (fun _ => ?_) <;> conv => lhs; whnf)
    | (refine br_c (fun _ => ?_) (fun _ => ?_) <;> conv => lhs; whnf)
    | refine req_c fun _ => ?_; conv => lhs; whnf
    | refine bnd_c fun _ => ?_; conv => lhs; whnf
    | refine sum_c (fun _ => ?_) (fun _ => ?_)
    | refine (w12_0 S k _).trans ?_
    | refine S.loop ?_; conv => lhs; whnf
    | refine S.back_n ?_; conv => lhs; whnf
    | refine S.back_x ?_; conv => lhs; whnf
    | refine S.back_r ?_; conv => lhs; whnf
    | refine S.fin_r ?_; conv => lhs; whnf
    | refine S.fin_n ?_; conv => lhs; whnf
    | exact ret_c rfl
    | exact none_c
    | refine S.draw_op ?_; conv => lhs; whnf; arg 1; whnf
    | refine S.dk_n ?_; conv => lhs; whnf
    | refine S.draw_nil ?_; conv => lhs; whnf
    | refine andK_br ?_
    | refine andK_req ?_
    | refine andK_b ?_
def sp12 (k : Nat) : FSpec := ⟨[.rd], fun args objs K => match args, objs with | [v0], [] => listB (.int .i64) true v0 fun a0 => bindO (mesh_Devices.f k a0) fun x : Int => K (.i .i64 x) [] | _, _ => none⟩
theorem snd12 (k : Nat) : Sound Try.prog 12 (sp12 k) := by
  refine ⟨⟨Try.f12, rfl, by kernel_rfl, rfl⟩, fun args objs K r h => ?_⟩
  unfold sp12 at h; dsimp only at h; split at h
  · rename_i v0
    obtain ⟨a0, h, ca0⟩ := listB_spec h
    obtain ⟨x, hx, h⟩ := bindO_some h
    exact ⟨_, _, h, FnOK.args2 (relL_c ca0 relL_n) (fn_run tab_ok (en12 k) mixed rfl ((r12 seals k a0).trans (bindO_eq hx)))⟩
  · cases h
end Go.Vm

/- mesh_Of -/
namespace Go.Vm
open Go Go.Proofs Go.Pf
def lv13 : Live := look ⟨[], [], [], [], []⟩ [(5, ⟨[0, 5, 18, 19, 20], [5], [4], [], []⟩)]
noncomputable def g13 (k : Nat) : FEnv := (addF 18 (sp18 k) (fun _ => none))
theorem en13 (k : Nat) : EnvOK Try.prog (g13 k) := (envOK_add (snd18 k) (envOK_nil _))
set_option maxHeartbeats 4000000 in
theorem w13_0 (S : Seals) (k : Nat) : ∀ (n : Nat) {x0 : List Int} {x5 : Int} {x18 : List Int} {x19 : Int} {x20 : Int} {K : CK}, S.lp tt (g13 k) lv13 0 n (loopN Try.f13 0) ⟨[(0, .dat (.int .i64) x0 true), (5, .i .i64 x5), (18, .dat (.int .i64) x18 true), (19, .i .i64 x19), (20, .i .i64 x20)], [], 0, 45⟩ K = bindO (mesh_Of.l0 n x0 x5 x18 x19 x20) (Sum.elim (fun x : Int => K (.exit 0) ⟨[(5, .i .i64 x)], [], 0, 45⟩) (fun x : Int => K .ret ⟨[(4, .i .i64 x)], [], 0, 45⟩)) := by
  intro n; induction n with
  | zero => intros; rw [S.lp_zero]; exact none_c
  | succ n ih =>
    intros; rw [mesh_Of.l0]; refine S.lp_succ ?_; conv => lhs; arg 5; whnf
    repeat' first
      | refine S.seq_op rfl ?_; conv => lhs; whnf
      | refine S.op_n ?_; conv => lhs; whnf
      | refine S.seq_nil ?_
      | refine S.reg_n ?_
      | refine S.region rfl ?_
      | refine S.two ?_
      | refine S.blok ?_
      | refine S.cond rfl ?_
      | refine S.after_n ?_
      | refine S.block_n ?_
      | refine S.block_x ?_; conv => lhs; whnf
      | refine S.block_r ?_
      | refine S.after_x ?_
      | refine S.after_r ?_
      | refine S.skip ?_
      | refine S.exit ?_
      | refine S.ret ?_
      | refine br_lt ?_; conv => lhs; whnf
      | refine br_lf ?_; conv => lhs; whnf
      | refine br_t (by assumption) ?_; conv => lhs; whnf
      | refine br_f (by assumption) ?_; conv => lhs; whnf
      | refine req_i (by assumption) ?_; conv => lhs; whnf
      | (refine br_nd (fun _ => ?_) (fun _ => ?_) <;> conv => lhs; whnf)
      | (refine br_d (fun _ => ?_) (fun _ => ?_) <;> conv => lhs; whnf)
      | (refine br_n (fun _ => ?_) (fun _ => ?_) <;> conv => lhs; whnf)
      | (refine br_c (fun _ => ?_) (fun _ => ?_) <;> conv => lhs; whnf)
      | refine req_c fun _ => ?_; conv => lhs; whnf
      | refine bnd_c fun _ => ?_; conv => lhs; whnf
      | refine sum_c (fun _ => ?_) (fun _ => ?_)
      | exact ih
      | refine S.loop ?_; conv => lhs; whnf
      | refine S.back_n ?_; conv => lhs; whnf
      | refine S.back_x ?_; conv => lhs; whnf
      | refine S.back_r ?_; conv => lhs; whnf
      | refine S.fin_r ?_; conv => lhs; whnf
      | refine S.fin_n ?_; conv => lhs; whnf
      | exact ret_c rfl
      | exact none_c
      | refine S.draw_op ?_; conv => lhs; whnf; arg 1; whnf
      | refine S.dk_n ?_; conv => lhs; whnf
      | refine S.draw_nil ?_; conv => lhs; whnf
      | refine andK_br ?_
      | refine andK_req ?_
      | refine andK_b ?_
set_option maxHeartbeats 4000000 in
theorem r13 (S : Seals) (k : Nat) (a0 : List Int) (a1 : List Int) : runF tt (g13 k) lv13 Try.f13 k [.dat (.int .i64) a0 true, .dat (.int .i64) a1 true] [] = bindO (mesh_Of.f k a0 a1) (fun x : Int => some (.i .i64 x, [])) := by
  unfold mesh_Of.f; refine S.run_s rfl rfl ?_; conv => lhs; arg 5; whnf
  conv => lhs; arg 6; whnf
  repeat' first
    | refine S.seq_op rfl ?_; conv => lhs; whnf
    | refine S.op_n ?_; conv => lhs; whnf
    | refine S.seq_nil ?_
    | refine S.reg_n ?_
    | refine S.region rfl ?_
    | refine S.two ?_
    | refine S.blok ?_
    | refine S.cond rfl ?_
    | refine S.after_n ?_
    | refine S.block_n ?_
    | refine S.block_x ?_; conv => lhs; whnf
    | refine S.block_r ?_
    | refine S.after_x ?_
    | refine S.after_r ?_
    | refine S.skip ?_
    | refine S.exit ?_
    | refine S.ret ?_
    | refine br_lt ?_; conv => lhs; whnf
    | refine br_lf ?_; conv => lhs; whnf
    | refine br_t (by assumption) ?_; conv => lhs; whnf
    | refine br_f (by assumption) ?_; conv => lhs; whnf
    | refine req_i (by assumption) ?_; conv => lhs; whnf
    | (refine br_nd (fun _ => ?_) (fun _ => ?_) <;> conv => lhs; whnf)
    | (refine br_d (fun _ => ?_) (fun _ => ?_) <;> conv => lhs; whnf)
    | (refine br_n (fun _ => ?_) (fun _ => ?_) <;> conv => lhs; whnf)
    | (refine br_c (fun _ => ?_) (fun _ => ?_) <;> conv => lhs; whnf)
    | refine req_c fun _ => ?_; conv => lhs; whnf
    | refine bnd_c fun _ => ?_; conv => lhs; whnf
    | refine sum_c (fun _ => ?_) (fun _ => ?_)
    | refine (w13_0 S k _).trans ?_
    | refine S.loop ?_; conv => lhs; whnf
    | refine S.back_n ?_; conv => lhs; whnf
    | refine S.back_x ?_; conv => lhs; whnf
    | refine S.back_r ?_; conv => lhs; whnf
    | refine S.fin_r ?_; conv => lhs; whnf
    | refine S.fin_n ?_; conv => lhs; whnf
    | exact ret_c rfl
    | exact none_c
    | refine S.draw_op ?_; conv => lhs; whnf; arg 1; whnf
    | refine S.dk_n ?_; conv => lhs; whnf
    | refine S.draw_nil ?_; conv => lhs; whnf
    | refine andK_br ?_
    | refine andK_req ?_
    | refine andK_b ?_
def sp13 (k : Nat) : FSpec := ⟨[.rd, .rd], fun args objs K => match args, objs with | [v0, v1], [] => listB (.int .i64) true v0 fun a0 => listB (.int .i64) true v1 fun a1 => bindO (mesh_Of.f k a0 a1) fun x : Int => K (.i .i64 x) [] | _, _ => none⟩
theorem snd13 (k : Nat) : Sound Try.prog 13 (sp13 k) := by
  refine ⟨⟨Try.f13, rfl, by kernel_rfl, rfl⟩, fun args objs K r h => ?_⟩
  unfold sp13 at h; dsimp only at h; split at h
  · rename_i v0 v1
    obtain ⟨a0, h, ca0⟩ := listB_spec h
    obtain ⟨a1, h, ca1⟩ := listB_spec h
    obtain ⟨x, hx, h⟩ := bindO_some h
    exact ⟨_, _, h, FnOK.args2 (relL_c ca0 (relL_c ca1 relL_n)) (fn_run tab_ok (en13 k) mixed rfl ((r13 seals k a0 a1).trans (bindO_eq hx)))⟩
  · cases h
end Go.Vm

/- mesh_At -/
namespace Go.Vm
open Go Go.Proofs Go.Pf
def lv14 : Live := look ⟨[], [], [], [], []⟩ [(5, ⟨[0, 1, 5, 6], [5], [4], [], []⟩), (1000000, ⟨[], [], [], [(4, 0, .own (.int .i64))], []⟩)]
noncomputable def g14 (k : Nat) : FEnv := (addF 12 (sp12 k) (fun _ => none))
theorem en14 (k : Nat) : EnvOK Try.prog (g14 k) := (envOK_add (snd12 k) (envOK_nil _))
set_option maxHeartbeats 4000000 in
theorem w14_0 (S : Seals) (k : Nat) : ∀ (n : Nat) {x0 : List Int} {x1 : Int} {x6 : Int} {y0 : List Int} {K : CK}, S.lp tt (g14 k) lv14 0 n (loopN Try.f14 0) ⟨[(0, .dat (.int .i64) x0 true), (1, .i .i64 x1), (5, .own 0), (6, .i .i64 x6)], [(0, .row (.int .i64) y0 false)], 1, 41⟩ K = bindO (mesh_At.l0 n x0 x1 x6 y0) (fun x : (List Int) => K (.exit 0) ⟨[(5, .own 0)], [(0, .row (.int .i64) x false)], 1, 41⟩) := by
  intro n; induction n with
  | zero => intros; rw [S.lp_zero]; exact none_c
  | succ n ih =>
    intros; rw [mesh_At.l0]; refine S.lp_succ ?_; conv => lhs; arg 5; whnf
    repeat' first
      | refine S.seq_op rfl ?_; conv => lhs; whnf
      | refine S.op_n ?_; conv => lhs; whnf
      | refine S.seq_nil ?_
      | refine S.reg_n ?_
      | refine S.region rfl ?_
      | refine S.two ?_
      | refine S.blok ?_
      | refine S.cond rfl ?_
      | refine S.after_n ?_
      | refine S.block_n ?_
      | refine S.block_x ?_; conv => lhs; whnf
      | refine S.block_r ?_
      | refine S.after_x ?_
      | refine S.after_r ?_
      | refine S.skip ?_
      | refine S.exit ?_
      | refine S.ret ?_
      | refine br_lt ?_; conv => lhs; whnf
      | refine br_lf ?_; conv => lhs; whnf
      | refine br_t (by assumption) ?_; conv => lhs; whnf
      | refine br_f (by assumption) ?_; conv => lhs; whnf
      | refine req_i (by assumption) ?_; conv => lhs; whnf
      | (refine br_nd (fun _ => ?_) (fun _ => ?_) <;> conv => lhs; whnf)
      | (refine br_d (fun _ => ?_) (fun _ => ?_) <;> conv => lhs; whnf)
      | (refine br_n (fun _ => ?_) (fun _ => ?_) <;> conv => lhs; whnf)
      | (refine br_c (fun _ => ?_) (fun _ => ?_) <;> conv => lhs; whnf)
      | refine req_c fun _ => ?_; conv => lhs; whnf
      | refine bnd_c fun _ => ?_; conv => lhs; whnf
      | refine sum_c (fun _ => ?_) (fun _ => ?_)
      | exact ih
      | refine S.loop ?_; conv => lhs; whnf
      | refine S.back_n ?_; conv => lhs; whnf
      | refine S.back_x ?_; conv => lhs; whnf
      | refine S.back_r ?_; conv => lhs; whnf
      | refine S.fin_r ?_; conv => lhs; whnf
      | refine S.fin_n ?_; conv => lhs; whnf
      | exact ret_c rfl
      | exact none_c
      | refine S.draw_op ?_; conv => lhs; whnf; arg 1; whnf
      | refine S.dk_n ?_; conv => lhs; whnf
      | refine S.draw_nil ?_; conv => lhs; whnf
      | refine andK_br ?_
      | refine andK_req ?_
      | refine andK_b ?_
set_option maxHeartbeats 4000000 in
theorem r14 (S : Seals) (k : Nat) (a0 : List Int) (a1 : Int) : runF tt (g14 k) lv14 Try.f14 k [.dat (.int .i64) a0 true, .i .i64 a1] [] = bindO (mesh_At.f k a0 a1) (fun x : (List Int) => some (.own 0, [.row (.int .i64) x false])) := by
  unfold mesh_At.f; refine S.run_s rfl rfl ?_; conv => lhs; arg 5; whnf
  conv => lhs; arg 6; whnf
  repeat' first
    | refine S.seq_op rfl ?_; conv => lhs; whnf
    | refine S.op_n ?_; conv => lhs; whnf
    | refine S.seq_nil ?_
    | refine S.reg_n ?_
    | refine S.region rfl ?_
    | refine S.two ?_
    | refine S.blok ?_
    | refine S.cond rfl ?_
    | refine S.after_n ?_
    | refine S.block_n ?_
    | refine S.block_x ?_; conv => lhs; whnf
    | refine S.block_r ?_
    | refine S.after_x ?_
    | refine S.after_r ?_
    | refine S.skip ?_
    | refine S.exit ?_
    | refine S.ret ?_
    | refine br_lt ?_; conv => lhs; whnf
    | refine br_lf ?_; conv => lhs; whnf
    | refine br_t (by assumption) ?_; conv => lhs; whnf
    | refine br_f (by assumption) ?_; conv => lhs; whnf
    | refine req_i (by assumption) ?_; conv => lhs; whnf
    | (refine br_nd (fun _ => ?_) (fun _ => ?_) <;> conv => lhs; whnf)
    | (refine br_d (fun _ => ?_) (fun _ => ?_) <;> conv => lhs; whnf)
    | (refine br_n (fun _ => ?_) (fun _ => ?_) <;> conv => lhs; whnf)
    | (refine br_c (fun _ => ?_) (fun _ => ?_) <;> conv => lhs; whnf)
    | refine req_c fun _ => ?_; conv => lhs; whnf
    | refine bnd_c fun _ => ?_; conv => lhs; whnf
    | refine sum_c (fun _ => ?_) (fun _ => ?_)
    | refine (w14_0 S k _).trans ?_
    | refine S.loop ?_; conv => lhs; whnf
    | refine S.back_n ?_; conv => lhs; whnf
    | refine S.back_x ?_; conv => lhs; whnf
    | refine S.back_r ?_; conv => lhs; whnf
    | refine S.fin_r ?_; conv => lhs; whnf
    | refine S.fin_n ?_; conv => lhs; whnf
    | exact ret_c rfl
    | exact none_c
    | refine S.draw_op ?_; conv => lhs; whnf; arg 1; whnf
    | refine S.dk_n ?_; conv => lhs; whnf
    | refine S.draw_nil ?_; conv => lhs; whnf
    | refine andK_br ?_
    | refine andK_req ?_
    | refine andK_b ?_
def sp14 (k : Nat) : FSpec := ⟨[.rd, .rd], fun args objs K => match args, objs with | [v0, .i .i64 a1], [] => listB (.int .i64) true v0 fun a0 => bindO (mesh_At.f k a0 a1) fun x : (List Int) => K (.own 0) [.row (.int .i64) x false] | _, _ => none⟩
theorem snd14 (k : Nat) : Sound Try.prog 14 (sp14 k) := by
  refine ⟨⟨Try.f14, rfl, by kernel_rfl, rfl⟩, fun args objs K r h => ?_⟩
  unfold sp14 at h; dsimp only at h; split at h
  · rename_i v0 a1
    obtain ⟨a0, h, ca0⟩ := listB_spec h
    obtain ⟨x, hx, h⟩ := bindO_some h
    exact ⟨_, _, h, FnOK.args2 (relL_c ca0 (relL_c rel_i relL_n)) (fn_run tab_ok (en14 k) mixed rfl ((r14 seals k a0 a1).trans (bindO_eq hx)))⟩
  · cases h
end Go.Vm

/- mesh_there -/
namespace Go.Vm
open Go Go.Proofs Go.Pf
def lv24 : Live := look ⟨[], [], [], [], []⟩ []
noncomputable def g24 (k : Nat) : FEnv := (addF 12 (sp12 k) (fun _ => none))
theorem en24 (k : Nat) : EnvOK Try.prog (g24 k) := (envOK_add (snd12 k) (envOK_nil _))
set_option maxHeartbeats 4000000 in
theorem r24 (S : Seals) (k : Nat) (a0 : List Int) (a1 : Int) (a2 : Int) : runF tt (g24 k) lv24 Try.f24 k [.dat (.int .i64) a0 true, .i .i64 a1, .i .i64 a2] [] = bindO (mesh_there.f k a0 a1 a2) (fun x : Bool => some (.b x, [])) := by
  unfold mesh_there.f; refine S.run_s rfl rfl ?_; conv => lhs; arg 5; whnf
  conv => lhs; arg 6; whnf
  repeat' first
    | refine S.seq_op rfl ?_; conv => lhs; whnf
    | refine S.op_n ?_; conv => lhs; whnf
    | refine S.seq_nil ?_
    | refine S.reg_n ?_
    | refine S.region rfl ?_
    | refine S.two ?_
    | refine S.blok ?_
    | refine S.cond rfl ?_
    | refine S.after_n ?_
    | refine S.block_n ?_
    | refine S.block_x ?_; conv => lhs; whnf
    | refine S.block_r ?_
    | refine S.after_x ?_
    | refine S.after_r ?_
    | refine S.skip ?_
    | refine S.exit ?_
    | refine S.ret ?_
    | refine br_lt ?_; conv => lhs; whnf
    | refine br_lf ?_; conv => lhs; whnf
    | refine br_t (by assumption) ?_; conv => lhs; whnf
    | refine br_f (by assumption) ?_; conv => lhs; whnf
    | refine req_i (by assumption) ?_; conv => lhs; whnf
    | (refine br_nd (fun _ => ?_) (fun _ => ?_) <;> conv => lhs; whnf)
    | (refine br_d (fun _ => ?_) (fun _ => ?_) <;> conv => lhs; whnf)
    | (refine br_n (fun _ => ?_) (fun _ => ?_) <;> conv => lhs; whnf)
    | (refine br_c (fun _ => ?_) (fun _ => ?_) <;> conv => lhs; whnf)
    | refine req_c fun _ => ?_; conv => lhs; whnf
    | refine bnd_c fun _ => ?_; conv => lhs; whnf
    | refine sum_c (fun _ => ?_) (fun _ => ?_)
    | refine S.loop ?_; conv => lhs; whnf
    | refine S.back_n ?_; conv => lhs; whnf
    | refine S.back_x ?_; conv => lhs; whnf
    | refine S.back_r ?_; conv => lhs; whnf
    | refine S.fin_r ?_; conv => lhs; whnf
    | refine S.fin_n ?_; conv => lhs; whnf
    | exact ret_c rfl
    | exact none_c
    | refine S.draw_op ?_; conv => lhs; whnf; arg 1; whnf
    | refine S.dk_n ?_; conv => lhs; whnf
    | refine S.draw_nil ?_; conv => lhs; whnf
    | refine andK_br ?_
    | refine andK_req ?_
    | refine andK_b ?_
def sp24 (k : Nat) : FSpec := ⟨[.rd, .rd, .rd], fun args objs K => match args, objs with | [v0, .i .i64 a1, .i .i64 a2], [] => listB (.int .i64) true v0 fun a0 => bindO (mesh_there.f k a0 a1 a2) fun x : Bool => K (.b x) [] | _, _ => none⟩
theorem snd24 (k : Nat) : Sound Try.prog 24 (sp24 k) := by
  refine ⟨⟨Try.f24, rfl, by kernel_rfl, rfl⟩, fun args objs K r h => ?_⟩
  unfold sp24 at h; dsimp only at h; split at h
  · rename_i v0 a1 a2
    obtain ⟨a0, h, ca0⟩ := listB_spec h
    obtain ⟨x, hx, h⟩ := bindO_some h
    exact ⟨_, _, h, FnOK.args2 (relL_c ca0 (relL_c rel_i (relL_c rel_i relL_n))) (fn_run tab_ok (en24 k) mixed rfl ((r24 seals k a0 a1 a2).trans (bindO_eq hx)))⟩
  · cases h
end Go.Vm

/- mesh_Group -/
namespace Go.Vm
open Go Go.Proofs Go.Pf
def lv15 : Live := look ⟨[], [], [], [], []⟩ [(6, ⟨[0, 2, 7, 8], [8], [6], [(8, 0, .own (.int .i64))], []⟩), (1000000, ⟨[], [], [], [(6, 0, .own (.int .i64))], []⟩)]
noncomputable def g15 (k : Nat) : FEnv := (addF 13 (sp13 k) (addF 14 (sp14 k) (addF 24 (sp24 k) (fun _ => none))))
theorem en15 (k : Nat) : EnvOK Try.prog (g15 k) := (envOK_add (snd13 k) (envOK_add (snd14 k) (envOK_add (snd24 k) (envOK_nil _))))
set_option maxHeartbeats 4000000 in
theorem w15_0 (S : Seals) (k : Nat) : ∀ (n : Nat) {x0 : List Int} {x2 : Int} {y0 : List Int} {y1 : List Int} {K : CK}, S.lp tt (g15 k) lv15 0 n (loopN Try.f15 0) ⟨[(0, .dat (.int .i64) x0 true), (2, .i .i64 x2), (7, .own 0), (8, .own 1)], [(0, .row (.int .i64) y0 false), (1, .row (.int .i64) y1 false)], 2, 42⟩ K = bindO (mesh_Group.l0 k n x0 x2 y0 y1) (fun x : (List Int) => K (.exit 0) ⟨[(8, .own 0)], [(0, .row (.int .i64) x false)], 1, 42⟩) := by
  intro n; induction n with
  | zero => intros; rw [S.lp_zero]; exact none_c
  | succ n ih =>
    intros; rw [mesh_Group.l0]; refine S.lp_succ ?_; conv => lhs; arg 5; whnf
    repeat' first
      | refine S.seq_op rfl ?_; conv => lhs; whnf
      | refine S.op_n ?_; conv => lhs; whnf
      | refine S.seq_nil ?_
      | refine S.reg_n ?_
      | refine S.region rfl ?_
      | refine S.two ?_
      | refine S.blok ?_
      | refine S.cond rfl ?_
      | refine S.after_n ?_
      | refine S.block_n ?_
      | refine S.block_x ?_; conv => lhs; whnf
      | refine S.block_r ?_
      | refine S.after_x ?_
      | refine S.after_r ?_
      | refine S.skip ?_
      | refine S.exit ?_
      | refine S.ret ?_
      | refine br_lt ?_; conv => lhs; whnf
      | refine br_lf ?_; conv => lhs; whnf
      | refine br_t (by assumption) ?_; conv => lhs; whnf
      | refine br_f (by assumption) ?_; conv => lhs; whnf
      | refine req_i (by assumption) ?_; conv => lhs; whnf
      | (refine br_nd (fun _ => ?_) (fun _ => ?_) <;> conv => lhs; whnf)
      | (refine br_d (fun _ => ?_) (fun _ => ?_) <;> conv => lhs; whnf)
      | (refine br_n (fun _ => ?_) (fun _ => ?_) <;> conv => lhs; whnf)
      | (refine br_c (fun _ => ?_) (fun _ => ?_) <;> conv => lhs; whnf)
      | refine req_c fun _ => ?_; conv => lhs; whnf
      | refine bnd_c fun _ => ?_; conv => lhs; whnf
      | refine sum_c (fun _ => ?_) (fun _ => ?_)
      | refine S.region_d (id := 6) (ds := [0, 0, 3, 7, 0, 0, 48, 112, 255]) (mds := [[], [], [], [], [], [], [], [], []]) (hm := []) (by kernel_rfl) (by kernel_rfl) rfl rfl ?_
      | exact ih
      | refine S.loop ?_; conv => lhs; whnf
      | refine S.back_n ?_; conv => lhs; whnf
      | refine S.back_x ?_; conv => lhs; whnf
      | refine S.back_r ?_; conv => lhs; whnf
      | refine S.fin_r ?_; conv => lhs; whnf
      | refine S.fin_n ?_; conv => lhs; whnf
      | exact ret_c rfl
      | exact none_c
      | refine S.draw_op ?_; conv => lhs; whnf; arg 1; whnf
      | refine S.dk_n ?_; conv => lhs; whnf
      | refine S.draw_nil ?_; conv => lhs; whnf
      | refine andK_br ?_
      | refine andK_req ?_
      | refine andK_b ?_
set_option maxHeartbeats 4000000 in
theorem r15 (S : Seals) (k : Nat) (a0 : List Int) (a1 : Int) (a2 : Int) : runF tt (g15 k) lv15 Try.f15 k [.dat (.int .i64) a0 true, .i .i64 a1, .i .i64 a2] [] = bindO (mesh_Group.f k a0 a1 a2) (fun x : (List Int) => some (.own 0, [.row (.int .i64) x false])) := by
  unfold mesh_Group.f; refine S.run_s rfl rfl ?_; conv => lhs; arg 5; whnf
  conv => lhs; arg 6; whnf
  repeat' first
    | refine S.seq_op rfl ?_; conv => lhs; whnf
    | refine S.op_n ?_; conv => lhs; whnf
    | refine S.seq_nil ?_
    | refine S.reg_n ?_
    | refine S.region rfl ?_
    | refine S.two ?_
    | refine S.blok ?_
    | refine S.cond rfl ?_
    | refine S.after_n ?_
    | refine S.block_n ?_
    | refine S.block_x ?_; conv => lhs; whnf
    | refine S.block_r ?_
    | refine S.after_x ?_
    | refine S.after_r ?_
    | refine S.skip ?_
    | refine S.exit ?_
    | refine S.ret ?_
    | refine br_lt ?_; conv => lhs; whnf
    | refine br_lf ?_; conv => lhs; whnf
    | refine br_t (by assumption) ?_; conv => lhs; whnf
    | refine br_f (by assumption) ?_; conv => lhs; whnf
    | refine req_i (by assumption) ?_; conv => lhs; whnf
    | (refine br_nd (fun _ => ?_) (fun _ => ?_) <;> conv => lhs; whnf)
    | (refine br_d (fun _ => ?_) (fun _ => ?_) <;> conv => lhs; whnf)
    | (refine br_n (fun _ => ?_) (fun _ => ?_) <;> conv => lhs; whnf)
    | (refine br_c (fun _ => ?_) (fun _ => ?_) <;> conv => lhs; whnf)
    | refine req_c fun _ => ?_; conv => lhs; whnf
    | refine bnd_c fun _ => ?_; conv => lhs; whnf
    | refine sum_c (fun _ => ?_) (fun _ => ?_)
    | refine (w15_0 S k _).trans ?_
    | refine S.loop ?_; conv => lhs; whnf
    | refine S.back_n ?_; conv => lhs; whnf
    | refine S.back_x ?_; conv => lhs; whnf
    | refine S.back_r ?_; conv => lhs; whnf
    | refine S.fin_r ?_; conv => lhs; whnf
    | refine S.fin_n ?_; conv => lhs; whnf
    | exact ret_c rfl
    | exact none_c
    | refine S.draw_op ?_; conv => lhs; whnf; arg 1; whnf
    | refine S.dk_n ?_; conv => lhs; whnf
    | refine S.draw_nil ?_; conv => lhs; whnf
    | refine andK_br ?_
    | refine andK_req ?_
    | refine andK_b ?_
def sp15 (k : Nat) : FSpec := ⟨[.rd, .rd, .rd], fun args objs K => match args, objs with | [v0, .i .i64 a1, .i .i64 a2], [] => listB (.int .i64) true v0 fun a0 => bindO (mesh_Group.f k a0 a1 a2) fun x : (List Int) => K (.own 0) [.row (.int .i64) x false] | _, _ => none⟩
theorem snd15 (k : Nat) : Sound Try.prog 15 (sp15 k) := by
  refine ⟨⟨Try.f15, rfl, by kernel_rfl, rfl⟩, fun args objs K r h => ?_⟩
  unfold sp15 at h; dsimp only at h; split at h
  · rename_i v0 a1 a2
    obtain ⟨a0, h, ca0⟩ := listB_spec h
    obtain ⟨x, hx, h⟩ := bindO_some h
    exact ⟨_, _, h, FnOK.args2 (relL_c ca0 (relL_c rel_i (relL_c rel_i relL_n))) (fn_run tab_ok (en15 k) mixed rfl ((r15 seals k a0 a1 a2).trans (bindO_eq hx)))⟩
  · cases h
end Go.Vm

/- mesh_Step -/
namespace Go.Vm
open Go Go.Proofs Go.Pf
def lv16 : Live := look ⟨[], [], [], [], []⟩ []
noncomputable def g16 (k : Nat) : FEnv := (addF 13 (sp13 k) (addF 14 (sp14 k) (addF 24 (sp24 k) (fun _ => none))))
theorem en16 (k : Nat) : EnvOK Try.prog (g16 k) := (envOK_add (snd13 k) (envOK_add (snd14 k) (envOK_add (snd24 k) (envOK_nil _))))
set_option maxHeartbeats 4000000 in
theorem r16 (S : Seals) (k : Nat) (a0 : List Int) (a1 : Int) (a2 : Int) (a3 : Int) : runF tt (g16 k) lv16 Try.f16 k [.dat (.int .i64) a0 true, .i .i64 a1, .i .i64 a2, .i .i64 a3] [] = bindO (mesh_Step.f k a0 a1 a2 a3) (fun x : Int => some (.i .i64 x, [])) := by
  unfold mesh_Step.f; refine S.run_s rfl rfl ?_; conv => lhs; arg 5; whnf
  conv => lhs; arg 6; whnf
  repeat' first
    | refine S.seq_op rfl ?_; conv => lhs; whnf
    | refine S.op_n ?_; conv => lhs; whnf
    | refine S.seq_nil ?_
    | refine S.reg_n ?_
    | refine S.region rfl ?_
    | refine S.two ?_
    | refine S.blok ?_
    | refine S.cond rfl ?_
    | refine S.after_n ?_
    | refine S.block_n ?_
    | refine S.block_x ?_; conv => lhs; whnf
    | refine S.block_r ?_
    | refine S.after_x ?_
    | refine S.after_r ?_
    | refine S.skip ?_
    | refine S.exit ?_
    | refine S.ret ?_
    | refine br_lt ?_; conv => lhs; whnf
    | refine br_lf ?_; conv => lhs; whnf
    | refine br_t (by assumption) ?_; conv => lhs; whnf
    | refine br_f (by assumption) ?_; conv => lhs; whnf
    | refine req_i (by assumption) ?_; conv => lhs; whnf
    | (refine br_nd (fun _ => ?_) (fun _ => ?_) <;> conv => lhs; whnf)
    | (refine br_d (fun _ => ?_) (fun _ => ?_) <;> conv => lhs; whnf)
    | (refine br_n (fun _ => ?_) (fun _ => ?_) <;> conv => lhs; whnf)
    | (refine br_c (fun _ => ?_) (fun _ => ?_) <;> conv => lhs; whnf)
    | refine req_c fun _ => ?_; conv => lhs; whnf
    | refine bnd_c fun _ => ?_; conv => lhs; whnf
    | refine sum_c (fun _ => ?_) (fun _ => ?_)
    | refine S.region_d (id := 5) (ds := [0, 0, 0, 0, 12, 28, 0, 0, 192, 508, 0, 2044, 0, 8188, 16383, 32767]) (mds := [[], [], [], [], [], [], [], [], [], [], [], [], [], [], [], [0]]) (hm := [(15, [0])]) (by kernel_rfl) (by kernel_rfl) rfl rfl ?_
    | refine S.loop ?_; conv => lhs; whnf
    | refine S.back_n ?_; conv => lhs; whnf
    | refine S.back_x ?_; conv => lhs; whnf
    | refine S.back_r ?_; conv => lhs; whnf
    | refine S.fin_r ?_; conv => lhs; whnf
    | refine S.fin_n ?_; conv => lhs; whnf
    | exact ret_c rfl
    | exact none_c
    | refine S.draw_op ?_; conv => lhs; whnf; arg 1; whnf
    | refine S.dk_n ?_; conv => lhs; whnf
    | refine S.draw_nil ?_; conv => lhs; whnf
    | refine andK_br ?_
    | refine andK_req ?_
    | refine andK_b ?_
def sp16 (k : Nat) : FSpec := ⟨[.rd, .rd, .rd, .rd], fun args objs K => match args, objs with | [v0, .i .i64 a1, .i .i64 a2, .i .i64 a3], [] => listB (.int .i64) true v0 fun a0 => bindO (mesh_Step.f k a0 a1 a2 a3) fun x : Int => K (.i .i64 x) [] | _, _ => none⟩
theorem snd16 (k : Nat) : Sound Try.prog 16 (sp16 k) := by
  refine ⟨⟨Try.f16, rfl, by kernel_rfl, rfl⟩, fun args objs K r h => ?_⟩
  unfold sp16 at h; dsimp only at h; split at h
  · rename_i v0 a1 a2 a3
    obtain ⟨a0, h, ca0⟩ := listB_spec h
    obtain ⟨x, hx, h⟩ := bindO_some h
    exact ⟨_, _, h, FnOK.args2 (relL_c ca0 (relL_c rel_i (relL_c rel_i (relL_c rel_i relL_n)))) (fn_run tab_ok (en16 k) mixed rfl ((r16 seals k a0 a1 a2 a3).trans (bindO_eq hx)))⟩
  · cases h
end Go.Vm

/- book_Same_int -/
namespace Go.Vm
open Go Go.Proofs Go.Pf
def lv17 : Live := look ⟨[], [], [], [], []⟩ [(4, ⟨[0, 1, 5], [], [4], [], []⟩)]
noncomputable def g17 : FEnv := (fun _ => none)
theorem en17 : EnvOK Try.prog (g17) := (envOK_nil _)
set_option maxHeartbeats 4000000 in
theorem w17_0 (S : Seals) (k : Nat) : ∀ (n : Nat) {x0 : List Int} {x1 : List Int} {x5 : Int} {K : CK}, S.lp tt (g17) lv17 0 n (loopN Try.f17 0) ⟨[(0, .dat (.int .i64) x0 true), (1, .dat (.int .i64) x1 true), (5, .i .i64 x5)], [], 0, 26⟩ K = bindO (book_Same_int.l0 n x0 x1 x5) (Sum.elim (fun x : Unit => K (.exit 0) ⟨[], [], 0, 26⟩) (fun x : Bool => K .ret ⟨[(4, .b x)], [], 0, 26⟩)) := by
  intro n; induction n with
  | zero => intros; rw [S.lp_zero]; exact none_c
  | succ n ih =>
    intros; rw [book_Same_int.l0]; refine S.lp_succ ?_; conv => lhs; arg 5; whnf
    repeat' first
      | refine S.seq_op rfl ?_; conv => lhs; whnf
      | refine S.op_n ?_; conv => lhs; whnf
      | refine S.seq_nil ?_
      | refine S.reg_n ?_
      | refine S.region rfl ?_
      | refine S.two ?_
      | refine S.blok ?_
      | refine S.cond rfl ?_
      | refine S.after_n ?_
      | refine S.block_n ?_
      | refine S.block_x ?_; conv => lhs; whnf
      | refine S.block_r ?_
      | refine S.after_x ?_
      | refine S.after_r ?_
      | refine S.skip ?_
      | refine S.exit ?_
      | refine S.ret ?_
      | refine br_lt ?_; conv => lhs; whnf
      | refine br_lf ?_; conv => lhs; whnf
      | refine br_t (by assumption) ?_; conv => lhs; whnf
      | refine br_f (by assumption) ?_; conv => lhs; whnf
      | refine req_i (by assumption) ?_; conv => lhs; whnf
      | (refine br_nd (fun _ => ?_) (fun _ => ?_) <;> conv => lhs; whnf)
      | (refine br_d (fun _ => ?_) (fun _ => ?_) <;> conv => lhs; whnf)
      | (refine br_n (fun _ => ?_) (fun _ => ?_) <;> conv => lhs; whnf)
      | (refine br_c (fun _ => ?_) (fun _ => ?_) <;> conv => lhs; whnf)
      | refine req_c fun _ => ?_; conv => lhs; whnf
      | refine bnd_c fun _ => ?_; conv => lhs; whnf
      | refine sum_c (fun _ => ?_) (fun _ => ?_)
      | refine S.region_d (id := 6) (ds := [0, 0, 3, 7, 0, 0, 48, 112, 255]) (mds := [[], [], [], [], [], [], [], [], []]) (hm := []) (by kernel_rfl) (by kernel_rfl) rfl rfl ?_
      | exact ih
      | refine S.loop ?_; conv => lhs; whnf
      | refine S.back_n ?_; conv => lhs; whnf
      | refine S.back_x ?_; conv => lhs; whnf
      | refine S.back_r ?_; conv => lhs; whnf
      | refine S.fin_r ?_; conv => lhs; whnf
      | refine S.fin_n ?_; conv => lhs; whnf
      | exact ret_c rfl
      | exact none_c
      | refine S.draw_op ?_; conv => lhs; whnf; arg 1; whnf
      | refine S.dk_n ?_; conv => lhs; whnf
      | refine S.draw_nil ?_; conv => lhs; whnf
      | refine andK_br ?_
      | refine andK_req ?_
      | refine andK_b ?_
set_option maxHeartbeats 4000000 in
theorem r17 (S : Seals) (k : Nat) (a0 : List Int) (a1 : List Int) : runF tt (g17) lv17 Try.f17 k [.dat (.int .i64) a0 true, .dat (.int .i64) a1 true] [] = bindO (book_Same_int.f k a0 a1) (fun x : Bool => some (.b x, [])) := by
  unfold book_Same_int.f; refine S.run_s rfl rfl ?_; conv => lhs; arg 5; whnf
  conv => lhs; arg 6; whnf
  repeat' first
    | refine S.seq_op rfl ?_; conv => lhs; whnf
    | refine S.op_n ?_; conv => lhs; whnf
    | refine S.seq_nil ?_
    | refine S.reg_n ?_
    | refine S.region rfl ?_
    | refine S.two ?_
    | refine S.blok ?_
    | refine S.cond rfl ?_
    | refine S.after_n ?_
    | refine S.block_n ?_
    | refine S.block_x ?_; conv => lhs; whnf
    | refine S.block_r ?_
    | refine S.after_x ?_
    | refine S.after_r ?_
    | refine S.skip ?_
    | refine S.exit ?_
    | refine S.ret ?_
    | refine br_lt ?_; conv => lhs; whnf
    | refine br_lf ?_; conv => lhs; whnf
    | refine br_t (by assumption) ?_; conv => lhs; whnf
    | refine br_f (by assumption) ?_; conv => lhs; whnf
    | refine req_i (by assumption) ?_; conv => lhs; whnf
    | (refine br_nd (fun _ => ?_) (fun _ => ?_) <;> conv => lhs; whnf)
    | (refine br_d (fun _ => ?_) (fun _ => ?_) <;> conv => lhs; whnf)
    | (refine br_n (fun _ => ?_) (fun _ => ?_) <;> conv => lhs; whnf)
    | (refine br_c (fun _ => ?_) (fun _ => ?_) <;> conv => lhs; whnf)
    | refine req_c fun _ => ?_; conv => lhs; whnf
    | refine bnd_c fun _ => ?_; conv => lhs; whnf
    | refine sum_c (fun _ => ?_) (fun _ => ?_)
    | refine (w17_0 S k _).trans ?_
    | refine S.loop ?_; conv => lhs; whnf
    | refine S.back_n ?_; conv => lhs; whnf
    | refine S.back_x ?_; conv => lhs; whnf
    | refine S.back_r ?_; conv => lhs; whnf
    | refine S.fin_r ?_; conv => lhs; whnf
    | refine S.fin_n ?_; conv => lhs; whnf
    | exact ret_c rfl
    | exact none_c
    | refine S.draw_op ?_; conv => lhs; whnf; arg 1; whnf
    | refine S.dk_n ?_; conv => lhs; whnf
    | refine S.draw_nil ?_; conv => lhs; whnf
    | refine andK_br ?_
    | refine andK_req ?_
    | refine andK_b ?_
def sp17 (k : Nat) : FSpec := ⟨[.rd, .rd], fun args objs K => match args, objs with | [v0, v1], [] => listB (.int .i64) true v0 fun a0 => listB (.int .i64) true v1 fun a1 => bindO (book_Same_int.f k a0 a1) fun x : Bool => K (.b x) [] | _, _ => none⟩
theorem snd17 (k : Nat) : Sound Try.prog 17 (sp17 k) := by
  refine ⟨⟨Try.f17, rfl, by kernel_rfl, rfl⟩, fun args objs K r h => ?_⟩
  unfold sp17 at h; dsimp only at h; split at h
  · rename_i v0 v1
    obtain ⟨a0, h, ca0⟩ := listB_spec h
    obtain ⟨a1, h, ca1⟩ := listB_spec h
    obtain ⟨x, hx, h⟩ := bindO_some h
    exact ⟨_, _, h, FnOK.args2 (relL_c ca0 (relL_c ca1 relL_n)) (fn_run tab_ok (en17) mixed rfl ((r17 seals k a0 a1).trans (bindO_eq hx)))⟩
  · cases h
end Go.Vm

/- law14_known -/
namespace Go.Vm
open Go Go.Proofs Go.Pf
def lv10 : Live := look ⟨[], [], [], [], []⟩ []
noncomputable def g10 (k : Nat) : FEnv := (addF 18 (sp18 k) (addF 15 (sp15 k) (addF 13 (sp13 k) (addF 16 (sp16 k) (addF 12 (sp12 k) (addF 17 (sp17 k) (addF 14 (sp14 k) (fun _ => none))))))))
theorem en10 (k : Nat) : EnvOK Try.prog (g10 k) := (envOK_add (snd18 k) (envOK_add (snd15 k) (envOK_add (snd13 k) (envOK_add (snd16 k) (envOK_add (snd12 k) (envOK_add (snd17 k) (envOK_add (snd14 k) (envOK_nil _))))))))
set_option maxHeartbeats 4000000 in
theorem r10 (S : Seals) (k : Nat) : runF tt (g10 k) lv10 Try.f10 k [] [] = bindO (law14_known.f k) (fun x : Bool => some (.b x, [])) := by
  unfold law14_known.f; refine S.run_s rfl rfl ?_; conv => lhs; arg 5; whnf
  conv => lhs; arg 6; whnf
  repeat' first
    | refine S.seq_op rfl ?_; conv => lhs; whnf
    | refine S.op_n ?_; conv => lhs; whnf
    | refine S.seq_nil ?_
    | refine S.reg_n ?_
    | refine S.region rfl ?_
    | refine S.two ?_
    | refine S.blok ?_
    | refine S.cond rfl ?_
    | refine S.after_n ?_
    | refine S.block_n ?_
    | refine S.block_x ?_; conv => lhs; whnf
    | refine S.block_r ?_
    | refine S.after_x ?_
    | refine S.after_r ?_
    | refine S.skip ?_
    | refine S.exit ?_
    | refine S.ret ?_
    | refine br_lt ?_; conv => lhs; whnf
    | refine br_lf ?_; conv => lhs; whnf
    | refine br_t (by assumption) ?_; conv => lhs; whnf
    | refine br_f (by assumption) ?_; conv => lhs; whnf
    | refine req_i (by assumption) ?_; conv => lhs; whnf
    | (refine br_nd (fun _ => ?_) (fun _ => ?_) <;> conv => lhs; whnf)
    | (refine br_d (fun _ => ?_) (fun _ => ?_) <;> conv => lhs; whnf)
    | (refine br_n (fun _ => ?_) (fun _ => ?_) <;> conv => lhs; whnf)
    | (refine br_c (fun _ => ?_) (fun _ => ?_) <;> conv => lhs; whnf)
    | refine req_c fun _ => ?_; conv => lhs; whnf
    | refine bnd_c fun _ => ?_; conv => lhs; whnf
    | refine sum_c (fun _ => ?_) (fun _ => ?_)
    | refine S.loop ?_; conv => lhs; whnf
    | refine S.back_n ?_; conv => lhs; whnf
    | refine S.back_x ?_; conv => lhs; whnf
    | refine S.back_r ?_; conv => lhs; whnf
    | refine S.fin_r ?_; conv => lhs; whnf
    | refine S.fin_n ?_; conv => lhs; whnf
    | exact ret_c rfl
    | exact none_c
    | refine S.draw_op ?_; conv => lhs; whnf; arg 1; whnf
    | refine S.dk_n ?_; conv => lhs; whnf
    | refine S.draw_nil ?_; conv => lhs; whnf
    | refine andK_br ?_
    | refine andK_req ?_
    | refine andK_b ?_
def sp10 (k : Nat) : FSpec := ⟨[], fun args objs K => match args, objs with | [], [] => bindO (law14_known.f k) fun x : Bool => K (.b x) [] | _, _ => none⟩
theorem snd10 (k : Nat) : Sound Try.prog 10 (sp10 k) := by
  refine ⟨⟨Try.f10, rfl, by kernel_rfl, rfl⟩, fun args objs K r h => ?_⟩
  unfold sp10 at h; dsimp only at h; split at h
  · skip
    obtain ⟨x, hx, h⟩ := bindO_some h
    exact ⟨_, _, h, FnOK.args2 relL_n (fn_run tab_ok (en10 k) mixed rfl ((r10 seals k).trans (bindO_eq hx)))⟩
  · cases h
end Go.Vm

/- book_Within -/
namespace Go.Vm
open Go Go.Proofs Go.Pf
def lv11 : Live := look ⟨[], [], [], [], []⟩ []
noncomputable def g11 : FEnv := (fun _ => none)
theorem en11 : EnvOK Try.prog (g11) := (envOK_nil _)
set_option maxHeartbeats 4000000 in
theorem r11 (S : Seals) (k : Nat) (a0 : Int) (a1 : Int) (a2 : Int) : runF tt (g11) lv11 Try.f11 k [.i .i64 a0, .i .i64 a1, .i .i64 a2] [] = bindO (book_Within.f a0 a1 a2) (fun x : Int => some (.i .i64 x, [])) := by
  unfold book_Within.f; refine S.run_s rfl rfl ?_; conv => lhs; arg 5; whnf
  conv => lhs; arg 6; whnf
  repeat' first
    | refine S.seq_op rfl ?_; conv => lhs; whnf
    | refine S.op_n ?_; conv => lhs; whnf
    | refine S.seq_nil ?_
    | refine S.reg_n ?_
    | refine S.region rfl ?_
    | refine S.two ?_
    | refine S.blok ?_
    | refine S.cond rfl ?_
    | refine S.after_n ?_
    | refine S.block_n ?_
    | refine S.block_x ?_; conv => lhs; whnf
    | refine S.block_r ?_
    | refine S.after_x ?_
    | refine S.after_r ?_
    | refine S.skip ?_
    | refine S.exit ?_
    | refine S.ret ?_
    | refine br_lt ?_; conv => lhs; whnf
    | refine br_lf ?_; conv => lhs; whnf
    | refine br_t (by assumption) ?_; conv => lhs; whnf
    | refine br_f (by assumption) ?_; conv => lhs; whnf
    | refine req_i (by assumption) ?_; conv => lhs; whnf
    | (refine br_nd (fun _ => ?_) (fun _ => ?_) <;> conv => lhs; whnf)
    | (refine br_d (fun _ => ?_) (fun _ => ?_) <;> conv => lhs; whnf)
    | (refine br_n (fun _ => ?_) (fun _ => ?_) <;> conv => lhs; whnf)
    | (refine br_c (fun _ => ?_) (fun _ => ?_) <;> conv => lhs; whnf)
    | refine req_c fun _ => ?_; conv => lhs; whnf
    | refine bnd_c fun _ => ?_; conv => lhs; whnf
    | refine sum_c (fun _ => ?_) (fun _ => ?_)
    | refine S.loop ?_; conv => lhs; whnf
    | refine S.back_n ?_; conv => lhs; whnf
    | refine S.back_x ?_; conv => lhs; whnf
    | refine S.back_r ?_; conv => lhs; whnf
    | refine S.fin_r ?_; conv => lhs; whnf
    | refine S.fin_n ?_; conv => lhs; whnf
    | exact ret_c rfl
    | exact none_c
    | refine S.draw_op ?_; conv => lhs; whnf; arg 1; whnf
    | refine S.dk_n ?_; conv => lhs; whnf
    | refine S.draw_nil ?_; conv => lhs; whnf
    | refine andK_br ?_
    | refine andK_req ?_
    | refine andK_b ?_
def sp11 : FSpec := ⟨[.rd, .rd, .rd], fun args objs K => match args, objs with | [.i .i64 a0, .i .i64 a1, .i .i64 a2], [] => bindO (book_Within.f a0 a1 a2) fun x : Int => K (.i .i64 x) [] | _, _ => none⟩
theorem snd11 : Sound Try.prog 11 (sp11) := by
  refine ⟨⟨Try.f11, rfl, by kernel_rfl, rfl⟩, fun args objs K r h => ?_⟩
  unfold sp11 at h; dsimp only at h; split at h
  · rename_i a0 a1 a2
    obtain ⟨x, hx, h⟩ := bindO_some h
    exact ⟨_, _, h, FnOK.args2 (relL_c rel_i (relL_c rel_i (relL_c rel_i relL_n))) (fn_run tab_ok (en11) mixed rfl ((r11 seals 0 a0 a1 a2).trans (bindO_eq hx)))⟩
  · cases h
end Go.Vm

/- law14_meshes -/
namespace Go.Vm
open Go Go.Proofs Go.Pf
def lv7 : Live := look ⟨[], [], [], [], []⟩ []
noncomputable def g7 : FEnv := (fun _ => none)
theorem en7 : EnvOK Try.prog (g7) := (envOK_nil _)
set_option maxHeartbeats 4000000 in
theorem r7 (S : Seals) (k : Nat) : runF tt (g7) lv7 Try.f7 k [] [] = bindO (law14_meshes.f) (fun x : (List (List Int)) => some (.own 0, [.row (.sl (.int .i64)) x false])) := by
  unfold law14_meshes.f; refine S.run_s rfl rfl ?_; conv => lhs; arg 5; whnf
  conv => lhs; arg 6; whnf
  repeat' first
    | refine S.seq_op rfl ?_; conv => lhs; whnf
    | refine S.op_n ?_; conv => lhs; whnf
    | refine S.seq_nil ?_
    | refine S.reg_n ?_
    | refine S.region rfl ?_
    | refine S.two ?_
    | refine S.blok ?_
    | refine S.cond rfl ?_
    | refine S.after_n ?_
    | refine S.block_n ?_
    | refine S.block_x ?_; conv => lhs; whnf
    | refine S.block_r ?_
    | refine S.after_x ?_
    | refine S.after_r ?_
    | refine S.skip ?_
    | refine S.exit ?_
    | refine S.ret ?_
    | refine br_lt ?_; conv => lhs; whnf
    | refine br_lf ?_; conv => lhs; whnf
    | refine br_t (by assumption) ?_; conv => lhs; whnf
    | refine br_f (by assumption) ?_; conv => lhs; whnf
    | refine req_i (by assumption) ?_; conv => lhs; whnf
    | (refine br_nd (fun _ => ?_) (fun _ => ?_) <;> conv => lhs; whnf)
    | (refine br_d (fun _ => ?_) (fun _ => ?_) <;> conv => lhs; whnf)
    | (refine br_n (fun _ => ?_) (fun _ => ?_) <;> conv => lhs; whnf)
    | (refine br_c (fun _ => ?_) (fun _ => ?_) <;> conv => lhs; whnf)
    | refine req_c fun _ => ?_; conv => lhs; whnf
    | refine bnd_c fun _ => ?_; conv => lhs; whnf
    | refine sum_c (fun _ => ?_) (fun _ => ?_)
    | refine S.loop ?_; conv => lhs; whnf
    | refine S.back_n ?_; conv => lhs; whnf
    | refine S.back_x ?_; conv => lhs; whnf
    | refine S.back_r ?_; conv => lhs; whnf
    | refine S.fin_r ?_; conv => lhs; whnf
    | refine S.fin_n ?_; conv => lhs; whnf
    | exact ret_c rfl
    | exact none_c
    | refine S.draw_op ?_; conv => lhs; whnf; arg 1; whnf
    | refine S.dk_n ?_; conv => lhs; whnf
    | refine S.draw_nil ?_; conv => lhs; whnf
    | refine andK_br ?_
    | refine andK_req ?_
    | refine andK_b ?_
def sp7 : FSpec := ⟨[], fun args objs K => match args, objs with | [], [] => bindO (law14_meshes.f) fun x : (List (List Int)) => K (.own 0) [.row (.sl (.int .i64)) x false] | _, _ => none⟩
theorem snd7 : Sound Try.prog 7 (sp7) := by
  refine ⟨⟨Try.f7, rfl, by kernel_rfl, rfl⟩, fun args objs K r h => ?_⟩
  unfold sp7 at h; dsimp only at h; split at h
  · skip
    obtain ⟨x, hx, h⟩ := bindO_some h
    exact ⟨_, _, h, FnOK.args2 relL_n (fn_run tab_ok (en7) mixed rfl ((r7 seals 0).trans (bindO_eq hx)))⟩
  · cases h
end Go.Vm

/- law14_MeshSteps -/
namespace Go.Vm
open Go Go.Proofs Go.Pf
def lv5 : Live := look ⟨[], [], [], [], []⟩ [(17, ⟨[10, 12, 13, 14, 15, 16, 17, 72, 73, 74], [10, 12, 13, 14, 15, 16, 17], [8], [], []⟩)]
noncomputable def g5 (k : Nat) : FEnv := (addF 17 (sp17 k) (addF 16 (sp16 k) (addF 10 (sp10 k) (addF 15 (sp15 k) (addF 13 (sp13 k) (addF 14 (sp14 k) (addF 12 (sp12 k) (addF 11 sp11 (addF 7 sp7 (fun _ => none))))))))))
theorem en5 (k : Nat) : EnvOK Try.prog (g5 k) := (envOK_add (snd17 k) (envOK_add (snd16 k) (envOK_add (snd10 k) (envOK_add (snd15 k) (envOK_add (snd13 k) (envOK_add (snd14 k) (envOK_add (snd12 k) (envOK_add snd11 (envOK_add snd7 (envOK_nil _))))))))))
set_option maxHeartbeats 4000000 in
theorem w5_0 (S : Seals) (k : Nat) : ∀ (n : Nat) {x10 : List Int} {x12 : Int} {x13 : Int} {x14 : Int} {x15 : Int} {x17 : Int} {x73 : Int} {x74 : Int} {y0 : List Int} {K : CK}, S.lp tt (g5 k) lv5 0 n (loopN Try.f5 0) ⟨[(10, .dat (.int .i64) x10 false), (12, .i .i64 x12), (13, .i .i64 x13), (14, .i .i64 x14), (15, .i .i64 x15), (16, .own 0), (17, .i .i64 x17), (72, .own 0), (73, .i .i64 x73), (74, .i .i64 x74)], [(0, .row (.int .i64) y0 false)], 1, 129⟩ K = bindO (law14_MeshSteps.l0 k n x10 x12 x13 x14 x15 x17 x73 x74 y0) (Sum.elim (fun x : Int => K (.exit 0) ⟨[(10, .dat (.int .i64) x10 false), (12, .i .i64 x12), (13, .i .i64 x13), (14, .i .i64 x14), (15, .i .i64 x15), (16, .own 0), (17, .i .i64 x)], [(0, .row (.int .i64) y0 false)], 1, 129⟩) (fun x : Bool => K .ret ⟨[(8, .b x)], [], 0, 129⟩)) := by
  intro n; induction n with
  | zero => intros; rw [S.lp_zero]; exact none_c
  | succ n ih =>
    intros; rw [law14_MeshSteps.l0]; refine S.lp_succ ?_; conv => lhs; arg 5; whnf
    repeat' first
      | refine S.seq_op rfl ?_; conv => lhs; whnf
      | refine S.op_n ?_; conv => lhs; whnf
      | refine S.seq_nil ?_
      | refine S.reg_n ?_
      | refine S.region rfl ?_
      | refine S.two ?_
      | refine S.blok ?_
      | refine S.cond rfl ?_
      | refine S.after_n ?_
      | refine S.block_n ?_
      | refine S.block_x ?_; conv => lhs; whnf
      | refine S.block_r ?_
      | refine S.after_x ?_
      | refine S.after_r ?_
      | refine S.skip ?_
      | refine S.exit ?_
      | refine S.ret ?_
      | refine br_lt ?_; conv => lhs; whnf
      | refine br_lf ?_; conv => lhs; whnf
      | refine br_t (by assumption) ?_; conv => lhs; whnf
      | refine br_f (by assumption) ?_; conv => lhs; whnf
      | refine req_i (by assumption) ?_; conv => lhs; whnf
      | (refine br_nd (fun _ => ?_) (fun _ => ?_) <;> conv => lhs; whnf)
      | (refine br_d (fun _ => ?_) (fun _ => ?_) <;> conv => lhs; whnf)
      | (refine br_n (fun _ => ?_) (fun _ => ?_) <;> conv => lhs; whnf)
      | (refine br_c (fun _ => ?_) (fun _ => ?_) <;> conv => lhs; whnf)
      | refine req_c fun _ => ?_; conv => lhs; whnf
      | refine bnd_c fun _ => ?_; conv => lhs; whnf
      | refine sum_c (fun _ => ?_) (fun _ => ?_)
      | exact ih
      | refine S.loop ?_; conv => lhs; whnf
      | refine S.back_n ?_; conv => lhs; whnf
      | refine S.back_x ?_; conv => lhs; whnf
      | refine S.back_r ?_; conv => lhs; whnf
      | refine S.fin_r ?_; conv => lhs; whnf
      | refine S.fin_n ?_; conv => lhs; whnf
      | exact ret_c rfl
      | exact none_c
      | refine S.draw_op ?_; conv => lhs; whnf; arg 1; whnf
      | refine S.dk_n ?_; conv => lhs; whnf
      | refine S.draw_nil ?_; conv => lhs; whnf
      | refine andK_br ?_
      | refine andK_req ?_
      | refine andK_b ?_
set_option maxHeartbeats 4000000 in
theorem r5 (S : Seals) (k : Nat) (a0 : Int) (a1 : Int) (a2 : Int) (a3 : Int) : runF tt (g5 k) lv5 Try.f5 k [.i .i64 a0, .i .i64 a1, .i .i64 a2, .i .i64 a3] [] = bindO (law14_MeshSteps.f k a0 a1 a2 a3) (fun x : Bool => some (.b x, [])) := by
  unfold law14_MeshSteps.f; refine S.run_s rfl rfl ?_; conv => lhs; arg 5; whnf
  conv => lhs; arg 6; whnf
  repeat' first
    | refine S.seq_op rfl ?_; conv => lhs; whnf
    | refine S.op_n ?_; conv => lhs; whnf
    | refine S.seq_nil ?_
    | refine S.reg_n ?_
    | refine S.region rfl ?_
    | refine S.two ?_
    | refine S.blok ?_
    | refine S.cond rfl ?_
    | refine S.after_n ?_
    | refine S.block_n ?_
    | refine S.block_x ?_; conv => lhs; whnf
    | refine S.block_r ?_
    | refine S.after_x ?_
    | refine S.after_r ?_
    | refine S.skip ?_
    | refine S.exit ?_
    | refine S.ret ?_
    | refine br_lt ?_; conv => lhs; whnf
    | refine br_lf ?_; conv => lhs; whnf
    | refine br_t (by assumption) ?_; conv => lhs; whnf
    | refine br_f (by assumption) ?_; conv => lhs; whnf
    | refine req_i (by assumption) ?_; conv => lhs; whnf
    | (refine br_nd (fun _ => ?_) (fun _ => ?_) <;> conv => lhs; whnf)
    | (refine br_d (fun _ => ?_) (fun _ => ?_) <;> conv => lhs; whnf)
    | (refine br_n (fun _ => ?_) (fun _ => ?_) <;> conv => lhs; whnf)
    | (refine br_c (fun _ => ?_) (fun _ => ?_) <;> conv => lhs; whnf)
    | refine req_c fun _ => ?_; conv => lhs; whnf
    | refine bnd_c fun _ => ?_; conv => lhs; whnf
    | refine sum_c (fun _ => ?_) (fun _ => ?_)
    | refine (w5_0 S k _).trans ?_
    | refine S.loop ?_; conv => lhs; whnf
    | refine S.back_n ?_; conv => lhs; whnf
    | refine S.back_x ?_; conv => lhs; whnf
    | refine S.back_r ?_; conv => lhs; whnf
    | refine S.fin_r ?_; conv => lhs; whnf
    | refine S.fin_n ?_; conv => lhs; whnf
    | exact ret_c rfl
    | exact none_c
    | refine S.draw_op ?_; conv => lhs; whnf; arg 1; whnf
    | refine S.dk_n ?_; conv => lhs; whnf
    | refine S.draw_nil ?_; conv => lhs; whnf
    | refine andK_br ?_
    | refine andK_req ?_
    | refine andK_b ?_
def sp5 (k : Nat) : FSpec := ⟨[.rd, .rd, .rd, .rd], fun args objs K => match args, objs with | [.i .i64 a0, .i .i64 a1, .i .i64 a2, .i .i64 a3], [] => bindO (law14_MeshSteps.f k a0 a1 a2 a3) fun x : Bool => K (.b x) [] | _, _ => none⟩
theorem snd5 (k : Nat) : Sound Try.prog 5 (sp5 k) := by
  refine ⟨⟨Try.f5, rfl, by kernel_rfl, rfl⟩, fun args objs K r h => ?_⟩
  unfold sp5 at h; dsimp only at h; split at h
  · rename_i a0 a1 a2 a3
    obtain ⟨x, hx, h⟩ := bindO_some h
    exact ⟨_, _, h, FnOK.args2 (relL_c rel_i (relL_c rel_i (relL_c rel_i (relL_c rel_i relL_n)))) (fn_run tab_ok (en5 k) mixed rfl ((r5 seals k a0 a1 a2 a3).trans (bindO_eq hx)))⟩
  · cases h
end Go.Vm
