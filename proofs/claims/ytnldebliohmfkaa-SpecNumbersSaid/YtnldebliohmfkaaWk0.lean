/- Own texts put together: W15T, W15f33, W15f26 .. -/
import Derived.Test.YtnldebliohmfkaaVm1
import Derived.Test.YtnldebliohmfkaaPl0
import Derived.Test.YtnldebliohmfkaaProg
set_option linter.unusedVariables false
set_option linter.unusedSimpArgs false
namespace Go.Vm
open Go Go.Proofs Go.Pf
def tt : Tab := [default,
  default,
  default,
  ⟨.int .i64, 1, 8, [.i .i64 0], some (.int .i64)⟩,
  ⟨.bool, 1, 1, [.b false], some .bool⟩,
  default,
  default,
  default,
  default,
  default,
  default,
  default,
  default,
  default,
  default,
  default,
  default,
  default,
  default,
  default,
  default,
  default,
  ⟨.sl 3, 1, 24, [.nilsl], some (.sl (.int .i64))⟩,
  ⟨.sl 22, 1, 24, [.nilsl], some (.sl (.sl (.int .i64)))⟩,
  default,
  default,
  ⟨.ptr 28, 1, 8, [.kon (.pointer none)], none⟩,
  default,
  ⟨.struct [(0, 22), (1, 3)], 2, 32, [.nilsl, .i .i64 0], some (.pair (.sl (.int .i64)) (.int .i64))⟩,
  default,
  default,
  default,
  ⟨.arr 8 3, 8, 64, [.i .i64 0, .i .i64 0, .i .i64 0, .i .i64 0, .i .i64 0, .i .i64 0, .i .i64 0, .i .i64 0], some (.pair (.int .i64) (.pair (.int .i64) (.pair (.int .i64) (.pair (.int .i64) (.pair (.int .i64) (.pair (.int .i64) (.pair (.int .i64) (.int .i64))))))))⟩,
  default,
  default,
  default,
  default,
  default,
  default,
  default,
  default,
  default,
  ⟨.sl 4, 1, 24, [.nilsl], some (.sl .bool)⟩,
  default,
  ⟨.int .u64, 1, 8, [.i .u64 0], some (.int .u64)⟩,
  default,
  default,
  ⟨.int .u32, 1, 4, [.i .u32 0], some (.int .u32)⟩,
  default,
  default,
  ⟨.int .u64, 1, 8, [.i .u64 0], some (.int .u64)⟩]
theorem tab_ok : TabOK Try.prog tt := tabOK_of (by kernel_rfl)
theorem mixed : Try.prog.follows .mixedOrders = true := by kernel_rfl
end Go.Vm

/- slices_Index_int -/
namespace Go.Vm
open Go Go.Proofs Go.Pf
def lv33 : Live := look ⟨[], [], [], [], []⟩ [(2, ⟨[0, 1, 7, 8], [], [4], [], []⟩)]
noncomputable def g33 : FEnv := (fun _ => none)
theorem en33 : EnvOK Try.prog (g33) := (envOK_nil _)
set_option maxHeartbeats 4000000 in
theorem w33_0 (S : Seals) (k : Nat) : ∀ (n : Nat) {x0 : List Int} {x1 : Int} {x7 : Int} {x8 : Int} {K : CK}, S.lp tt (g33) lv33 0 n (loopN Try.f33 0) ⟨[(0, .dat (.int .i64) x0 true), (1, .i .i64 x1), (7, .i .i64 x7), (8, .i .i64 x8)], [], 0, 19⟩ K = bindO (slices_Index_int.l0 n x0 x1 x7 x8) (Sum.elim (fun x : Unit => K (.exit 0) ⟨[], [], 0, 19⟩) (fun x : Int => K .ret ⟨[(4, .i .i64 x)], [], 0, 19⟩)) := by
  intro n; induction n with
  | zero => intros; rw [S.lp_zero]; exact none_c
  | succ n ih =>
    intros; rw [slices_Index_int.l0]; refine S.lp_succ ?_; conv => lhs; arg 5; whnf
    repeat' first
      | refine S.seq_op rfl ?_; conv => lhs; whnf
      | refine S.op_n ?_; conv => lhs; whnf
      | refine S.seq_nil ?_
      | refine S.reg_n ?_
      | refine S.region rfl ?_
      | refine S.two ?_
      | refine S.blok ?_
      | refine S.cond rfl ?_
      | refine S.after_n ?_
      | refine S.block_n ?_
      | refine S.block_x ?_; conv => lhs; whnf
      | refine S.block_r ?_
      | refine S.after_x ?_
      | refine S.after_r ?_
      | refine S.skip ?_
      | refine S.exit ?_
      | refine S.ret ?_
      | refine br_lt ?_; conv => lhs; whnf
      | refine br_lf ?_; conv => lhs; whnf
      | refine br_t (by assumption) ?_; conv => lhs; whnf
      | refine br_f (by assumption) ?_; conv => lhs; whnf
      | refine req_i (by assumption) ?_; conv => lhs; whnf
      | (refine br_nd (fun _ => ?_) (fun _ => ?_) <;> conv => lhs; whnf)
      | (refine br_d (fun _ => ?_) (fun _ => ?_) <;> conv => lhs; whnf)
      | (refine br_n (fun _ => ?_) (fun _ => ?_) <;> conv => lhs; whnf)
      | (refine br_c (fun _ => ?_) (fun _ => ?_) <;> conv => lhs; whnf)
      | refine req_c fun _ => ?_; conv => lhs; whnf
      | refine bnd_c fun _ => ?_; conv => lhs; whnf
      | refine sum_c (fun _ => ?_) (fun _ => ?_)
      | exact ih
      | refine S.loop ?_; conv => lhs; whnf
      | refine S.back_n ?_; conv => lhs; whnf
      | refine S.back_x ?_; conv => lhs; whnf
      | refine S.back_r ?_; conv => lhs; whnf
      | refine S.fin_r ?_; conv => lhs; whnf
      | refine S.fin_n ?_; conv => lhs; whnf
      | exact ret_c rfl
      | exact none_c
      | refine S.draw_op ?_; conv => lhs; whnf; arg 1; whnf
      | refine S.dk_n ?_; conv => lhs; whnf
      | refine S.draw_nil ?_; conv => lhs; whnf
      | refine andK_br ?_
      | refine andK_req ?_
      | refine andK_b ?_
      | refine andK_none ?_
set_option maxHeartbeats 4000000 in
theorem r33 (S : Seals) (k : Nat) (a0 : List Int) (a1 : Int) : runF tt (g33) lv33 Try.f33 k [.dat (.int .i64) a0 true, .i .i64 a1] [] = bindO (slices_Index_int.f k a0 a1) (fun x : Int => some (.i .i64 x, [])) := by
  unfold slices_Index_int.f; refine S.run_s rfl rfl ?_; conv => lhs; arg 5; whnf
  conv => lhs; arg 6; whnf
  repeat' first
    | refine S.seq_op rfl ?_; conv => lhs; whnf
    | refine S.op_n ?_; conv => lhs; whnf
    | refine S.seq_nil ?_
    | refine S.reg_n ?_
    | refine S.region rfl ?_
    | refine S.two ?_
    | refine S.blok ?_
    | refine S.cond rfl ?_
    | refine S.after_n ?_
    | refine S.block_n ?_
    | refine S.block_x ?_; conv => lhs; whnf
    | refine S.block_r ?_
    | refine S.after_x ?_
    | refine S.after_r ?_
    | refine S.skip ?_
    | refine S.exit ?_
    | refine S.ret ?_
    | refine br_lt ?_; conv => lhs; whnf
    | refine br_lf ?_; conv => lhs; whnf
    | refine br_t (by assumption) ?_; conv => lhs; whnf
    | refine br_f (by assumption) ?_; conv => lhs; whnf
    | refine req_i (by assumption) ?_; conv => lhs; whnf
    | (refine br_nd (fun _ => ?_) (fun _ => ?_) <;> conv => lhs; whnf)
    | (refine br_d (fun _ => ?_) (fun _ => ?_) <;> conv => lhs; whnf)
    | (refine br_n (fun _ => ?_) (fun _ => ?_) <;> conv => lhs; whnf)
    | (refine br_c (fun _ => ?_) (fun _ => ?_) <;> conv => lhs; whnf)
    | refine req_c fun _ => ?_; conv => lhs; whnf
    | refine bnd_c fun _ => ?_; conv => lhs; whnf
    | refine sum_c (fun _ => ?_) (fun _ => ?_)
    | refine (w33_0 S k _).trans ?_
    | refine S.loop ?_; conv => lhs; whnf
    | refine S.back_n ?_; conv => lhs; whnf
    | refine S.back_x ?_; conv => lhs; whnf
    | refine S.back_r ?_; conv => lhs; whnf
    | refine S.fin_r ?_; conv => lhs; whnf
    | refine S.fin_n ?_; conv => lhs; whnf
    | exact ret_c rfl
    | exact none_c
    | refine S.draw_op ?_; conv => lhs; whnf; arg 1; whnf
    | refine S.dk_n ?_; conv => lhs; whnf
    | refine S.draw_nil ?_; conv => lhs; whnf
    | refine andK_br ?_
    | refine andK_req ?_
    | refine andK_b ?_
    | refine andK_none ?_
def sp33 (k : Nat) : FSpec := ⟨[.rd, .rd], fun args objs K => match args, objs with | [v0, .i .i64 a1], [] => listB (.int .i64) true v0 fun a0 => bindO (slices_Index_int.f k a0 a1) fun x : Int => K (.i .i64 x) [] | _, _ => none⟩
theorem snd33 (k : Nat) : Sound Try.prog 33 (sp33 k) := by
  refine ⟨⟨Try.f33, rfl, by kernel_rfl, rfl⟩, fun args objs K r h => ?_⟩
  unfold sp33 at h; dsimp only at h; split at h
  · rename_i v0 a1
    obtain ⟨a0, h, ca0⟩ := listB_spec h
    obtain ⟨x, hx, h⟩ := bindO_some h
    exact ⟨_, _, h, FnOK.args2 (relL_c ca0 (relL_c rel_i relL_n)) (fn_run tab_ok (en33) mixed rfl ((r33 seals k a0 a1).trans (bindO_eq hx)))⟩
  · cases h
end Go.Vm

/- slices_Contains_int -/
namespace Go.Vm
open Go Go.Proofs Go.Pf
def lv26 : Live := look ⟨[], [], [], [], []⟩ []
noncomputable def g26 (k : Nat) : FEnv := (addF 33 (sp33 k) (fun _ => none))
theorem en26 (k : Nat) : EnvOK Try.prog (g26 k) := (envOK_add (snd33 k) (envOK_nil _))
set_option maxHeartbeats 4000000 in
theorem r26 (S : Seals) (k : Nat) (a0 : List Int) (a1 : Int) : runF tt (g26 k) lv26 Try.f26 k [.dat (.int .i64) a0 true, .i .i64 a1] [] = bindO (slices_Contains_int.f k a0 a1) (fun x : Bool => some (.b x, [])) := by
  unfold slices_Contains_int.f; refine S.run_s rfl rfl ?_; conv => lhs; arg 5; whnf
  conv => lhs; arg 6; whnf
  repeat' first
    | refine S.seq_op rfl ?_; conv => lhs; whnf
    | refine S.op_n ?_; conv => lhs; whnf
    | refine S.seq_nil ?_
    | refine S.reg_n ?_
    | refine S.region rfl ?_
    | refine S.two ?_
    | refine S.blok ?_
    | refine S.cond rfl ?_
    | refine S.after_n ?_
    | refine S.block_n ?_
    | refine S.block_x ?_; conv => lhs; whnf
    | refine S.block_r ?_
    | refine S.after_x ?_
    | refine S.after_r ?_
    | refine S.skip ?_
    | refine S.exit ?_
    | refine S.ret ?_
    | refine br_lt ?_; conv => lhs; whnf
    | refine br_lf ?_; conv => lhs; whnf
    | refine br_t (by assumption) ?_; conv => lhs; whnf
    | refine br_f (by assumption) ?_; conv => lhs; whnf
    | refine req_i (by assumption) ?_; conv => lhs; whnf
    | (refine br_nd (fun _ => ?_) (fun _ => ?_) <;> conv => lhs; whnf)
    | (refine br_d (fun _ => ?_) (fun _ => ?_) <;> conv => lhs; whnf)
    | (refine br_n (fun _ => ?_) (fun _ => ?_) <;> conv => lhs; whnf)
    | (refine br_c (fun _ => ?_) (fun _ => ?_) <;> conv => lhs; whnf)
    | refine req_c fun _ => ?_; conv => lhs; whnf
    | refine bnd_c fun _ => ?_; conv => lhs; whnf
    | refine sum_c (fun _ => ?_) (fun _ => ?_)
    | refine S.loop ?_; conv => lhs; whnf
    | refine S.back_n ?_; conv => lhs; whnf
    | refine S.back_x ?_; conv => lhs; whnf
    | refine S.back_r ?_; conv => lhs; whnf
    | refine S.fin_r ?_; conv => lhs; whnf
    | refine S.fin_n ?_; conv => lhs; whnf
    | exact ret_c rfl
    | exact none_c
    | refine S.draw_op ?_; conv => lhs; whnf; arg 1; whnf
    | refine S.dk_n ?_; conv => lhs; whnf
    | refine S.draw_nil ?_; conv => lhs; whnf
    | refine andK_br ?_
    | refine andK_req ?_
    | refine andK_b ?_
    | refine andK_none ?_
def sp26 (k : Nat) : FSpec := ⟨[.rd, .rd], fun args objs K => match args, objs with | [v0, .i .i64 a1], [] => listB (.int .i64) true v0 fun a0 => bindO (slices_Contains_int.f k a0 a1) fun x : Bool => K (.b x) [] | _, _ => none⟩
theorem snd26 (k : Nat) : Sound Try.prog 26 (sp26 k) := by
  refine ⟨⟨Try.f26, rfl, by kernel_rfl, rfl⟩, fun args objs K r h => ?_⟩
  unfold sp26 at h; dsimp only at h; split at h
  · rename_i v0 a1
    obtain ⟨a0, h, ca0⟩ := listB_spec h
    obtain ⟨x, hx, h⟩ := bindO_some h
    exact ⟨_, _, h, FnOK.args2 (relL_c ca0 (relL_c rel_i relL_n)) (fn_run tab_ok (en26 k) mixed rfl ((r26 seals k a0 a1).trans (bindO_eq hx)))⟩
  · cases h
end Go.Vm

/- mesh_Right -/
namespace Go.Vm
open Go Go.Proofs Go.Pf
def lv28 : Live := look ⟨[], [], [], [], []⟩ [(5, ⟨[3, 9, 10, 11], [3], [2], [], []⟩)]
noncomputable def g28 : FEnv := (fun _ => none)
theorem en28 : EnvOK Try.prog (g28) := (envOK_nil _)
set_option maxHeartbeats 4000000 in
theorem w28_0 (S : Seals) (k : Nat) : ∀ (n : Nat) {x3 : Int} {x9 : List Int} {x10 : Int} {x11 : Int} {K : CK}, S.lp tt (g28) lv28 0 n (loopN Try.f28 0) ⟨[(3, .i .i64 x3), (9, .dat (.int .i64) x9 true), (10, .i .i64 x10), (11, .i .i64 x11)], [], 0, 27⟩ K = bindO (mesh_Right.l0 n x3 x9 x10 x11) (Sum.elim (fun x : Int => K (.exit 0) ⟨[(3, .i .i64 x)], [], 0, 27⟩) (fun x : Bool => K .ret ⟨[(2, .b x)], [], 0, 27⟩)) := by
  intro n; induction n with
  | zero => intros; rw [S.lp_zero]; exact none_c
  | succ n ih =>
    intros; rw [mesh_Right.l0]; refine S.lp_succ ?_; conv => lhs; arg 5; whnf
    repeat' first
      | refine S.seq_op rfl ?_; conv => lhs; whnf
      | refine S.op_n ?_; conv => lhs; whnf
      | refine S.seq_nil ?_
      | refine S.reg_n ?_
      | refine S.region rfl ?_
      | refine S.two ?_
      | refine S.blok ?_
      | refine S.cond rfl ?_
      | refine S.after_n ?_
      | refine S.block_n ?_
      | refine S.block_x ?_; conv => lhs; whnf
      | refine S.block_r ?_
      | refine S.after_x ?_
      | refine S.after_r ?_
      | refine S.skip ?_
      | refine S.exit ?_
      | refine S.ret ?_
      | refine br_lt ?_; conv => lhs; whnf
      | refine br_lf ?_; conv => lhs; whnf
      | refine br_t (by assumption) ?_; conv => lhs; whnf
      | refine br_f (by assumption) ?_; conv => lhs; whnf
      | refine req_i (by assumption) ?_; conv => lhs; whnf
      | (refine br_nd (fun _ => ?_) (fun _ => ?_) <;> conv => lhs; whnf)
      | (refine br_d (fun _ => ?_) (fun _ => ?_) <;> conv => lhs; whnf)
      | (refine br_n (fun _ => ?_) (fun _ => ?_) <;> conv => lhs; whnf)
      | (refine br_c (fun _ => ?_) (fun _ => ?_) <;> conv => lhs; whnf)
      | refine req_c fun _ => ?_; conv => lhs; whnf
      | refine bnd_c fun _ => ?_; conv => lhs; whnf
      | refine sum_c (fun _ => ?_) (fun _ => ?_)
      | exact ih
      | refine S.loop ?_; conv => lhs; whnf
      | refine S.back_n ?_; conv => lhs; whnf
      | refine S.back_x ?_; conv => lhs; whnf
      | refine S.back_r ?_; conv => lhs; whnf
      | refine S.fin_r ?_; conv => lhs; whnf
      | refine S.fin_n ?_; conv => lhs; whnf
      | exact ret_c rfl
      | exact none_c
      | refine S.draw_op ?_; conv => lhs; whnf; arg 1; whnf
      | refine S.dk_n ?_; conv => lhs; whnf
      | refine S.draw_nil ?_; conv => lhs; whnf
      | refine andK_br ?_
      | refine andK_req ?_
      | refine andK_b ?_
      | refine andK_none ?_
set_option maxHeartbeats 4000000 in
theorem r28 (S : Seals) (k : Nat) (a0 : List Int) : runF tt (g28) lv28 Try.f28 k [.dat (.int .i64) a0 true] [] = bindO (mesh_Right.f k a0) (fun x : Bool => some (.b x, [])) := by
  unfold mesh_Right.f; refine S.run_s rfl rfl ?_; conv => lhs; arg 5; whnf
  conv => lhs; arg 6; whnf
  repeat' first
    | refine S.seq_op rfl ?_; conv => lhs; whnf
    | refine S.op_n ?_; conv => lhs; whnf
    | refine S.seq_nil ?_
    | refine S.reg_n ?_
    | refine S.region rfl ?_
    | refine S.two ?_
    | refine S.blok ?_
    | refine S.cond rfl ?_
    | refine S.after_n ?_
    | refine S.block_n ?_
    | refine S.block_x ?_; conv => lhs; whnf
    | refine S.block_r ?_
    | refine S.after_x ?_
    | refine S.after_r ?_
    | refine S.skip ?_
    | refine S.exit ?_
    | refine S.ret ?_
    | refine br_lt ?_; conv => lhs; whnf
    | refine br_lf ?_; conv => lhs; whnf
    | refine br_t (by assumption) ?_; conv => lhs; whnf
    | refine br_f (by assumption) ?_; conv => lhs; whnf
    | refine req_i (by assumption) ?_; conv => lhs; whnf
    | (refine br_nd (fun _ => ?_) (fun _ => ?_) <;> conv => lhs; whnf)
    | (refine br_d (fun _ => ?_) (fun _ => ?_) <;> conv => lhs; whnf)
    | (refine br_n (fun _ => ?_) (fun _ => ?_) <;> conv => lhs; whnf)
    | (refine br_c (fun _ => ?_) (fun _ => ?_) <;> conv => lhs; whnf)
    | refine req_c fun _ => ?_; conv => lhs; whnf
    | refine bnd_c fun _ => ?_; conv => lhs; whnf
    | refine sum_c (fun _ => ?_) (fun _ => ?_)
    | refine (w28_0 S k _).trans ?_
    | refine S.loop ?_; conv => lhs; whnf
    | refine S.back_n ?_; conv => lhs; whnf
    | refine S.back_x ?_; conv => lhs; whnf
    | refine S.back_r ?_; conv => lhs; whnf
    | refine S.fin_r ?_; conv => lhs; whnf
    | refine S.fin_n ?_; conv => lhs; whnf
    | exact ret_c rfl
    | exact none_c
    | refine S.draw_op ?_; conv => lhs; whnf; arg 1; whnf
    | refine S.dk_n ?_; conv => lhs; whnf
    | refine S.draw_nil ?_; conv => lhs; whnf
    | refine andK_br ?_
    | refine andK_req ?_
    | refine andK_b ?_
    | refine andK_none ?_
def sp28 (k : Nat) : FSpec := ⟨[.rd], fun args objs K => match args, objs with | [v0], [] => listB (.int .i64) true v0 fun a0 => bindO (mesh_Right.f k a0) fun x : Bool => K (.b x) [] | _, _ => none⟩
theorem snd28 (k : Nat) : Sound Try.prog 28 (sp28 k) := by
  refine ⟨⟨Try.f28, rfl, by kernel_rfl, rfl⟩, fun args objs K r h => ?_⟩
  unfold sp28 at h; dsimp only at h; split at h
  · rename_i v0
    obtain ⟨a0, h, ca0⟩ := listB_spec h
    obtain ⟨x, hx, h⟩ := bindO_some h
    exact ⟨_, _, h, FnOK.args2 (relL_c ca0 relL_n) (fn_run tab_ok (en28) mixed rfl ((r28 seals k a0).trans (bindO_eq hx)))⟩
  · cases h
end Go.Vm

/- spec_Right -/
namespace Go.Vm
open Go Go.Proofs Go.Pf
def lv14 : Live := look ⟨[], [], [], [], []⟩ [(4, ⟨[0, 1, 18, 19, 20], [], [6], [], []⟩)]
noncomputable def g14 (k : Nat) : FEnv := (addF 26 (sp26 k) (addF 28 (sp28 k) (fun _ => none)))
theorem en14 (k : Nat) : EnvOK Try.prog (g14 k) := (envOK_add (snd26 k) (envOK_add (snd28 k) (envOK_nil _)))
set_option maxHeartbeats 4000000 in
theorem w14_0 (S : Seals) (k : Nat) : ∀ (n : Nat) {x0 : List Int} {x1 : List Int} {x18 : List Int} {x19 : Int} {x20 : Int} {K : CK}, S.lp tt (g14 k) lv14 0 n (loopN Try.f14 0) ⟨[(0, .dat (.int .i64) x0 true), (1, .dat (.int .i64) x1 true), (18, .dat (.int .i64) x18 true), (19, .i .i64 x19), (20, .i .i64 x20)], [], 0, 45⟩ K = bindO (spec_Right.l0 k n x0 x1 x18 x19 x20) (Sum.elim (fun x : Unit => K (.exit 0) ⟨[], [], 0, 45⟩) (fun x : Bool => K .ret ⟨[(6, .b x)], [], 0, 45⟩)) := by
  intro n; induction n with
  | zero => intros; rw [S.lp_zero]; exact none_c
  | succ n ih =>
    intros; rw [spec_Right.l0]; refine S.lp_succ ?_; conv => lhs; arg 5; whnf
    repeat' first
      | refine S.seq_op rfl ?_; conv => lhs; whnf
      | refine S.op_n ?_; conv => lhs; whnf
      | refine S.seq_nil ?_
      | refine S.reg_n ?_
      | refine S.region rfl ?_
      | refine S.two ?_
      | refine S.blok ?_
      | refine S.cond rfl ?_
      | refine S.after_n ?_
      | refine S.block_n ?_
      | refine S.block_x ?_; conv => lhs; whnf
      | refine S.block_r ?_
      | refine S.after_x ?_
      | refine S.after_r ?_
      | refine S.skip ?_
      | refine S.exit ?_
      | refine S.ret ?_
      | refine br_lt ?_; conv => lhs; whnf
      | refine br_lf ?_; conv => lhs; whnf
      | refine br_t (by assumption) ?_; conv => lhs; whnf
      | refine br_f (by assumption) ?_; conv => lhs; whnf
      | refine req_i (by assumption) ?_; conv => lhs; whnf
      | (refine br_nd (fun _ => ?_) (fun _ => ?_) <;> conv => lhs; whnf)
      | (refine br_d (fun _ => ?_) (fun _ => ?_) <;> conv => lhs; whnf)
      | (refine br_n (fun _ => ?_) (fun _ => ?_) <;> conv => lhs; whnf)
      | (refine br_c (fun _ => ?_) (fun _ => ?_) <;> conv => lhs; whnf)
      | refine req_c fun _ => ?_; conv => lhs; whnf
      | refine bnd_c fun _ => ?_; conv => lhs; whnf
      | refine sum_c (fun _ => ?_) (fun _ => ?_)
      | exact ih
      | refine S.loop ?_; conv => lhs; whnf
      | refine S.back_n ?_; conv => lhs; whnf
      | refine S.back_x ?_; conv => lhs; whnf
      | refine S.back_r ?_; conv => lhs; whnf
      | refine S.fin_r ?_; conv => lhs; whnf
      | refine S.fin_n ?_; conv => lhs; whnf
      | exact ret_c rfl
      | exact none_c
      | refine S.draw_op ?_; conv => lhs; whnf; arg 1; whnf
      | refine S.dk_n ?_; conv => lhs; whnf
      | refine S.draw_nil ?_; conv => lhs; whnf
      | refine andK_br ?_
      | refine andK_req ?_
      | refine andK_b ?_
      | refine andK_none ?_
set_option maxHeartbeats 4000000 in
theorem r14 (S : Seals) (k : Nat) (a0 : List Int) (a1 : List Int) (a2 : Int) : runF tt (g14 k) lv14 Try.f14 k [.dat (.int .i64) a0 true, .dat (.int .i64) a1 true, .i .i64 a2] [] = bindO (spec_Right.f k a0 a1 a2) (fun x : Bool => some (.b x, [])) := by
  unfold spec_Right.f; refine S.run_s rfl rfl ?_; conv => lhs; arg 5; whnf
  conv => lhs; arg 6; whnf
  repeat' first
    | refine S.seq_op rfl ?_; conv => lhs; whnf
    | refine S.op_n ?_; conv => lhs; whnf
    | refine S.seq_nil ?_
    | refine S.reg_n ?_
    | refine S.region rfl ?_
    | refine S.two ?_
    | refine S.blok ?_
    | refine S.cond rfl ?_
    | refine S.after_n ?_
    | refine S.block_n ?_
    | refine S.block_x ?_; conv => lhs; whnf
    | refine S.block_r ?_
    | refine S.after_x ?_
    | refine S.after_r ?_
    | refine S.skip ?_
    | refine S.exit ?_
    | refine S.ret ?_
    | refine br_lt ?_; conv => lhs; whnf
    | refine br_lf ?_; conv => lhs; whnf
    | refine br_t (by assumption) ?_; conv => lhs; whnf
    | refine br_f (by assumption) ?_; conv => lhs; whnf
    | refine req_i (by assumption) ?_; conv => lhs; whnf
    | (refine br_nd (fun _ => ?_) (fun _ => ?_) <;> conv => lhs; whnf)
    | (refine br_d (fun _ => ?_) (fun _ => ?_) <;> conv => lhs; whnf)
    | (refine br_n (fun _ => ?_) (fun _ => ?_) <;> conv => lhs; whnf)
    | (refine br_c (fun _ => ?_) (fun _ => ?_) <;> conv => lhs; whnf)
    | refine req_c fun _ => ?_; conv => lhs; whnf
    | refine bnd_c fun _ => ?_; conv => lhs; whnf
    | refine sum_c (fun _ => ?_) (fun _ => ?_)
    | refine (w14_0 S k _).trans ?_
    | refine S.loop ?_; conv => lhs; whnf
    | refine S.back_n ?_; conv => lhs; whnf
    | refine S.back_x ?_; conv => lhs; whnf
    | refine S.back_r ?_; conv => lhs; whnf
    | refine S.fin_r ?_; conv => lhs; whnf
    | refine S.fin_n ?_; conv => lhs; whnf
    | exact ret_c rfl
    | exact none_c
    | refine S.draw_op ?_; conv => lhs; whnf; arg 1; whnf
    | refine S.dk_n ?_; conv => lhs; whnf
    | refine S.draw_nil ?_; conv => lhs; whnf
    | refine andK_br ?_
    | refine andK_req ?_
    | refine andK_b ?_
    | refine andK_none ?_
def sp14 (k : Nat) : FSpec := ⟨[.rd, .rd, .rd], fun args objs K => match args, objs with | [v0, v1, .i .i64 a2], [] => listB (.int .i64) true v0 fun a0 => listB (.int .i64) true v1 fun a1 => bindO (spec_Right.f k a0 a1 a2) fun x : Bool => K (.b x) [] | _, _ => none⟩
theorem snd14 (k : Nat) : Sound Try.prog 14 (sp14 k) := by
  refine ⟨⟨Try.f14, rfl, by kernel_rfl, rfl⟩, fun args objs K r h => ?_⟩
  unfold sp14 at h; dsimp only at h; split at h
  · rename_i v0 v1 a2
    obtain ⟨a0, h, ca0⟩ := listB_spec h
    obtain ⟨a1, h, ca1⟩ := listB_spec h
    obtain ⟨x, hx, h⟩ := bindO_some h
    exact ⟨_, _, h, FnOK.args2 (relL_c ca0 (relL_c ca1 (relL_c rel_i relL_n))) (fn_run tab_ok (en14 k) mixed rfl ((r14 seals k a0 a1 a2).trans (bindO_eq hx)))⟩
  · cases h
end Go.Vm

/- mesh_Devices -/
namespace Go.Vm
open Go Go.Proofs Go.Pf
def lv24 : Live := look ⟨[], [], [], [], []⟩ [(5, ⟨[3, 9, 10, 11], [3], [2], [], []⟩)]
noncomputable def g24 (k : Nat) : FEnv := (addF 28 (sp28 k) (fun _ => none))
theorem en24 (k : Nat) : EnvOK Try.prog (g24 k) := (envOK_add (snd28 k) (envOK_nil _))
set_option maxHeartbeats 4000000 in
theorem w24_0 (S : Seals) (k : Nat) : ∀ (n : Nat) {x3 : Int} {x9 : List Int} {x10 : Int} {x11 : Int} {K : CK}, S.lp tt (g24 k) lv24 0 n (loopN Try.f24 0) ⟨[(3, .i .i64 x3), (9, .dat (.int .i64) x9 true), (10, .i .i64 x10), (11, .i .i64 x11)], [], 0, 20⟩ K = bindO (mesh_Devices.l0 n x3 x9 x10 x11) (fun x : Int => K (.exit 0) ⟨[(3, .i .i64 x)], [], 0, 20⟩) := by
  intro n; induction n with
  | zero => intros; rw [S.lp_zero]; exact none_c
  | succ n ih =>
    intros; rw [mesh_Devices.l0]; refine S.lp_succ ?_; conv => lhs; arg 5; whnf
    repeat' first
      | refine S.seq_op rfl ?_; conv => lhs; whnf
      | refine S.op_n ?_; conv => lhs; whnf
      | refine S.seq_nil ?_
      | refine S.reg_n ?_
      | refine S.region rfl ?_
      | refine S.two ?_
      | refine S.blok ?_
      | refine S.cond rfl ?_
      | refine S.after_n ?_
      | refine S.block_n ?_
      | refine S.block_x ?_; conv => lhs; whnf
      | refine S.block_r ?_
      | refine S.after_x ?_
      | refine S.after_r ?_
      | refine S.skip ?_
      | refine S.exit ?_
      | refine S.ret ?_
      | refine br_lt ?_; conv => lhs; whnf
      | refine br_lf ?_; conv => lhs; whnf
      | refine br_t (by assumption) ?_; conv => lhs; whnf
      | refine br_f (by assumption) ?_; conv => lhs; whnf
      | refine req_i (by assumption) ?_; conv => lhs; whnf
      | (refine br_nd (fun _ => ?_) (fun _ => ?_) <;> conv => lhs; whnf)
      | (refine br_d (fun _ => ?_) (fun _ => ?_) <;> conv => lhs; whnf)
      | (refine br_n (fun _ => ?_) (fun _ => ?_) <;> conv => lhs; whnf)
      | (refine br_c (fun _ => ?_) (fun _ => ?_) <;> conv => lhs; whnf)
      | refine req_c fun _ => ?_; conv => lhs; whnf
      | refine bnd_c fun _ => ?_; conv => lhs; whnf
      | refine sum_c (fun _ => ?_) (fun _ => ?_)
      | exact ih
      | refine S.loop ?_; conv => lhs; whnf
      | refine S.back_n ?_; conv => lhs; whnf
      | refine S.back_x ?_; conv => lhs; whnf
      | refine S.back_r ?_; conv => lhs; whnf
      | refine S.fin_r ?_; conv => lhs; whnf
      | refine S.fin_n ?_; conv => lhs; whnf
      | exact ret_c rfl
      | exact none_c
      | refine S.draw_op ?_; conv => lhs; whnf; arg 1; whnf
      | refine S.dk_n ?_; conv => lhs; whnf
      | refine S.draw_nil ?_; conv => lhs; whnf
      | refine andK_br ?_
      | refine andK_req ?_
      | refine andK_b ?_
      | refine andK_none ?_
set_option maxHeartbeats 4000000 in
theorem r24 (S : Seals) (k : Nat) (a0 : List Int) : runF tt (g24 k) lv24 Try.f24 k [.dat (.int .i64) a0 true] [] = bindO (mesh_Devices.f k a0) (fun x : Int => some (.i .i64 x, [])) := by
  unfold mesh_Devices.f; refine S.run_s rfl rfl ?_; conv => lhs; arg 5; whnf
  conv => lhs; arg 6; whnf
  repeat' first
    | refine S.seq_op rfl ?_; conv => lhs; whnf
    | refine S.op_n ?_; conv => lhs; whnf
    | refine S.seq_nil ?_
    | refine S.reg_n ?_
    | refine S.region rfl ?_
    | refine S.two ?_
    | refine S.blok ?_
    | refine S.cond rfl ?_
    | refine S.after_n ?_
    | refine S.block_n ?_
    | refine S.block_x ?_; conv => lhs; whnf
    | refine S.block_r ?_
    | refine S.after_x ?_
    | refine S.after_r ?_
    | refine S.skip ?_
    | refine S.exit ?_
    | refine S.ret ?_
    | refine br_lt ?_; conv => lhs; whnf
    | refine br_lf ?_; conv => lhs; whnf
    | refine br_t (by assumption) ?_; conv => lhs; whnf
    | refine br_f (by assumption) ?_; conv => lhs; whnf
    | refine req_i (by assumption) ?_; conv => lhs; whnf
    | (refine br_nd (fun _ => ?_) (fun _ => ?_) <;> conv => lhs; whnf)
    | (refine br_d (fun _ => ?_) (fun _ => ?_) <;> conv => lhs; whnf)
    | (refine br_n (fun _ => ?_) (fun _ => ?_) <;> conv => lhs; whnf)
    | (refine br_c (fun _ => ?_) (fun _ => ?_) <;> conv => lhs; whnf)
    | refine req_c fun _ => ?_; conv => lhs; whnf
    | refine bnd_c fun _ => ?_; conv => lhs; whnf
    | refine sum_c (fun _ => ?_) (fun _ => ?_)
    | refine (w24_0 S k _).trans ?_
    | refine S.loop ?_; conv => lhs; whnf
    | refine S.back_n ?_; conv => lhs; whnf
    | refine S.back_x ?_; conv => lhs; whnf
    | refine S.back_r ?_; conv => lhs; whnf
    | refine S.fin_r ?_; conv => lhs; whnf
    | refine S.fin_n ?_; conv => lhs; whnf
    | exact ret_c rfl
    | exact none_c
    | refine S.draw_op ?_; conv => lhs; whnf; arg 1; whnf
    | refine S.dk_n ?_; conv => lhs; whnf
    | refine S.draw_nil ?_; conv => lhs; whnf
    | refine andK_br ?_
    | refine andK_req ?_
    | refine andK_b ?_
    | refine andK_none ?_
def sp24 (k : Nat) : FSpec := ⟨[.rd], fun args objs K => match args, objs with | [v0], [] => listB (.int .i64) true v0 fun a0 => bindO (mesh_Devices.f k a0) fun x : Int => K (.i .i64 x) [] | _, _ => none⟩
theorem snd24 (k : Nat) : Sound Try.prog 24 (sp24 k) := by
  refine ⟨⟨Try.f24, rfl, by kernel_rfl, rfl⟩, fun args objs K r h => ?_⟩
  unfold sp24 at h; dsimp only at h; split at h
  · rename_i v0
    obtain ⟨a0, h, ca0⟩ := listB_spec h
    obtain ⟨x, hx, h⟩ := bindO_some h
    exact ⟨_, _, h, FnOK.args2 (relL_c ca0 relL_n) (fn_run tab_ok (en24 k) mixed rfl ((r24 seals k a0).trans (bindO_eq hx)))⟩
  · cases h
end Go.Vm

/- mesh_At -/
namespace Go.Vm
open Go Go.Proofs Go.Pf
def lv25 : Live := look ⟨[], [], [], [], []⟩ [(5, ⟨[0, 1, 5, 6], [5], [4], [], []⟩), (1000000, ⟨[], [], [], [(4, 0, .own (.int .i64))], []⟩)]
noncomputable def g25 (k : Nat) : FEnv := (addF 24 (sp24 k) (fun _ => none))
theorem en25 (k : Nat) : EnvOK Try.prog (g25 k) := (envOK_add (snd24 k) (envOK_nil _))
set_option maxHeartbeats 4000000 in
theorem w25_0 (S : Seals) (k : Nat) : ∀ (n : Nat) {x0 : List Int} {x1 : Int} {x6 : Int} {y0 : List Int} {K : CK}, S.lp tt (g25 k) lv25 0 n (loopN Try.f25 0) ⟨[(0, .dat (.int .i64) x0 true), (1, .i .i64 x1), (5, .own 0), (6, .i .i64 x6)], [(0, .row (.int .i64) y0 false)], 1, 41⟩ K = bindO (mesh_At.l0 n x0 x1 x6 y0) (fun x : (List Int) => K (.exit 0) ⟨[(5, .own 0)], [(0, .row (.int .i64) x false)], 1, 41⟩) := by
  intro n; induction n with
  | zero => intros; rw [S.lp_zero]; exact none_c
  | succ n ih =>
    intros; rw [mesh_At.l0]; refine S.lp_succ ?_; conv => lhs; arg 5; whnf
    repeat' first
      | refine S.seq_op rfl ?_; conv => lhs; whnf
      | refine S.op_n ?_; conv => lhs; whnf
      | refine S.seq_nil ?_
      | refine S.reg_n ?_
      | refine S.region rfl ?_
      | refine S.two ?_
      | refine S.blok ?_
      | refine S.cond rfl ?_
      | refine S.after_n ?_
      | refine S.block_n ?_
      | refine S.block_x ?_; conv => lhs; whnf
      | refine S.block_r ?_
      | refine S.after_x ?_
      | refine S.after_r ?_
      | refine S.skip ?_
      | refine S.exit ?_
      | refine S.ret ?_
      | refine br_lt ?_; conv => lhs; whnf
      | refine br_lf ?_; conv => lhs; whnf
      | refine br_t (by assumption) ?_; conv => lhs; whnf
      | refine br_f (by assumption) ?_; conv => lhs; whnf
      | refine req_i (by assumption) ?_; conv => lhs; whnf
      | (refine br_nd (fun _ => ?_) (fun _ => ?_) <;> conv => lhs; whnf)
      | (refine br_d (fun _ => ?_) (fun _ => ?_) <;> conv => lhs; whnf)
      | (refine br_n (fun _ => ?_) (fun _ => ?_) <;> conv => lhs; whnf)
      | (refine br_c (fun _ => ?_) (fun _ => ?_) <;> conv => lhs; whnf)
      | refine req_c fun _ => ?_; conv => lhs; whnf
      | refine bnd_c fun _ => ?_; conv => lhs; whnf
      | refine sum_c (fun _ => ?_) (fun _ => ?_)
      | exact ih
      | refine S.loop ?_; conv => lhs; whnf
      | refine S.back_n ?_; conv => lhs; whnf
      | refine S.back_x ?_; conv => lhs; whnf
      | refine S.back_r ?_; conv => lhs; whnf
      | refine S.fin_r ?_; conv => lhs; whnf
      | refine S.fin_n ?_; conv => lhs; whnf
      | exact ret_c rfl
      | exact none_c
      | refine S.draw_op ?_; conv => lhs; whnf; arg 1; whnf
      | refine S.dk_n ?_; conv => lhs; whnf
      | refine S.draw_nil ?_; conv => lhs; whnf
      | refine andK_br ?_
      | refine andK_req ?_
      | refine andK_b ?_
      | refine andK_none ?_
set_option maxHeartbeats 4000000 in
theorem r25 (S : Seals) (k : Nat) (a0 : List Int) (a1 : Int) : runF tt (g25 k) lv25 Try.f25 k [.dat (.int .i64) a0 true, .i .i64 a1] [] = bindO (mesh_At.f k a0 a1) (fun x : (List Int) => some (.own 0, [.row (.int .i64) x false])) := by
  unfold mesh_At.f; refine S.run_s rfl rfl ?_; conv => lhs; arg 5; whnf
  conv => lhs; arg 6; whnf
  repeat' first
    | refine S.seq_op rfl ?_; conv => lhs; whnf
    | refine S.op_n ?_; conv => lhs; whnf
    | refine S.seq_nil ?_
    | refine S.reg_n ?_
    | refine S.region rfl ?_
    | refine S.two ?_
    | refine S.blok ?_
    | refine S.cond rfl ?_
    | refine S.after_n ?_
    | refine S.block_n ?_
    | refine S.block_x ?_; conv => lhs; whnf
    | refine S.block_r ?_
    | refine S.after_x ?_
    | refine S.after_r ?_
    | refine S.skip ?_
    | refine S.exit ?_
    | refine S.ret ?_
    | refine br_lt ?_; conv => lhs; whnf
    | refine br_lf ?_; conv => lhs; whnf
    | refine br_t (by assumption) ?_; conv => lhs; whnf
    | refine br_f (by assumption) ?_; conv => lhs; whnf
    | refine req_i (by assumption) ?_; conv => lhs; whnf
    | (refine br_nd (fun _ => ?_) (fun _ => ?_) <;> conv => lhs; whnf)
    | (refine br_d (fun _ => ?_) (fun _ => ?_) <;> conv => lhs; whnf)
    | (refine br_n (fun _ => ?_) (fun _ => ?_) <;> conv => lhs; whnf)
    | (refine br_c (fun _ => ?_) (fun _ => ?_) <;> conv => lhs; whnf)
    | refine req_c fun _ => ?_; conv => lhs; whnf
    | refine bnd_c fun _ => ?_; conv => lhs; whnf
    | refine sum_c (fun _ => ?_) (fun _ => ?_)
    | refine (w25_0 S k _).trans ?_
    | refine S.loop ?_; conv => lhs; whnf
    | refine S.back_n ?_; conv => lhs; whnf
    | refine S.back_x ?_; conv => lhs; whnf
    | refine S.back_r ?_; conv => lhs; whnf
    | refine S.fin_r ?_; conv => lhs; whnf
    | refine S.fin_n ?_; conv => lhs; whnf
    | exact ret_c rfl
    | exact none_c
    | refine S.draw_op ?_; conv => lhs; whnf; arg 1; whnf
    | refine S.dk_n ?_; conv => lhs; whnf
    | refine S.draw_nil ?_; conv => lhs; whnf
    | refine andK_br ?_
    | refine andK_req ?_
    | refine andK_b ?_
    | refine andK_none ?_
def sp25 (k : Nat) : FSpec := ⟨[.rd, .rd], fun args objs K => match args, objs with | [v0, .i .i64 a1], [] => listB (.int .i64) true v0 fun a0 => bindO (mesh_At.f k a0 a1) fun x : (List Int) => K (.own 0) [.row (.int .i64) x false] | _, _ => none⟩
theorem snd25 (k : Nat) : Sound Try.prog 25 (sp25 k) := by
  refine ⟨⟨Try.f25, rfl, by kernel_rfl, rfl⟩, fun args objs K r h => ?_⟩
  unfold sp25 at h; dsimp only at h; split at h
  · rename_i v0 a1
    obtain ⟨a0, h, ca0⟩ := listB_spec h
    obtain ⟨x, hx, h⟩ := bindO_some h
    exact ⟨_, _, h, FnOK.args2 (relL_c ca0 (relL_c rel_i relL_n)) (fn_run tab_ok (en25 k) mixed rfl ((r25 seals k a0 a1).trans (bindO_eq hx)))⟩
  · cases h
end Go.Vm

/- mesh_Of -/
namespace Go.Vm
open Go Go.Proofs Go.Pf
def lv27 : Live := look ⟨[], [], [], [], []⟩ [(5, ⟨[0, 5, 18, 19, 20], [5], [4], [], []⟩)]
noncomputable def g27 (k : Nat) : FEnv := (addF 28 (sp28 k) (fun _ => none))
theorem en27 (k : Nat) : EnvOK Try.prog (g27 k) := (envOK_add (snd28 k) (envOK_nil _))
set_option maxHeartbeats 4000000 in
theorem w27_0 (S : Seals) (k : Nat) : ∀ (n : Nat) {x0 : List Int} {x5 : Int} {x18 : List Int} {x19 : Int} {x20 : Int} {K : CK}, S.lp tt (g27 k) lv27 0 n (loopN Try.f27 0) ⟨[(0, .dat (.int .i64) x0 true), (5, .i .i64 x5), (18, .dat (.int .i64) x18 true), (19, .i .i64 x19), (20, .i .i64 x20)], [], 0, 45⟩ K = bindO (mesh_Of.l0 n x0 x5 x18 x19 x20) (Sum.elim (fun x : Int => K (.exit 0) ⟨[(5, .i .i64 x)], [], 0, 45⟩) (fun x : Int => K .ret ⟨[(4, .i .i64 x)], [], 0, 45⟩)) := by
  intro n; induction n with
  | zero => intros; rw [S.lp_zero]; exact none_c
  | succ n ih =>
    intros; rw [mesh_Of.l0]; refine S.lp_succ ?_; conv => lhs; arg 5; whnf
    repeat' first
      | refine S.seq_op rfl ?_; conv => lhs; whnf
      | refine S.op_n ?_; conv => lhs; whnf
      | refine S.seq_nil ?_
      | refine S.reg_n ?_
      | refine S.region rfl ?_
      | refine S.two ?_
      | refine S.blok ?_
      | refine S.cond rfl ?_
      | refine S.after_n ?_
      | refine S.block_n ?_
      | refine S.block_x ?_; conv => lhs; whnf
      | refine S.block_r ?_
      | refine S.after_x ?_
      | refine S.after_r ?_
      | refine S.skip ?_
      | refine S.exit ?_
      | refine S.ret ?_
      | refine br_lt ?_; conv => lhs; whnf
      | refine br_lf ?_; conv => lhs; whnf
      | refine br_t (by assumption) ?_; conv => lhs; whnf
      | refine br_f (by assumption) ?_; conv => lhs; whnf
      | refine req_i (by assumption) ?_; conv => lhs; whnf
      | (refine br_nd (fun _ => ?_) (fun _ => ?_) <;> conv => lhs; whnf)
      | (refine br_d (fun _ => ?_) (fun _ => ?_) <;> conv => lhs; whnf)
      | (refine br_n (fun _ => ?_) (fun _ => ?_) <;> conv => lhs; whnf)
      | (refine br_c (fun _ => ?_) (fun _ => ?_) <;> conv => lhs; whnf)
      | refine req_c fun _ => ?_; conv => lhs; whnf
      | refine bnd_c fun _ => ?_; conv => lhs; whnf
      | refine sum_c (fun _ => ?_) (fun _ => ?_)
      | exact ih
      | refine S.loop ?_; conv => lhs; whnf
      | refine S.back_n ?_; conv => lhs; whnf
      | refine S.back_x ?_; conv => lhs; whnf
      | refine S.back_r ?_; conv => lhs; whnf
      | refine S.fin_r ?_; conv => lhs; whnf
      | refine S.fin_n ?_; conv => lhs; whnf
      | exact ret_c rfl
      | exact none_c
      | refine S.draw_op ?_; conv => lhs; whnf; arg 1; whnf
      | refine S.dk_n ?_; conv => lhs; whnf
      | refine S.draw_nil ?_; conv => lhs; whnf
      | refine andK_br ?_
      | refine andK_req ?_
      | refine andK_b ?_
      | refine andK_none ?_
set_option maxHeartbeats 4000000 in
theorem r27 (S : Seals) (k : Nat) (a0 : List Int) (a1 : List Int) : runF tt (g27 k) lv27 Try.f27 k [.dat (.int .i64) a0 true, .dat (.int .i64) a1 true] [] = bindO (mesh_Of.f k a0 a1) (fun x : Int => some (.i .i64 x, [])) := by
  unfold mesh_Of.f; refine S.run_s rfl rfl ?_; conv => lhs; arg 5; whnf
  conv => lhs; arg 6; whnf
  repeat' first
    | refine S.seq_op rfl ?_; conv => lhs; whnf
    | refine S.op_n ?_; conv => lhs; whnf
    | refine S.seq_nil ?_
    | refine S.reg_n ?_
    | refine S.region rfl ?_
    | refine S.two ?_
    | refine S.blok ?_
    | refine S.cond rfl ?_
    | refine S.after_n ?_
    | refine S.block_n ?_
    | refine S.block_x ?_; conv => lhs; whnf
    | refine S.block_r ?_
    | refine S.after_x ?_
    | refine S.after_r ?_
    | refine S.skip ?_
    | refine S.exit ?_
    | refine S.ret ?_
    | refine br_lt ?_; conv => lhs; whnf
    | refine br_lf ?_; conv => lhs; whnf
    | refine br_t (by assumption) ?_; conv => lhs; whnf
    | refine br_f (by assumption) ?_; conv => lhs; whnf
    | refine req_i (by assumption) ?_; conv => lhs; whnf
    | (refine br_nd (fun _ => ?_) (fun _ => ?_) <;> conv => lhs; whnf)
    | (refine br_d (fun _ => ?_) (fun _ => ?_) <;> conv => lhs; whnf)
    | (refine br_n (fun _ => ?_) (fun _ => ?_) <;> conv => lhs; whnf)
    | (refine br_c (fun _ => ?_) (fun _ => ?_) <;> conv => lhs; whnf)
    | refine req_c fun _ => ?_; conv => lhs; whnf
    | refine bnd_c fun _ => ?_; conv => lhs; whnf
    | refine sum_c (fun _ => ?_) (fun _ => ?_)
    | refine (w27_0 S k _).trans ?_
    | refine S.loop ?_; conv => lhs; whnf
    | refine S.back_n ?_; conv => lhs; whnf
    | refine S.back_x ?_; conv => lhs; whnf
    | refine S.back_r ?_; conv => lhs; whnf
    | refine S.fin_r ?_; conv => lhs; whnf
    | refine S.fin_n ?_; conv => lhs; whnf
    | exact ret_c rfl
    | exact none_c
    | refine S.draw_op ?_; conv => lhs; whnf; arg 1; whnf
    | refine S.dk_n ?_; conv => lhs; whnf
    | refine S.draw_nil ?_; conv => lhs; whnf
    | refine andK_br ?_
    | refine andK_req ?_
    | refine andK_b ?_
    | refine andK_none ?_
def sp27 (k : Nat) : FSpec := ⟨[.rd, .rd], fun args objs K => match args, objs with | [v0, v1], [] => listB (.int .i64) true v0 fun a0 => listB (.int .i64) true v1 fun a1 => bindO (mesh_Of.f k a0 a1) fun x : Int => K (.i .i64 x) [] | _, _ => none⟩
theorem snd27 (k : Nat) : Sound Try.prog 27 (sp27 k) := by
  refine ⟨⟨Try.f27, rfl, by kernel_rfl, rfl⟩, fun args objs K r h => ?_⟩
  unfold sp27 at h; dsimp only at h; split at h
  · rename_i v0 v1
    obtain ⟨a0, h, ca0⟩ := listB_spec h
    obtain ⟨a1, h, ca1⟩ := listB_spec h
    obtain ⟨x, hx, h⟩ := bindO_some h
    exact ⟨_, _, h, FnOK.args2 (relL_c ca0 (relL_c ca1 relL_n)) (fn_run tab_ok (en27 k) mixed rfl ((r27 seals k a0 a1).trans (bindO_eq hx)))⟩
  · cases h
end Go.Vm

/- spec_First -/
namespace Go.Vm
open Go Go.Proofs Go.Pf
def lv11 : Live := look ⟨[], [], [], [], []⟩ [(5, ⟨[0, 1, 7, 29, 30], [0, 7], [6], [], []⟩)]
noncomputable def g11 (k : Nat) : FEnv := (addF 27 (sp27 k) (addF 26 (sp26 k) (addF 25 (sp25 k) (addF 24 (sp24 k) (addF 14 (sp14 k) (fun _ => none))))))
theorem en11 (k : Nat) : EnvOK Try.prog (g11 k) := (envOK_add (snd27 k) (envOK_add (snd26 k) (envOK_add (snd25 k) (envOK_add (snd24 k) (envOK_add (snd14 k) (envOK_nil _))))))
set_option maxHeartbeats 4000000 in
theorem w11_0 (S : Seals) (k : Nat) : ∀ (n : Nat) {x0 : List Int} {x1 : List Int} {x29 : Int} {x30 : Int} {y0 : List Int} {K : CK}, S.lp tt (g11 k) lv11 0 n (loopN Try.f11 0) ⟨[(0, .dat (.int .i64) x0 true), (1, .dat (.int .i64) x1 true), (7, .own 0), (29, .i .i64 x29), (30, .i .i64 x30)], [(0, .row (.int .i64) y0 false)], 1, 44⟩ K = bindO (spec_First.l0 k n x0 x1 x29 x30 y0) (fun x : (List Int) => K (.exit 0) ⟨[(0, .dat (.int .i64) x0 true), (7, .own 0)], [(0, .row (.int .i64) x false)], 1, 44⟩) := by
  intro n; induction n with
  | zero => intros; rw [S.lp_zero]; exact none_c
  | succ n ih =>
    intros; rw [spec_First.l0]; refine S.lp_succ ?_; conv => lhs; arg 5; whnf
    repeat' first
      | refine S.seq_op rfl ?_; conv => lhs; whnf
      | refine S.op_n ?_; conv => lhs; whnf
      | refine S.seq_nil ?_
      | refine S.reg_n ?_
      | refine S.region rfl ?_
      | refine S.two ?_
      | refine S.blok ?_
      | refine S.cond rfl ?_
      | refine S.after_n ?_
      | refine S.block_n ?_
      | refine S.block_x ?_; conv => lhs; whnf
      | refine S.block_r ?_
      | refine S.after_x ?_
      | refine S.after_r ?_
      | refine S.skip ?_
      | refine S.exit ?_
      | refine S.ret ?_
      | refine br_lt ?_; conv => lhs; whnf
      | refine br_lf ?_; conv => lhs; whnf
      | refine br_t (by assumption) ?_; conv => lhs; whnf
      | refine br_f (by assumption) ?_; conv => lhs; whnf
      | refine req_i (by assumption) ?_; conv => lhs; whnf
      | (refine br_nd (fun _ => ?_) (fun _ => ?_) <;> conv => lhs; whnf)
      | (refine br_d (fun _ => ?_) (fun _ => ?_) <;> conv => lhs; whnf)
      | (refine br_n (fun _ => ?_) (fun _ => ?_) <;> conv => lhs; whnf)
      | (refine br_c (fun _ => ?_) (fun _ => ?_) <;> conv => lhs; whnf)
      | refine req_c fun _ => ?_; conv => lhs; whnf
      | refine bnd_c fun _ => ?_; conv => lhs; whnf
      | refine sum_c (fun _ => ?_) (fun _ => ?_)
      | exact ih
      | refine S.loop ?_; conv => lhs; whnf
      | refine S.back_n ?_; conv => lhs; whnf
      | refine S.back_x ?_; conv => lhs; whnf
      | refine S.back_r ?_; conv => lhs; whnf
      | refine S.fin_r ?_; conv => lhs; whnf
      | refine S.fin_n ?_; conv => lhs; whnf
      | exact ret_c rfl
      | exact none_c
      | refine S.draw_op ?_; conv => lhs; whnf; arg 1; whnf
      | refine S.dk_n ?_; conv => lhs; whnf
      | refine S.draw_nil ?_; conv => lhs; whnf
      | refine andK_br ?_
      | refine andK_req ?_
      | refine andK_b ?_
      | refine andK_none ?_
set_option maxHeartbeats 4000000 in
theorem r11 (S : Seals) (k : Nat) (a0 : List Int) (a1 : List Int) (a2 : Int) : runF tt (g11 k) lv11 Try.f11 k [.dat (.int .i64) a0 true, .dat (.int .i64) a1 true, .i .i64 a2] [] = bindO (spec_First.f k a0 a1 a2) (fun x : Int => some (.i .i64 x, [])) := by
  unfold spec_First.f; refine S.run_s rfl rfl ?_; conv => lhs; arg 5; whnf
  conv => lhs; arg 6; whnf
  repeat' first
    | refine S.seq_op rfl ?_; conv => lhs; whnf
    | refine S.op_n ?_; conv => lhs; whnf
    | refine S.seq_nil ?_
    | refine S.reg_n ?_
    | refine S.region rfl ?_
    | refine S.two ?_
    | refine S.blok ?_
    | refine S.cond rfl ?_
    | refine S.after_n ?_
    | refine S.block_n ?_
    | refine S.block_x ?_; conv => lhs; whnf
    | refine S.block_r ?_
    | refine S.after_x ?_
    | refine S.after_r ?_
    | refine S.skip ?_
    | refine S.exit ?_
    | refine S.ret ?_
    | refine br_lt ?_; conv => lhs; whnf
    | refine br_lf ?_; conv => lhs; whnf
    | refine br_t (by assumption) ?_; conv => lhs; whnf
    | refine br_f (by assumption) ?_; conv => lhs; whnf
    | refine req_i (by assumption) ?_; conv => lhs; whnf
    | (refine br_nd (fun _ => ?_) (fun _ => ?_) <;> conv => lhs; whnf)
    | (refine br_d (fun _ => ?_) (fun _ => ?_) <;> conv => lhs; whnf)
    | (refine br_n (fun _ => ?_) (fun _ => ?_) <;> conv => lhs; whnf)
    | (refine br_c (fun _ => ?_) (fun _ => ?_) <;> conv => lhs; whnf)
    | refine req_c fun _ => ?_; conv => lhs; whnf
    | refine bnd_c fun _ => ?_; conv => lhs; whnf
    | refine sum_c (fun _ => ?_) (fun _ => ?_)
    | refine (w11_0 S k _).trans ?_
    | refine S.loop ?_; conv => lhs; whnf
    | refine S.back_n ?_; conv => lhs; whnf
    | refine S.back_x ?_; conv => lhs; whnf
    | refine S.back_r ?_; conv => lhs; whnf
    | refine S.fin_r ?_; conv => lhs; whnf
    | refine S.fin_n ?_; conv => lhs; whnf
    | exact ret_c rfl
    | exact none_c
    | refine S.draw_op ?_; conv => lhs; whnf; arg 1; whnf
    | refine S.dk_n ?_; conv => lhs; whnf
    | refine S.draw_nil ?_; conv => lhs; whnf
    | refine andK_br ?_
    | refine andK_req ?_
    | refine andK_b ?_
    | refine andK_none ?_
def sp11 (k : Nat) : FSpec := ⟨[.rd, .rd, .rd], fun args objs K => match args, objs with | [v0, v1, .i .i64 a2], [] => listB (.int .i64) true v0 fun a0 => listB (.int .i64) true v1 fun a1 => bindO (spec_First.f k a0 a1 a2) fun x : Int => K (.i .i64 x) [] | _, _ => none⟩
theorem snd11 (k : Nat) : Sound Try.prog 11 (sp11 k) := by
  refine ⟨⟨Try.f11, rfl, by kernel_rfl, rfl⟩, fun args objs K r h => ?_⟩
  unfold sp11 at h; dsimp only at h; split at h
  · rename_i v0 v1 a2
    obtain ⟨a0, h, ca0⟩ := listB_spec h
    obtain ⟨a1, h, ca1⟩ := listB_spec h
    obtain ⟨x, hx, h⟩ := bindO_some h
    exact ⟨_, _, h, FnOK.args2 (relL_c ca0 (relL_c ca1 (relL_c rel_i relL_n))) (fn_run tab_ok (en11 k) mixed rfl ((r11 seals k a0 a1 a2).trans (bindO_eq hx)))⟩
  · cases h
end Go.Vm

/- spec_Parts -/
namespace Go.Vm
open Go Go.Proofs Go.Pf
def lv13 : Live := look ⟨[], [], [], [], []⟩ [(5, ⟨[0, 5, 17, 18, 19], [5], [4], [], []⟩), (1000000, ⟨[], [], [], [(4, 0, .own (.int .i64))], []⟩)]
noncomputable def g13 (k : Nat) : FEnv := (addF 14 (sp14 k) (fun _ => none))
theorem en13 (k : Nat) : EnvOK Try.prog (g13 k) := (envOK_add (snd14 k) (envOK_nil _))
set_option maxHeartbeats 4000000 in
theorem w13_0 (S : Seals) (k : Nat) : ∀ (n : Nat) {x0 : List Int} {x17 : List Int} {x18 : Int} {x19 : Int} {y0 : List Int} {K : CK}, S.lp tt (g13 k) lv13 0 n (loopN Try.f13 0) ⟨[(0, .dat (.int .i64) x0 true), (5, .own 0), (17, .dat (.int .i64) x17 true), (18, .i .i64 x18), (19, .i .i64 x19)], [(0, .row (.int .i64) y0 false)], 1, 38⟩ K = bindO (spec_Parts.l0 n x0 x17 x18 x19 y0) (fun x : (List Int) => K (.exit 0) ⟨[(5, .own 0)], [(0, .row (.int .i64) x false)], 1, 38⟩) := by
  intro n; induction n with
  | zero => intros; rw [S.lp_zero]; exact none_c
  | succ n ih =>
    intros; rw [spec_Parts.l0]; refine S.lp_succ ?_; conv => lhs; arg 5; whnf
    repeat' first
      | refine S.seq_op rfl ?_; conv => lhs; whnf
      | refine S.op_n ?_; conv => lhs; whnf
      | refine S.seq_nil ?_
      | refine S.reg_n ?_
      | refine S.region rfl ?_
      | refine S.two ?_
      | refine S.blok ?_
      | refine S.cond rfl ?_
      | refine S.after_n ?_
      | refine S.block_n ?_
      | refine S.block_x ?_; conv => lhs; whnf
      | refine S.block_r ?_
      | refine S.after_x ?_
      | refine S.after_r ?_
      | refine S.skip ?_
      | refine S.exit ?_
      | refine S.ret ?_
      | refine br_lt ?_; conv => lhs; whnf
      | refine br_lf ?_; conv => lhs; whnf
      | refine br_t (by assumption) ?_; conv => lhs; whnf
      | refine br_f (by assumption) ?_; conv => lhs; whnf
      | refine req_i (by assumption) ?_; conv => lhs; whnf
      | (refine br_nd (fun _ => ?_) (fun _ => ?_) <;> conv => lhs; whnf)
      | (refine br_d (fun _ => ?_) (fun _ => ?_) <;> conv => lhs; whnf)
      | (refine br_n (fun _ => ?_) (fun _ => ?_) <;> conv => lhs; whnf)
      | (refine br_c (fun _ => ?_) (fun _ => ?_) <;> conv => lhs; whnf)
      | refine req_c fun _ => ?_; conv => lhs; whnf
      | refine bnd_c fun _ => ?_; conv => lhs; whnf
      | refine sum_c (fun _ => ?_) (fun _ => ?_)
      | exact ih
      | refine S.loop ?_; conv => lhs; whnf
      | refine S.back_n ?_; conv => lhs; whnf
      | refine S.back_x ?_; conv => lhs; whnf
      | refine S.back_r ?_; conv => lhs; whnf
      | refine S.fin_r ?_; conv => lhs; whnf
      | refine S.fin_n ?_; conv => lhs; whnf
      | exact ret_c rfl
      | exact none_c
      | refine S.draw_op ?_; conv => lhs; whnf; arg 1; whnf
      | refine S.dk_n ?_; conv => lhs; whnf
      | refine S.draw_nil ?_; conv => lhs; whnf
      | refine andK_br ?_
      | refine andK_req ?_
      | refine andK_b ?_
      | refine andK_none ?_
set_option maxHeartbeats 4000000 in
theorem r13 (S : Seals) (k : Nat) (a0 : List Int) (a1 : List Int) : runF tt (g13 k) lv13 Try.f13 k [.dat (.int .i64) a0 true, .dat (.int .i64) a1 true] [] = bindO (spec_Parts.f k a0 a1) (fun x : (List Int) => some (.own 0, [.row (.int .i64) x false])) := by
  unfold spec_Parts.f; refine S.run_s rfl rfl ?_; conv => lhs; arg 5; whnf
  conv => lhs; arg 6; whnf
  repeat' first
    | refine S.seq_op rfl ?_; conv => lhs; whnf
    | refine S.op_n ?_; conv => lhs; whnf
    | refine S.seq_nil ?_
    | refine S.reg_n ?_
    | refine S.region rfl ?_
    | refine S.two ?_
    | refine S.blok ?_
    | refine S.cond rfl ?_
    | refine S.after_n ?_
    | refine S.block_n ?_
    | refine S.block_x ?_; conv => lhs; whnf
    | refine S.block_r ?_
    | refine S.after_x ?_
    | refine S.after_r ?_
    | refine S.skip ?_
    | refine S.exit ?_
    | refine S.ret ?_
    | refine br_lt ?_; conv => lhs; whnf
    | refine br_lf ?_; conv => lhs; whnf
    | refine br_t (by assumption) ?_; conv => lhs; whnf
    | refine br_f (by assumption) ?_; conv => lhs; whnf
    | refine req_i (by assumption) ?_; conv => lhs; whnf
    | (refine br_nd (fun _ => ?_) (fun _ => ?_) <;> conv => lhs; whnf)
    | (refine br_d (fun _ => ?_) (fun _ => ?_) <;> conv => lhs; whnf)
    | (refine br_n (fun _ => ?_) (fun _ => ?_) <;> conv => lhs; whnf)
    | (refine br_c (fun _ => ?_) (fun _ => ?_) <;> conv => lhs; whnf)
    | refine req_c fun _ => ?_; conv => lhs; whnf
    | refine bnd_c fun _ => ?_; conv => lhs; whnf
    | refine sum_c (fun _ => ?_) (fun _ => ?_)
    | refine (w13_0 S k _).trans ?_
    | refine S.loop ?_; conv => lhs; whnf
    | refine S.back_n ?_; conv => lhs; whnf
    | refine S.back_x ?_; conv => lhs; whnf
    | refine S.back_r ?_; conv => lhs; whnf
    | refine S.fin_r ?_; conv => lhs; whnf
    | refine S.fin_n ?_; conv => lhs; whnf
    | exact ret_c rfl
    | exact none_c
    | refine S.draw_op ?_; conv => lhs; whnf; arg 1; whnf
    | refine S.dk_n ?_; conv => lhs; whnf
    | refine S.draw_nil ?_; conv => lhs; whnf
    | refine andK_br ?_
    | refine andK_req ?_
    | refine andK_b ?_
    | refine andK_none ?_
def sp13 (k : Nat) : FSpec := ⟨[.rd, .rd], fun args objs K => match args, objs with | [v0, v1], [] => listB (.int .i64) true v0 fun a0 => listB (.int .i64) true v1 fun a1 => bindO (spec_Parts.f k a0 a1) fun x : (List Int) => K (.own 0) [.row (.int .i64) x false] | _, _ => none⟩
theorem snd13 (k : Nat) : Sound Try.prog 13 (sp13 k) := by
  refine ⟨⟨Try.f13, rfl, by kernel_rfl, rfl⟩, fun args objs K r h => ?_⟩
  unfold sp13 at h; dsimp only at h; split at h
  · rename_i v0 v1
    obtain ⟨a0, h, ca0⟩ := listB_spec h
    obtain ⟨a1, h, ca1⟩ := listB_spec h
    obtain ⟨x, hx, h⟩ := bindO_some h
    exact ⟨_, _, h, FnOK.args2 (relL_c ca0 (relL_c ca1 relL_n)) (fn_run tab_ok (en13 k) mixed rfl ((r13 seals k a0 a1).trans (bindO_eq hx)))⟩
  · cases h
end Go.Vm

/- spec_Copies -/
namespace Go.Vm
open Go Go.Proofs Go.Pf
def lv12 : Live := look ⟨[], [], [], [], []⟩ [(5, ⟨[5, 18, 19, 20], [5], [4], [], []⟩)]
noncomputable def g12 (k : Nat) : FEnv := (addF 13 (sp13 k) (addF 24 (sp24 k) (addF 14 (sp14 k) (fun _ => none))))
theorem en12 (k : Nat) : EnvOK Try.prog (g12 k) := (envOK_add (snd13 k) (envOK_add (snd24 k) (envOK_add (snd14 k) (envOK_nil _))))
set_option maxHeartbeats 4000000 in
theorem w12_0 (S : Seals) (k : Nat) : ∀ (n : Nat) {x5 : Int} {x19 : Int} {x20 : Int} {y0 : List Int} {K : CK}, S.lp tt (g12 k) lv12 0 n (loopN Try.f12 0) ⟨[(5, .i .i64 x5), (18, .own 0), (19, .i .i64 x19), (20, .i .i64 x20)], [(0, .row (.int .i64) y0 false)], 1, 29⟩ K = bindO (spec_Copies.l0 n x5 x19 x20 y0) (fun x : Int => K (.exit 0) ⟨[(5, .i .i64 x)], [], 0, 29⟩) := by
  intro n; induction n with
  | zero => intros; rw [S.lp_zero]; exact none_c
  | succ n ih =>
    intros; rw [spec_Copies.l0]; refine S.lp_succ ?_; conv => lhs; arg 5; whnf
    repeat' first
      | refine S.seq_op rfl ?_; conv => lhs; whnf
      | refine S.op_n ?_; conv => lhs; whnf
      | refine S.seq_nil ?_
      | refine S.reg_n ?_
      | refine S.region rfl ?_
      | refine S.two ?_
      | refine S.blok ?_
      | refine S.cond rfl ?_
      | refine S.after_n ?_
      | refine S.block_n ?_
      | refine S.block_x ?_; conv => lhs; whnf
      | refine S.block_r ?_
      | refine S.after_x ?_
      | refine S.after_r ?_
      | refine S.skip ?_
      | refine S.exit ?_
      | refine S.ret ?_
      | refine br_lt ?_; conv => lhs; whnf
      | refine br_lf ?_; conv => lhs; whnf
      | refine br_t (by assumption) ?_; conv => lhs; whnf
      | refine br_f (by assumption) ?_; conv => lhs; whnf
      | refine req_i (by assumption) ?_; conv => lhs; whnf
      | (refine br_nd (fun _ => ?_) (fun _ => ?_) <;> conv => lhs; whnf)
      | (refine br_d (fun _ => ?_) (fun _ => ?_) <;> conv => lhs; whnf)
      | (refine br_n (fun _ => ?_) (fun _ => ?_) <;> conv => lhs; whnf)
      | (refine br_c (fun _ => ?_) (fun _ => ?_) <;> conv => lhs; whnf)
      | refine req_c fun _ => ?_; conv => lhs; whnf
      | refine bnd_c fun _ => ?_; conv => lhs; whnf
      | refine sum_c (fun _ => ?_) (fun _ => ?_)
      | exact ih
      | refine S.loop ?_; conv => lhs; whnf
      | refine S.back_n ?_; conv => lhs; whnf
      | refine S.back_x ?_; conv => lhs; whnf
      | refine S.back_r ?_; conv => lhs; whnf
      | refine S.fin_r ?_; conv => lhs; whnf
      | refine S.fin_n ?_; conv => lhs; whnf
      | exact ret_c rfl
      | exact none_c
      | refine S.draw_op ?_; conv => lhs; whnf; arg 1; whnf
      | refine S.dk_n ?_; conv => lhs; whnf
      | refine S.draw_nil ?_; conv => lhs; whnf
      | refine andK_br ?_
      | refine andK_req ?_
      | refine andK_b ?_
      | refine andK_none ?_
set_option maxHeartbeats 4000000 in
theorem r12 (S : Seals) (k : Nat) (a0 : List Int) (a1 : List Int) : runF tt (g12 k) lv12 Try.f12 k [.dat (.int .i64) a0 true, .dat (.int .i64) a1 true] [] = bindO (spec_Copies.f k a0 a1) (fun x : Int => some (.i .i64 x, [])) := by
  unfold spec_Copies.f; refine S.run_s rfl rfl ?_; conv => lhs; arg 5; whnf
  conv => lhs; arg 6; whnf
  repeat' first
    | refine S.seq_op rfl ?_; conv => lhs; whnf
    | refine S.op_n ?_; conv => lhs; whnf
    | refine S.seq_nil ?_
    | refine S.reg_n ?_
    | refine S.region rfl ?_
    | refine S.two ?_
    | refine S.blok ?_
    | refine S.cond rfl ?_
    | refine S.after_n ?_
    | refine S.block_n ?_
    | refine S.block_x ?_; conv => lhs; whnf
    | refine S.block_r ?_
    | refine S.after_x ?_
    | refine S.after_r ?_
    | refine S.skip ?_
    | refine S.exit ?_
    | refine S.ret ?_
    | refine br_lt ?_; conv => lhs; whnf
    | refine br_lf ?_; conv => lhs; whnf
    | refine br_t (by assumption) ?_; conv => lhs; whnf
    | refine br_f (by assumption) ?_; conv => lhs; whnf
    | refine req_i (by assumption) ?_; conv => lhs; whnf
    | (refine br_nd (fun _ => ?_) (fun _ => ?_) <;> conv => lhs; whnf)
    | (refine br_d (fun _ => ?_) (fun _ => ?_) <;> conv => lhs; whnf)
    | (refine br_n (fun _ => ?_) (fun _ => ?_) <;> conv => lhs; whnf)
    | (refine br_c (fun _ => ?_) (fun _ => ?_) <;> conv => lhs; whnf)
    | refine req_c fun _ => ?_; conv => lhs; whnf
    | refine bnd_c fun _ => ?_; conv => lhs; whnf
    | refine sum_c (fun _ => ?_) (fun _ => ?_)
    | refine (w12_0 S k _).trans ?_
    | refine S.loop ?_; conv => lhs; whnf
    | refine S.back_n ?_; conv => lhs; whnf
    | refine S.back_x ?_; conv => lhs; whnf
    | refine S.back_r ?_; conv => lhs; whnf
    | refine S.fin_r ?_; conv => lhs; whnf
    | refine S.fin_n ?_; conv => lhs; whnf
    | exact ret_c rfl
    | exact none_c
    | refine S.draw_op ?_; conv => lhs; whnf; arg 1; whnf
    | refine S.dk_n ?_; conv => lhs; whnf
    | refine S.draw_nil ?_; conv => lhs; whnf
    | refine andK_br ?_
    | refine andK_req ?_
    | refine andK_b ?_
    | refine andK_none ?_
def sp12 (k : Nat) : FSpec := ⟨[.rd, .rd], fun args objs K => match args, objs with | [v0, v1], [] => listB (.int .i64) true v0 fun a0 => listB (.int .i64) true v1 fun a1 => bindO (spec_Copies.f k a0 a1) fun x : Int => K (.i .i64 x) [] | _, _ => none⟩
theorem snd12 (k : Nat) : Sound Try.prog 12 (sp12 k) := by
  refine ⟨⟨Try.f12, rfl, by kernel_rfl, rfl⟩, fun args objs K r h => ?_⟩
  unfold sp12 at h; dsimp only at h; split at h
  · rename_i v0 v1
    obtain ⟨a0, h, ca0⟩ := listB_spec h
    obtain ⟨a1, h, ca1⟩ := listB_spec h
    obtain ⟨x, hx, h⟩ := bindO_some h
    exact ⟨_, _, h, FnOK.args2 (relL_c ca0 (relL_c ca1 relL_n)) (fn_run tab_ok (en12 k) mixed rfl ((r12 seals k a0 a1).trans (bindO_eq hx)))⟩
  · cases h
end Go.Vm

/- math_bits_Mul64 -/
namespace Go.Vm
open Go Go.Proofs Go.Pf
def lv36 : Live := look ⟨[], [], [], [], []⟩ []
noncomputable def g36 : FEnv := (fun _ => none)
theorem en36 : EnvOK Try.prog (g36) := (envOK_nil _)
set_option maxHeartbeats 4000000 in
theorem r36 (S : Seals) (k : Nat) (a0 : Int) (a1 : Int) : runF tt (g36) lv36 Try.f36 k [.i .u64 a0, .i .u64 a1] [] = bindO (math_bits_Mul64.f a0 a1) (fun x : Int × Int => some (.tup [.i .u64 x.1, .i .u64 x.2], [])) := by
  unfold math_bits_Mul64.f; refine S.run_s rfl rfl ?_; conv => lhs; arg 5; whnf
  conv => lhs; arg 6; whnf
  repeat' first
    | refine S.seq_op rfl ?_; conv => lhs; whnf
    | refine S.op_n ?_; conv => lhs; whnf
    | refine S.seq_nil ?_
    | refine S.reg_n ?_
    | refine S.region rfl ?_
    | refine S.two ?_
    | refine S.blok ?_
    | refine S.cond rfl ?_
    | refine S.after_n ?_
    | refine S.block_n ?_
    | refine S.block_x ?_; conv => lhs; whnf
    | refine S.block_r ?_
    | refine S.after_x ?_
    | refine S.after_r ?_
    | refine S.skip ?_
    | refine S.exit ?_
    | refine S.ret ?_
    | refine br_lt ?_; conv => lhs; whnf
    | refine br_lf ?_; conv => lhs; whnf
    | refine br_t (by assumption) ?_; conv => lhs; whnf
    | refine br_f (by assumption) ?_; conv => lhs; whnf
    | refine req_i (by assumption) ?_; conv => lhs; whnf
    | (refine br_nd (fun _ => ?_) (fun _ => ?_) <;> conv => lhs; whnf)
    | (refine br_d (fun _ => ?_) (fun _ => ?_) <;> conv => lhs; whnf)
    | (refine br_n (fun _ => ?_) (fun _ => ?_) <;> conv => lhs; whnf)
    | (refine br_c (fun _ => ?_) (fun _ => ?_) <;> conv => lhs; whnf)
    | refine req_c fun _ => ?_; conv => lhs; whnf
    | refine bnd_c fun _ => ?_; conv => lhs; whnf
    | refine sum_c (fun _ => ?_) (fun _ => ?_)
    | refine S.loop ?_; conv => lhs; whnf
    | refine S.back_n ?_; conv => lhs; whnf
    | refine S.back_x ?_; conv => lhs; whnf
    | refine S.back_r ?_; conv => lhs; whnf
    | refine S.fin_r ?_; conv => lhs; whnf
    | refine S.fin_n ?_; conv => lhs; whnf
    | exact ret_c rfl
    | exact none_c
    | refine S.draw_op ?_; conv => lhs; whnf; arg 1; whnf
    | refine S.dk_n ?_; conv => lhs; whnf
    | refine S.draw_nil ?_; conv => lhs; whnf
    | refine andK_br ?_
    | refine andK_req ?_
    | refine andK_b ?_
    | refine andK_none ?_
def sp36 : FSpec := ⟨[.rd, .rd], fun args objs K => match args, objs with | [.i .u64 a0, .i .u64 a1], [] => bindO (math_bits_Mul64.f a0 a1) fun x : Int × Int => K (.tup [.i .u64 x.1, .i .u64 x.2]) [] | _, _ => none⟩
theorem snd36 : Sound Try.prog 36 (sp36) := by
  refine ⟨⟨Try.f36, rfl, by kernel_rfl, rfl⟩, fun args objs K r h => ?_⟩
  unfold sp36 at h; dsimp only at h; split at h
  · rename_i a0 a1
    obtain ⟨x, hx, h⟩ := bindO_some h
    exact ⟨_, _, h, FnOK.args2 (relL_c rel_i (relL_c rel_i relL_n)) (fn_run tab_ok (en36) mixed rfl ((r36 seals 0 a0 a1).trans (bindO_eq hx)))⟩
  · cases h
end Go.Vm

/- math_bits_Mul -/
namespace Go.Vm
open Go Go.Proofs Go.Pf
def lv34 : Live := look ⟨[], [], [], [], []⟩ []
noncomputable def g34 : FEnv := (addF 36 sp36 (fun _ => none))
theorem en34 : EnvOK Try.prog (g34) := (envOK_add snd36 (envOK_nil _))
set_option maxHeartbeats 4000000 in
theorem r34 (S : Seals) (k : Nat) (a0 : Int) (a1 : Int) : runF tt (g34) lv34 Try.f34 k [.i .u64 a0, .i .u64 a1] [] = bindO (math_bits_Mul.f a0 a1) (fun x : Int × Int => some (.tup [.i .u64 x.1, .i .u64 x.2], [])) := by
  unfold math_bits_Mul.f; refine S.run_s rfl rfl ?_; conv => lhs; arg 5; whnf
  conv => lhs; arg 6; whnf
  repeat' first
    | refine S.seq_op rfl ?_; conv => lhs; whnf
    | refine S.op_n ?_; conv => lhs; whnf
    | refine S.seq_nil ?_
    | refine S.reg_n ?_
    | refine S.region rfl ?_
    | refine S.two ?_
    | refine S.blok ?_
    | refine S.cond rfl ?_
    | refine S.after_n ?_
    | refine S.block_n ?_
    | refine S.block_x ?_; conv => lhs; whnf
    | refine S.block_r ?_
    | refine S.after_x ?_
    | refine S.after_r ?_
    | refine S.skip ?_
    | refine S.exit ?_
    | refine S.ret ?_
    | refine br_lt ?_; conv => lhs; whnf
    | refine br_lf ?_; conv => lhs; whnf
    | refine br_t (by assumption) ?_; conv => lhs; whnf
    | refine br_f (by assumption) ?_; conv => lhs; whnf
    | refine req_i (by assumption) ?_; conv => lhs; whnf
    | (refine br_nd (fun _ => ?_) (fun _ => ?_) <;> conv => lhs; whnf)
    | (refine br_d (fun _ => ?_) (fun _ => ?_) <;> conv => lhs; whnf)
    | (refine br_n (fun _ => ?_) (fun _ => ?_) <;> conv => lhs; whnf)
    | (refine br_c (fun _ => ?_) (fun _ => ?_) <;> conv => lhs; whnf)
    | refine req_c fun _ => ?_; conv => lhs; whnf
    | refine bnd_c fun _ => ?_; conv => lhs; whnf
    | refine sum_c (fun _ => ?_) (fun _ => ?_)
    | refine S.loop ?_; conv => lhs; whnf
    | refine S.back_n ?_; conv => lhs; whnf
    | refine S.back_x ?_; conv => lhs; whnf
    | refine S.back_r ?_; conv => lhs; whnf
    | refine S.fin_r ?_; conv => lhs; whnf
    | refine S.fin_n ?_; conv => lhs; whnf
    | exact ret_c rfl
    | exact none_c
    | refine S.draw_op ?_; conv => lhs; whnf; arg 1; whnf
    | refine S.dk_n ?_; conv => lhs; whnf
    | refine S.draw_nil ?_; conv => lhs; whnf
    | refine andK_br ?_
    | refine andK_req ?_
    | refine andK_b ?_
    | refine andK_none ?_
def sp34 : FSpec := ⟨[.rd, .rd], fun args objs K => match args, objs with | [.i .u64 a0, .i .u64 a1], [] => bindO (math_bits_Mul.f a0 a1) fun x : Int × Int => K (.tup [.i .u64 x.1, .i .u64 x.2]) [] | _, _ => none⟩
theorem snd34 : Sound Try.prog 34 (sp34) := by
  refine ⟨⟨Try.f34, rfl, by kernel_rfl, rfl⟩, fun args objs K r h => ?_⟩
  unfold sp34 at h; dsimp only at h; split at h
  · rename_i a0 a1
    obtain ⟨x, hx, h⟩ := bindO_some h
    exact ⟨_, _, h, FnOK.args2 (relL_c rel_i (relL_c rel_i relL_n)) (fn_run tab_ok (en34) mixed rfl ((r34 seals 0 a0 a1).trans (bindO_eq hx)))⟩
  · cases h
end Go.Vm

/- slices_Repeat_int -/
namespace Go.Vm
open Go Go.Proofs Go.Pf
def lv29 : Live := look ⟨[], [], [], [], []⟩ [(8, ⟨[7, 8], [7], [4], [], []⟩)]
noncomputable def g29 : FEnv := (addF 34 sp34 (fun _ => none))
theorem en29 : EnvOK Try.prog (g29) := (envOK_add snd34 (envOK_nil _))
set_option maxHeartbeats 4000000 in
theorem w29_0 (S : Seals) (k : Nat) : ∀ (n : Nat) {x8 : Int} {y0 : List Int} {K : CK}, S.lp tt (g29) lv29 0 n (loopN Try.f29 0) ⟨[(7, .own 0), (8, .i .i64 x8)], [(0, .row (.int .i64) y0 false)], 1, 48⟩ K = bindO (slices_Repeat_int.l0 n x8 y0) (fun x : (List Int) => K (.exit 0) ⟨[(7, .own 0)], [(0, .row (.int .i64) x false)], 1, 48⟩) := by
  intro n; induction n with
  | zero => intros; rw [S.lp_zero]; exact none_c
  | succ n ih =>
    intros; rw [slices_Repeat_int.l0]; refine S.lp_succ ?_; conv => lhs; arg 5; whnf
    repeat' first
      | refine S.seq_op rfl ?_; conv => lhs; whnf
      | refine S.op_n ?_; conv => lhs; whnf
      | refine S.seq_nil ?_
      | refine S.reg_n ?_
      | refine S.region rfl ?_
      | refine S.two ?_
      | refine S.blok ?_
      | refine S.cond rfl ?_
      | refine S.after_n ?_
      | refine S.block_n ?_
      | refine S.block_x ?_; conv => lhs; whnf
      | refine S.block_r ?_
      | refine S.after_x ?_
      | refine S.after_r ?_
      | refine S.skip ?_
      | refine S.exit ?_
      | refine S.ret ?_
      | refine br_lt ?_; conv => lhs; whnf
      | refine br_lf ?_; conv => lhs; whnf
      | refine br_t (by assumption) ?_; conv => lhs; whnf
      | refine br_f (by assumption) ?_; conv => lhs; whnf
      | refine req_i (by assumption) ?_; conv => lhs; whnf
      | (refine br_nd (fun _ => ?_) (fun _ => ?_) <;> conv => lhs; whnf)
      | (refine br_d (fun _ => ?_) (fun _ => ?_) <;> conv => lhs; whnf)
      | (refine br_n (fun _ => ?_) (fun _ => ?_) <;> conv => lhs; whnf)
      | (refine br_c (fun _ => ?_) (fun _ => ?_) <;> conv => lhs; whnf)
      | refine req_c fun _ => ?_; conv => lhs; whnf
      | refine bnd_c fun _ => ?_; conv => lhs; whnf
      | refine sum_c (fun _ => ?_) (fun _ => ?_)
      | refine S.region_d (id := 9) (ds := [0, 0, 0, 6, 0, 0, 48, 126, 255, 511]) (mds := [[], [], [], [], [], [], [], [0], [], []]) (hm := [(7, [0])]) (by kernel_rfl) (by kernel_rfl) rfl rfl ?_
      | exact ih
      | refine S.loop ?_; conv => lhs; whnf
      | refine S.back_n ?_; conv => lhs; whnf
      | refine S.back_x ?_; conv => lhs; whnf
      | refine S.back_r ?_; conv => lhs; whnf
      | refine S.fin_r ?_; conv => lhs; whnf
      | refine S.fin_n ?_; conv => lhs; whnf
      | exact ret_c rfl
      | exact none_c
      | refine S.draw_op ?_; conv => lhs; whnf; arg 1; whnf
      | refine S.dk_n ?_; conv => lhs; whnf
      | refine S.draw_nil ?_; conv => lhs; whnf
      | refine andK_br ?_
      | refine andK_req ?_
      | refine andK_b ?_
      | refine andK_none ?_
set_option maxHeartbeats 4000000 in
theorem r29 (S : Seals) (k : Nat) (a0 : List Int) (a1 : Int) : runF tt (g29) lv29 Try.f29 k [.dat (.int .i64) a0 true, .i .i64 a1] [] = bindO (slices_Repeat_int.f k a0 a1) (fun x : (List Int) => some (.own 0, [.row (.int .i64) x false])) := by
  unfold slices_Repeat_int.f; refine S.run_s rfl rfl ?_; conv => lhs; arg 5; whnf
  conv => lhs; arg 6; whnf
  repeat' first
    | refine S.seq_op rfl ?_; conv => lhs; whnf
    | refine S.op_n ?_; conv => lhs; whnf
    | refine S.seq_nil ?_
    | refine S.reg_n ?_
    | refine S.region rfl ?_
    | refine S.two ?_
    | refine S.blok ?_
    | refine S.cond rfl ?_
    | refine S.after_n ?_
    | refine S.block_n ?_
    | refine S.block_x ?_; conv => lhs; whnf
    | refine S.block_r ?_
    | refine S.after_x ?_
    | refine S.after_r ?_
    | refine S.skip ?_
    | refine S.exit ?_
    | refine S.ret ?_
    | refine br_lt ?_; conv => lhs; whnf
    | refine br_lf ?_; conv => lhs; whnf
    | refine br_t (by assumption) ?_; conv => lhs; whnf
    | refine br_f (by assumption) ?_; conv => lhs; whnf
    | refine req_i (by assumption) ?_; conv => lhs; whnf
    | (refine br_nd (fun _ => ?_) (fun _ => ?_) <;> conv => lhs; whnf)
    | (refine br_d (fun _ => ?_) (fun _ => ?_) <;> conv => lhs; whnf)
    | (refine br_n (fun _ => ?_) (fun _ => ?_) <;> conv => lhs; whnf)
    | (refine br_c (fun _ => ?_) (fun _ => ?_) <;> conv => lhs; whnf)
    | refine req_c fun _ => ?_; conv => lhs; whnf
    | refine bnd_c fun _ => ?_; conv => lhs; whnf
    | refine sum_c (fun _ => ?_) (fun _ => ?_)
    | refine (w29_0 S k _).trans ?_
    | refine S.loop ?_; conv => lhs; whnf
    | refine S.back_n ?_; conv => lhs; whnf
    | refine S.back_x ?_; conv => lhs; whnf
    | refine S.back_r ?_; conv => lhs; whnf
    | refine S.fin_r ?_; conv => lhs; whnf
    | refine S.fin_n ?_; conv => lhs; whnf
    | exact ret_c rfl
    | exact none_c
    | refine S.draw_op ?_; conv => lhs; whnf; arg 1; whnf
    | refine S.dk_n ?_; conv => lhs; whnf
    | refine S.draw_nil ?_; conv => lhs; whnf
    | refine andK_br ?_
    | refine andK_req ?_
    | refine andK_b ?_
    | refine andK_none ?_
def sp29 (k : Nat) : FSpec := ⟨[.rd, .rd], fun args objs K => match args, objs with | [v0, .i .i64 a1], [] => listB (.int .i64) true v0 fun a0 => bindO (slices_Repeat_int.f k a0 a1) fun x : (List Int) => K (.own 0) [.row (.int .i64) x false] | _, _ => none⟩
theorem snd29 (k : Nat) : Sound Try.prog 29 (sp29 k) := by
  refine ⟨⟨Try.f29, rfl, by kernel_rfl, rfl⟩, fun args objs K r h => ?_⟩
  unfold sp29 at h; dsimp only at h; split at h
  · rename_i v0 a1
    obtain ⟨a0, h, ca0⟩ := listB_spec h
    obtain ⟨x, hx, h⟩ := bindO_some h
    exact ⟨_, _, h, FnOK.args2 (relL_c ca0 (relL_c rel_i relL_n)) (fn_run tab_ok (en29) mixed rfl ((r29 seals k a0 a1).trans (bindO_eq hx)))⟩
  · cases h
end Go.Vm

/- spec_Whole -/
namespace Go.Vm
open Go Go.Proofs Go.Pf
def lv15 : Live := look ⟨[], [], [], [], []⟩ [(1000000, ⟨[], [], [], [(2, 0, .own (.int .i64))], []⟩)]
noncomputable def g15 (k : Nat) : FEnv := (addF 29 (sp29 k) (fun _ => none))
theorem en15 (k : Nat) : EnvOK Try.prog (g15 k) := (envOK_add (snd29 k) (envOK_nil _))
set_option maxHeartbeats 4000000 in
theorem r15 (S : Seals) (k : Nat) (a0 : Int) : runF tt (g15 k) lv15 Try.f15 k [.i .i64 a0] [] = bindO (spec_Whole.f k a0) (fun x : (List Int) => some (.own 0, [.row (.int .i64) x false])) := by
  unfold spec_Whole.f; refine S.run_s rfl rfl ?_; conv => lhs; arg 5; whnf
  conv => lhs; arg 6; whnf
  repeat' first
    | refine S.seq_op rfl ?_; conv => lhs; whnf
    | refine S.op_n ?_; conv => lhs; whnf
    | refine S.seq_nil ?_
    | refine S.reg_n ?_
    | refine S.region rfl ?_
    | refine S.two ?_
    | refine S.blok ?_
    | refine S.cond rfl ?_
    | refine S.after_n ?_
    | refine S.block_n ?_
    | refine S.block_x ?_; conv => lhs; whnf
    | refine S.block_r ?_
    | refine S.after_x ?_
    | refine S.after_r ?_
    | refine S.skip ?_
    | refine S.exit ?_
    | refine S.ret ?_
    | refine br_lt ?_; conv => lhs; whnf
    | refine br_lf ?_; conv => lhs; whnf
    | refine br_t (by assumption) ?_; conv => lhs; whnf
    | refine br_f (by assumption) ?_; conv => lhs; whnf
    | refine req_i (by assumption) ?_; conv => lhs; whnf
    | (refine br_nd (fun _ => ?_) (fun _ => ?_) <;> conv => lhs; whnf)
    | (refine br_d (fun _ => ?_) (fun _ => ?_) <;> conv => lhs; whnf)
    | (refine br_n (fun _ => ?_) (fun _ => ?_) <;> conv => lhs; whnf)
    | (refine br_c (fun _ => ?_) (fun _ => ?_) <;> conv => lhs; whnf)
    | refine req_c fun _ => ?_; conv => lhs; whnf
    | refine bnd_c fun _ => ?_; conv => lhs; whnf
    | refine sum_c (fun _ => ?_) (fun _ => ?_)
    | refine S.loop ?_; conv => lhs; whnf
    | refine S.back_n ?_; conv => lhs; whnf
    | refine S.back_x ?_; conv => lhs; whnf
    | refine S.back_r ?_; conv => lhs; whnf
    | refine S.fin_r ?_; conv => lhs; whnf
    | refine S.fin_n ?_; conv => lhs; whnf
    | exact ret_c rfl
    | exact none_c
    | refine S.draw_op ?_; conv => lhs; whnf; arg 1; whnf
    | refine S.dk_n ?_; conv => lhs; whnf
    | refine S.draw_nil ?_; conv => lhs; whnf
    | refine andK_br ?_
    | refine andK_req ?_
    | refine andK_b ?_
    | refine andK_none ?_
def sp15 (k : Nat) : FSpec := ⟨[.rd], fun args objs K => match args, objs with | [.i .i64 a0], [] => bindO (spec_Whole.f k a0) fun x : (List Int) => K (.own 0) [.row (.int .i64) x false] | _, _ => none⟩
theorem snd15 (k : Nat) : Sound Try.prog 15 (sp15 k) := by
  refine ⟨⟨Try.f15, rfl, by kernel_rfl, rfl⟩, fun args objs K r h => ?_⟩
  unfold sp15 at h; dsimp only at h; split at h
  · rename_i a0
    obtain ⟨x, hx, h⟩ := bindO_some h
    exact ⟨_, _, h, FnOK.args2 (relL_c rel_i relL_n) (fn_run tab_ok (en15 k) mixed rfl ((r15 seals k a0).trans (bindO_eq hx)))⟩
  · cases h
end Go.Vm

/- slices_Equal_int -/
namespace Go.Vm
open Go Go.Proofs Go.Pf
def lv30 : Live := look ⟨[], [], [], [], []⟩ [(4, ⟨[0, 1, 12, 13], [], [4], [], []⟩)]
noncomputable def g30 : FEnv := (fun _ => none)
theorem en30 : EnvOK Try.prog (g30) := (envOK_nil _)
set_option maxHeartbeats 4000000 in
theorem w30_0 (S : Seals) (k : Nat) : ∀ (n : Nat) {x0 : List Int} {x1 : List Int} {x12 : Int} {x13 : Int} {K : CK}, S.lp tt (g30) lv30 0 n (loopN Try.f30 0) ⟨[(0, .dat (.int .i64) x0 true), (1, .dat (.int .i64) x1 true), (12, .i .i64 x12), (13, .i .i64 x13)], [], 0, 26⟩ K = bindO (slices_Equal_int.l0 n x0 x1 x12 x13) (Sum.elim (fun x : Unit => K (.exit 0) ⟨[], [], 0, 26⟩) (fun x : Bool => K .ret ⟨[(4, .b x)], [], 0, 26⟩)) := by
  intro n; induction n with
  | zero => intros; rw [S.lp_zero]; exact none_c
  | succ n ih =>
    intros; rw [slices_Equal_int.l0]; refine S.lp_succ ?_; conv => lhs; arg 5; whnf
    repeat' first
      | refine S.seq_op rfl ?_; conv => lhs; whnf
      | refine S.op_n ?_; conv => lhs; whnf
      | refine S.seq_nil ?_
      | refine S.reg_n ?_
      | refine S.region rfl ?_
      | refine S.two ?_
      | refine S.blok ?_
      | refine S.cond rfl ?_
      | refine S.after_n ?_
      | refine S.block_n ?_
      | refine S.block_x ?_; conv => lhs; whnf
      | refine S.block_r ?_
      | refine S.after_x ?_
      | refine S.after_r ?_
      | refine S.skip ?_
      | refine S.exit ?_
      | refine S.ret ?_
      | refine br_lt ?_; conv => lhs; whnf
      | refine br_lf ?_; conv => lhs; whnf
      | refine br_t (by assumption) ?_; conv => lhs; whnf
      | refine br_f (by assumption) ?_; conv => lhs; whnf
      | refine req_i (by assumption) ?_; conv => lhs; whnf
      | (refine br_nd (fun _ => ?_) (fun _ => ?_) <;> conv => lhs; whnf)
      | (refine br_d (fun _ => ?_) (fun _ => ?_) <;> conv => lhs; whnf)
      | (refine br_n (fun _ => ?_) (fun _ => ?_) <;> conv => lhs; whnf)
      | (refine br_c (fun _ => ?_) (fun _ => ?_) <;> conv => lhs; whnf)
      | refine req_c fun _ => ?_; conv => lhs; whnf
      | refine bnd_c fun _ => ?_; conv => lhs; whnf
      | refine sum_c (fun _ => ?_) (fun _ => ?_)
      | refine S.region_d (id := 6) (ds := [0, 0, 3, 7, 0, 0, 48, 112, 255]) (mds := [[], [], [], [], [], [], [], [], []]) (hm := []) (by kernel_rfl) (by kernel_rfl) rfl rfl ?_
      | exact ih
      | refine S.loop ?_; conv => lhs; whnf
      | refine S.back_n ?_; conv => lhs; whnf
      | refine S.back_x ?_; conv => lhs; whnf
      | refine S.back_r ?_; conv => lhs; whnf
      | refine S.fin_r ?_; conv => lhs; whnf
      | refine S.fin_n ?_; conv => lhs; whnf
      | exact ret_c rfl
      | exact none_c
      | refine S.draw_op ?_; conv => lhs; whnf; arg 1; whnf
      | refine S.dk_n ?_; conv => lhs; whnf
      | refine S.draw_nil ?_; conv => lhs; whnf
      | refine andK_br ?_
      | refine andK_req ?_
      | refine andK_b ?_
      | refine andK_none ?_
set_option maxHeartbeats 4000000 in
theorem r30 (S : Seals) (k : Nat) (a0 : List Int) (a1 : List Int) : runF tt (g30) lv30 Try.f30 k [.dat (.int .i64) a0 true, .dat (.int .i64) a1 true] [] = bindO (slices_Equal_int.f k a0 a1) (fun x : Bool => some (.b x, [])) := by
  unfold slices_Equal_int.f; refine S.run_s rfl rfl ?_; conv => lhs; arg 5; whnf
  conv => lhs; arg 6; whnf
  repeat' first
    | refine S.seq_op rfl ?_; conv => lhs; whnf
    | refine S.op_n ?_; conv => lhs; whnf
    | refine S.seq_nil ?_
    | refine S.reg_n ?_
    | refine S.region rfl ?_
    | refine S.two ?_
    | refine S.blok ?_
    | refine S.cond rfl ?_
    | refine S.after_n ?_
    | refine S.block_n ?_
    | refine S.block_x ?_; conv => lhs; whnf
    | refine S.block_r ?_
    | refine S.after_x ?_
    | refine S.after_r ?_
    | refine S.skip ?_
    | refine S.exit ?_
    | refine S.ret ?_
    | refine br_lt ?_; conv => lhs; whnf
    | refine br_lf ?_; conv => lhs; whnf
    | refine br_t (by assumption) ?_; conv => lhs; whnf
    | refine br_f (by assumption) ?_; conv => lhs; whnf
    | refine req_i (by assumption) ?_; conv => lhs; whnf
    | (refine br_nd (fun _ => ?_) (fun _ => ?_) <;> conv => lhs; whnf)
    | (refine br_d (fun _ => ?_) (fun _ => ?_) <;> conv => lhs; whnf)
    | (refine br_n (fun _ => ?_) (fun _ => ?_) <;> conv => lhs; whnf)
    | (refine br_c (fun _ => ?_) (fun _ => ?_) <;> conv => lhs; whnf)
    | refine req_c fun _ => ?_; conv => lhs; whnf
    | refine bnd_c fun _ => ?_; conv => lhs; whnf
    | refine sum_c (fun _ => ?_) (fun _ => ?_)
    | refine (w30_0 S k _).trans ?_
    | refine S.loop ?_; conv => lhs; whnf
    | refine S.back_n ?_; conv => lhs; whnf
    | refine S.back_x ?_; conv => lhs; whnf
    | refine S.back_r ?_; conv => lhs; whnf
    | refine S.fin_r ?_; conv => lhs; whnf
    | refine S.fin_n ?_; conv => lhs; whnf
    | exact ret_c rfl
    | exact none_c
    | refine S.draw_op ?_; conv => lhs; whnf; arg 1; whnf
    | refine S.dk_n ?_; conv => lhs; whnf
    | refine S.draw_nil ?_; conv => lhs; whnf
    | refine andK_br ?_
    | refine andK_req ?_
    | refine andK_b ?_
    | refine andK_none ?_
def sp30 (k : Nat) : FSpec := ⟨[.rd, .rd], fun args objs K => match args, objs with | [v0, v1], [] => listB (.int .i64) true v0 fun a0 => listB (.int .i64) true v1 fun a1 => bindO (slices_Equal_int.f k a0 a1) fun x : Bool => K (.b x) [] | _, _ => none⟩
theorem snd30 (k : Nat) : Sound Try.prog 30 (sp30 k) := by
  refine ⟨⟨Try.f30, rfl, by kernel_rfl, rfl⟩, fun args objs K r h => ?_⟩
  unfold sp30 at h; dsimp only at h; split at h
  · rename_i v0 v1
    obtain ⟨a0, h, ca0⟩ := listB_spec h
    obtain ⟨a1, h, ca1⟩ := listB_spec h
    obtain ⟨x, hx, h⟩ := bindO_some h
    exact ⟨_, _, h, FnOK.args2 (relL_c ca0 (relL_c ca1 relL_n)) (fn_run tab_ok (en30) mixed rfl ((r30 seals k a0 a1).trans (bindO_eq hx)))⟩
  · cases h
end Go.Vm

/- spec_Same -/
namespace Go.Vm
open Go Go.Proofs Go.Pf
def lv16 : Live := look ⟨[], [], [], [], []⟩ []
noncomputable def g16 (k : Nat) : FEnv := (addF 30 (sp30 k) (fun _ => none))
theorem en16 (k : Nat) : EnvOK Try.prog (g16 k) := (envOK_add (snd30 k) (envOK_nil _))
set_option maxHeartbeats 4000000 in
theorem r16 (S : Seals) (k : Nat) (a0 : List Int) (a1 : List Int) : runF tt (g16 k) lv16 Try.f16 k [.dat (.int .i64) a0 true, .dat (.int .i64) a1 true] [] = bindO (spec_Same.f k a0 a1) (fun x : Bool => some (.b x, [])) := by
  unfold spec_Same.f; refine S.run_s rfl rfl ?_; conv => lhs; arg 5; whnf
  conv => lhs; arg 6; whnf
  repeat' first
    | refine S.seq_op rfl ?_; conv => lhs; whnf
    | refine S.op_n ?_; conv => lhs; whnf
    | refine S.seq_nil ?_
    | refine S.reg_n ?_
    | refine S.region rfl ?_
    | refine S.two ?_
    | refine S.blok ?_
    | refine S.cond rfl ?_
    | refine S.after_n ?_
    | refine S.block_n ?_
    | refine S.block_x ?_; conv => lhs; whnf
    | refine S.block_r ?_
    | refine S.after_x ?_
    | refine S.after_r ?_
    | refine S.skip ?_
    | refine S.exit ?_
    | refine S.ret ?_
    | refine br_lt ?_; conv => lhs; whnf
    | refine br_lf ?_; conv => lhs; whnf
    | refine br_t (by assumption) ?_; conv => lhs; whnf
    | refine br_f (by assumption) ?_; conv => lhs; whnf
    | refine req_i (by assumption) ?_; conv => lhs; whnf
    | (refine br_nd (fun _ => ?_) (fun _ => ?_) <;> conv => lhs; whnf)
    | (refine br_d (fun _ => ?_) (fun _ => ?_) <;> conv => lhs; whnf)
    | (refine br_n (fun _ => ?_) (fun _ => ?_) <;> conv => lhs; whnf)
    | (refine br_c (fun _ => ?_) (fun _ => ?_) <;> conv => lhs; whnf)
    | refine req_c fun _ => ?_; conv => lhs; whnf
    | refine bnd_c fun _ => ?_; conv => lhs; whnf
    | refine sum_c (fun _ => ?_) (fun _ => ?_)
    | refine S.loop ?_; conv => lhs; whnf
    | refine S.back_n ?_; conv => lhs; whnf
    | refine S.back_x ?_; conv => lhs; whnf
    | refine S.back_r ?_; conv => lhs; whnf
    | refine S.fin_r ?_; conv => lhs; whnf
    | refine S.fin_n ?_; conv => lhs; whnf
    | exact ret_c rfl
    | exact none_c
    | refine S.draw_op ?_; conv => lhs; whnf; arg 1; whnf
    | refine S.dk_n ?_; conv => lhs; whnf
    | refine S.draw_nil ?_; conv => lhs; whnf
    | refine andK_br ?_
    | refine andK_req ?_
    | refine andK_b ?_
    | refine andK_none ?_
def sp16 (k : Nat) : FSpec := ⟨[.rd, .rd], fun args objs K => match args, objs with | [v0, v1], [] => listB (.int .i64) true v0 fun a0 => listB (.int .i64) true v1 fun a1 => bindO (spec_Same.f k a0 a1) fun x : Bool => K (.b x) [] | _, _ => none⟩
theorem snd16 (k : Nat) : Sound Try.prog 16 (sp16 k) := by
  refine ⟨⟨Try.f16, rfl, by kernel_rfl, rfl⟩, fun args objs K r h => ?_⟩
  unfold sp16 at h; dsimp only at h; split at h
  · rename_i v0 v1
    obtain ⟨a0, h, ca0⟩ := listB_spec h
    obtain ⟨a1, h, ca1⟩ := listB_spec h
    obtain ⟨x, hx, h⟩ := bindO_some h
    exact ⟨_, _, h, FnOK.args2 (relL_c ca0 (relL_c ca1 relL_n)) (fn_run tab_ok (en16 k) mixed rfl ((r16 seals k a0 a1).trans (bindO_eq hx)))⟩
  · cases h
end Go.Vm

/- ref14_Right -/
namespace Go.Vm
open Go Go.Proofs Go.Pf
def lv23 : Live := look ⟨[], [], [], [], []⟩ [(3, ⟨[0, 3, 6, 7], [3], [2], [], []⟩)]
noncomputable def g23 : FEnv := (fun _ => none)
theorem en23 : EnvOK Try.prog (g23) := (envOK_nil _)
set_option maxHeartbeats 4000000 in
theorem w23_0 (S : Seals) (k : Nat) : ∀ (n : Nat) {x0 : List Int} {x3 : Int} {x6 : Int} {x7 : Int} {K : CK}, S.lp tt (g23) lv23 0 n (loopN Try.f23 0) ⟨[(0, .dat (.int .i64) x0 true), (3, .i .i64 x3), (6, .i .i64 x6), (7, .i .i64 x7)], [], 0, 35⟩ K = bindO (ref14_Right.l0 n x0 x3 x6 x7) (Sum.elim (fun x : Int => K (.exit 0) ⟨[(3, .i .i64 x)], [], 0, 35⟩) (fun x : Bool => K .ret ⟨[(2, .b x)], [], 0, 35⟩)) := by
  intro n; induction n with
  | zero => intros; rw [S.lp_zero]; exact none_c
  | succ n ih =>
    intros; rw [ref14_Right.l0]; refine S.lp_succ ?_; conv => lhs; arg 5; whnf
    repeat' first
      | refine S.seq_op rfl ?_; conv => lhs; whnf
      | refine S.op_n ?_; conv => lhs; whnf
      | refine S.seq_nil ?_
      | refine S.reg_n ?_
      | refine S.region rfl ?_
      | refine S.two ?_
      | refine S.blok ?_
      | refine S.cond rfl ?_
      | refine S.after_n ?_
      | refine S.block_n ?_
      | refine S.block_x ?_; conv => lhs; whnf
      | refine S.block_r ?_
      | refine S.after_x ?_
      | refine S.after_r ?_
      | refine S.skip ?_
      | refine S.exit ?_
      | refine S.ret ?_
      | refine br_lt ?_; conv => lhs; whnf
      | refine br_lf ?_; conv => lhs; whnf
      | refine br_t (by assumption) ?_; conv => lhs; whnf
      | refine br_f (by assumption) ?_; conv => lhs; whnf
      | refine req_i (by assumption) ?_; conv => lhs; whnf
      | (refine br_nd (fun _ => ?_) (fun _ => ?_) <;> conv => lhs; whnf)
      | (refine br_d (fun _ => ?_) (fun _ => ?_) <;> conv => lhs; whnf)
      | (refine br_n (fun _ => ?_) (fun _ => ?_) <;> conv => lhs; whnf)
      | (refine br_c (fun _ => ?_) (fun _ => ?_) <;> conv => lhs; whnf)
      | refine req_c fun _ => ?_; conv => lhs; whnf
      | refine bnd_c fun _ => ?_; conv => lhs; whnf
      | refine sum_c (fun _ => ?_) (fun _ => ?_)
      | exact ih
      | refine S.loop ?_; conv => lhs; whnf
      | refine S.back_n ?_; conv => lhs; whnf
      | refine S.back_x ?_; conv => lhs; whnf
      | refine S.back_r ?_; conv => lhs; whnf
      | refine S.fin_r ?_; conv => lhs; whnf
      | refine S.fin_n ?_; conv => lhs; whnf
      | exact ret_c rfl
      | exact none_c
      | refine S.draw_op ?_; conv => lhs; whnf; arg 1; whnf
      | refine S.dk_n ?_; conv => lhs; whnf
      | refine S.draw_nil ?_; conv => lhs; whnf
      | refine andK_br ?_
      | refine andK_req ?_
      | refine andK_b ?_
      | refine andK_none ?_
set_option maxHeartbeats 4000000 in
theorem r23 (S : Seals) (k : Nat) (a0 : List Int) : runF tt (g23) lv23 Try.f23 k [.dat (.int .i64) a0 true] [] = bindO (ref14_Right.f k a0) (fun x : Bool => some (.b x, [])) := by
  unfold ref14_Right.f; refine S.run_s rfl rfl ?_; conv => lhs; arg 5; whnf
  conv => lhs; arg 6; whnf
  repeat' first
    | refine S.seq_op rfl ?_; conv => lhs; whnf
    | refine S.op_n ?_; conv => lhs; whnf
    | refine S.seq_nil ?_
    | refine S.reg_n ?_
    | refine S.region rfl ?_
    | refine S.two ?_
    | refine S.blok ?_
    | refine S.cond rfl ?_
    | refine S.after_n ?_
    | refine S.block_n ?_
    | refine S.block_x ?_; conv => lhs; whnf
    | refine S.block_r ?_
    | refine S.after_x ?_
    | refine S.after_r ?_
    | refine S.skip ?_
    | refine S.exit ?_
    | refine S.ret ?_
    | refine br_lt ?_; conv => lhs; whnf
    | refine br_lf ?_; conv => lhs; whnf
    | refine br_t (by assumption) ?_; conv => lhs; whnf
    | refine br_f (by assumption) ?_; conv => lhs; whnf
    | refine req_i (by assumption) ?_; conv => lhs; whnf
    | (refine br_nd (fun _ => ?_) (fun _ => ?_) <;> conv => lhs; whnf)
    | (refine br_d (fun _ => ?_) (fun _ => ?_) <;> conv => lhs; whnf)
    | (refine br_n (fun _ => ?_) (fun _ => ?_) <;> conv => lhs; whnf)
    | (refine br_c (fun _ => ?_) (fun _ => ?_) <;> conv => lhs; whnf)
    | refine req_c fun _ => ?_; conv => lhs; whnf
    | refine bnd_c fun _ => ?_; conv => lhs; whnf
    | refine sum_c (fun _ => ?_) (fun _ => ?_)
    | refine (w23_0 S k _).trans ?_
    | refine S.loop ?_; conv => lhs; whnf
    | refine S.back_n ?_; conv => lhs; whnf
    | refine S.back_x ?_; conv => lhs; whnf
    | refine S.back_r ?_; conv => lhs; whnf
    | refine S.fin_r ?_; conv => lhs; whnf
    | refine S.fin_n ?_; conv => lhs; whnf
    | exact ret_c rfl
    | exact none_c
    | refine S.draw_op ?_; conv => lhs; whnf; arg 1; whnf
    | refine S.dk_n ?_; conv => lhs; whnf
    | refine S.draw_nil ?_; conv => lhs; whnf
    | refine andK_br ?_
    | refine andK_req ?_
    | refine andK_b ?_
    | refine andK_none ?_
def sp23 (k : Nat) : FSpec := ⟨[.rd], fun args objs K => match args, objs with | [v0], [] => listB (.int .i64) true v0 fun a0 => bindO (ref14_Right.f k a0) fun x : Bool => K (.b x) [] | _, _ => none⟩
theorem snd23 (k : Nat) : Sound Try.prog 23 (sp23 k) := by
  refine ⟨⟨Try.f23, rfl, by kernel_rfl, rfl⟩, fun args objs K r h => ?_⟩
  unfold sp23 at h; dsimp only at h; split at h
  · rename_i v0
    obtain ⟨a0, h, ca0⟩ := listB_spec h
    obtain ⟨x, hx, h⟩ := bindO_some h
    exact ⟨_, _, h, FnOK.args2 (relL_c ca0 relL_n) (fn_run tab_ok (en23) mixed rfl ((r23 seals k a0).trans (bindO_eq hx)))⟩
  · cases h
end Go.Vm

/- ref14_Spec -/
namespace Go.Vm
open Go Go.Proofs Go.Pf
def lv17 : Live := look ⟨[], [], [], [], []⟩ [(4, ⟨[0, 1, 19, 20], [], [6], [], []⟩), (9, ⟨[0, 1, 7, 8, 19, 20], [0, 1, 19, 20], [6], [], []⟩)]
noncomputable def g17 (k : Nat) : FEnv := (addF 23 (sp23 k) (fun _ => none))
theorem en17 (k : Nat) : EnvOK Try.prog (g17 k) := (envOK_add (snd23 k) (envOK_nil _))
set_option maxHeartbeats 4000000 in
theorem w17_1 (S : Seals) (k : Nat) : ∀ (n : Nat) {x0 : List Int} {x1 : List Int} {x7 : Int} {x8 : Int} {x19 : Int} {x20 : Int} {K : CK}, S.lp tt (g17 k) lv17 0 n (loopN Try.f17 1) ⟨[(0, .dat (.int .i64) x0 true), (1, .dat (.int .i64) x1 true), (7, .i .i64 x7), (8, .i .i64 x8), (19, .i .i64 x19), (20, .i .i64 x20)], [], 0, 59⟩ K = bindO (ref14_Spec.l1 n x0 x1 x7 x8 x19 x20) (Sum.elim (fun x : Unit => K (.exit 2) ⟨[(0, .dat (.int .i64) x0 true), (1, .dat (.int .i64) x1 true), (19, .i .i64 x19), (20, .i .i64 x20)], [], 0, 59⟩) (fun x : Bool => K .ret ⟨[(6, .b x)], [], 0, 59⟩)) := by
  intro n; induction n with
  | zero => intros; rw [S.lp_zero]; exact none_c
  | succ n ih =>
    intros; rw [ref14_Spec.l1]; refine S.lp_succ ?_; conv => lhs; arg 5; whnf
    repeat' first
      | refine S.seq_op rfl ?_; conv => lhs; whnf
      | refine S.op_n ?_; conv => lhs; whnf
      | refine S.seq_nil ?_
      | refine S.reg_n ?_
      | refine S.region rfl ?_
      | refine S.two ?_
      | refine S.blok ?_
      | refine S.cond rfl ?_
      | refine S.after_n ?_
      | refine S.block_n ?_
      | refine S.block_x ?_; conv => lhs; whnf
      | refine S.block_r ?_
      | refine S.after_x ?_
      | refine S.after_r ?_
      | refine S.skip ?_
      | refine S.exit ?_
      | refine S.ret ?_
      | refine br_lt ?_; conv => lhs; whnf
      | refine br_lf ?_; conv => lhs; whnf
      | refine br_t (by assumption) ?_; conv => lhs; whnf
      | refine br_f (by assumption) ?_; conv => lhs; whnf
      | refine req_i (by assumption) ?_; conv => lhs; whnf
      | (refine br_nd (fun _ => ?_) (fun _ => ?_) <;> conv => lhs; whnf)
      | (refine br_d (fun _ => ?_) (fun _ => ?_) <;> conv => lhs; whnf)
      | (refine br_n (fun _ => ?_) (fun _ => ?_) <;> conv => lhs; whnf)
      | (refine br_c (fun _ => ?_) (fun _ => ?_) <;> conv => lhs; whnf)
      | refine req_c fun _ => ?_; conv => lhs; whnf
      | refine bnd_c fun _ => ?_; conv => lhs; whnf
      | refine sum_c (fun _ => ?_) (fun _ => ?_)
      | refine S.region_d (id := 11) (ds := [0, 0, 3, 7, 0, 0, 48, 112, 255, 511, 1023, 1023, 4095, 8191, 16383, 32767]) (mds := [[], [], [], [], [], [], [], [], [], [], [], [], [], [], [], []]) (hm := []) (by kernel_rfl) (by kernel_rfl) rfl rfl ?_
      | exact ih
      | refine S.loop ?_; conv => lhs; whnf
      | refine S.back_n ?_; conv => lhs; whnf
      | refine S.back_x ?_; conv => lhs; whnf
      | refine S.back_r ?_; conv => lhs; whnf
      | refine S.fin_r ?_; conv => lhs; whnf
      | refine S.fin_n ?_; conv => lhs; whnf
      | exact ret_c rfl
      | exact none_c
      | refine S.draw_op ?_; conv => lhs; whnf; arg 1; whnf
      | refine S.dk_n ?_; conv => lhs; whnf
      | refine S.draw_nil ?_; conv => lhs; whnf
      | refine andK_br ?_
      | refine andK_req ?_
      | refine andK_b ?_
      | refine andK_none ?_
set_option maxHeartbeats 4000000 in
theorem w17_0 (S : Seals) (k : Nat) : ∀ (n : Nat) {x0 : List Int} {x1 : List Int} {x19 : Int} {x20 : Int} {K : CK}, S.lp tt (g17 k) lv17 0 n (loopN Try.f17 0) ⟨[(0, .dat (.int .i64) x0 true), (1, .dat (.int .i64) x1 true), (19, .i .i64 x19), (20, .i .i64 x20)], [], 0, 59⟩ K = bindO (ref14_Spec.l0 k n x0 x1 x19 x20) (Sum.elim (fun x : Unit => K (.exit 0) ⟨[], [], 0, 59⟩) (fun x : Bool => K .ret ⟨[(6, .b x)], [], 0, 59⟩)) := by
  intro n; induction n with
  | zero => intros; rw [S.lp_zero]; exact none_c
  | succ n ih =>
    intros; rw [ref14_Spec.l0]; refine S.lp_succ ?_; conv => lhs; arg 5; whnf
    repeat' first
      | refine S.seq_op rfl ?_; conv => lhs; whnf
      | refine S.op_n ?_; conv => lhs; whnf
      | refine S.seq_nil ?_
      | refine S.reg_n ?_
      | refine S.region rfl ?_
      | refine S.two ?_
      | refine S.blok ?_
      | refine S.cond rfl ?_
      | refine S.after_n ?_
      | refine S.block_n ?_
      | refine S.block_x ?_; conv => lhs; whnf
      | refine S.block_r ?_
      | refine S.after_x ?_
      | refine S.after_r ?_
      | refine S.skip ?_
      | refine S.exit ?_
      | refine S.ret ?_
      | refine br_lt ?_; conv => lhs; whnf
      | refine br_lf ?_; conv => lhs; whnf
      | refine br_t (by assumption) ?_; conv => lhs; whnf
      | refine br_f (by assumption) ?_; conv => lhs; whnf
      | refine req_i (by assumption) ?_; conv => lhs; whnf
      | (refine br_nd (fun _ => ?_) (fun _ => ?_) <;> conv => lhs; whnf)
      | (refine br_d (fun _ => ?_) (fun _ => ?_) <;> conv => lhs; whnf)
      | (refine br_n (fun _ => ?_) (fun _ => ?_) <;> conv => lhs; whnf)
      | (refine br_c (fun _ => ?_) (fun _ => ?_) <;> conv => lhs; whnf)
      | refine req_c fun _ => ?_; conv => lhs; whnf
      | refine bnd_c fun _ => ?_; conv => lhs; whnf
      | refine sum_c (fun _ => ?_) (fun _ => ?_)
      | exact ih
      | refine (w17_1 S k _).trans ?_
      | refine S.loop ?_; conv => lhs; whnf
      | refine S.back_n ?_; conv => lhs; whnf
      | refine S.back_x ?_; conv => lhs; whnf
      | refine S.back_r ?_; conv => lhs; whnf
      | refine S.fin_r ?_; conv => lhs; whnf
      | refine S.fin_n ?_; conv => lhs; whnf
      | exact ret_c rfl
      | exact none_c
      | refine S.draw_op ?_; conv => lhs; whnf; arg 1; whnf
      | refine S.dk_n ?_; conv => lhs; whnf
      | refine S.draw_nil ?_; conv => lhs; whnf
      | refine andK_br ?_
      | refine andK_req ?_
      | refine andK_b ?_
      | refine andK_none ?_
set_option maxHeartbeats 4000000 in
theorem r17 (S : Seals) (k : Nat) (a0 : List Int) (a1 : List Int) (a2 : Int) : runF tt (g17 k) lv17 Try.f17 k [.dat (.int .i64) a0 true, .dat (.int .i64) a1 true, .i .i64 a2] [] = bindO (ref14_Spec.f k a0 a1 a2) (fun x : Bool => some (.b x, [])) := by
  unfold ref14_Spec.f; refine S.run_s rfl rfl ?_; conv => lhs; arg 5; whnf
  conv => lhs; arg 6; whnf
  repeat' first
    | refine S.seq_op rfl ?_; conv => lhs; whnf
    | refine S.op_n ?_; conv => lhs; whnf
    | refine S.seq_nil ?_
    | refine S.reg_n ?_
    | refine S.region rfl ?_
    | refine S.two ?_
    | refine S.blok ?_
    | refine S.cond rfl ?_
    | refine S.after_n ?_
    | refine S.block_n ?_
    | refine S.block_x ?_; conv => lhs; whnf
    | refine S.block_r ?_
    | refine S.after_x ?_
    | refine S.after_r ?_
    | refine S.skip ?_
    | refine S.exit ?_
    | refine S.ret ?_
    | refine br_lt ?_; conv => lhs; whnf
    | refine br_lf ?_; conv => lhs; whnf
    | refine br_t (by assumption) ?_; conv => lhs; whnf
    | refine br_f (by assumption) ?_; conv => lhs; whnf
    | refine req_i (by assumption) ?_; conv => lhs; whnf
    | (refine br_nd (fun _ => ?_) (fun _ => ?_) <;> conv => lhs; whnf)
    | (refine br_d (fun _ => ?_) (fun _ => ?_) <;> conv => lhs; whnf)
    | (refine br_n (fun _ => ?_) (fun _ => ?_) <;> conv => lhs; whnf)
    | (refine br_c (fun _ => ?_) (fun _ => ?_) <;> conv => lhs; whnf)
    | refine req_c fun _ => ?_; conv => lhs; whnf
    | refine bnd_c fun _ => ?_; conv => lhs; whnf
    | refine sum_c (fun _ => ?_) (fun _ => ?_)
    | refine (w17_0 S k _).trans ?_
    | refine S.loop ?_; conv => lhs; whnf
    | refine S.back_n ?_; conv => lhs; whnf
    | refine S.back_x ?_; conv => lhs; whnf
    | refine S.back_r ?_; conv => lhs; whnf
    | refine S.fin_r ?_; conv => lhs; whnf
    | refine S.fin_n ?_; conv => lhs; whnf
    | exact ret_c rfl
    | exact none_c
    | refine S.draw_op ?_; conv => lhs; whnf; arg 1; whnf
    | refine S.dk_n ?_; conv => lhs; whnf
    | refine S.draw_nil ?_; conv => lhs; whnf
    | refine andK_br ?_
    | refine andK_req ?_
    | refine andK_b ?_
    | refine andK_none ?_
def sp17 (k : Nat) : FSpec := ⟨[.rd, .rd, .rd], fun args objs K => match args, objs with | [v0, v1, .i .i64 a2], [] => listB (.int .i64) true v0 fun a0 => listB (.int .i64) true v1 fun a1 => bindO (ref14_Spec.f k a0 a1 a2) fun x : Bool => K (.b x) [] | _, _ => none⟩
theorem snd17 (k : Nat) : Sound Try.prog 17 (sp17 k) := by
  refine ⟨⟨Try.f17, rfl, by kernel_rfl, rfl⟩, fun args objs K r h => ?_⟩
  unfold sp17 at h; dsimp only at h; split at h
  · rename_i v0 v1 a2
    obtain ⟨a0, h, ca0⟩ := listB_spec h
    obtain ⟨a1, h, ca1⟩ := listB_spec h
    obtain ⟨x, hx, h⟩ := bindO_some h
    exact ⟨_, _, h, FnOK.args2 (relL_c ca0 (relL_c ca1 (relL_c rel_i relL_n))) (fn_run tab_ok (en17 k) mixed rfl ((r17 seals k a0 a1 a2).trans (bindO_eq hx)))⟩
  · cases h
end Go.Vm

/- book_Same_int -/
namespace Go.Vm
open Go Go.Proofs Go.Pf
def lv18 : Live := look ⟨[], [], [], [], []⟩ [(4, ⟨[0, 1, 5], [], [4], [], []⟩)]
noncomputable def g18 : FEnv := (fun _ => none)
theorem en18 : EnvOK Try.prog (g18) := (envOK_nil _)
set_option maxHeartbeats 4000000 in
theorem w18_0 (S : Seals) (k : Nat) : ∀ (n : Nat) {x0 : List Int} {x1 : List Int} {x5 : Int} {K : CK}, S.lp tt (g18) lv18 0 n (loopN Try.f18 0) ⟨[(0, .dat (.int .i64) x0 true), (1, .dat (.int .i64) x1 true), (5, .i .i64 x5)], [], 0, 26⟩ K = bindO (book_Same_int.l0 n x0 x1 x5) (Sum.elim (fun x : Unit => K (.exit 0) ⟨[], [], 0, 26⟩) (fun x : Bool => K .ret ⟨[(4, .b x)], [], 0, 26⟩)) := by
  intro n; induction n with
  | zero => intros; rw [S.lp_zero]; exact none_c
  | succ n ih =>
    intros; rw [book_Same_int.l0]; refine S.lp_succ ?_; conv => lhs; arg 5; whnf
    repeat' first
      | refine S.seq_op rfl ?_; conv => lhs; whnf
      | refine S.op_n ?_; conv => lhs; whnf
      | refine S.seq_nil ?_
      | refine S.reg_n ?_
      | refine S.region rfl ?_
      | refine S.two ?_
      | refine S.blok ?_
      | refine S.cond rfl ?_
      | refine S.after_n ?_
      | refine S.block_n ?_
      | refine S.block_x ?_; conv => lhs; whnf
      | refine S.block_r ?_
      | refine S.after_x ?_
      | refine S.after_r ?_
      | refine S.skip ?_
      | refine S.exit ?_
      | refine S.ret ?_
      | refine br_lt ?_; conv => lhs; whnf
      | refine br_lf ?_; conv => lhs; whnf
      | refine br_t (by assumption) ?_; conv => lhs; whnf
      | refine br_f (by assumption) ?_; conv => lhs; whnf
      | refine req_i (by assumption) ?_; conv => lhs; whnf
      | (refine br_nd (fun _ => ?_) (fun _ => ?_) <;> conv => lhs; whnf)
      | (refine br_d (fun _ => ?_) (fun _ => ?_) <;> conv => lhs; whnf)
      | (refine br_n (fun _ => ?_) (fun _ => ?_) <;> conv => lhs; whnf)
      | (refine br_c (fun _ => ?_) (fun _ => ?_) <;> conv => lhs; whnf)
      | refine req_c fun _ => ?_; conv => lhs; whnf
      | refine bnd_c fun _ => ?_; conv => lhs; whnf
      | refine sum_c (fun _ => ?_) (fun _ => ?_)
      | refine S.region_d (id := 6) (ds := [0, 0, 3, 7, 0, 0, 48, 112, 255]) (mds := [[], [], [], [], [], [], [], [], []]) (hm := []) (by kernel_rfl) (by kernel_rfl) rfl rfl ?_
      | exact ih
      | refine S.loop ?_; conv => lhs; whnf
      | refine S.back_n ?_; conv => lhs; whnf
      | refine S.back_x ?_; conv => lhs; whnf
      | refine S.back_r ?_; conv => lhs; whnf
      | refine S.fin_r ?_; conv => lhs; whnf
      | refine S.fin_n ?_; conv => lhs; whnf
      | exact ret_c rfl
      | exact none_c
      | refine S.draw_op ?_; conv => lhs; whnf; arg 1; whnf
      | refine S.dk_n ?_; conv => lhs; whnf
      | refine S.draw_nil ?_; conv => lhs; whnf
      | refine andK_br ?_
      | refine andK_req ?_
      | refine andK_b ?_
      | refine andK_none ?_
set_option maxHeartbeats 4000000 in
theorem r18 (S : Seals) (k : Nat) (a0 : List Int) (a1 : List Int) : runF tt (g18) lv18 Try.f18 k [.dat (.int .i64) a0 true, .dat (.int .i64) a1 true] [] = bindO (book_Same_int.f k a0 a1) (fun x : Bool => some (.b x, [])) := by
  unfold book_Same_int.f; refine S.run_s rfl rfl ?_; conv => lhs; arg 5; whnf
  conv => lhs; arg 6; whnf
  repeat' first
    | refine S.seq_op rfl ?_; conv => lhs; whnf
    | refine S.op_n ?_; conv => lhs; whnf
    | refine S.seq_nil ?_
    | refine S.reg_n ?_
    | refine S.region rfl ?_
    | refine S.two ?_
    | refine S.blok ?_
    | refine S.cond rfl ?_
    | refine S.after_n ?_
    | refine S.block_n ?_
    | refine S.block_x ?_; conv => lhs; whnf
    | refine S.block_r ?_
    | refine S.after_x ?_
    | refine S.after_r ?_
    | refine S.skip ?_
    | refine S.exit ?_
    | refine S.ret ?_
    | refine br_lt ?_; conv => lhs; whnf
    | refine br_lf ?_; conv => lhs; whnf
    | refine br_t (by assumption) ?_; conv => lhs; whnf
    | refine br_f (by assumption) ?_; conv => lhs; whnf
    | refine req_i (by assumption) ?_; conv => lhs; whnf
    | (refine br_nd (fun _ => ?_) (fun _ => ?_) <;> conv => lhs; whnf)
    | (refine br_d (fun _ => ?_) (fun _ => ?_) <;> conv => lhs; whnf)
    | (refine br_n (fun _ => ?_) (fun _ => ?_) <;> conv => lhs; whnf)
    | (refine br_c (fun _ => ?_) (fun _ => ?_) <;> conv => lhs; whnf)
    | refine req_c fun _ => ?_; conv => lhs; whnf
    | refine bnd_c fun _ => ?_; conv => lhs; whnf
    | refine sum_c (fun _ => ?_) (fun _ => ?_)
    | refine (w18_0 S k _).trans ?_
    | refine S.loop ?_; conv => lhs; whnf
    | refine S.back_n ?_; conv => lhs; whnf
    | refine S.back_x ?_; conv => lhs; whnf
    | refine S.back_r ?_; conv => lhs; whnf
    | refine S.fin_r ?_; conv => lhs; whnf
    | refine S.fin_n ?_; conv => lhs; whnf
    | exact ret_c rfl
    | exact none_c
    | refine S.draw_op ?_; conv => lhs; whnf; arg 1; whnf
    | refine S.dk_n ?_; conv => lhs; whnf
    | refine S.draw_nil ?_; conv => lhs; whnf
    | refine andK_br ?_
    | refine andK_req ?_
    | refine andK_b ?_
    | refine andK_none ?_
def sp18 (k : Nat) : FSpec := ⟨[.rd, .rd], fun args objs K => match args, objs with | [v0, v1], [] => listB (.int .i64) true v0 fun a0 => listB (.int .i64) true v1 fun a1 => bindO (book_Same_int.f k a0 a1) fun x : Bool => K (.b x) [] | _, _ => none⟩
theorem snd18 (k : Nat) : Sound Try.prog 18 (sp18 k) := by
  refine ⟨⟨Try.f18, rfl, by kernel_rfl, rfl⟩, fun args objs K r h => ?_⟩
  unfold sp18 at h; dsimp only at h; split at h
  · rename_i v0 v1
    obtain ⟨a0, h, ca0⟩ := listB_spec h
    obtain ⟨a1, h, ca1⟩ := listB_spec h
    obtain ⟨x, hx, h⟩ := bindO_some h
    exact ⟨_, _, h, FnOK.args2 (relL_c ca0 (relL_c ca1 relL_n)) (fn_run tab_ok (en18) mixed rfl ((r18 seals k a0 a1).trans (bindO_eq hx)))⟩
  · cases h
end Go.Vm

/- ref14_Parts -/
namespace Go.Vm
open Go Go.Proofs Go.Pf
def lv19 : Live := look ⟨[], [], [], [], []⟩ [(5, ⟨[0, 1, 5, 20, 21], [5], [4], [(5, 0, .own (.int .i64))], []⟩), (1000000, ⟨[], [], [], [(4, 0, .own (.int .i64))], []⟩)]
noncomputable def g19 (k : Nat) : FEnv := (addF 17 (sp17 k) (addF 23 (sp23 k) (fun _ => none)))
theorem en19 (k : Nat) : EnvOK Try.prog (g19 k) := (envOK_add (snd17 k) (envOK_add (snd23 k) (envOK_nil _)))
set_option maxHeartbeats 4000000 in
theorem w19_0 (S : Seals) (k : Nat) : ∀ (n : Nat) {x0 : List Int} {x1 : List Int} {x20 : Int} {x21 : Int} {y0 : List Int} {K : CK}, S.lp tt (g19 k) lv19 0 n (loopN Try.f19 0) ⟨[(0, .dat (.int .i64) x0 true), (1, .dat (.int .i64) x1 true), (5, .own 0), (20, .i .i64 x20), (21, .i .i64 x21)], [(0, .row (.int .i64) y0 false)], 1, 42⟩ K = bindO (ref14_Parts.l0 n x0 x1 x20 x21 y0) (fun x : (List Int) => K (.exit 0) ⟨[(5, .own 0)], [(0, .row (.int .i64) x false)], 1, 42⟩) := by
  intro n; induction n with
  | zero => intros; rw [S.lp_zero]; exact none_c
  | succ n ih =>
    intros; rw [ref14_Parts.l0]; refine S.lp_succ ?_; conv => lhs; arg 5; whnf
    repeat' first
      | refine S.seq_op rfl ?_; conv => lhs; whnf
      | refine S.op_n ?_; conv => lhs; whnf
      | refine S.seq_nil ?_
      | refine S.reg_n ?_
      | refine S.region rfl ?_
      | refine S.two ?_
      | refine S.blok ?_
      | refine S.cond rfl ?_
      | refine S.after_n ?_
      | refine S.block_n ?_
      | refine S.block_x ?_; conv => lhs; whnf
      | refine S.block_r ?_
      | refine S.after_x ?_
      | refine S.after_r ?_
      | refine S.skip ?_
      | refine S.exit ?_
      | refine S.ret ?_
      | refine br_lt ?_; conv => lhs; whnf
      | refine br_lf ?_; conv => lhs; whnf
      | refine br_t (by assumption) ?_; conv => lhs; whnf
      | refine br_f (by assumption) ?_; conv => lhs; whnf
      | refine req_i (by assumption) ?_; conv => lhs; whnf
      | (refine br_nd (fun _ => ?_) (fun _ => ?_) <;> conv => lhs; whnf)
      | (refine br_d (fun _ => ?_) (fun _ => ?_) <;> conv => lhs; whnf)
      | (refine br_n (fun _ => ?_) (fun _ => ?_) <;> conv => lhs; whnf)
      | (refine br_c (fun _ => ?_) (fun _ => ?_) <;> conv => lhs; whnf)
      | refine req_c fun _ => ?_; conv => lhs; whnf
      | refine bnd_c fun _ => ?_; conv => lhs; whnf
      | refine sum_c (fun _ => ?_) (fun _ => ?_)
      | exact ih
      | refine S.loop ?_; conv => lhs; whnf
      | refine S.back_n ?_; conv => lhs; whnf
      | refine S.back_x ?_; conv => lhs; whnf
      | refine S.back_r ?_; conv => lhs; whnf
      | refine S.fin_r ?_; conv => lhs; whnf
      | refine S.fin_n ?_; conv => lhs; whnf
      | exact ret_c rfl
      | exact none_c
      | refine S.draw_op ?_; conv => lhs; whnf; arg 1; whnf
      | refine S.dk_n ?_; conv => lhs; whnf
      | refine S.draw_nil ?_; conv => lhs; whnf
      | refine andK_br ?_
      | refine andK_req ?_
      | refine andK_b ?_
      | refine andK_none ?_
set_option maxHeartbeats 4000000 in
theorem r19 (S : Seals) (k : Nat) (a0 : List Int) (a1 : List Int) : runF tt (g19 k) lv19 Try.f19 k [.dat (.int .i64) a0 true, .dat (.int .i64) a1 true] [] = bindO (ref14_Parts.f k a0 a1) (fun x : (List Int) => some (.own 0, [.row (.int .i64) x false])) := by
  unfold ref14_Parts.f; refine S.run_s rfl rfl ?_; conv => lhs; arg 5; whnf
  conv => lhs; arg 6; whnf
  repeat' first
    | refine S.seq_op rfl ?_; conv => lhs; whnf
    | refine S.op_n ?_; conv => lhs; whnf
    | refine S.seq_nil ?_
    | refine S.reg_n ?_
    | refine S.region rfl ?_
    | refine S.two ?_
    | refine S.blok ?_
    | refine S.cond rfl ?_
    | refine S.after_n ?_
    | refine S.block_n ?_
    | refine S.block_x ?_; conv => lhs; whnf
    | refine S.block_r ?_
    | refine S.after_x ?_
    | refine S.after_r ?_
    | refine S.skip ?_
    | refine S.exit ?_
    | refine S.ret ?_
    | refine br_lt ?_; conv => lhs; whnf
    | refine br_lf ?_; conv => lhs; whnf
    | refine br_t (by assumption) ?_; conv => lhs; whnf
    | refine br_f (by assumption) ?_; conv => lhs; whnf
    | refine req_i (by assumption) ?_; conv => lhs; whnf
    | (refine br_nd (fun _ => ?_) (fun _ => ?_) <;> conv => lhs; whnf)
    | (refine br_d (fun _ => ?_) (fun _ => ?_) <;> conv => lhs; whnf)
    | (refine br_n (fun _ => ?_) (fun _ => ?_) <;> conv => lhs; whnf)
    | (refine br_c (fun _ => ?_) (fun _ => ?_) <;> conv => lhs; whnf)
    | refine req_c fun _ => ?_; conv => lhs; whnf
    | refine bnd_c fun _ => ?_; conv => lhs; whnf
    | refine sum_c (fun _ => ?_) (fun _ => ?_)
    | refine (w19_0 S k _).trans ?_
    | refine S.loop ?_; conv => lhs; whnf
    | refine S.back_n ?_; conv => lhs; whnf
    | refine S.back_x ?_; conv => lhs; whnf
    | refine S.back_r ?_; conv => lhs; whnf
    | refine S.fin_r ?_; conv => lhs; whnf
    | refine S.fin_n ?_; conv => lhs; whnf
    | exact ret_c rfl
    | exact none_c
    | refine S.draw_op ?_; conv => lhs; whnf; arg 1; whnf
    | refine S.dk_n ?_; conv => lhs; whnf
    | refine S.draw_nil ?_; conv => lhs; whnf
    | refine andK_br ?_
    | refine andK_req ?_
    | refine andK_b ?_
    | refine andK_none ?_
def sp19 (k : Nat) : FSpec := ⟨[.rd, .rd], fun args objs K => match args, objs with | [v0, v1], [] => listB (.int .i64) true v0 fun a0 => listB (.int .i64) true v1 fun a1 => bindO (ref14_Parts.f k a0 a1) fun x : (List Int) => K (.own 0) [.row (.int .i64) x false] | _, _ => none⟩
theorem snd19 (k : Nat) : Sound Try.prog 19 (sp19 k) := by
  refine ⟨⟨Try.f19, rfl, by kernel_rfl, rfl⟩, fun args objs K r h => ?_⟩
  unfold sp19 at h; dsimp only at h; split at h
  · rename_i v0 v1
    obtain ⟨a0, h, ca0⟩ := listB_spec h
    obtain ⟨a1, h, ca1⟩ := listB_spec h
    obtain ⟨x, hx, h⟩ := bindO_some h
    exact ⟨_, _, h, FnOK.args2 (relL_c ca0 (relL_c ca1 relL_n)) (fn_run tab_ok (en19 k) mixed rfl ((r19 seals k a0 a1).trans (bindO_eq hx)))⟩
  · cases h
end Go.Vm

/- ref14_Devices -/
namespace Go.Vm
open Go Go.Proofs Go.Pf
def lv10 : Live := look ⟨[], [], [], [], []⟩ [(5, ⟨[0, 3, 9, 10], [3], [2], [], []⟩)]
noncomputable def g10 (k : Nat) : FEnv := (addF 23 (sp23 k) (fun _ => none))
theorem en10 (k : Nat) : EnvOK Try.prog (g10 k) := (envOK_add (snd23 k) (envOK_nil _))
set_option maxHeartbeats 4000000 in
theorem w10_0 (S : Seals) (k : Nat) : ∀ (n : Nat) {x0 : List Int} {x3 : Int} {x9 : Int} {x10 : Int} {K : CK}, S.lp tt (g10 k) lv10 0 n (loopN Try.f10 0) ⟨[(0, .dat (.int .i64) x0 true), (3, .i .i64 x3), (9, .i .i64 x9), (10, .i .i64 x10)], [], 0, 21⟩ K = bindO (ref14_Devices.l0 n x0 x3 x9 x10) (fun x : Int => K (.exit 0) ⟨[(3, .i .i64 x)], [], 0, 21⟩) := by
  intro n; induction n with
  | zero => intros; rw [S.lp_zero]; exact none_c
  | succ n ih =>
    intros; rw [ref14_Devices.l0]; refine S.lp_succ ?_; conv => lhs; arg 5; whnf
    repeat' first
      | refine S.seq_op rfl ?_; conv => lhs; whnf
      | refine S.op_n ?_; conv => lhs; whnf
      | refine S.seq_nil ?_
      | refine S.reg_n ?_
      | refine S.region rfl ?_
      | refine S.two ?_
      | refine S.blok ?_
      | refine S.cond rfl ?_
      | refine S.after_n ?_
      | refine S.block_n ?_
      | refine S.block_x ?_; conv => lhs; whnf
      | refine S.block_r ?_
      | refine S.after_x ?_
      | refine S.after_r ?_
      | refine S.skip ?_
      | refine S.exit ?_
      | refine S.ret ?_
      | refine br_lt ?_; conv => lhs; whnf
      | refine br_lf ?_; conv => lhs; whnf
      | refine br_t (by assumption) ?_; conv => lhs; whnf
      | refine br_f (by assumption) ?_; conv => lhs; whnf
      | refine req_i (by assumption) ?_; conv => lhs; whnf
      | (refine br_nd (fun _ => ?_) (fun _ => ?_) <;> conv => lhs; whnf)
      | (refine br_d (fun _ => ?_) (fun _ => ?_) <;> conv => lhs; whnf)
      | (refine br_n (fun _ => ?_) (fun _ => ?_) <;> conv => lhs; whnf)
      | (refine br_c (fun _ => ?_) (fun _ => ?_) <;> conv => lhs; whnf)
      | refine req_c fun _ => ?_; conv => lhs; whnf
      | refine bnd_c fun _ => ?_; conv => lhs; whnf
      | refine sum_c (fun _ => ?_) (fun _ => ?_)
      | exact ih
      | refine S.loop ?_; conv => lhs; whnf
      | refine S.back_n ?_; conv => lhs; whnf
      | refine S.back_x ?_; conv => lhs; whnf
      | refine S.back_r ?_; conv => lhs; whnf
      | refine S.fin_r ?_; conv => lhs; whnf
      | refine S.fin_n ?_; conv => lhs; whnf
      | exact ret_c rfl
      | exact none_c
      | refine S.draw_op ?_; conv => lhs; whnf; arg 1; whnf
      | refine S.dk_n ?_; conv => lhs; whnf
      | refine S.draw_nil ?_; conv => lhs; whnf
      | refine andK_br ?_
      | refine andK_req ?_
      | refine andK_b ?_
      | refine andK_none ?_
set_option maxHeartbeats 4000000 in
theorem r10 (S : Seals) (k : Nat) (a0 : List Int) : runF tt (g10 k) lv10 Try.f10 k [.dat (.int .i64) a0 true] [] = bindO (ref14_Devices.f k a0) (fun x : Int => some (.i .i64 x, [])) := by
  unfold ref14_Devices.f; refine S.run_s rfl rfl ?_; conv => lhs; arg 5; whnf
  conv => lhs; arg 6; whnf
  repeat' first
    | refine S.seq_op rfl ?_; conv => lhs; whnf
    | refine S.op_n ?_; conv => lhs; whnf
    | refine S.seq_nil ?_
    | refine S.reg_n ?_
    | refine S.region rfl ?_
    | refine S.two ?_
    | refine S.blok ?_
    | refine S.cond rfl ?_
    | refine S.after_n ?_
    | refine S.block_n ?_
    | refine S.block_x ?_; conv => lhs; whnf
    | refine S.block_r ?_
    | refine S.after_x ?_
    | refine S.after_r ?_
    | refine S.skip ?_
    | refine S.exit ?_
    | refine S.ret ?_
    | refine br_lt ?_; conv => lhs; whnf
    | refine br_lf ?_; conv => lhs; whnf
    | refine br_t (by assumption) ?_; conv => lhs; whnf
    | refine br_f (by assumption) ?_; conv => lhs; whnf
    | refine req_i (by assumption) ?_; conv => lhs; whnf
    | (refine br_nd (fun _ => ?_) (fun _ => ?_) <;> conv => lhs; whnf)
    | (refine br_d (fun _ => ?_) (fun _ => ?_) <;> conv => lhs; whnf)
    | (refine br_n (fun _ => ?_) (fun _ => ?_) <;> conv => lhs; whnf)
    | (refine br_c (fun _ => ?_) (fun _ => ?_) <;> conv => lhs; whnf)
    | refine req_c fun _ => ?_; conv => lhs; whnf
    | refine bnd_c fun _ => ?_; conv => lhs; whnf
    | refine sum_c (fun _ => ?_) (fun _ => ?_)
    | refine (w10_0 S k _).trans ?_
    | refine S.loop ?_; conv => lhs; whnf
    | refine S.back_n ?_; conv => lhs; whnf
    | refine S.back_x ?_; conv => lhs; whnf
    | refine S.back_r ?_; conv => lhs; whnf
    | refine S.fin_r ?_; conv => lhs; whnf
    | refine S.fin_n ?_; conv => lhs; whnf
    | exact ret_c rfl
    | exact none_c
    | refine S.draw_op ?_; conv => lhs; whnf; arg 1; whnf
    | refine S.dk_n ?_; conv => lhs; whnf
    | refine S.draw_nil ?_; conv => lhs; whnf
    | refine andK_br ?_
    | refine andK_req ?_
    | refine andK_b ?_
    | refine andK_none ?_
def sp10 (k : Nat) : FSpec := ⟨[.rd], fun args objs K => match args, objs with | [v0], [] => listB (.int .i64) true v0 fun a0 => bindO (ref14_Devices.f k a0) fun x : Int => K (.i .i64 x) [] | _, _ => none⟩
theorem snd10 (k : Nat) : Sound Try.prog 10 (sp10 k) := by
  refine ⟨⟨Try.f10, rfl, by kernel_rfl, rfl⟩, fun args objs K r h => ?_⟩
  unfold sp10 at h; dsimp only at h; split at h
  · rename_i v0
    obtain ⟨a0, h, ca0⟩ := listB_spec h
    obtain ⟨x, hx, h⟩ := bindO_some h
    exact ⟨_, _, h, FnOK.args2 (relL_c ca0 relL_n) (fn_run tab_ok (en10 k) mixed rfl ((r10 seals k a0).trans (bindO_eq hx)))⟩
  · cases h
end Go.Vm

/- ref14_Copies -/
namespace Go.Vm
open Go Go.Proofs Go.Pf
def lv20 : Live := look ⟨[], [], [], [], []⟩ [(5, ⟨[5, 23, 24, 25], [5], [4], [], []⟩)]
noncomputable def g20 (k : Nat) : FEnv := (addF 19 (sp19 k) (addF 10 (sp10 k) (addF 17 (sp17 k) (addF 23 (sp23 k) (fun _ => none)))))
theorem en20 (k : Nat) : EnvOK Try.prog (g20 k) := (envOK_add (snd19 k) (envOK_add (snd10 k) (envOK_add (snd17 k) (envOK_add (snd23 k) (envOK_nil _)))))
set_option maxHeartbeats 4000000 in
theorem w20_0 (S : Seals) (k : Nat) : ∀ (n : Nat) {x5 : Int} {x24 : Int} {x25 : Int} {y0 : List Int} {K : CK}, S.lp tt (g20 k) lv20 0 n (loopN Try.f20 0) ⟨[(5, .i .i64 x5), (23, .own 0), (24, .i .i64 x24), (25, .i .i64 x25)], [(0, .row (.int .i64) y0 false)], 1, 34⟩ K = bindO (ref14_Copies.l0 n x5 x24 x25 y0) (fun x : Int => K (.exit 0) ⟨[(5, .i .i64 x)], [], 0, 34⟩) := by
  intro n; induction n with
  | zero => intros; rw [S.lp_zero]; exact none_c
  | succ n ih =>
    intros; rw [ref14_Copies.l0]; refine S.lp_succ ?_; conv => lhs; arg 5; whnf
    repeat' first
      | refine S.seq_op rfl ?_; conv => lhs; whnf
      | refine S.op_n ?_; conv => lhs; whnf
      | refine S.seq_nil ?_
      | refine S.reg_n ?_
      | refine S.region rfl ?_
      | refine S.two ?_
      | refine S.blok ?_
      | refine S.cond rfl ?_
      | refine S.after_n ?_
      | refine S.block_n ?_
      | refine S.block_x ?_; conv => lhs; whnf
      | refine S.block_r ?_
      | refine S.after_x ?_
      | refine S.after_r ?_
      | refine S.skip ?_
      | refine S.exit ?_
      | refine S.ret ?_
      | refine br_lt ?_; conv => lhs; whnf
      | refine br_lf ?_; conv => lhs; whnf
      | refine br_t (by assumption) ?_; conv => lhs; whnf
      | refine br_f (by assumption) ?_; conv => lhs; whnf
      | refine req_i (by assumption) ?_; conv => lhs; whnf
      | (refine br_nd (fun _ => ?_) (fun _ => ?_) <;> conv => lhs; whnf)
      | (refine br_d (fun _ => ?_) (fun _ => ?_) <;> conv => lhs; whnf)
      | (refine br_n (fun _ => ?_) (fun _ => ?_) <;> conv => lhs; whnf)
      | (refine br_c (fun _ => ?_) (fun _ => ?_) <;> conv => lhs; whnf)
      | refine req_c fun _ => ?_; conv => lhs; whnf
      | refine bnd_c fun _ => ?_; conv => lhs; whnf
      | refine sum_c (fun _ => ?_) (fun _ => ?_)
      | exact ih
      | refine S.loop ?_; conv => lhs; whnf
      | refine S.back_n ?_; conv => lhs; whnf
      | refine S.back_x ?_; conv => lhs; whnf
      | refine S.back_r ?_; conv => lhs; whnf
      | refine S.fin_r ?_; conv => lhs; whnf
      | refine S.fin_n ?_; conv => lhs; whnf
      | exact ret_c rfl
      | exact none_c
      | refine S.draw_op ?_; conv => lhs; whnf; arg 1; whnf
      | refine S.dk_n ?_; conv => lhs; whnf
      | refine S.draw_nil ?_; conv => lhs; whnf
      | refine andK_br ?_
      | refine andK_req ?_
      | refine andK_b ?_
      | refine andK_none ?_
set_option maxHeartbeats 4000000 in
theorem r20 (S : Seals) (k : Nat) (a0 : List Int) (a1 : List Int) : runF tt (g20 k) lv20 Try.f20 k [.dat (.int .i64) a0 true, .dat (.int .i64) a1 true] [] = bindO (ref14_Copies.f k a0 a1) (fun x : Int => some (.i .i64 x, [])) := by
  unfold ref14_Copies.f; refine S.run_s rfl rfl ?_; conv => lhs; arg 5; whnf
  conv => lhs; arg 6; whnf
  repeat' first
    | refine S.seq_op rfl ?_; conv => lhs; whnf
    | refine S.op_n ?_; conv => lhs; whnf
    | refine S.seq_nil ?_
    | refine S.reg_n ?_
    | refine S.region rfl ?_
    | refine S.two ?_
    | refine S.blok ?_
    | refine S.cond rfl ?_
    | refine S.after_n ?_
    | refine S.block_n ?_
    | refine S.block_x ?_; conv => lhs; whnf
    | refine S.block_r ?_
    | refine S.after_x ?_
    | refine S.after_r ?_
    | refine S.skip ?_
    | refine S.exit ?_
    | refine S.ret ?_
    | refine br_lt ?_; conv => lhs; whnf
    | refine br_lf ?_; conv => lhs; whnf
    | refine br_t (by assumption) ?_; conv => lhs; whnf
    | refine br_f (by assumption) ?_; conv => lhs; whnf
    | refine req_i (by assumption) ?_; conv => lhs; whnf
    | (refine br_nd (fun _ => ?_) (fun _ => ?_) <;> conv => lhs; whnf)
    | (refine br_d (fun _ => ?_) (fun _ => ?_) <;> conv => lhs; whnf)
    | (refine br_n (fun _ => ?_) (fun _ => ?_) <;> conv => lhs; whnf)
    | (refine br_c (fun _ => ?_) (fun _ => ?_) <;> conv => lhs; whnf)
    | refine req_c fun _ => ?_; conv => lhs; whnf
    | refine bnd_c fun _ => ?_; conv => lhs; whnf
    | refine sum_c (fun _ => ?_) (fun _ => ?_)
    | refine (w20_0 S k _).trans ?_
    | refine S.loop ?_; conv => lhs; whnf
    | refine S.back_n ?_; conv => lhs; whnf
    | refine S.back_x ?_; conv => lhs; whnf
    | refine S.back_r ?_; conv => lhs; whnf
    | refine S.fin_r ?_; conv => lhs; whnf
    | refine S.fin_n ?_; conv => lhs; whnf
    | exact ret_c rfl
    | exact none_c
    | refine S.draw_op ?_; conv => lhs; whnf; arg 1; whnf
    | refine S.dk_n ?_; conv => lhs; whnf
    | refine S.draw_nil ?_; conv => lhs; whnf
    | refine andK_br ?_
    | refine andK_req ?_
    | refine andK_b ?_
    | refine andK_none ?_
def sp20 (k : Nat) : FSpec := ⟨[.rd, .rd], fun args objs K => match args, objs with | [v0, v1], [] => listB (.int .i64) true v0 fun a0 => listB (.int .i64) true v1 fun a1 => bindO (ref14_Copies.f k a0 a1) fun x : Int => K (.i .i64 x) [] | _, _ => none⟩
theorem snd20 (k : Nat) : Sound Try.prog 20 (sp20 k) := by
  refine ⟨⟨Try.f20, rfl, by kernel_rfl, rfl⟩, fun args objs K r h => ?_⟩
  unfold sp20 at h; dsimp only at h; split at h
  · rename_i v0 v1
    obtain ⟨a0, h, ca0⟩ := listB_spec h
    obtain ⟨a1, h, ca1⟩ := listB_spec h
    obtain ⟨x, hx, h⟩ := bindO_some h
    exact ⟨_, _, h, FnOK.args2 (relL_c ca0 (relL_c ca1 relL_n)) (fn_run tab_ok (en20 k) mixed rfl ((r20 seals k a0 a1).trans (bindO_eq hx)))⟩
  · cases h
end Go.Vm

/- ref14_At -/
namespace Go.Vm
open Go Go.Proofs Go.Pf
def lv31 : Live := look ⟨[], [], [], [], []⟩ [(5, ⟨[0, 1, 5, 6], [5], [4], [], []⟩), (1000000, ⟨[], [], [], [(4, 0, .own (.int .i64))], []⟩)]
noncomputable def g31 (k : Nat) : FEnv := (addF 10 (sp10 k) (fun _ => none))
theorem en31 (k : Nat) : EnvOK Try.prog (g31 k) := (envOK_add (snd10 k) (envOK_nil _))
set_option maxHeartbeats 4000000 in
theorem w31_0 (S : Seals) (k : Nat) : ∀ (n : Nat) {x0 : List Int} {x1 : Int} {x6 : Int} {y0 : List Int} {K : CK}, S.lp tt (g31 k) lv31 0 n (loopN Try.f31 0) ⟨[(0, .dat (.int .i64) x0 true), (1, .i .i64 x1), (5, .own 0), (6, .i .i64 x6)], [(0, .row (.int .i64) y0 false)], 1, 41⟩ K = bindO (ref14_At.l0 n x0 x1 x6 y0) (fun x : (List Int) => K (.exit 0) ⟨[(5, .own 0)], [(0, .row (.int .i64) x false)], 1, 41⟩) := by
  intro n; induction n with
  | zero => intros; rw [S.lp_zero]; exact none_c
  | succ n ih =>
    intros; rw [ref14_At.l0]; refine S.lp_succ ?_; conv => lhs; arg 5; whnf
    repeat' first
      | refine S.seq_op rfl ?_; conv => lhs; whnf
      | refine S.op_n ?_; conv => lhs; whnf
      | refine S.seq_nil ?_
      | refine S.reg_n ?_
      | refine S.region rfl ?_
      | refine S.two ?_
      | refine S.blok ?_
      | refine S.cond rfl ?_
      | refine S.after_n ?_
      | refine S.block_n ?_
      | refine S.block_x ?_; conv => lhs; whnf
      | refine S.block_r ?_
      | refine S.after_x ?_
      | refine S.after_r ?_
      | refine S.skip ?_
      | refine S.exit ?_
      | refine S.ret ?_
      | refine br_lt ?_; conv => lhs; whnf
      | refine br_lf ?_; conv => lhs; whnf
      | refine br_t (by assumption) ?_; conv => lhs; whnf
      | refine br_f (by assumption) ?_; conv => lhs; whnf
      | refine req_i (by assumption) ?_; conv => lhs; whnf
      | (refine br_nd (fun _ => ?_) (fun _ => ?_) <;> conv => lhs; whnf)
      | (refine br_d (fun _ => ?_) (fun _ => ?_) <;> conv => lhs; whnf)
      | (refine br_n (fun _ => ?_) (fun _ => ?_) <;> conv => lhs; whnf)
      | (refine br_c (fun _ => ?_) (fun _ => ?_) <;> conv => lhs; whnf)
      | refine req_c fun _ => ?_; conv => lhs; whnf
      | refine bnd_c fun _ => ?_; conv => lhs; whnf
      | refine sum_c (fun _ => ?_) (fun _ => ?_)
      | exact ih
      | refine S.loop ?_; conv => lhs; whnf
      | refine S.back_n ?_; conv => lhs; whnf
      | refine S.back_x ?_; conv => lhs; whnf
      | refine S.back_r ?_; conv => lhs; whnf
      | refine S.fin_r ?_; conv => lhs; whnf
      | refine S.fin_n ?_; conv => lhs; whnf
      | exact ret_c rfl
      | exact none_c
      | refine S.draw_op ?_; conv => lhs; whnf; arg 1; whnf
      | refine S.dk_n ?_; conv => lhs; whnf
      | refine S.draw_nil ?_; conv => lhs; whnf
      | refine andK_br ?_
      | refine andK_req ?_
      | refine andK_b ?_
      | refine andK_none ?_
set_option maxHeartbeats 4000000 in
theorem r31 (S : Seals) (k : Nat) (a0 : List Int) (a1 : Int) : runF tt (g31 k) lv31 Try.f31 k [.dat (.int .i64) a0 true, .i .i64 a1] [] = bindO (ref14_At.f k a0 a1) (fun x : (List Int) => some (.own 0, [.row (.int .i64) x false])) := by
  unfold ref14_At.f; refine S.run_s rfl rfl ?_; conv => lhs; arg 5; whnf
  conv => lhs; arg 6; whnf
  repeat' first
    | refine S.seq_op rfl ?_; conv => lhs; whnf
    | refine S.op_n ?_; conv => lhs; whnf
    | refine S.seq_nil ?_
    | refine S.reg_n ?_
    | refine S.region rfl ?_
    | refine S.two ?_
    | refine S.blok ?_
    | refine S.cond rfl ?_
    | refine S.after_n ?_
    | refine S.block_n ?_
    | refine S.block_x ?_; conv => lhs; whnf
    | refine S.block_r ?_
    | refine S.after_x ?_
    | refine S.after_r ?_
    | refine S.skip ?_
    | refine S.exit ?_
    | refine S.ret ?_
    | refine br_lt ?_; conv => lhs; whnf
    | refine br_lf ?_; conv => lhs; whnf
    | refine br_t (by assumption) ?_; conv => lhs; whnf
    | refine br_f (by assumption) ?_; conv => lhs; whnf
    | refine req_i (by assumption) ?_; conv => lhs; whnf
    | (refine br_nd (fun _ => ?_) (fun _ => ?_) <;> conv => lhs; whnf)
    | (refine br_d (fun _ => ?_) (fun _ => ?_) <;> conv => lhs; whnf)
    | (refine br_n (fun _ => ?_) (fun _ => ?_) <;> conv => lhs; whnf)
    | (refine br_c (fun _ => ?_) (fun _ => ?_) <;> conv => lhs; whnf)
    | refine req_c fun _ => ?_; conv => lhs; whnf
    | refine bnd_c fun _ => ?_; conv => lhs; whnf
    | refine sum_c (fun _ => ?_) (fun _ => ?_)
    | refine (w31_0 S k _).trans ?_
    | refine S.loop ?_; conv => lhs; whnf
    | refine S.back_n ?_; conv => lhs; whnf
    | refine S.back_x ?_; conv => lhs; whnf
    | refine S.back_r ?_; conv => lhs; whnf
    | refine S.fin_r ?_; conv => lhs; whnf
    | refine S.fin_n ?_; conv => lhs; whnf
    | exact ret_c rfl
    | exact none_c
    | refine S.draw_op ?_; conv => lhs; whnf; arg 1; whnf
    | refine S.dk_n ?_; conv => lhs; whnf
    | refine S.draw_nil ?_; conv => lhs; whnf
    | refine andK_br ?_
    | refine andK_req ?_
    | refine andK_b ?_
    | refine andK_none ?_
def sp31 (k : Nat) : FSpec := ⟨[.rd, .rd], fun args objs K => match args, objs with | [v0, .i .i64 a1], [] => listB (.int .i64) true v0 fun a0 => bindO (ref14_At.f k a0 a1) fun x : (List Int) => K (.own 0) [.row (.int .i64) x false] | _, _ => none⟩
theorem snd31 (k : Nat) : Sound Try.prog 31 (sp31 k) := by
  refine ⟨⟨Try.f31, rfl, by kernel_rfl, rfl⟩, fun args objs K r h => ?_⟩
  unfold sp31 at h; dsimp only at h; split at h
  · rename_i v0 a1
    obtain ⟨a0, h, ca0⟩ := listB_spec h
    obtain ⟨x, hx, h⟩ := bindO_some h
    exact ⟨_, _, h, FnOK.args2 (relL_c ca0 (relL_c rel_i relL_n)) (fn_run tab_ok (en31 k) mixed rfl ((r31 seals k a0 a1).trans (bindO_eq hx)))⟩
  · cases h
end Go.Vm

/- ref14_Of -/
namespace Go.Vm
open Go Go.Proofs Go.Pf
def lv32 : Live := look ⟨[], [], [], [], []⟩ [(5, ⟨[0, 1, 5, 18, 19], [5], [4], [], []⟩)]
noncomputable def g32 (k : Nat) : FEnv := (addF 23 (sp23 k) (fun _ => none))
theorem en32 (k : Nat) : EnvOK Try.prog (g32 k) := (envOK_add (snd23 k) (envOK_nil _))
set_option maxHeartbeats 4000000 in
theorem w32_0 (S : Seals) (k : Nat) : ∀ (n : Nat) {x0 : List Int} {x1 : List Int} {x5 : Int} {x18 : Int} {x19 : Int} {K : CK}, S.lp tt (g32 k) lv32 0 n (loopN Try.f32 0) ⟨[(0, .dat (.int .i64) x0 true), (1, .dat (.int .i64) x1 true), (5, .i .i64 x5), (18, .i .i64 x18), (19, .i .i64 x19)], [], 0, 51⟩ K = bindO (ref14_Of.l0 n x0 x1 x5 x18 x19) (Sum.elim (fun x : Int => K (.exit 0) ⟨[(5, .i .i64 x)], [], 0, 51⟩) (fun x : Int => K .ret ⟨[(4, .i .i64 x)], [], 0, 51⟩)) := by
  intro n; induction n with
  | zero => intros; rw [S.lp_zero]; exact none_c
  | succ n ih =>
    intros; rw [ref14_Of.l0]; refine S.lp_succ ?_; conv => lhs; arg 5; whnf
    repeat' first
      | refine S.seq_op rfl ?_; conv => lhs; whnf
      | refine S.op_n ?_; conv => lhs; whnf
      | refine S.seq_nil ?_
      | refine S.reg_n ?_
      | refine S.region rfl ?_
      | refine S.two ?_
      | refine S.blok ?_
      | refine S.cond rfl ?_
      | refine S.after_n ?_
      | refine S.block_n ?_
      | refine S.block_x ?_; conv => lhs; whnf
      | refine S.block_r ?_
      | refine S.after_x ?_
      | refine S.after_r ?_
      | refine S.skip ?_
      | refine S.exit ?_
      | refine S.ret ?_
      | refine br_lt ?_; conv => lhs; whnf
      | refine br_lf ?_; conv => lhs; whnf
      | refine br_t (by assumption) ?_; conv => lhs; whnf
      | refine br_f (by assumption) ?_; conv => lhs; whnf
      | refine req_i (by assumption) ?_; conv => lhs; whnf
      | (refine br_nd (fun _ => ?_) (fun _ => ?_) <;> conv => lhs; whnf)
      | (refine br_d (fun _ => ?_) (fun _ => ?_) <;> conv => lhs; whnf)
      | (refine br_n (fun _ => ?_) (fun _ => ?_) <;> conv => lhs; whnf)
      | (refine br_c (fun _ => ?_) (fun _ => ?_) <;> conv => lhs; whnf)
      | refine req_c fun _ => ?_; conv => lhs; whnf
      | refine bnd_c fun _ => ?_; conv => lhs; whnf
      | refine sum_c (fun _ => ?_) (fun _ => ?_)
      | refine S.region_d (id := 7) (ds := [0, 0, 3, 7, 15, 31, 63, 63, 255, 511, 63, 63, 3135, 7231, 16383, 32767]) (mds := [[], [], [], [], [], [], [], [], [], [], [], [], [], [], [], []]) (hm := []) (by kernel_rfl) (by kernel_rfl) rfl rfl ?_
      | refine S.region_d (id := 9) (ds := [0, 0, 0, 6, 14, 31, 0, 0, 192, 448, 1023, 2047]) (mds := [[], [], [], [], [], [], [], [], [], [], [], []]) (hm := []) (by kernel_rfl) (by kernel_rfl) rfl rfl ?_
      | exact ih
      | refine S.loop ?_; conv => lhs; whnf
      | refine S.back_n ?_; conv => lhs; whnf
      | refine S.back_x ?_; conv => lhs; whnf
      | refine S.back_r ?_; conv => lhs; whnf
      | refine S.fin_r ?_; conv => lhs; whnf
      | refine S.fin_n ?_; conv => lhs; whnf
      | exact ret_c rfl
      | exact none_c
      | refine S.draw_op ?_; conv => lhs; whnf; arg 1; whnf
      | refine S.dk_n ?_; conv => lhs; whnf
      | refine S.draw_nil ?_; conv => lhs; whnf
      | refine andK_br ?_
      | refine andK_req ?_
      | refine andK_b ?_
      | refine andK_none ?_
set_option maxHeartbeats 4000000 in
theorem r32 (S : Seals) (k : Nat) (a0 : List Int) (a1 : List Int) : runF tt (g32 k) lv32 Try.f32 k [.dat (.int .i64) a0 true, .dat (.int .i64) a1 true] [] = bindO (ref14_Of.f k a0 a1) (fun x : Int => some (.i .i64 x, [])) := by
  unfold ref14_Of.f; refine S.run_s rfl rfl ?_; conv => lhs; arg 5; whnf
  conv => lhs; arg 6; whnf
  repeat' first
    | refine S.seq_op rfl ?_; conv => lhs; whnf
    | refine S.op_n ?_; conv => lhs; whnf
    | refine S.seq_nil ?_
    | refine S.reg_n ?_
    | refine S.region rfl ?_
    | refine S.two ?_
    | refine S.blok ?_
    | refine S.cond rfl ?_
    | refine S.after_n ?_
    | refine S.block_n ?_
    | refine S.block_x ?_; conv => lhs; whnf
    | refine S.block_r ?_
    | refine S.after_x ?_
    | refine S.after_r ?_
    | refine S.skip ?_
    | refine S.exit ?_
    | refine S.ret ?_
    | refine br_lt ?_; conv => lhs; whnf
    | refine br_lf ?_; conv => lhs; whnf
    | refine br_t (by assumption) ?_; conv => lhs; whnf
    | refine br_f (by assumption) ?_; conv => lhs; whnf
    | refine req_i (by assumption) ?_; conv => lhs; whnf
    | (refine br_nd (fun _ => ?_) (fun _ => ?_) <;> conv => lhs; whnf)
    | (refine br_d (fun _ => ?_) (fun _ => ?_) <;> conv => lhs; whnf)
    | (refine br_n (fun _ => ?_) (fun _ => ?_) <;> conv => lhs; whnf)
    | (refine br_c (fun _ => ?_) (fun _ => ?_) <;> conv => lhs; whnf)
    | refine req_c fun _ => ?_; conv => lhs; whnf
    | refine bnd_c fun _ => ?_; conv => lhs; whnf
    | refine sum_c (fun _ => ?_) (fun _ => ?_)
    | refine (w32_0 S k _).trans ?_
    | refine S.loop ?_; conv => lhs; whnf
    | refine S.back_n ?_; conv => lhs; whnf
    | refine S.back_x ?_; conv => lhs; whnf
    | refine S.back_r ?_; conv => lhs; whnf
    | refine S.fin_r ?_; conv => lhs; whnf
    | refine S.fin_n ?_; conv => lhs; whnf
    | exact ret_c rfl
    | exact none_c
    | refine S.draw_op ?_; conv => lhs; whnf; arg 1; whnf
    | refine S.dk_n ?_; conv => lhs; whnf
    | refine S.draw_nil ?_; conv => lhs; whnf
    | refine andK_br ?_
    | refine andK_req ?_
    | refine andK_b ?_
    | refine andK_none ?_
def sp32 (k : Nat) : FSpec := ⟨[.rd, .rd], fun args objs K => match args, objs with | [v0, v1], [] => listB (.int .i64) true v0 fun a0 => listB (.int .i64) true v1 fun a1 => bindO (ref14_Of.f k a0 a1) fun x : Int => K (.i .i64 x) [] | _, _ => none⟩
theorem snd32 (k : Nat) : Sound Try.prog 32 (sp32 k) := by
  refine ⟨⟨Try.f32, rfl, by kernel_rfl, rfl⟩, fun args objs K r h => ?_⟩
  unfold sp32 at h; dsimp only at h; split at h
  · rename_i v0 v1
    obtain ⟨a0, h, ca0⟩ := listB_spec h
    obtain ⟨a1, h, ca1⟩ := listB_spec h
    obtain ⟨x, hx, h⟩ := bindO_some h
    exact ⟨_, _, h, FnOK.args2 (relL_c ca0 (relL_c ca1 relL_n)) (fn_run tab_ok (en32 k) mixed rfl ((r32 seals k a0 a1).trans (bindO_eq hx)))⟩
  · cases h
end Go.Vm

/- ref14_First -/
namespace Go.Vm
open Go Go.Proofs Go.Pf
def lv21 : Live := look ⟨[], [], [], [], []⟩ [(5, ⟨[0, 1, 7, 31, 32], [0, 7], [6], [], []⟩), (9, ⟨[0, 1, 7, 8, 9, 31, 32, 36, 37], [0, 1, 7, 8, 9, 31, 32], [6], [], []⟩)]
noncomputable def g21 (k : Nat) : FEnv := (addF 32 (sp32 k) (addF 31 (sp31 k) (addF 17 (sp17 k) (addF 10 (sp10 k) (fun _ => none)))))
theorem en21 (k : Nat) : EnvOK Try.prog (g21 k) := (envOK_add (snd32 k) (envOK_add (snd31 k) (envOK_add (snd17 k) (envOK_add (snd10 k) (envOK_nil _)))))
set_option maxHeartbeats 4000000 in
theorem w21_1 (S : Seals) (k : Nat) : ∀ (n : Nat) {x0 : List Int} {x1 : List Int} {x8 : Int} {x9 : Bool} {x31 : Int} {x32 : Int} {x36 : Int} {x37 : Int} {y0 : List Int} {K : CK}, S.lp tt (g21 k) lv21 0 n (loopN Try.f21 1) ⟨[(0, .dat (.int .i64) x0 true), (1, .dat (.int .i64) x1 true), (7, .own 0), (8, .i .i64 x8), (9, .b x9), (31, .i .i64 x31), (32, .i .i64 x32), (36, .i .i64 x36), (37, .i .i64 x37)], [(0, .row (.int .i64) y0 false)], 1, 59⟩ K = bindO (ref14_First.l1 n x0 x1 x8 x9 x31 x32 x36 x37 y0) (fun x : Bool => K (.exit 2) ⟨[(0, .dat (.int .i64) x0 true), (1, .dat (.int .i64) x1 true), (7, .own 0), (8, .i .i64 x8), (9, .b x), (31, .i .i64 x31), (32, .i .i64 x32)], [(0, .row (.int .i64) y0 false)], 1, 59⟩) := by
  intro n; induction n with
  | zero => intros; rw [S.lp_zero]; exact none_c
  | succ n ih =>
    intros; rw [ref14_First.l1]; refine S.lp_succ ?_; conv => lhs; arg 5; whnf
    repeat' first
      | refine S.seq_op rfl ?_; conv => lhs; whnf
      | refine S.op_n ?_; conv => lhs; whnf
      | refine S.seq_nil ?_
      | refine S.reg_n ?_
      | refine S.region rfl ?_
      | refine S.two ?_
      | refine S.blok ?_
      | refine S.cond rfl ?_
      | refine S.after_n ?_
      | refine S.block_n ?_
      | refine S.block_x ?_; conv => lhs; whnf
      | refine S.block_r ?_
      | refine S.after_x ?_
      | refine S.after_r ?_
      | refine S.skip ?_
      | refine S.exit ?_
      | refine S.ret ?_
      | refine br_lt ?_; conv => lhs; whnf
      | refine br_lf ?_; conv => lhs; whnf
      | refine br_t (by assumption) ?_; conv => lhs; whnf
      | refine br_f (by assumption) ?_; conv => lhs; whnf
      | refine req_i (by assumption) ?_; conv => lhs; whnf
      | (refine br_nd (fun _ => ?_) (fun _ => ?_) <;> conv => lhs; whnf)
      | (refine br_d (fun _ => ?_) (fun _ => ?_) <;> conv => lhs; whnf)
      | (refine br_n (fun _ => ?_) (fun _ => ?_) <;> conv => lhs; whnf)
      | (refine br_c (fun _ => ?_) (fun _ => ?_) <;> conv => lhs; whnf)
      | refine req_c fun _ => ?_; conv => lhs; whnf
      | refine bnd_c fun _ => ?_; conv => lhs; whnf
      | refine sum_c (fun _ => ?_) (fun _ => ?_)
      | exact ih
      | refine S.loop ?_; conv => lhs; whnf
      | refine S.back_n ?_; conv => lhs; whnf
      | refine S.back_x ?_; conv => lhs; whnf
      | refine S.back_r ?_; conv => lhs; whnf
      | refine S.fin_r ?_; conv => lhs; whnf
      | refine S.fin_n ?_; conv => lhs; whnf
      | exact ret_c rfl
      | exact none_c
      | refine S.draw_op ?_; conv => lhs; whnf; arg 1; whnf
      | refine S.dk_n ?_; conv => lhs; whnf
      | refine S.draw_nil ?_; conv => lhs; whnf
      | refine andK_br ?_
      | refine andK_req ?_
      | refine andK_b ?_
      | refine andK_none ?_
set_option maxHeartbeats 4000000 in
theorem w21_0 (S : Seals) (k : Nat) : ∀ (n : Nat) {x0 : List Int} {x1 : List Int} {x31 : Int} {x32 : Int} {y0 : List Int} {K : CK}, S.lp tt (g21 k) lv21 0 n (loopN Try.f21 0) ⟨[(0, .dat (.int .i64) x0 true), (1, .dat (.int .i64) x1 true), (7, .own 0), (31, .i .i64 x31), (32, .i .i64 x32)], [(0, .row (.int .i64) y0 false)], 1, 59⟩ K = bindO (ref14_First.l0 k n x0 x1 x31 x32 y0) (fun x : (List Int) => K (.exit 0) ⟨[(0, .dat (.int .i64) x0 true), (7, .own 0)], [(0, .row (.int .i64) x false)], 1, 59⟩) := by
  intro n; induction n with
  | zero => intros; rw [S.lp_zero]; exact none_c
  | succ n ih =>
    intros; rw [ref14_First.l0]; refine S.lp_succ ?_; conv => lhs; arg 5; whnf
    repeat' first
      | refine S.seq_op rfl ?_; conv => lhs; whnf
      | refine S.op_n ?_; conv => lhs; whnf
      | refine S.seq_nil ?_
      | refine S.reg_n ?_
      | refine S.region rfl ?_
      | refine S.two ?_
      | refine S.blok ?_
      | refine S.cond rfl ?_
      | refine S.after_n ?_
      | refine S.block_n ?_
      | refine S.block_x ?_; conv => lhs; whnf
      | refine S.block_r ?_
      | refine S.after_x ?_
      | refine S.after_r ?_
      | refine S.skip ?_
      | refine S.exit ?_
      | refine S.ret ?_
      | refine br_lt ?_; conv => lhs; whnf
      | refine br_lf ?_; conv => lhs; whnf
      | refine br_t (by assumption) ?_; conv => lhs; whnf
      | refine br_f (by assumption) ?_; conv => lhs; whnf
      | refine req_i (by assumption) ?_; conv => lhs; whnf
      | (refine br_nd (fun _ => ?_) (fun _ => ?_) <;> conv => lhs; whnf)
      | (refine br_d (fun _ => ?_) (fun _ => ?_) <;> conv => lhs; whnf)
      | (refine br_n (fun _ => ?_) (fun _ => ?_) <;> conv => lhs; whnf)
      | (refine br_c (fun _ => ?_) (fun _ => ?_) <;> conv => lhs; whnf)
      | refine req_c fun _ => ?_; conv => lhs; whnf
      | refine bnd_c fun _ => ?_; conv => lhs; whnf
      | refine sum_c (fun _ => ?_) (fun _ => ?_)
      | exact ih
      | refine (w21_1 S k _).trans ?_
      | refine S.loop ?_; conv => lhs; whnf
      | refine S.back_n ?_; conv => lhs; whnf
      | refine S.back_x ?_; conv => lhs; whnf
      | refine S.back_r ?_; conv => lhs; whnf
      | refine S.fin_r ?_; conv => lhs; whnf
      | refine S.fin_n ?_; conv => lhs; whnf
      | exact ret_c rfl
      | exact none_c
      | refine S.draw_op ?_; conv => lhs; whnf; arg 1; whnf
      | refine S.dk_n ?_; conv => lhs; whnf
      | refine S.draw_nil ?_; conv => lhs; whnf
      | refine andK_br ?_
      | refine andK_req ?_
      | refine andK_b ?_
      | refine andK_none ?_
set_option maxHeartbeats 4000000 in
theorem r21 (S : Seals) (k : Nat) (a0 : List Int) (a1 : List Int) (a2 : Int) : runF tt (g21 k) lv21 Try.f21 k [.dat (.int .i64) a0 true, .dat (.int .i64) a1 true, .i .i64 a2] [] = bindO (ref14_First.f k a0 a1 a2) (fun x : Int => some (.i .i64 x, [])) := by
  unfold ref14_First.f; refine S.run_s rfl rfl ?_; conv => lhs; arg 5; whnf
  conv => lhs; arg 6; whnf
  repeat' first
    | refine S.seq_op rfl ?_; conv => lhs; whnf
    | refine S.op_n ?_; conv => lhs; whnf
    | refine S.seq_nil ?_
    | refine S.reg_n ?_
    | refine S.region rfl ?_
    | refine S.two ?_
    | refine S.blok ?_
    | refine S.cond rfl ?_
    | refine S.after_n ?_
    | refine S.block_n ?_
    | refine S.block_x ?_; conv => lhs; whnf
    | refine S.block_r ?_
    | refine S.after_x ?_
    | refine S.after_r ?_
    | refine S.skip ?_
    | refine S.exit ?_
    | refine S.ret ?_
    | refine br_lt ?_; conv => lhs; whnf
    | refine br_lf ?_; conv => lhs; whnf
    | refine br_t (by assumption) ?_; conv => lhs; whnf
    | refine br_f (by assumption) ?_; conv => lhs; whnf
    | refine req_i (by assumption) ?_; conv => lhs; whnf
    | (refine br_nd (fun _ => ?_) (fun _ => ?_) <;> conv => lhs; whnf)
    | (refine br_d (fun _ => ?_) (fun _ => ?_) <;> conv => lhs; whnf)
    | (refine br_n (fun _ => ?_) (fun _ => ?_) <;> conv => lhs; whnf)
    | (refine br_c (fun _ => ?_) (fun _ => ?_) <;> conv => lhs; whnf)
    | refine req_c fun _ => ?_; conv => lhs; whnf
    | refine bnd_c fun _ => ?_; conv => lhs; whnf
    | refine sum_c (fun _ => ?_) (fun _ => ?_)
    | refine (w21_0 S k _).trans ?_
    | refine S.loop ?_; conv => lhs; whnf
    | refine S.back_n ?_; conv => lhs; whnf
    | refine S.back_x ?_; conv => lhs; whnf
    | refine S.back_r ?_; conv => lhs; whnf
    | refine S.fin_r ?_; conv => lhs; whnf
    | refine S.fin_n ?_; conv => lhs; whnf
    | exact ret_c rfl
    | exact none_c
    | refine S.draw_op ?_; conv => lhs; whnf; arg 1; whnf
    | refine S.dk_n ?_; conv => lhs; whnf
    | refine S.draw_nil ?_; conv => lhs; whnf
    | refine andK_br ?_
    | refine andK_req ?_
    | refine andK_b ?_
    | refine andK_none ?_
def sp21 (k : Nat) : FSpec := ⟨[.rd, .rd, .rd], fun args objs K => match args, objs with | [v0, v1, .i .i64 a2], [] => listB (.int .i64) true v0 fun a0 => listB (.int .i64) true v1 fun a1 => bindO (ref14_First.f k a0 a1 a2) fun x : Int => K (.i .i64 x) [] | _, _ => none⟩
theorem snd21 (k : Nat) : Sound Try.prog 21 (sp21 k) := by
  refine ⟨⟨Try.f21, rfl, by kernel_rfl, rfl⟩, fun args objs K r h => ?_⟩
  unfold sp21 at h; dsimp only at h; split at h
  · rename_i v0 v1 a2
    obtain ⟨a0, h, ca0⟩ := listB_spec h
    obtain ⟨a1, h, ca1⟩ := listB_spec h
    obtain ⟨x, hx, h⟩ := bindO_some h
    exact ⟨_, _, h, FnOK.args2 (relL_c ca0 (relL_c ca1 (relL_c rel_i relL_n))) (fn_run tab_ok (en21 k) mixed rfl ((r21 seals k a0 a1 a2).trans (bindO_eq hx)))⟩
  · cases h
end Go.Vm

/- law15_same -/
namespace Go.Vm
open Go Go.Proofs Go.Pf
def lv6 : Live := look ⟨[], [], [], [], []⟩ [(3, ⟨[0, 1, 2, 3, 9, 10], [0, 1, 2, 3, 9], [8], [], []⟩)]
noncomputable def g6 (k : Nat) : FEnv := (addF 16 (sp16 k) (addF 15 (sp15 k) (addF 21 (sp21 k) (addF 11 (sp11 k) (addF 20 (sp20 k) (addF 12 (sp12 k) (addF 18 (sp18 k) (addF 19 (sp19 k) (addF 13 (sp13 k) (addF 17 (sp17 k) (addF 14 (sp14 k) (fun _ => none))))))))))))
theorem en6 (k : Nat) : EnvOK Try.prog (g6 k) := (envOK_add (snd16 k) (envOK_add (snd15 k) (envOK_add (snd21 k) (envOK_add (snd11 k) (envOK_add (snd20 k) (envOK_add (snd12 k) (envOK_add (snd18 k) (envOK_add (snd19 k) (envOK_add (snd13 k) (envOK_add (snd17 k) (envOK_add (snd14 k) (envOK_nil _))))))))))))
set_option maxHeartbeats 4000000 in
theorem w6_0 (S : Seals) (k : Nat) : ∀ (n : Nat) {x0 : List Int} {x1 : List Int} {x2 : Int} {x3 : Int} {x10 : Int} {y0 : List Int} {K : CK}, S.lp tt (g6 k) lv6 0 n (loopN Try.f6 0) ⟨[(0, .dat (.int .i64) x0 true), (1, .dat (.int .i64) x1 true), (2, .i .i64 x2), (3, .i .i64 x3), (9, .own 0), (10, .i .i64 x10)], [(0, .row (.int .i64) y0 false)], 1, 77⟩ K = bindO (law15_same.l0 n x0 x1 x2 x3 x10 y0) (fun x : (List Int) => K (.exit 0) ⟨[(0, .dat (.int .i64) x0 true), (1, .dat (.int .i64) x1 true), (2, .i .i64 x2), (3, .i .i64 x3), (9, .own 0)], [(0, .row (.int .i64) x false)], 1, 77⟩) := by
  intro n; induction n with
  | zero => intros; rw [S.lp_zero]; exact none_c
  | succ n ih =>
    intros; rw [law15_same.l0]; refine S.lp_succ ?_; conv => lhs; arg 5; whnf
    repeat' first
      | refine S.seq_op rfl ?_; conv => lhs; whnf
      | refine S.op_n ?_; conv => lhs; whnf
      | refine S.seq_nil ?_
      | refine S.reg_n ?_
      | refine S.region rfl ?_
      | refine S.two ?_
      | refine S.blok ?_
      | refine S.cond rfl ?_
      | refine S.after_n ?_
      | refine S.block_n ?_
      | refine S.block_x ?_; conv => lhs; whnf
      | refine S.block_r ?_
      | refine S.after_x ?_
      | refine S.after_r ?_
      | refine S.skip ?_
      | refine S.exit ?_
      | refine S.ret ?_
      | refine br_lt ?_; conv => lhs; whnf
      | refine br_lf ?_; conv => lhs; whnf
      | refine br_t (by assumption) ?_; conv => lhs; whnf
      | refine br_f (by assumption) ?_; conv => lhs; whnf
      | refine req_i (by assumption) ?_; conv => lhs; whnf
      | (refine br_nd (fun _ => ?_) (fun _ => ?_) <;> conv => lhs; whnf)
      | (refine br_d (fun _ => ?_) (fun _ => ?_) <;> conv => lhs; whnf)
      | (refine br_n (fun _ => ?_) (fun _ => ?_) <;> conv => lhs; whnf)
      | (refine br_c (fun _ => ?_) (fun _ => ?_) <;> conv => lhs; whnf)
      | refine req_c fun _ => ?_; conv => lhs; whnf
      | refine bnd_c fun _ => ?_; conv => lhs; whnf
      | refine sum_c (fun _ => ?_) (fun _ => ?_)
      | exact ih
      | refine S.loop ?_; conv => lhs; whnf
      | refine S.back_n ?_; conv => lhs; whnf
      | refine S.back_x ?_; conv => lhs; whnf
      | refine S.back_r ?_; conv => lhs; whnf
      | refine S.fin_r ?_; conv => lhs; whnf
      | refine S.fin_n ?_; conv => lhs; whnf
      | exact ret_c rfl
      | exact none_c
      | refine S.draw_op ?_; conv => lhs; whnf; arg 1; whnf
      | refine S.dk_n ?_; conv => lhs; whnf
      | refine S.draw_nil ?_; conv => lhs; whnf
      | refine andK_br ?_
      | refine andK_req ?_
      | refine andK_b ?_
      | refine andK_none ?_
set_option maxHeartbeats 4000000 in
theorem r6 (S : Seals) (k : Nat) (a0 : List Int) (a1 : List Int) (a2 : Int) (a3 : Int) : runF tt (g6 k) lv6 Try.f6 k [.dat (.int .i64) a0 true, .dat (.int .i64) a1 true, .i .i64 a2, .i .i64 a3] [] = bindO (law15_same.f k a0 a1 a2 a3) (fun x : Bool => some (.b x, [])) := by
  unfold law15_same.f; refine S.run_s rfl rfl ?_; conv => lhs; arg 5; whnf
  conv => lhs; arg 6; whnf
  repeat' first
    | refine S.seq_op rfl ?_; conv => lhs; whnf
    | refine S.op_n ?_; conv => lhs; whnf
    | refine S.seq_nil ?_
    | refine S.reg_n ?_
    | refine S.region rfl ?_
    | refine S.two ?_
    | refine S.blok ?_
    | refine S.cond rfl ?_
    | refine S.after_n ?_
    | refine S.block_n ?_
    | refine S.block_x ?_; conv => lhs; whnf
    | refine S.block_r ?_
    | refine S.after_x ?_
    | refine S.after_r ?_
    | refine S.skip ?_
    | refine S.exit ?_
    | refine S.ret ?_
    | refine br_lt ?_; conv => lhs; whnf
    | refine br_lf ?_; conv => lhs; whnf
    | refine br_t (by assumption) ?_; conv => lhs; whnf
    | refine br_f (by assumption) ?_; conv => lhs; whnf
    | refine req_i (by assumption) ?_; conv => lhs; whnf
    | (refine br_nd (fun _ => ?_) (fun _ => ?_) <;> conv => lhs; whnf)
    | (refine br_d (fun _ => ?_) (fun _ => ?_) <;> conv => lhs; whnf)
    | (refine br_n (fun _ => ?_) (fun _ => ?_) <;> conv => lhs; whnf)
    | (refine br_c (fun _ => ?_) (fun _ => ?_) <;> conv => lhs; whnf)
    | refine req_c fun _ => ?_; conv => lhs; whnf
    | refine bnd_c fun _ => ?_; conv => lhs; whnf
    | refine sum_c (fun _ => ?_) (fun _ => ?_)
    | refine (w6_0 S k _).trans ?_
    | refine S.loop ?_; conv => lhs; whnf
    | refine S.back_n ?_; conv => lhs; whnf
    | refine S.back_x ?_; conv => lhs; whnf
    | refine S.back_r ?_; conv => lhs; whnf
    | refine S.fin_r ?_; conv => lhs; whnf
    | refine S.fin_n ?_; conv => lhs; whnf
    | exact ret_c rfl
    | exact none_c
    | refine S.draw_op ?_; conv => lhs; whnf; arg 1; whnf
    | refine S.dk_n ?_; conv => lhs; whnf
    | refine S.draw_nil ?_; conv => lhs; whnf
    | refine andK_br ?_
    | refine andK_req ?_
    | refine andK_b ?_
    | refine andK_none ?_
def sp6 (k : Nat) : FSpec := ⟨[.rd, .rd, .rd, .rd], fun args objs K => match args, objs with | [v0, v1, .i .i64 a2, .i .i64 a3], [] => listB (.int .i64) true v0 fun a0 => listB (.int .i64) true v1 fun a1 => bindO (law15_same.f k a0 a1 a2 a3) fun x : Bool => K (.b x) [] | _, _ => none⟩
theorem snd6 (k : Nat) : Sound Try.prog 6 (sp6 k) := by
  refine ⟨⟨Try.f6, rfl, by kernel_rfl, rfl⟩, fun args objs K r h => ?_⟩
  unfold sp6 at h; dsimp only at h; split at h
  · rename_i v0 v1 a2 a3
    obtain ⟨a0, h, ca0⟩ := listB_spec h
    obtain ⟨a1, h, ca1⟩ := listB_spec h
    obtain ⟨x, hx, h⟩ := bindO_some h
    exact ⟨_, _, h, FnOK.args2 (relL_c ca0 (relL_c ca1 (relL_c rel_i (relL_c rel_i relL_n)))) (fn_run tab_ok (en6 k) mixed rfl ((r6 seals k a0 a1 a2 a3).trans (bindO_eq hx)))⟩
  · cases h
end Go.Vm

/- law15_known -/
namespace Go.Vm
open Go Go.Proofs Go.Pf
def lv7 : Live := look ⟨[], [], [], [], []⟩ []
noncomputable def g7 (k : Nat) : FEnv := (addF 16 (sp16 k) (addF 15 (sp15 k) (addF 18 (sp18 k) (addF 13 (sp13 k) (addF 11 (sp11 k) (addF 14 (sp14 k) (addF 12 (sp12 k) (fun _ => none))))))))
theorem en7 (k : Nat) : EnvOK Try.prog (g7 k) := (envOK_add (snd16 k) (envOK_add (snd15 k) (envOK_add (snd18 k) (envOK_add (snd13 k) (envOK_add (snd11 k) (envOK_add (snd14 k) (envOK_add (snd12 k) (envOK_nil _))))))))
set_option maxHeartbeats 4000000 in
theorem r7 (S : Seals) (k : Nat) : runF tt (g7 k) lv7 Try.f7 k [] [] = bindO (law15_known.f k) (fun x : Bool => some (.b x, [])) := by
  unfold law15_known.f; refine S.run_s rfl rfl ?_; conv => lhs; arg 5; whnf
  conv => lhs; arg 6; whnf
  repeat' first
    | refine S.seq_op rfl ?_; conv => lhs; whnf
    | refine S.op_n ?_; conv => lhs; whnf
    | refine S.seq_nil ?_
    | refine S.reg_n ?_
    | refine S.region rfl ?_
    | refine S.two ?_
    | refine S.blok ?_
    | refine S.cond rfl ?_
    | refine S.after_n ?_
    | refine S.block_n ?_
    | refine S.block_x ?_; conv => lhs; whnf
    | refine S.block_r ?_
    | refine S.after_x ?_
    | refine S.after_r ?_
    | refine S.skip ?_
    | refine S.exit ?_
    | refine S.ret ?_
    | refine br_lt ?_; conv => lhs; whnf
    | refine br_lf ?_; conv => lhs; whnf
    | refine br_t (by assumption) ?_; conv => lhs; whnf
    | refine br_f (by assumption) ?_; conv => lhs; whnf
    | refine req_i (by assumption) ?_; conv => lhs; whnf
    | (refine br_nd (fun _ => ?_) (fun _ => ?_) <;> conv => lhs; whnf)
    | (refine br_d (fun _ => ?_) (fun _ => ?_) <;> conv => lhs; whnf)
    | (refine br_n (fun _ => ?_) (fun _ => ?_) <;> conv => lhs; whnf)
    | (refine br_c (fun _ => ?_) (fun _ => ?_) <;> conv => lhs; whnf)
    | refine req_c fun _ => ?_; conv => lhs; whnf
    | refine bnd_c fun _ => ?_; conv => lhs; whnf
    | refine sum_c (fun _ => ?_) (fun _ => ?_)
    | refine S.loop ?_; conv => lhs; whnf
    | refine S.back_n ?_; conv => lhs; whnf
    | refine S.back_x ?_; conv => lhs; whnf
    | refine S.back_r ?_; conv => lhs; whnf
    | refine S.fin_r ?_; conv => lhs; whnf
    | refine S.fin_n ?_; conv => lhs; whnf
    | exact ret_c rfl
    | exact none_c
    | refine S.draw_op ?_; conv => lhs; whnf; arg 1; whnf
    | refine S.dk_n ?_; conv => lhs; whnf
    | refine S.draw_nil ?_; conv => lhs; whnf
    | refine andK_br ?_
    | refine andK_req ?_
    | refine andK_b ?_
    | refine andK_none ?_
def sp7 (k : Nat) : FSpec := ⟨[], fun args objs K => match args, objs with | [], [] => bindO (law15_known.f k) fun x : Bool => K (.b x) [] | _, _ => none⟩
theorem snd7 (k : Nat) : Sound Try.prog 7 (sp7 k) := by
  refine ⟨⟨Try.f7, rfl, by kernel_rfl, rfl⟩, fun args objs K r h => ?_⟩
  unfold sp7 at h; dsimp only at h; split at h
  · skip
    obtain ⟨x, hx, h⟩ := bindO_some h
    exact ⟨_, _, h, FnOK.args2 relL_n (fn_run tab_ok (en7 k) mixed rfl ((r7 seals k).trans (bindO_eq hx)))⟩
  · cases h
end Go.Vm

/- law15_SpecNumbers -/
namespace Go.Vm
open Go Go.Proofs Go.Pf
def lv3 : Live := look ⟨[], [], [], [], []⟩ [(2, ⟨[14, 15, 16], [], [0], [], []⟩), (5, ⟨[2, 3, 14, 15, 16], [14, 15, 16], [0], [], []⟩), (8, ⟨[2, 3, 4, 14, 15, 16], [2, 3, 14, 15, 16], [0], [], []⟩), (11, ⟨[2, 3, 4, 5, 14, 15, 16], [2, 3, 4, 14, 15, 16], [0], [], []⟩), (15, ⟨[2, 3, 4, 5, 6, 7, 14, 15, 16], [2, 3, 4, 5, 14, 15, 16], [0], [], []⟩)]
noncomputable def g3 (k : Nat) : FEnv := (addF 7 (sp7 k) (addF 6 (sp6 k) (fun _ => none)))
theorem en3 (k : Nat) : EnvOK Try.prog (g3 k) := (envOK_add (snd7 k) (envOK_add (snd6 k) (envOK_nil _)))
set_option maxHeartbeats 4000000 in
theorem w3_4 (S : Seals) (k : Nat) : ∀ (n : Nat) {x2 : List Int} {x3 : Int} {x4 : Int} {x5 : Int} {x6_0 : Nat} {x6_1 : Nat} {x7 : Int} {x15 : Int} {x16 : Int} {y0 : List Int} {y1 : List (List Int)} {K : CK}, S.lp tt (g3 k) lv3 0 n (loopN Try.f3 4) ⟨[(2, .dat (.int .i64) x2 false), (3, .i .i64 x3), (4, .i .i64 x4), (5, .i .i64 x5), (6, .sub 0 1 x6_0 x6_1), (7, .i .i64 x7), (14, .own 1), (15, .i .i64 x15), (16, .i .i64 x16)], [(0, .row (.int .i64) y0 false), (1, .row (.sl (.int .i64)) y1 false)], 2, 57⟩ K = bindO (law15_SpecNumbers.l4 k n x2 x3 x4 x5 x6_0 x6_1 x7 x15 x16 y0 y1) (Sum.elim (fun x : Unit => K (.exit 8) ⟨[(2, .dat (.int .i64) x2 false), (3, .i .i64 x3), (4, .i .i64 x4), (5, .i .i64 x5), (14, .own 0), (15, .i .i64 x15), (16, .i .i64 x16)], [(0, .row (.sl (.int .i64)) y1 false)], 1, 57⟩) (fun x : Bool => K .ret ⟨[(0, .b x)], [], 0, 57⟩)) := by
  intro n; induction n with
  | zero => intros; rw [S.lp_zero]; exact none_c
  | succ n ih =>
    intros; rw [law15_SpecNumbers.l4]; refine S.lp_succ ?_; conv => lhs; arg 5; whnf
    repeat' first
      | refine S.seq_op rfl ?_; conv => lhs; whnf
      | refine S.op_n ?_; conv => lhs; whnf
      | refine S.seq_nil ?_
      | refine S.reg_n ?_
      | refine S.region rfl ?_
      | refine S.two ?_
      | refine S.blok ?_
      | refine S.cond rfl ?_
      | refine S.after_n ?_
      | refine S.block_n ?_
      | refine S.block_x ?_; conv => lhs; whnf
      | refine S.block_r ?_
      | refine S.after_x ?_
      | refine S.after_r ?_
      | refine S.skip ?_
      | refine S.exit ?_
      | refine S.ret ?_
      | refine br_lt ?_; conv => lhs; whnf
      | refine br_lf ?_; conv => lhs; whnf
      | refine br_t (by assumption) ?_; conv => lhs; whnf
      | refine br_f (by assumption) ?_; conv => lhs; whnf
      | refine req_i (by assumption) ?_; conv => lhs; whnf
      | (refine br_nd (fun _ => ?_) (fun _ => ?_) <;> conv => lhs; whnf)
      | (refine br_d (fun _ => ?_) (fun _ => ?_) <;> conv => lhs; whnf)
      | (refine br_n (fun _ => ?_) (fun _ => ?_) <;> conv => lhs; whnf)
      | (refine br_c (fun _ => ?_) (fun _ => ?_) <;> conv => lhs; whnf)
      | refine req_c fun _ => ?_; conv => lhs; whnf
      | refine bnd_c fun _ => ?_; conv => lhs; whnf
      | refine sum_c (fun _ => ?_) (fun _ => ?_)
      | exact ih
      | refine S.loop ?_; conv => lhs; whnf
      | refine S.back_n ?_; conv => lhs; whnf
      | refine S.back_x ?_; conv => lhs; whnf
      | refine S.back_r ?_; conv => lhs; whnf
      | refine S.fin_r ?_; conv => lhs; whnf
      | refine S.fin_n ?_; conv => lhs; whnf
      | exact ret_c rfl
      | exact none_c
      | refine S.draw_op ?_; conv => lhs; whnf; arg 1; whnf
      | refine S.dk_n ?_; conv => lhs; whnf
      | refine S.draw_nil ?_; conv => lhs; whnf
      | refine andK_br ?_
      | refine andK_req ?_
      | refine andK_b ?_
      | refine andK_none ?_
set_option maxHeartbeats 4000000 in
theorem w3_3 (S : Seals) (k : Nat) : ∀ (n : Nat) {x2 : List Int} {x3 : Int} {x4 : Int} {x5 : Int} {x15 : Int} {x16 : Int} {y0 : List (List Int)} {K : CK}, S.lp tt (g3 k) lv3 0 n (loopN Try.f3 3) ⟨[(2, .dat (.int .i64) x2 false), (3, .i .i64 x3), (4, .i .i64 x4), (5, .i .i64 x5), (14, .own 0), (15, .i .i64 x15), (16, .i .i64 x16)], [(0, .row (.sl (.int .i64)) y0 false)], 1, 57⟩ K = bindO (law15_SpecNumbers.l3 k n x2 x3 x4 x5 x15 x16 y0) (Sum.elim (fun x : Unit => K (.exit 6) ⟨[(2, .dat (.int .i64) x2 false), (3, .i .i64 x3), (4, .i .i64 x4), (14, .own 0), (15, .i .i64 x15), (16, .i .i64 x16)], [(0, .row (.sl (.int .i64)) y0 false)], 1, 57⟩) (fun x : Bool => K .ret ⟨[(0, .b x)], [], 0, 57⟩)) := by
  intro n; induction n with
  | zero => intros; rw [S.lp_zero]; exact none_c
  | succ n ih =>
    intros; rw [law15_SpecNumbers.l3]; refine S.lp_succ ?_; conv => lhs; arg 5; whnf
    repeat' first
      | refine S.seq_op rfl ?_; conv => lhs; whnf
      | refine S.op_n ?_; conv => lhs; whnf
      | refine S.seq_nil ?_
      | refine S.reg_n ?_
      | refine S.region rfl ?_
      | refine S.two ?_
      | refine S.blok ?_
      | refine S.cond rfl ?_
      | refine S.after_n ?_
      | refine S.block_n ?_
      | refine S.block_x ?_; conv => lhs; whnf
      | refine S.block_r ?_
      | refine S.after_x ?_
      | refine S.after_r ?_
      | refine S.skip ?_
      | refine S.exit ?_
      | refine S.ret ?_
      | refine br_lt ?_; conv => lhs; whnf
      | refine br_lf ?_; conv => lhs; whnf
      | refine br_t (by assumption) ?_; conv => lhs; whnf
      | refine br_f (by assumption) ?_; conv => lhs; whnf
      | refine req_i (by assumption) ?_; conv => lhs; whnf
      | (refine br_nd (fun _ => ?_) (fun _ => ?_) <;> conv => lhs; whnf)
      | (refine br_d (fun _ => ?_) (fun _ => ?_) <;> conv => lhs; whnf)
      | (refine br_n (fun _ => ?_) (fun _ => ?_) <;> conv => lhs; whnf)
      | (refine br_c (fun _ => ?_) (fun _ => ?_) <;> conv => lhs; whnf)
      | refine req_c fun _ => ?_; conv => lhs; whnf
      | refine bnd_c fun _ => ?_; conv => lhs; whnf
      | refine sum_c (fun _ => ?_) (fun _ => ?_)
      | exact ih
      | refine (w3_4 S k _).trans ?_
      | refine S.loop ?_; conv => lhs; whnf
      | refine S.back_n ?_; conv => lhs; whnf
      | refine S.back_x ?_; conv => lhs; whnf
      | refine S.back_r ?_; conv => lhs; whnf
      | refine S.fin_r ?_; conv => lhs; whnf
      | refine S.fin_n ?_; conv => lhs; whnf
      | exact ret_c rfl
      | exact none_c
      | refine S.draw_op ?_; conv => lhs; whnf; arg 1; whnf
      | refine S.dk_n ?_; conv => lhs; whnf
      | refine S.draw_nil ?_; conv => lhs; whnf
      | refine andK_br ?_
      | refine andK_req ?_
      | refine andK_b ?_
      | refine andK_none ?_
set_option maxHeartbeats 4000000 in
theorem w3_2 (S : Seals) (k : Nat) : ∀ (n : Nat) {x2 : List Int} {x3 : Int} {x4 : Int} {x15 : Int} {x16 : Int} {y0 : List (List Int)} {K : CK}, S.lp tt (g3 k) lv3 0 n (loopN Try.f3 2) ⟨[(2, .dat (.int .i64) x2 false), (3, .i .i64 x3), (4, .i .i64 x4), (14, .own 0), (15, .i .i64 x15), (16, .i .i64 x16)], [(0, .row (.sl (.int .i64)) y0 false)], 1, 57⟩ K = bindO (law15_SpecNumbers.l2 k n x2 x3 x4 x15 x16 y0) (Sum.elim (fun x : Unit => K (.exit 4) ⟨[(2, .dat (.int .i64) x2 false), (3, .i .i64 x3), (14, .own 0), (15, .i .i64 x15), (16, .i .i64 x16)], [(0, .row (.sl (.int .i64)) y0 false)], 1, 57⟩) (fun x : Bool => K .ret ⟨[(0, .b x)], [], 0, 57⟩)) := by
  intro n; induction n with
  | zero => intros; rw [S.lp_zero]; exact none_c
  | succ n ih =>
    intros; rw [law15_SpecNumbers.l2]; refine S.lp_succ ?_; conv => lhs; arg 5; whnf
    repeat' first
      | refine S.seq_op rfl ?_; conv => lhs; whnf
      | refine S.op_n ?_; conv => lhs; whnf
      | refine S.seq_nil ?_
      | refine S.reg_n ?_
      | refine S.region rfl ?_
      | refine S.two ?_
      | refine S.blok ?_
      | refine S.cond rfl ?_
      | refine S.after_n ?_
      | refine S.block_n ?_
      | refine S.block_x ?_; conv => lhs; whnf
      | refine S.block_r ?_
      | refine S.after_x ?_
      | refine S.after_r ?_
      | refine S.skip ?_
      | refine S.exit ?_
      | refine S.ret ?_
      | refine br_lt ?_; conv => lhs; whnf
      | refine br_lf ?_; conv => lhs; whnf
      | refine br_t (by assumption) ?_; conv => lhs; whnf
      | refine br_f (by assumption) ?_; conv => lhs; whnf
      | refine req_i (by assumption) ?_; conv => lhs; whnf
      | (refine br_nd (fun _ => ?_) (fun _ => ?_) <;> conv => lhs; whnf)
      | (refine br_d (fun _ => ?_) (fun _ => ?_) <;> conv => lhs; whnf)
      | (refine br_n (fun _ => ?_) (fun _ => ?_) <;> conv => lhs; whnf)
      | (refine br_c (fun _ => ?_) (fun _ => ?_) <;> conv => lhs; whnf)
      | refine req_c fun _ => ?_; conv => lhs; whnf
      | refine bnd_c fun _ => ?_; conv => lhs; whnf
      | refine sum_c (fun _ => ?_) (fun _ => ?_)
      | exact ih
      | refine (w3_3 S k _).trans ?_
      | refine S.loop ?_; conv => lhs; whnf
      | refine S.back_n ?_; conv => lhs; whnf
      | refine S.back_x ?_; conv => lhs; whnf
      | refine S.back_r ?_; conv => lhs; whnf
      | refine S.fin_r ?_; conv => lhs; whnf
      | refine S.fin_n ?_; conv => lhs; whnf
      | exact ret_c rfl
      | exact none_c
      | refine S.draw_op ?_; conv => lhs; whnf; arg 1; whnf
      | refine S.dk_n ?_; conv => lhs; whnf
      | refine S.draw_nil ?_; conv => lhs; whnf
      | refine andK_br ?_
      | refine andK_req ?_
      | refine andK_b ?_
      | refine andK_none ?_
set_option maxHeartbeats 4000000 in
theorem w3_1 (S : Seals) (k : Nat) : ∀ (n : Nat) {x2 : List Int} {x3 : Int} {x15 : Int} {x16 : Int} {y0 : List (List Int)} {K : CK}, S.lp tt (g3 k) lv3 0 n (loopN Try.f3 1) ⟨[(2, .dat (.int .i64) x2 false), (3, .i .i64 x3), (14, .own 0), (15, .i .i64 x15), (16, .i .i64 x16)], [(0, .row (.sl (.int .i64)) y0 false)], 1, 57⟩ K = bindO (law15_SpecNumbers.l1 k n x2 x3 x15 x16 y0) (Sum.elim (fun x : Unit => K (.exit 2) ⟨[(14, .own 0), (15, .i .i64 x15), (16, .i .i64 x16)], [(0, .row (.sl (.int .i64)) y0 false)], 1, 57⟩) (fun x : Bool => K .ret ⟨[(0, .b x)], [], 0, 57⟩)) := by
  intro n; induction n with
  | zero => intros; rw [S.lp_zero]; exact none_c
  | succ n ih =>
    intros; rw [law15_SpecNumbers.l1]; refine S.lp_succ ?_; conv => lhs; arg 5; whnf
    repeat' first
      | refine S.seq_op rfl ?_; conv => lhs; whnf
      | refine S.op_n ?_; conv => lhs; whnf
      | refine S.seq_nil ?_
      | refine S.reg_n ?_
      | refine S.region rfl ?_
      | refine S.two ?_
      | refine S.blok ?_
      | refine S.cond rfl ?_
      | refine S.after_n ?_
      | refine S.block_n ?_
      | refine S.block_x ?_; conv => lhs; whnf
      | refine S.block_r ?_
      | refine S.after_x ?_
      | refine S.after_r ?_
      | refine S.skip ?_
      | refine S.exit ?_
      | refine S.ret ?_
      | refine br_lt ?_; conv => lhs; whnf
      | refine br_lf ?_; conv => lhs; whnf
      | refine br_t (by assumption) ?_; conv => lhs; whnf
      | refine br_f (by assumption) ?_; conv => lhs; whnf
      | refine req_i (by assumption) ?_; conv => lhs; whnf
      | (refine br_nd (fun _ => ?_) (fun _ => ?_) <;> conv => lhs; whnf)
      | (refine br_d (fun _ => ?_) (fun _ => ?_) <;> conv => lhs; whnf)
      | (refine br_n (fun _ => ?_) (fun _ => ?_) <;> conv => lhs; whnf)
      | (refine br_c (fun _ => ?_) (fun _ => ?_) <;> conv => lhs; whnf)
      | refine req_c fun _ => ?_; conv => lhs; whnf
      | refine bnd_c fun _ => ?_; conv => lhs; whnf
      | refine sum_c (fun _ => ?_) (fun _ => ?_)
      | exact ih
      | refine (w3_2 S k _).trans ?_
      | refine S.loop ?_; conv => lhs; whnf
      | refine S.back_n ?_; conv => lhs; whnf
      | refine S.back_x ?_; conv => lhs; whnf
      | refine S.back_r ?_; conv => lhs; whnf
      | refine S.fin_r ?_; conv => lhs; whnf
      | refine S.fin_n ?_; conv => lhs; whnf
      | exact ret_c rfl
      | exact none_c
      | refine S.draw_op ?_; conv => lhs; whnf; arg 1; whnf
      | refine S.dk_n ?_; conv => lhs; whnf
      | refine S.draw_nil ?_; conv => lhs; whnf
      | refine andK_br ?_
      | refine andK_req ?_
      | refine andK_b ?_
      | refine andK_none ?_
set_option maxHeartbeats 4000000 in
theorem w3_0 (S : Seals) (k : Nat) : ∀ (n : Nat) {x15 : Int} {x16 : Int} {y0 : List (List Int)} {K : CK}, S.lp tt (g3 k) lv3 0 n (loopN Try.f3 0) ⟨[(14, .own 0), (15, .i .i64 x15), (16, .i .i64 x16)], [(0, .row (.sl (.int .i64)) y0 false)], 1, 57⟩ K = bindO (law15_SpecNumbers.l0 k n x15 x16 y0) (Sum.elim (fun x : Unit => K (.exit 0) ⟨[], [], 0, 57⟩) (fun x : Bool => K .ret ⟨[(0, .b x)], [], 0, 57⟩)) := by
  intro n; induction n with
  | zero => intros; rw [S.lp_zero]; exact none_c
  | succ n ih =>
    intros; rw [law15_SpecNumbers.l0]; refine S.lp_succ ?_; conv => lhs; arg 5; whnf
    repeat' first
      | refine S.seq_op rfl ?_; conv => lhs; whnf
      | refine S.op_n ?_; conv => lhs; whnf
      | refine S.seq_nil ?_
      | refine S.reg_n ?_
      | refine S.region rfl ?_
      | refine S.two ?_
      | refine S.blok ?_
      | refine S.cond rfl ?_
      | refine S.after_n ?_
      | refine S.block_n ?_
      | refine S.block_x ?_; conv => lhs; whnf
      | refine S.block_r ?_
      | refine S.after_x ?_
      | refine S.after_r ?_
      | refine S.skip ?_
      | refine S.exit ?_
      | refine S.ret ?_
      | refine br_lt ?_; conv => lhs; whnf
      | refine br_lf ?_; conv => lhs; whnf
      | refine br_t (by assumption) ?_; conv => lhs; whnf
      | refine br_f (by assumption) ?_; conv => lhs; whnf
      | refine req_i (by assumption) ?_; conv => lhs; whnf
      | (refine br_nd (fun _ => ?_) (fun _ => ?_) <;> conv => lhs; whnf)
      | (refine br_d (fun _ => ?_) (fun _ => ?_) <;> conv => lhs; whnf)
      | (refine br_n (fun _ => ?_) (fun _ => ?_) <;> conv => lhs; whnf)
      | (refine br_c (fun _ => ?_) (fun _ => ?_) <;> conv => lhs; whnf)
      | refine req_c fun _ => ?_; conv => lhs; whnf
      | refine bnd_c fun _ => ?_; conv => lhs; whnf
      | refine sum_c (fun _ => ?_) (fun _ => ?_)
      | exact ih
      | refine (w3_1 S k _).trans ?_
      | refine S.loop ?_; conv => lhs; whnf
      | refine S.back_n ?_; conv => lhs; whnf
      | refine S.back_x ?_; conv => lhs; whnf
      | refine S.back_r ?_; conv => lhs; whnf
      | refine S.fin_r ?_; conv => lhs; whnf
      | refine S.fin_n ?_; conv => lhs; whnf
      | exact ret_c rfl
      | exact none_c
      | refine S.draw_op ?_; conv => lhs; whnf; arg 1; whnf
      | refine S.dk_n ?_; conv => lhs; whnf
      | refine S.draw_nil ?_; conv => lhs; whnf
      | refine andK_br ?_
      | refine andK_req ?_
      | refine andK_b ?_
      | refine andK_none ?_
set_option maxHeartbeats 4000000 in
theorem r3 (S : Seals) (k : Nat) : runF tt (g3 k) lv3 Try.f3 k [] [] = bindO (law15_SpecNumbers.f k) (fun x : Bool => some (.b x, [])) := by
  unfold law15_SpecNumbers.f; refine S.run_s rfl rfl ?_; conv => lhs; arg 5; whnf
  conv => lhs; arg 6; whnf
  repeat' first
    | refine S.seq_op rfl ?_; conv => lhs; whnf
    | refine S.op_n ?_; conv => lhs; whnf
    | refine S.seq_nil ?_
    | refine S.reg_n ?_
    | refine S.region rfl ?_
    | refine S.two ?_
    | refine S.blok ?_
    | refine S.cond rfl ?_
    | refine S.after_n ?_
    | refine S.block_n ?_
    | refine S.block_x ?_; conv => lhs; whnf
    | refine S.block_r ?_
    | refine S.after_x ?_
    | refine S.after_r ?_
    | refine S.skip ?_
    | refine S.exit ?_
    | refine S.ret ?_
    | refine br_lt ?_; conv => lhs; whnf
    | refine br_lf ?_; conv => lhs; whnf
    | refine br_t (by assumption) ?_; conv => lhs; whnf
    | refine br_f (by assumption) ?_; conv => lhs; whnf
    | refine req_i (by assumption) ?_; conv => lhs; whnf
    | (refine br_nd (fun _ => ?_) (fun _ => ?_) <;> conv => lhs; whnf)
    | (refine br_d (fun _ => ?_) (fun _ => ?_) <;> conv => lhs; whnf)
    | (refine br_n (fun _ => ?_) (fun _ => ?_) <;> conv => lhs; whnf)
    | (refine br_c (fun _ => ?_) (fun _ => ?_) <;> conv => lhs; whnf)
    | refine req_c fun _ => ?_; conv => lhs; whnf
    | refine bnd_c fun _ => ?_; conv => lhs; whnf
    | refine sum_c (fun _ => ?_) (fun _ => ?_)
    | refine (w3_0 S k _).trans ?_
    | refine S.loop ?_; conv => lhs; whnf
    | refine S.back_n ?_; conv => lhs; whnf
    | refine S.back_x ?_; conv => lhs; whnf
    | refine S.back_r ?_; conv => lhs; whnf
    | refine S.fin_r ?_; conv => lhs; whnf
    | refine S.fin_n ?_; conv => lhs; whnf
    | exact ret_c rfl
    | exact none_c
    | refine S.draw_op ?_; conv => lhs; whnf; arg 1; whnf
    | refine S.dk_n ?_; conv => lhs; whnf
    | refine S.draw_nil ?_; conv => lhs; whnf
    | refine andK_br ?_
    | refine andK_req ?_
    | refine andK_b ?_
    | refine andK_none ?_
def sp3 (k : Nat) : FSpec := ⟨[], fun args objs K => match args, objs with | [], [] => bindO (law15_SpecNumbers.f k) fun x : Bool => K (.b x) [] | _, _ => none⟩
theorem snd3 (k : Nat) : Sound Try.prog 3 (sp3 k) := by
  refine ⟨⟨Try.f3, rfl, by kernel_rfl, rfl⟩, fun args objs K r h => ?_⟩
  unfold sp3 at h; dsimp only at h; split at h
  · skip
    obtain ⟨x, hx, h⟩ := bindO_some h
    exact ⟨_, _, h, FnOK.args2 relL_n (fn_run tab_ok (en3 k) mixed rfl ((r3 seals k).trans (bindO_eq hx)))⟩
  · cases h
end Go.Vm
